import PyProof.Rows.All
import Wide.All
import OpenK.AllK
import Wide.FinOn
import HandS.ForMost
import HandS.ForExc
import HandS.CallSlots
import HandS.Strs
import HandS.TupAny
import HandS.Deep
import HandS.Conv
import HandS.SortInts
import PyProof.ReprRoads
import HandS.Style
import HandS.ExcOwn
import HandS.SetFor
import HandS.New0
import HandS.Star
import HandS.Text
import HandS.More
import HandS.IsInst
import HandS.SetKeys
import KE.GoesMore
import HandS.Defaults
import HandS.NoneIn
import HandS.FStr
import HandS.Flow
import HandS.RaiseMore
import PySem.Challenge.RW_maybegone_k32_facts_by_all_schedules
import PyProof.ReprLen
set_option Elab.async false
set_option linter.all false
set_option maxRecDepth 100000
set_option maxHeartbeats 4000000
/-! S0: a pure world beside the abstract heap: values, objects, stores, results; how they stand for each other -/
namespace Sm
open PySem L2

/-- pure values: a tuple is its items, a mutable object is its number -/
inductive Vl where
  | non | bl (b : Bool) | int (i : Int) | str (x : Str) | tup (xs : List Vl) | ref (i : Nat) | scr (ns : List Int) | ty (n : String) | fn (i : Nat)
/-- mutable objects -/
inductive Ob where
  | lst (xs : List Vl)
  | dic (kvs : List (Key × Vl))
  | dit (kvs : List (List Key × Vl))
  | fdic (kvs : List (Key × Vl))
  | ins (c : Nat) (fs : List (Str × Vl))
  | set (xs : List Int)
abbrev Sto := List Ob
/-- an exception: its class, its fields (none: it has no dict) -/
structure Ex where
  c : Nat
  fs : Option (List (Str × Vl))
inductive Res (α : Type) where
  | ok (a : α) (s : Sto) | exc (e : Ex) (s : Sto) | fail
abbrev M (α : Type) := Sto → Res α
abbrev Lo := List (Option Vl)
def bnd {α β : Type} (m : M α) (f : α → M β) : M β := fun s => match m s with
  | .ok a s' => f a s'
  | .exc e s' => .exc e s'
  | .fail => .fail
def ret {α : Type} (a : α) : M α := fun s => .ok a s
def failM {α : Type} : M α := fun _ => .fail
def lift {α : Type} (f : Sto → Option (α × Sto)) : M α := fun s => match f s with
  | some (a, s') => .ok a s'
  | none => .fail

/-- the tables: the written part, the classes, the defs held as values -/
structure Tb where
  K : PySem.W.Frag
  w : World
  cl : List Addr
  fns : List Addr

mutual
inductive RV (T : Tb) (ρ : List Addr) (H : Hp) : Vl → V → Prop
  | non : RV T ρ H .non .non
  | bl (b : Bool) : RV T ρ H (.bl b) (.bl b)
  | int (i : Int) : RV T ρ H (.int i) (.int i)
  | str (x : Str) : RV T ρ H (.str x) (.str x)
  | tup {a : Addr} {vs : List V} {xs : List Vl} : SqT T.K H a vs → RVs T ρ H xs vs → RV T ρ H (.tup xs) (.ref a)
  | ref {i : Nat} {a : Addr} : ρ[i]? = some a → RV T ρ H (.ref i) (.ref a)
  | scr {ns : List Int} {a : Addr} {o : Obj} : H a = some (.frz o (.lst (ns.map V.int))) → RV T ρ H (.scr ns) (.ref a)
  | scrK {ns : List Int} {a : Addr} : (∀ H' : Hp, SqL T.K H' a (ns.map V.int)) → RV T ρ H (.scr ns) (.ref a)
  | ty (n : String) : RV T ρ H (.ty n) (.ty n)
  | fn {i : Nat} {a : Addr} : T.fns[i]? = some a → RV T ρ H (.fn i) (.ref a)
inductive RVs (T : Tb) (ρ : List Addr) (H : Hp) : List Vl → List V → Prop
  | nil : RVs T ρ H [] []
  | cons {x : Vl} {v : V} {xs : List Vl} {vs : List V} : RV T ρ H x v → RVs T ρ H xs vs → RVs T ρ H (x :: xs) (v :: vs)
end

/-- more is known, nothing that cannot change has changed -/
structure Ext0 (T : Tb) (ρ : List Addr) (H : Hp) (ρ' : List Addr) (H' : Hp) : Prop where
  pre : ∀ (i : Nat) (a : Addr), ρ[i]? = some a → ρ'[i]? = some a
  tup : ∀ a vs, SqT T.K H a vs → SqT T.K H' a vs
  frz : ∀ a o u, H a = some (.frz o (.lst u)) → H' a = some (.frz o (.lst u))
structure Ext (T : Tb) (ρ : List Addr) (H : Hp) (ρ' : List Addr) (H' : Hp) : Prop extends Ext0 T ρ H ρ' H' where
  frd : ∀ a o u, H a = some (.frz o (.dK u)) → H' a = some (.frz o (.dK u))
theorem Ext.refl {T : Tb} {ρ : List Addr} {H : Hp} : Ext T ρ H ρ H := ⟨⟨fun _ _ h => h, fun _ _ h => h, fun _ _ _ h => h⟩, fun _ _ _ h => h⟩
theorem Ext.trans {T : Tb} {ρ ρ1 ρ2 : List Addr} {H H1 H2 : Hp} (a : Ext T ρ H ρ1 H1) (b : Ext T ρ1 H1 ρ2 H2) : Ext T ρ H ρ2 H2 :=
  ⟨⟨fun i x h => b.pre i x (a.pre i x h), fun x vs h => b.tup x vs (a.tup x vs h), fun x o u h => b.frz x o u (a.frz x o u h)⟩, fun x o u h => b.frd x o u (a.frd x o u h)⟩

section
variable {T : Tb} {ρ ρ' : List Addr} {H H' : Hp}
mutual
theorem RV.mono0 (e : Ext0 T ρ H ρ' H') : ∀ {x : Vl} {v : V}, RV T ρ H x v → RV T ρ' H' x v
  | _, _, .non => .non
  | _, _, .bl b => .bl b
  | _, _, .int i => .int i
  | _, _, .str x => .str x
  | _, _, .tup h hs => .tup (e.tup _ _ h) (RVs.mono0 e hs)
  | _, _, .ref h => .ref (e.pre _ _ h)
  | _, _, .scr h => .scr (e.frz _ _ _ h)
  | _, _, .scrK h => .scrK h
  | _, _, .ty n => .ty n
  | _, _, .fn h => .fn h
theorem RVs.mono0 (e : Ext0 T ρ H ρ' H') : ∀ {xs : List Vl} {vs : List V}, RVs T ρ H xs vs → RVs T ρ' H' xs vs
  | _, _, .nil => .nil
  | _, _, .cons h hs => .cons (RV.mono0 e h) (RVs.mono0 e hs)
end
theorem RV.mono {x : Vl} {v : V} (h : RV T ρ H x v) (e : Ext T ρ H ρ' H') : RV T ρ' H' x v := h.mono0 e.toExt0
theorem RVs.mono {xs : List Vl} {vs : List V} (h : RVs T ρ H xs vs) (e : Ext T ρ H ρ' H') : RVs T ρ' H' xs vs := h.mono0 e.toExt0
theorem RVs.length : ∀ {xs : List Vl} {vs : List V}, RVs T ρ H xs vs → xs.length = vs.length
  | _, _, .nil => rfl
  | _, _, .cons _ hs => by
    rw [List.length_cons, List.length_cons, RVs.length hs]
theorem RVs.append : ∀ {xs ys : List Vl} {vs us : List V}, RVs T ρ H xs vs → RVs T ρ H ys us → RVs T ρ H (xs ++ ys) (vs ++ us)
  | _, _, _, _, .nil, h => h
  | _, _, _, _, .cons a b, h => .cons a (RVs.append b h)
theorem RVs.get : ∀ {xs : List Vl} {vs : List V} {i : Nat} {x : Vl}, RVs T ρ H xs vs → xs[i]? = some x → ∃ v, vs[i]? = some v ∧ RV T ρ H x v
  | _, _, _, _, .nil, e => by simp at e
  | _, _, 0, _, .cons a _, e => by simp at e; subst e; exact ⟨_, rfl, a⟩
  | _, _, i + 1, x, .cons _ b, e => by
    obtain ⟨v, h1, h2⟩ := RVs.get (i := i) (x := x) b (by simpa using e)
    exact ⟨v, by simpa using h1, h2⟩
theorem RVs.get' : ∀ {xs : List Vl} {vs : List V} {i : Nat} {v : V}, RVs T ρ H xs vs → vs[i]? = some v → ∃ x, xs[i]? = some x ∧ RV T ρ H x v
  | _, _, _, _, .nil, e => by simp at e
  | _, _, 0, _, .cons a _, e => by simp at e; subst e; exact ⟨_, rfl, a⟩
  | _, _, i + 1, v, .cons _ b, e => by
    obtain ⟨x, h1, h2⟩ := RVs.get' (i := i) (v := v) b (by simpa using e)
    exact ⟨x, by simpa using h1, h2⟩
theorem RVs.set {x : Vl} {v : V} (r : RV T ρ H x v) : ∀ {xs : List Vl} {vs : List V} (i : Nat), RVs T ρ H xs vs → RVs T ρ H (xs.set i x) (vs.set i v)
  | _, _, _, .nil => .nil
  | _, _, 0, .cons _ t => .cons r t
  | _, _, i + 1, .cons q t => .cons q (RVs.set r i t)
theorem RVs.take : ∀ {xs : List Vl} {vs : List V} (n : Nat), RVs T ρ H xs vs → RVs T ρ H (xs.take n) (vs.take n)
  | _, _, 0, _ => .nil
  | _, _, _ + 1, .nil => .nil
  | _, _, n + 1, .cons r t => .cons r (RVs.take n t)
theorem RVs.drop : ∀ {xs : List Vl} {vs : List V} (n : Nat), RVs T ρ H xs vs → RVs T ρ H (xs.drop n) (vs.drop n)
  | _, _, 0, r => r
  | _, _, _ + 1, .nil => .nil
  | _, _, n + 1, .cons _ t => RVs.drop n t
end

/-- an object of the store and what stands at its address -/
def RO (T : Tb) (ρ : List Addr) (H : Hp) : Ob → Addr → Prop
  | .lst xs, a => ∃ vs, H a = some (.lst vs) ∧ RVs T ρ H xs vs
  | .dic kvs, a => ∃ vs : List (Key × V), H a = some (.dK vs) ∧ vs.map (·.1) = kvs.map (·.1) ∧ RVs T ρ H (kvs.map (·.2)) (vs.map (·.2))
  | .dit kvs, a => ∃ vs : List (List Key × V), H a = some (.dT vs) ∧ vs.map (·.1) = kvs.map (·.1) ∧ RVs T ρ H (kvs.map (·.2)) (vs.map (·.2))
  | .fdic kvs, a => ∃ (o : Obj) (vs : List (Key × V)), H a = some (.frz o (.dK vs)) ∧ vs.map (·.1) = kvs.map (·.1) ∧ RVs T ρ H (kvs.map (·.2)) (vs.map (·.2))
  | .set xs, a => xs.Nodup ∧ ∃ S : Int → Bool, (∀ k, S k = true ↔ k ∈ xs) ∧ H a = some (SetO T.w a S xs.length)
  | .ins c fs, a => ∃ (C dx : Addr) (vs : List (Str × V)), T.cl[c]? = some C ∧ H a = some (.ins C dx vs) ∧ vs.map (·.1) = fs.map (·.1) ∧ RVs T ρ H (fs.map (·.2)) (vs.map (·.2))
/-- what never stands at a store's address -/
def Fixd : HO → Prop
  | .tup _ => True
  | .frz _ _ => True
  | _ => False
/-- what a store's address never holds -/
def FixT : HO → Prop
  | .tup _ => True
  | .frz _ (.lst _) => True
  | .frz _ (.tup _) => True
  | _ => False
theorem RO.some {T : Tb} {ρ : List Addr} {H : Hp} {o : Ob} {a : Addr} (h : RO T ρ H o a) : ∃ u, H a = some u ∧ ¬ FixT u := by
  cases o with
  | lst xs => obtain ⟨vs, h, _⟩ := h; exact ⟨_, h, fun z => z⟩
  | dic xs => obtain ⟨vs, h, _⟩ := h; exact ⟨_, h, fun z => z⟩
  | dit xs => obtain ⟨vs, h, _⟩ := h; exact ⟨_, h, fun z => z⟩
  | fdic xs => obtain ⟨o, vs, h, _⟩ := h; exact ⟨_, h, fun z => z⟩
  | set xs => obtain ⟨_, S, _, h⟩ := h; exact ⟨_, h, fun z => z⟩
  | ins c xs => obtain ⟨C, dx, vs, _, h, _⟩ := h; exact ⟨_, h, fun z => z⟩
theorem RO.mono {T : Tb} {ρ ρ' : List Addr} {H H' : Hp} {o : Ob} {a : Addr} (h : RO T ρ H o a) (e : Ext0 T ρ H ρ' H') (k : H' a = H a) : RO T ρ' H' o a := by
  cases o with
  | lst xs => obtain ⟨vs, h, r⟩ := h; exact ⟨vs, k.trans h, r.mono0 e⟩
  | dic xs => obtain ⟨vs, h, n, r⟩ := h; exact ⟨vs, k.trans h, n, r.mono0 e⟩
  | dit xs => obtain ⟨vs, h, n, r⟩ := h; exact ⟨vs, k.trans h, n, r.mono0 e⟩
  | fdic xs => obtain ⟨o, vs, h, n, r⟩ := h; exact ⟨o, vs, k.trans h, n, r.mono0 e⟩
  | set xs => obtain ⟨n, S, q, h⟩ := h; exact ⟨n, S, q, k.trans h⟩
  | ins c xs => obtain ⟨C, dx, vs, hc, h, n, r⟩ := h; exact ⟨C, dx, vs, hc, k.trans h, n, r.mono0 e⟩

structure Rel (T : Tb) (ρ : List Addr) (H : Hp) (s : Sto) : Prop where
  len : ρ.length = s.length
  nd : ρ.Nodup
  ob : ∀ (i : Nat) (a : Addr) (o : Ob), ρ[i]? = some a → s[i]? = some o → RO T ρ H o a

section
variable {T : Tb} {ρ ρ' : List Addr} {H H' : Hp} {s : Sto}
theorem Rel.at (r : Rel T ρ H s) {i : Nat} {o : Ob} (h : s[i]? = some o) : ∃ a, ρ[i]? = some a ∧ RO T ρ H o a := by
  have hi : i < ρ.length := by
    have := (List.getElem?_eq_some_iff.mp h).1
    rw [r.len]; exact this
  exact ⟨ρ[i], List.getElem?_eq_getElem hi, r.ob i _ o (List.getElem?_eq_getElem hi) h⟩
theorem Rel.tracked (r : Rel T ρ H s) {i : Nat} {a : Addr} (h : ρ[i]? = some a) : ∃ u, H a = some u ∧ ¬ FixT u := by
  have hi : i < s.length := by
    have := (List.getElem?_eq_some_iff.mp h).1
    rw [← r.len]; exact this
  exact (r.ob i a _ h (List.getElem?_eq_getElem hi)).some
theorem rd_ne {H : Hp} {a p : Addr} {u o : HO} (h : Rd H a u) (hp : H p = none) : Rd (upd H p o) a u := by
  rcases h with h | ⟨z, h⟩
  · exact .inl (by rw [upd_ne (ne_of_none h hp)]; exact h)
  · exact .inr ⟨z, by rw [upd_ne (ne_of_none h hp)]; exact h⟩
/-- a new address -/
theorem ext_upd {p : Addr} {o : HO} (hp : H p = none) : Ext T ρ H ρ (upd H p o) :=
  ⟨⟨fun _ _ h => h, fun a vs h => h.elim (fun q => .inl (rd_ne q hp)) .inr, fun a z u h => by rw [upd_ne (ne_of_none h hp)]; exact h⟩, fun a z u h => by rw [upd_ne (ne_of_none h hp)]; exact h⟩
theorem ext_push {p : Addr} : Ext T ρ H (ρ ++ [p]) H :=
  ⟨⟨fun i a h => by rw [List.getElem?_append_left (List.getElem?_eq_some_iff.mp h).1]; exact h, fun _ _ h => h, fun _ _ _ h => h⟩, fun _ _ _ h => h⟩
/-- a change where nothing fixed stands -/
theorem ext0_set {a : Addr} {u o : HO} (ha : H a = some u) (hu : ¬ FixT u) : Ext0 T ρ H ρ (upd H a o) := by
  refine ⟨fun _ _ h => h, fun b vs h => ?_, fun b z w h => ?_⟩
  · rcases h with (h | ⟨z, h⟩) | h
    · have : b ≠ a := fun e => by subst e; rw [h] at ha; cases ha; exact hu trivial
      exact .inl (.inl (by rw [upd_ne this]; exact h))
    · have : b ≠ a := fun e => by subst e; rw [h] at ha; cases ha; exact hu trivial
      exact .inl (.inr ⟨z, by rw [upd_ne this]; exact h⟩)
    · exact .inr h
  · have : b ≠ a := fun e => by subst e; rw [h] at ha; cases ha; exact hu trivial
    rw [upd_ne this]; exact h
theorem FixT.fixd {u : HO} (h : FixT u) : Fixd u := by
  cases u <;> first | exact trivial | exact h
theorem ext_set {a : Addr} {u o : HO} (ha : H a = some u) (hu : ¬ Fixd u) : Ext T ρ H ρ (upd H a o) :=
  ⟨ext0_set ha fun z => hu z.fixd, fun b z w h => by
    have : b ≠ a := fun e => by subst e; rw [h] at ha; cases ha; exact hu trivial
    rw [upd_ne this]; exact h⟩
/-- something that the store does not know is laid -/
theorem Rel.laid (r : Rel T ρ H s) {p : Addr} {o : HO} (hp : H p = none) : Rel T ρ (upd H p o) s :=
  ⟨r.len, r.nd, fun i a o h1 h2 => (r.ob i a o h1 h2).mono (ext_upd hp).toExt0 (by
    obtain ⟨u, hu, _⟩ := r.tracked h1
    exact upd_ne (ne_of_none hu hp))⟩
theorem getElem?_snoc {α : Type} {l : List α} {x y : α} {i : Nat} (h : (l ++ [x])[i]? = some y) : l[i]? = some y ∨ (i = l.length ∧ y = x) := by
  by_cases hi : i < l.length
  · rw [List.getElem?_append_left hi] at h; exact .inl h
  · rw [List.getElem?_append_right (by omega)] at h
    have h' := h
    have : i - l.length = 0 := by
      cases e : i - l.length with
      | zero => rfl
      | succ n => rw [e] at h; simp at h
    rw [this] at h
    simp at h
    exact .inr ⟨by omega, h.symm⟩
/-- a new object -/
theorem Rel.new (r : Rel T ρ H s) {p : Addr} {o : HO} {b : Ob} (hp : H p = none) (hb : RO T (ρ ++ [p]) (upd H p o) b p) : Rel T (ρ ++ [p]) (upd H p o) (s ++ [b]) := by
  refine ⟨by rw [List.length_append, List.length_append, r.len]; rfl, ?_, fun i a o' h1 h2 => ?_⟩
  · rw [List.nodup_append]
    refine ⟨r.nd, by simp, fun x hx y hy => ?_⟩
    simp at hy
    subst hy
    obtain ⟨i, hi⟩ := List.getElem?_of_mem hx
    obtain ⟨u, hu, _⟩ := r.tracked hi
    exact ne_of_none hu hp
  · rcases getElem?_snoc h1 with q1 | ⟨e1, e2⟩
    · rcases getElem?_snoc h2 with q2 | ⟨e3, e4⟩
      · obtain ⟨u, hu, _⟩ := r.tracked q1
        exact (r.ob i a o' q1 q2).mono ((ext_upd hp).trans ext_push).toExt0 (upd_ne (ne_of_none hu hp))
      · exfalso
        have := (List.getElem?_eq_some_iff.mp q1).1
        have := r.len
        omega
    · rcases getElem?_snoc h2 with q2 | ⟨e3, e4⟩
      · exfalso
        have := (List.getElem?_eq_some_iff.mp q2).1
        have := r.len
        omega
      · subst e2 e4
        exact hb
theorem Rel.newExt (r : Rel T ρ H s) {p : Addr} {o : HO} (hp : H p = none) : Ext T ρ H (ρ ++ [p]) (upd H p o) := (ext_upd hp).trans ext_push
theorem Rel.newRef (r : Rel T ρ H s) {p : Addr} {H1 : Hp} : RV T (ρ ++ [p]) H1 (.ref s.length) (.ref p) :=
  .ref (by rw [← r.len, List.getElem?_append_right (Nat.le_refl _)]; simp)
/-- an object changed -/
theorem Rel.set (r : Rel T ρ H s) {i : Nat} {a : Addr} {o : HO} {b : Ob} (ha : ρ[i]? = some a) (hb : RO T ρ (upd H a o) b a) : Rel T ρ (upd H a o) (s.set i b) := by
  obtain ⟨u, hu, nf⟩ := r.tracked ha
  refine ⟨by rw [List.length_set]; exact r.len, r.nd, fun j c o' h1 h2 => ?_⟩
  by_cases e : j = i
  · subst e
    have ec : c = a := Option.some.inj (h1.symm.trans ha)
    subst ec
    have hl : j < s.length := by rw [← r.len]; exact (List.getElem?_eq_some_iff.mp h1).1
    rw [List.getElem?_set_self hl] at h2
    cases h2
    exact hb
  · rw [List.getElem?_set_ne (fun z => e z.symm)] at h2
    have nc : c ≠ a := fun z => by
      subst z
      exact e (nodup_at r.nd h1 ha)
    exact (r.ob j c o' h1 h2).mono (ext0_set hu nf) (upd_ne nc)
where
  nodup_at {α : Type} {l : List α} {x : α} {i j : Nat} (nd : l.Nodup) (a : l[i]? = some x) (b : l[j]? = some x) : i = j := by
    exact (List.getElem?_inj (List.getElem?_eq_some_iff.mp a).1 nd).mp (a.trans b.symm)
theorem Rel.setExt (r : Rel T ρ H s) {i : Nat} {a : Addr} {o u : HO} (ha : ρ[i]? = some a) (hu : H a = some u) (nf : ¬ Fixd u := by exact fun z => z) : Ext T ρ H ρ (upd H a o) := ext_set hu nf
end

/-- the frame's slots -/
structure RL (T : Tb) (ρ : List Addr) (H : Hp) (lo : Lo) (σ : St) : Prop where
  len : lo.length = σ.length
  at_ : ∀ (i : Nat) (x : Vl), lo[i]? = some (some x) → ∃ v, σ[i]? = some (some v) ∧ RV T ρ H x v
theorem RL.mono {T : Tb} {ρ ρ' : List Addr} {H H' : Hp} {lo : Lo} {σ : St} (r : RL T ρ H lo σ) (e : Ext T ρ H ρ' H') : RL T ρ' H' lo σ :=
  ⟨r.len, fun i x h => let ⟨v, h1, h2⟩ := r.at_ i x h; ⟨v, h1, h2.mono e⟩⟩
theorem RL.set {T : Tb} {ρ : List Addr} {H : Hp} {lo : Lo} {σ : St} (r : RL T ρ H lo σ) {x : Vl} {v : V} (i : Nat) (h : RV T ρ H x v) : RL T ρ H (lo.set i (some x)) (σ.set i (some v)) := by
  refine ⟨by rw [List.length_set, List.length_set]; exact r.len, fun j y hj => ?_⟩
  by_cases e : j = i
  · subst e
    have hl : j < lo.length := by have := (List.getElem?_eq_some_iff.mp hj).1; rw [List.length_set] at this; exact this
    rw [List.getElem?_set_self hl] at hj
    cases hj
    exact ⟨v, List.getElem?_set_self (by rw [← r.len]; exact hl), h⟩
  · rw [List.getElem?_set_ne (fun z => e z.symm)] at hj
    obtain ⟨w, h1, h2⟩ := r.at_ j y hj
    exact ⟨w, by rw [List.getElem?_set_ne (fun z => e z.symm)]; exact h1, h2⟩

/-- an exception as it is handed on -/
def PoX (T : Tb) (W : XK) (ρ : List Addr) (H : Hp) (e : Ex) (s : Sto) : Prop :=
  ∀ (ρ' : List Addr) (H' : Hp) (C : Addr), Ext T ρ H ρ' H' → Rel T ρ' H' s → T.cl[e.c]? = some C →
    match e.fs with
    | none => W (.ref C) none H'
    | some fs => ∀ (d : Addr) (vs : List (Str × V)), H' d = some (.xd vs) → vs.map (·.1) = fs.map (·.1) → RVs T ρ' H' (fs.map (·.2)) (vs.map (·.2)) → W (.ref C) (some d) H'
/-- what is asked behind a computation -/
def Po {α β : Type} (R : List Addr → Hp → α → β → Prop) (T : Tb) (W : XK) (ρ : List Addr) (H : Hp) (r : Res α) (Q : β → Hp → Prop) : Prop := match r with
  | .ok a s => ∀ (ρ' : List Addr) (H' : Hp) (b : β), Ext T ρ H ρ' H' → Rel T ρ' H' s → R ρ' H' a b → Q b H'
  | .exc e s => PoX T W ρ H e s
  | .fail => False
theorem Po.mono {α β : Type} {R : List Addr → Hp → α → β → Prop} {T : Tb} {W : XK} {ρ ρ' : List Addr} {H H' : Hp} {r : Res α} {Q : β → Hp → Prop} (p : Po R T W ρ H r Q) (e : Ext T ρ H ρ' H') : Po R T W ρ' H' r Q := by
  cases r with
  | ok a s => exact fun ρ2 H2 b e2 => p ρ2 H2 b (e.trans e2)
  | exc x s => exact fun ρ2 H2 C e2 => p ρ2 H2 C (e.trans e2)
  | fail => exact p
/-- the reading of a computation -/
def tG {α β : Type} (R : List Addr → Hp → α → β → Prop) (T : Tb) (W : WX) (m : Lo → M α) : St → Hp → (β → Hp → Prop) → Prop := fun σ H Q =>
  ∃ (ρ : List Addr) (s : Sto) (lo : Lo), Rel T ρ H s ∧ RL T ρ H lo σ ∧ Po R T (fun c d H' => W c d σ H') ρ H (m lo s) Q
abbrev tE (T : Tb) (W : WX) (m : Lo → M Vl) : TE := tG (RV T) T W m
abbrev tA (T : Tb) (W : WX) (m : Lo → M (List Vl)) : TA := tG (RVs T) T W m
abbrev RB : List Addr → Hp → Bool → Bool → Prop := fun _ _ a b => a = b
abbrev tT (T : Tb) (W : WX) (m : Lo → M Bool) : TT := tG RB T W m
/-- the state behind a part -/
structure Bh {α β : Type} (R : List Addr → Hp → α → β → Prop) (T : Tb) (σ : St) (H : Hp) (b : β) (k : List Addr → Sto → Lo → α → Prop) : Prop where
  ex : ∃ (ρ : List Addr) (s : Sto) (lo : Lo) (a : α), Rel T ρ H s ∧ RL T ρ H lo σ ∧ R ρ H a b ∧ k ρ s lo a
/-- THE step: a part, then the rest -/
theorem tG_bnd {α β γ δ : Type} {R : List Addr → Hp → α → β → Prop} {R' : List Addr → Hp → γ → δ → Prop} {T : Tb} {W : WX} {m : Lo → M α} {f : Lo → α → M γ} {σ : St} {H : Hp} {Q : δ → Hp → Prop} {Q' : β → Hp → Prop}
    (h : tG R' T W (fun lo => bnd (m lo) (f lo)) σ H Q)
    (k : ∀ (ρ : List Addr) (s : Sto) (lo : Lo) (a : α) (b : β) (H1 : Hp), Rel T ρ H1 s → RL T ρ H1 lo σ → R ρ H1 a b → Po R' T (fun c d H' => W c d σ H') ρ H1 (f lo a s) Q → Q' b H1) : tG R T W m σ H Q' := by
  obtain ⟨ρ, s, lo, r, rl, p⟩ := h
  refine ⟨ρ, s, lo, r, rl, ?_⟩
  have p : Po R' T _ ρ H (bnd (m lo) (f lo) s) Q := p
  unfold bnd at p
  cases e : m lo s with
  | ok a s1 =>
    rw [e] at p
    exact fun ρ' H' b x r' hb => k ρ' s1 lo a b H' r' (rl.mono x) hb (p.mono x)
  | exc z s1 =>
    rw [e] at p
    exact p
  | fail =>
    rw [e] at p
    exact p
end Sm

/-! S1: expressions: names, constants, operators, tests, displays -/
namespace Sm
open PySem L2

theorem pe_mono {X : Cx} {e : Expr} {t t' : TE} (h : PE X e t) (k : ∀ σ H Q, t' σ H Q → t σ H Q) : PE X e t' := ⟨fun pins s σ H Q I q => h.run pins s σ H Q I (k σ H Q q)⟩
theorem pt_mono {X : Cx} {e : Expr} {t t' : TT} (h : PT X e t) (k : ∀ σ H Q, t' σ H Q → t σ H Q) : PT X e t' := ⟨fun pins s σ H Q I q => h.run pins s σ H Q I (k σ H Q q)⟩
theorem pw_mono {X : Cx} {e : Expr} {t t' : TT} (h : PW X e t) (k : ∀ σ H Q, t' σ H Q → t σ H Q) : PW X e t' := ⟨fun w pins s σ H Q I q => h.run w pins s σ H Q I (k σ H Q q)⟩
theorem pa_mono {X : Cx} {es : List Expr} {t t' : TA} (h : PA X es t) (k : ∀ σ H Q, t' σ H Q → t σ H Q) : PA X es t' := ⟨fun p pins s σ H Q I q => h.run p pins s σ H Q I (k σ H Q q)⟩

/-! ### the combinators -/
abbrev EM := Lo → M Vl
abbrev TM := Lo → M Bool
abbrev AM := Lo → M (List Vl)
abbrev O1 := Vl → Sto → Option (Vl × Sto)
abbrev O2 := Vl → Vl → Sto → Option (Vl × Sto)
abbrev OC := List Vl → Sto → Option (Vl × Sto)
abbrev OMt := Vl → List Vl → Sto → Option (Vl × Sto)
def eVar (i : Nat) : EM := fun lo s => match lo[i]? with
  | some (some v) => .ok v s
  | _ => .fail
def eC (v : Vl) : EM := fun _ s => .ok v s
def eOp1 (f : O1) (a : EM) : EM := fun lo => bnd (a lo) fun x => lift (f x)
def eOp (f : O2) (a b : EM) : EM := fun lo => bnd (a lo) fun x => bnd (b lo) fun y => lift (f x y)
def aNil : AM := fun _ s => .ok [] s
def aCons (a : EM) (r : AM) : AM := fun lo => bnd (a lo) fun x => bnd (r lo) fun xs => ret (x :: xs)
def eCB (f : OC) (a : AM) : EM := fun lo => bnd (a lo) fun xs => lift (f xs)
def eMt (f : OMt) (o : EM) (a : AM) : EM := fun lo => bnd (o lo) fun x => bnd (a lo) fun xs => lift (f x xs)
def tVal (a : EM) : TM := fun lo => bnd (a lo) fun x => match x with
  | .bl b => ret b
  | _ => failM
def tAndM (a b : TM) : TM := fun lo => bnd (a lo) fun x => match x with
  | true => b lo
  | false => ret false
def tOrM (a b : TM) : TM := fun lo => bnd (a lo) fun x => match x with
  | true => ret true
  | false => b lo
def tNotM (a : TM) : TM := fun lo => bnd (a lo) fun x => ret (!x)
def eAndM (a b : EM) : EM := fun lo => bnd (a lo) fun x => match x with
  | .bl true => b lo
  | .bl false => ret (.bl false)
  | _ => failM
def eOrM (a b : EM) : EM := fun lo => bnd (a lo) fun x => match x with
  | .bl false => b lo
  | .bl true => ret (.bl true)
  | _ => failM
def eNotM (a : EM) : EM := fun lo => bnd (a lo) fun x => match x with
  | .bl b => ret (.bl (!b))
  | _ => failM
def eIfM (t : TM) (a b : EM) : EM := fun lo => bnd (t lo) fun x => match x with
  | true => a lo
  | false => b lo
abbrev LIM : Nat := 16777216
theorem lim_eq : sizeLine = LIM := sizeLine_eq
def oTup : OC := fun xs s => if xs.length ≤ LIM then some (.tup xs, s) else none
def oLst : OC := fun xs s => if xs.length ≤ LIM then some (.ref s.length, s ++ [.lst xs]) else none

/-! ### behind an operation -/
def Aft (T : Tb) (ρ : List Addr) (H : Hp) (s : Sto) (v : Vl) (Q : VK) : Prop := ∀ (ρ' : List Addr) (H' : Hp) (z : V), Ext T ρ H ρ' H' → Rel T ρ' H' s → RV T ρ' H' v z → Q z H'
section
variable {T : Tb} {ρ : List Addr} {H : Hp} {s s' : Sto} {v : Vl} {Q : VK}
theorem Aft.here (k : Aft T ρ H s v Q) (r : Rel T ρ H s) {z : V} (h : RV T ρ H v z) : Q z H := k ρ H z .refl r h
theorem Aft.tup {xs : List Vl} {vs : List V} (k : Aft T ρ H s (.tup xs) Q) (r : Rel T ρ H s) (h : RVs T ρ H xs vs) {p : Addr} (hp : H p = none) : Q (.ref p) (upd H p (.tup vs)) :=
  k ρ _ _ (ext_upd hp) (r.laid hp) (.tup (SqT.of upd_same) (h.mono (ext_upd hp)))
theorem Aft.new {b : Ob} {o : HO} (k : Aft T ρ H (s ++ [b]) (.ref s.length) Q) (r : Rel T ρ H s) {p : Addr} (hp : H p = none) (hb : RO T (ρ ++ [p]) (upd H p o) b p) : Q (.ref p) (upd H p o) :=
  k _ _ _ (r.newExt hp) (r.new hp hb) r.newRef
theorem Aft.lst {xs : List Vl} {vs : List V} (k : Aft T ρ H (s ++ [.lst xs]) (.ref s.length) Q) (r : Rel T ρ H s) (h : RVs T ρ H xs vs) {p : Addr} (hp : H p = none) : Q (.ref p) (upd H p (.lst vs)) :=
  k.new r hp ⟨vs, upd_same, h.mono (r.newExt hp)⟩
theorem Aft.set {i : Nat} {b : Ob} {o u : HO} {a : Addr} {v : Vl} {z : V} (k : Aft T ρ H (s.set i b) v Q) (r : Rel T ρ H s) (ha : ρ[i]? = some a) (hu : H a = some u) (nf : ¬ Fixd u) (hb : RO T ρ (upd H a o) b a) (hv : RV T ρ H v z) : Q z (upd H a o) :=
  k _ _ _ (r.setExt ha hu nf) (r.set ha hb) (hv.mono (r.setExt ha hu nf))
end
def rO1 (T : Tb) (f : O1) : V → Hp → VK → Prop := fun x H Q => ∃ ρ s a v s', Rel T ρ H s ∧ RV T ρ H a x ∧ f a s = some (v, s') ∧ Aft T ρ H s' v Q
def rO (T : Tb) (f : O2) : R2 := fun x y H Q => ∃ ρ s a b v s', Rel T ρ H s ∧ RV T ρ H a x ∧ RV T ρ H b y ∧ f a b s = some (v, s') ∧ Aft T ρ H s' v Q
def rC (T : Tb) (f : OC) : List V → Hp → VK → Prop := fun xs H Q => ∃ ρ s as v s', Rel T ρ H s ∧ RVs T ρ H as xs ∧ f as s = some (v, s') ∧ Aft T ρ H s' v Q
def rMt (T : Tb) (f : OMt) : V → List V → Hp → VK → Prop := fun x xs H Q => ∃ ρ s a as v s', Rel T ρ H s ∧ RV T ρ H a x ∧ RVs T ρ H as xs ∧ f a as s = some (v, s') ∧ Aft T ρ H s' v Q
theorem po_lift {T : Tb} {W : XK} {ρ : List Addr} {H : Hp} {s : Sto} {f : Sto → Option (Vl × Sto)} {Q : VK} (p : Po (RV T) T W ρ H (lift f s) Q) : ∃ v s', f s = some (v, s') ∧ Aft T ρ H s' v Q := by
  unfold lift at p
  cases e : f s with
  | none => rw [e] at p; exact p.elim
  | some q =>
    obtain ⟨v, s'⟩ := q
    rw [e] at p
    exact ⟨v, s', rfl, p⟩
theorem po_ret {α β : Type} {R : List Addr → Hp → α → β → Prop} {T : Tb} {W : XK} {ρ : List Addr} {H : Hp} {s : Sto} {a : α} {Q : β → Hp → Prop} (p : Po R T W ρ H (ret a s) Q) (r : Rel T ρ H s) {b : β} (h : R ρ H a b) : Q b H := p ρ H b .refl r h
theorem po_bnd {α β γ δ : Type} {R : List Addr → Hp → α → β → Prop} {R' : List Addr → Hp → γ → δ → Prop} {T : Tb} {W : WX} {m : Lo → M α} {f : α → M γ} {ρ : List Addr} {s : Sto} {lo : Lo} {σ : St} {H : Hp} {Q : δ → Hp → Prop} {Q' : β → Hp → Prop}
    (r : Rel T ρ H s) (rl : RL T ρ H lo σ) (p : Po R' T (fun c d H' => W c d σ H') ρ H (bnd (m lo) f s) Q)
    (k : ∀ (ρ' : List Addr) (s' : Sto) (a : α) (b : β) (H' : Hp), Ext T ρ H ρ' H' → Rel T ρ' H' s' → RL T ρ' H' lo σ → R ρ' H' a b → Po R' T (fun c d H' => W c d σ H') ρ' H' (f a s') Q → Q' b H') : tG R T W m σ H Q' := by
  refine ⟨ρ, s, lo, r, rl, ?_⟩
  unfold bnd at p
  cases e : m lo s with
  | ok a s1 =>
    rw [e] at p
    exact fun ρ' H' b x r' hb => k ρ' s1 a b H' x r' (rl.mono x) hb (p.mono x)
  | exc z s1 => rw [e] at p; exact p
  | fail => rw [e] at p; exact p

section
variable {X : Cx} {T : Tb} {W : WX} {a b c e : Expr} {es : List Expr} {ma mb mc me : EM} {ta tb : TM} {mr : AM} {pos : Pos}
theorem ce_var (i : Nat) {x : Str} (hN : X.N[i]? = some x := by rfl) (hv : Vis X.env.scope x := by first | exact Or.inl rfl | exact Or.inr (Or.inl rfl) | exact Or.inr (Or.inr rfl)) (hd : (x == ("__debug__" : Str)) = false := by decide)
    (hcd : (x == ("__classdict__" : Str)) = false := by decide) : PE X (.Name x pos) (tE T W (eVar i)) :=
  pe_mono (pe_var hN hv hd hcd) fun σ H Q h => by
    obtain ⟨ρ, s, lo, r, rl, p⟩ := h
    have p : Po (RV T) T _ ρ H (eVar i lo s) Q := p
    unfold eVar at p
    split at p
    · rename_i v hv
      obtain ⟨z, h1, h2⟩ := rl.at_ i v hv
      exact ⟨z, h1, p ρ H z .refl r h2⟩
    · exact p.elim
theorem ce_of {v : Vl} {z : V} (h : PE X e (tC z)) (hv : ∀ ρ H, RV T ρ H v z) : PE X e (tE T W (eC v)) :=
  pe_mono h fun σ H Q h => by
    obtain ⟨ρ, s, lo, r, rl, p⟩ := h
    exact p ρ H z .refl r (hv ρ H)
theorem ce_int {i j} : PE X (.Constant (.int i) j pos) (tE T W (eC (.int i))) := ce_of pe_int fun _ _ => .int i
theorem ce_bl {i j} : PE X (.Constant (.bool i) j pos) (tE T W (eC (.bl i))) := ce_of pe_bl fun _ _ => .bl i
theorem ce_non {j} : PE X (.Constant .none j pos) (tE T W (eC .non)) := ce_of pe_non fun _ _ => .non
theorem ce_str {i j} : PE X (.Constant (.str i) j pos) (tE T W (eC (.str i))) := ce_of pe_str fun _ _ => .str i
/-- two parts and an operation of their values -/
theorem top_le {f : O2} {σ : St} {H : Hp} {Q : VK} (h : tE T W (eOp f ma mb) σ H Q) : tOp (rO T f) (tE T W ma) (tE T W mb) σ H Q :=
  tG_bnd (f := fun lo x => bnd (mb lo) fun y => lift (f x y)) h fun ρ s lo x z H1 r rl hx p =>
    po_bnd (m := mb) r rl p fun ρ' s' y z' H' ext r' rl' hy p' => by
      obtain ⟨v, s2, e, k⟩ := po_lift p'
      exact ⟨ρ', s', x, y, v, s2, r', hx.mono ext, hy, e, k⟩
theorem ce_op {op : Operator} {f : O2} (ho : OpR X (binaryOp op) (rO T f)) (ha : PE X a (tE T W ma)) (hb : PE X b (tE T W mb)) : PE X (.BinOp a op b pos) (tE T W (eOp f ma mb)) :=
  pe_mono (pe_op ho ha hb) fun _ _ _ h => top_le h
theorem ce_cmp {op : CmpOp} {f : O2} (ho : OpR X (compareOp op) (rO T f)) (ha : PE X a (tE T W ma)) (hb : PE X b (tE T W mb)) (hm : behindInMarks op b = false := by first | exact nomark _ | rfl) : PE X (.Compare a [op] [b] pos) (tE T W (eOp f ma mb)) :=
  pe_mono (pe_cmpR ho ha hb hm) fun _ _ _ h => top_le h
theorem ce_ix {f : O2} (ho : IxR X (rO T f)) (ha : PE X a (tE T W ma)) (hb : PE X b (tE T W mb)) (hs : PlainIx b := by exact fun _ _ => rfl) : PE X (.Subscript a b pos) (tE T W (eOp f ma mb)) :=
  pe_mono (pe_ix ho ha hb hs) fun _ _ _ h => top_le h
theorem ce_un {op : UnaryOp} {f : O1} (ho : UnR X (unaryOp op) (rO1 T f)) (ha : PE X a (tE T W ma)) : PE X (.UnaryOp op a pos) (tE T W (eOp1 f ma)) :=
  pe_mono (pe_un ho ha) fun σ H Q h =>
    tG_bnd (f := fun lo x => lift (f x)) h fun ρ s lo x z H1 r rl hx p => by
      obtain ⟨v, s2, e, k⟩ := po_lift p
      exact ⟨ρ, s, x, v, s2, r, hx, e, k⟩
/-! ### tests -/
theorem tval_le {σ : St} {H : Hp} {Q : Bool → Hp → Prop} (h : tT T W (tVal ma) σ H Q) : tE T W ma σ H fun x H1 => ∃ k, x = .bl k ∧ Q k H1 :=
  tG_bnd h fun ρ s lo x z H1 r rl hx p => by
    cases hx with
    | bl k => exact ⟨k, rfl, p ρ H1 k .refl r rfl⟩
    | _ => exact p.elim
theorem ct_val (h : PE X e (tE T W me)) (he : ∀ whole, isTrue e X.env whole = (do let v ← whole; standAt e.pos; holding [v] (truthy v)) := by intro _; rfl) : PT X e (tT T W (tVal me)) :=
  pt_mono (pt_val h he) fun _ _ _ h => tval_le h
theorem ct_cmp {op : CmpOp} {f : O2} (ho : OpR X (compareOp op) (rO T f)) (ha : PE X a (tE T W ma)) (hb : PE X b (tE T W mb)) (hm : behindInMarks op b = false := by first | exact nomark _ | rfl) : PT X (.Compare a [op] [b] pos) (tT T W (tVal (eOp f ma mb))) :=
  pt_mono (pt_cmpR ho ha hb hm) fun _ _ _ h => top_le (tval_le h)
theorem ct_not (h : PT X a (tT T W ta)) : PT X (.UnaryOp .Not a pos) (tT T W (tNotM ta)) :=
  pt_mono (pt_not h) fun _ _ _ h => tG_bnd h fun ρ s lo x z H1 r rl hx p => by
    cases hx
    exact po_ret (R := RB) p r rfl
theorem cw_and1 (ha : PT X a (tT T W ta)) : PW X (.BoolOp .And [a] pos) (tT T W ta) := pw_and1 ha
theorem cw_or1 (ha : PT X a (tT T W ta)) : PW X (.BoolOp .Or [a] pos) (tT T W ta) := pw_or1 ha
theorem cw_and (ha : PT X a (tT T W ta)) (hb : PW X (.BoolOp .And (b :: es) pos) (tT T W tb)) : PW X (.BoolOp .And (a :: b :: es) pos) (tT T W (tAndM ta tb)) :=
  pw_mono (pw_and ha hb) fun _ _ _ h => tG_bnd h fun ρ s lo x z H1 r rl hx p => by
    cases hx
    cases x with
    | true => exact ⟨ρ, s, lo, r, rl, p⟩
    | false => exact po_ret (R := RB) p r rfl
theorem cw_or (ha : PT X a (tT T W ta)) (hb : PW X (.BoolOp .Or (b :: es) pos) (tT T W tb)) : PW X (.BoolOp .Or (a :: b :: es) pos) (tT T W (tOrM ta tb)) :=
  pw_mono (pw_or ha hb) fun _ _ _ h => tG_bnd h fun ρ s lo x z H1 r rl hx p => by
    cases hx
    cases x with
    | false => exact ⟨ρ, s, lo, r, rl, p⟩
    | true => exact po_ret (R := RB) p r rfl
/-! ### and, or, not, if as values -/
theorem ce_one {op} (h : PE X a (tE T W ma)) : PE X (.BoolOp op [a] pos) (tE T W ma) := pe_one h
theorem ce_and (ha : PE X a (tE T W ma)) (hb : PE X (.BoolOp .And (b :: es) pos) (tE T W mb)) : PE X (.BoolOp .And (a :: b :: es) pos) (tE T W (eAndM ma mb)) :=
  pe_mono (pe_and ha hb) fun _ _ _ h => tG_bnd h fun ρ s lo x z H1 r rl hx p => by
    cases hx with
    | bl k =>
      cases k with
      | true => exact ⟨true, rfl, ρ, s, lo, r, rl, p⟩
      | false => exact ⟨false, rfl, po_ret (R := RV T) p r (.bl false)⟩
    | _ => exact p.elim
theorem ce_or (ha : PE X a (tE T W ma)) (hb : PE X (.BoolOp .Or (b :: es) pos) (tE T W mb)) : PE X (.BoolOp .Or (a :: b :: es) pos) (tE T W (eOrM ma mb)) :=
  pe_mono (pe_or ha hb) fun _ _ _ h => tG_bnd h fun ρ s lo x z H1 r rl hx p => by
    cases hx with
    | bl k =>
      cases k with
      | false => exact ⟨false, rfl, ρ, s, lo, r, rl, p⟩
      | true => exact ⟨true, rfl, po_ret (R := RV T) p r (.bl true)⟩
    | _ => exact p.elim
theorem ce_not (ha : PE X a (tE T W ma)) : PE X (.UnaryOp .Not a pos) (tE T W (eNotM ma)) :=
  pe_mono (pe_not ha) fun _ _ _ h => tG_bnd h fun ρ s lo x z H1 r rl hx p => by
    cases hx with
    | bl k => exact ⟨k, rfl, po_ret (R := RV T) p r (.bl _)⟩
    | _ => exact p.elim
theorem ce_if (hc : PT X c (tT T W ta)) (ha : PE X a (tE T W ma)) (hb : PE X b (tE T W mb)) : PE X (.IfExp c a b pos) (tE T W (eIfM ta ma mb)) :=
  pe_mono (pe_ifExp hc ha hb) fun _ _ _ h => tG_bnd h fun ρ s lo x z H1 r rl hx p => by
    cases hx
    cases x with
    | true => exact ⟨ρ, s, lo, r, rl, p⟩
    | false => exact ⟨ρ, s, lo, r, rl, p⟩
/-! ### argument lists, displays -/
theorem ca_nil : PA X [] (tA T W aNil) := pa_mono pa_nil fun σ H Q h => by
  obtain ⟨ρ, s, lo, r, rl, p⟩ := h
  exact p ρ H [] .refl r .nil
theorem ca_cons (ha : PE X e (tE T W me)) (hr : PA X es (tA T W mr)) (hs : starEach (e :: es) X.env = (false, eval e X.env) :: starEach es X.env := by rfl) : PA X (e :: es) (tA T W (aCons me mr)) :=
  pa_mono (pa_cons ha hr hs) fun _ _ _ h => tG_bnd (R := RV T) h fun ρ s lo x z H1 r rl hx p =>
    po_bnd (R := RVs T) (m := mr) r rl p fun ρ' s' xs zs H' ext r' rl' hxs p' => po_ret (R := RVs T) p' r' (.cons (hx.mono ext) hxs)
theorem tcb_le {f : OC} {σ : St} {H : Hp} {Q : VK} (h : tE T W (eCB f mr) σ H Q) : tA T W mr σ H fun vs H1 => rC T f vs H1 Q :=
  tG_bnd (R := RVs T) h fun ρ s lo xs zs H1 r rl hx p => by
    obtain ⟨v, s2, e, k⟩ := po_lift p
    exact ⟨ρ, s, xs, v, s2, r, hx, e, k⟩
theorem ce_tup {x1} (h : PA X es (tA T W mr)) : PE X (.Tuple es x1 pos) (tE T W (eCB oTup mr)) :=
  pe_mono (pe_tup h) fun _ _ _ h => tG_bnd (R := RVs T) h fun ρ s lo xs zs H1 r rl hx p => by
    obtain ⟨v, s2, e, k⟩ := po_lift p
    unfold oTup at e
    split at e
    · rename_i hl
      cases e
      exact ⟨by rw [← hx.length, lim_eq]; exact hl, fun q hq => k.tup r hx hq⟩
    · cases e
theorem ce_lst (h : PA X es (tA T W mr)) : PE X (.List es pos) (tE T W (eCB oLst mr)) :=
  pe_mono (pe_lst h) fun _ _ _ h => tG_bnd (R := RVs T) h fun ρ s lo xs zs H1 r rl hx p => by
    obtain ⟨v, s2, e, k⟩ := po_lift p
    unfold oLst at e
    split at e
    · rename_i hl
      cases e
      exact ⟨by rw [← hx.length, lim_eq]; exact hl, fun q hq => k.lst r hx hq⟩
    · cases e
/-! ### built-ins by name; methods of built-in types -/
theorem ce_callB {x : Str} {p : Pos} {id : String} {f : OC} (hc : CallR X (.builtin id) (rC T f)) (hg : Gl X x) (hm : X.mg x = none) (hv : bootBuiltins x = some (.builtin id)) (ha : PA X (e :: es) (tA T W mr)) (hn : x ≠ "__name__" := by decide) (hdb : (x == ("__debug__" : Str)) = false := by decide)
    (he : starEach (e :: es) X.env = (false, eval e X.env) :: starEach es X.env := by rfl) (hpl : (backTo pos (starEach es X.env)).any (·.1) = false := by rfl) : PE X (.Call (.Name x p) (e :: es) [] pos) (tE T W (eCB f mr)) :=
  pe_mono (pe_callB hc hg hm hv ha hn hdb he hpl) fun _ _ _ h => tcb_le h
theorem ce_callTy {x : Str} {p : Pos} {id : String} {f : OC} (hc : CallR X (.type id) (rC T f)) (hg : Gl X x) (hm : X.mg x = none) (hv : bootBuiltins x = some (.type id)) (ha : PA X (e :: es) (tA T W mr)) (hn : x ≠ "__name__" := by decide) (hdb : (x == ("__debug__" : Str)) = false := by decide)
    (he : starEach (e :: es) X.env = (false, eval e X.env) :: starEach es X.env := by rfl) (hpl : (backTo pos (starEach es X.env)).any (·.1) = false := by rfl) : PE X (.Call (.Name x p) (e :: es) [] pos) (tE T W (eCB f mr)) :=
  pe_mono (pe_callTy hc hg hm hv ha hn hdb he hpl) fun _ _ _ h => tcb_le h
end
end Sm

/-! S2: operators on values -/
namespace Sm
open PySem L2

/-! ### values that are known by their form -/
section
variable {T : Tb} {ρ : List Addr} {H : Hp} {z : V}
theorem RV.nonE (h : RV T ρ H .non z) : z = .non := by cases h; rfl
theorem RV.blE {b : Bool} (h : RV T ρ H (.bl b) z) : z = .bl b := by cases h; rfl
theorem RV.intE {i : Int} (h : RV T ρ H (.int i) z) : z = .int i := by cases h; rfl
theorem RV.strE {x : Str} (h : RV T ρ H (.str x) z) : z = .str x := by cases h; rfl
theorem RV.refE {i : Nat} (h : RV T ρ H (.ref i) z) : ∃ a, z = .ref a ∧ ρ[i]? = some a := by cases h; exact ⟨_, rfl, by assumption⟩
theorem RV.tupE {xs : List Vl} (h : RV T ρ H (.tup xs) z) : ∃ a vs, z = .ref a ∧ SqT T.K H a vs ∧ RVs T ρ H xs vs := by cases h; exact ⟨_, _, rfl, by assumption, by assumption⟩
theorem RV.scrE {ns : List Int} (h : RV T ρ H (.scr ns) z) : ∃ a, z = .ref a ∧ SqL T.K H a (ns.map V.int) := by
  cases h with
  | scr h => exact ⟨_, rfl, .inl (.inr ⟨_, h⟩)⟩
  | scrK h => exact ⟨_, rfl, h H⟩
theorem Rel.lst {s : Sto} {i : Nat} {xs : List Vl} {a : Addr} (r : Rel T ρ H s) (h : s[i]? = some (.lst xs)) (ha : ρ[i]? = some a) : ∃ vs, H a = some (.lst vs) ∧ RVs T ρ H xs vs := r.ob i a _ ha h
theorem Rel.dic {s : Sto} {i : Nat} {kvs : List (Key × Vl)} {a : Addr} (r : Rel T ρ H s) (h : s[i]? = some (.dic kvs)) (ha : ρ[i]? = some a) :
    ∃ vs : List (Key × V), H a = some (.dK vs) ∧ vs.map (·.1) = kvs.map (·.1) ∧ RVs T ρ H (kvs.map (·.2)) (vs.map (·.2)) := r.ob i a _ ha h
end

/-! ### ints -/
def opSub : O2
  | .int i, .int j, s => some (.int (i - j), s)
  | _, _, _ => none
def opMul : O2
  | .int i, .int j, s => if (-(2 ^ 64) < i ∧ i < 2 ^ 64) ∨ (-(2 ^ 64) < j ∧ j < 2 ^ 64) then some (.int (i * j), s) else none
  | .ref i, .int k, s => match s[i]? with
    | some (.lst xs) => if 0 ≤ k ∧ k < 2 ^ 60 ∧ xs.length * k.toNat ≤ LIM then some (.ref s.length, s ++ [.lst (List.replicate k.toNat xs).flatten]) else none
    | _ => none
  | _, _, _ => none
def opFdiv : O2
  | .int i, .int j, s => if 0 < j ∧ j < 1073741824 then some (.int (i / j), s) else none
  | _, _, _ => none
def opMod : O2
  | .int i, .int j, s => if 0 < j then some (.int (i % j), s) else none
  | _, _, _ => none
def opPow : O2
  | .int i, .int j, s => if 0 ≤ j ∧ j ≤ 1000000 ∧ i.natAbs < 2 ^ 64 then some (.int (i ^ j.toNat), s) else none
  | _, _, _ => none
def opAdd : O2
  | .int i, .int j, s => some (.int (i + j), s)
  | .str x, .str y, s => if x.length + y.length ≤ LIM then some (.str (x ++ y), s) else none
  | .tup xs, .tup ys, s => if xs.length + ys.length ≤ LIM then some (.tup (xs ++ ys), s) else none
  | .ref i, .ref j, s => match s[i]?, s[j]? with
    | some (.lst xs), some (.lst ys) => if xs.length + ys.length ≤ LIM then some (.ref s.length, s ++ [.lst (xs ++ ys)]) else none
    | _, _ => none
  | _, _, _ => none
def opLt : O2
  | .int i, .int j, s => some (.bl (decide (i < j)), s)
  | _, _, _ => none
def opLe : O2
  | .int i, .int j, s => some (.bl (decide (i ≤ j)), s)
  | _, _, _ => none
def opGt : O2
  | .int i, .int j, s => some (.bl (decide (j < i)), s)
  | _, _, _ => none
def opGe : O2
  | .int i, .int j, s => some (.bl (decide (j ≤ i)), s)
  | _, _, _ => none
def isNon : Vl → Bool
  | .non => true
  | _ => false
def opIsN : O2
  | x, .non, s => some (.bl (isNon x), s)
  | _, _, _ => none
def opNotN : O2
  | x, .non, s => some (.bl (!isNon x), s)
  | _, _, _ => none
def opNeg : O1
  | .int i, s => some (.int (-i), s)
  | _, _ => none
section
variable {X : Cx} {T : Tb}
theorem OpR.imp {f : Value → Value → Sem Value} {r r' : R2} (h : OpR X f r) (k : ∀ x y H Q, r' x y H Q → r x y H Q) : OpR X f r' := fun pins s σ H x y v u Q I rx ry q => h pins s σ H x y v u Q I rx ry (k x y H Q q)
theorem oi {f : Value → Value → Sem Value} {C : Int → Int → Prop} {g : Int → Int → Vl} {gv : Int → Int → V} {op : O2} (hg : ∀ ρ H i j, RV T ρ H (g i j) (gv i j)) (h : OpR X f (rI C gv))
    (hop : ∀ a b s v s', op a b s = some (v, s') → ∃ i j, a = .int i ∧ b = .int j ∧ C i j ∧ v = g i j ∧ s' = s) : OpR X f (rO T op) := OpR.imp h fun x y H Q q => by
  obtain ⟨ρ, s, a, b, v, s', r, ha, hb, e, k⟩ := q
  obtain ⟨i, j, rfl, rfl, c, rfl, rfl⟩ := hop a b s v s' e
  exact ⟨i, j, ha.intE, hb.intE, c, k.here r (hg ρ H i j)⟩
theorem oi0 {f : Value → Value → Sem Value} {g : Int → Int → Vl} {gv : Int → Int → V} {op : O2} (hg : ∀ ρ H i j, RV T ρ H (g i j) (gv i j)) (h : OpR X f (rI0 gv))
    (hop : ∀ a b s v s', op a b s = some (v, s') → ∃ i j, a = .int i ∧ b = .int j ∧ v = g i j ∧ s' = s) : OpR X f (rO T op) := OpR.imp h fun x y H Q q => by
  obtain ⟨ρ, s, a, b, v, s', r, ha, hb, e, k⟩ := q
  obtain ⟨i, j, rfl, rfl, rfl, rfl⟩ := hop a b s v s' e
  exact ⟨i, j, ha.intE, hb.intE, k.here r (hg ρ H i j)⟩
theorem o_sub : OpR X (binaryOp .Sub) (rO T opSub) := oi0 (g := fun i j => .int (i - j)) (fun _ _ i j => .int _) op_sub fun a b s v s' e => by
  cases a <;> cases b <;> simp [opSub] at e
  exact ⟨_, _, rfl, rfl, e.1.symm, e.2.symm⟩
theorem o_lt : OpR X (compareOp .Lt) (rO T opLt) := oi0 (g := fun i j => .bl (decide (i < j))) (fun _ _ i j => .bl _) op_lt fun a b s v s' e => by
  cases a <;> cases b <;> simp [opLt] at e
  exact ⟨_, _, rfl, rfl, e.1.symm, e.2.symm⟩
theorem o_le : OpR X (compareOp .LtE) (rO T opLe) := oi0 (g := fun i j => .bl (decide (i ≤ j))) (fun _ _ i j => .bl _) op_le fun a b s v s' e => by
  cases a <;> cases b <;> simp [opLe] at e
  exact ⟨_, _, rfl, rfl, e.1.symm, e.2.symm⟩
theorem o_gt : OpR X (compareOp .Gt) (rO T opGt) := oi0 (g := fun i j => .bl (decide (j < i))) (fun _ _ i j => .bl _) op_gt fun a b s v s' e => by
  cases a <;> cases b <;> simp [opGt] at e
  exact ⟨_, _, rfl, rfl, e.1.symm, e.2.symm⟩
theorem o_ge : OpR X (compareOp .GtE) (rO T opGe) := oi0 (g := fun i j => .bl (decide (j ≤ i))) (fun _ _ i j => .bl _) op_ge fun a b s v s' e => by
  cases a <;> cases b <;> simp [opGe] at e
  exact ⟨_, _, rfl, rfl, e.1.symm, e.2.symm⟩
theorem o_fdiv : OpR X (binaryOp .FloorDiv) (rO T opFdiv) := oi (C := CDiv) (g := fun i j => .int (i / j)) (fun _ _ i j => .int _) op_fdiv fun a b s v s' e => by
  cases a <;> cases b <;> simp [opFdiv] at e
  exact ⟨_, _, rfl, rfl, e.1, e.2.1.symm, e.2.2.symm⟩
theorem o_mod : OpR X (binaryOp .Mod) (rO T opMod) := oi (C := fun _ j => 0 < j) (g := fun i j => .int (i % j)) (fun _ _ i j => .int _) op_mod fun a b s v s' e => by
  cases a <;> cases b <;> simp [opMod] at e
  exact ⟨_, _, rfl, rfl, e.1, e.2.1.symm, e.2.2.symm⟩
theorem o_pow : OpR X (binaryOp .Pow) (rO T opPow) := oi (C := CPow) (g := fun i j => .int (i ^ j.toNat)) (fun _ _ i j => .int _) op_pow fun a b s v s' e => by
  cases a <;> cases b <;> simp only [opPow] at e <;> try cases e
  split at e
  · rename_i h
    cases e
    exact ⟨_, _, rfl, rfl, h, rfl, rfl⟩
  · cases e
theorem o_neg : UnR X (unaryOp .USub) (rO1 T opNeg) := fun pins s σ H x v Q I rx q => by
  obtain ⟨ρ, st, a, w, s', r, ha, e, k⟩ := q
  cases a <;> simp [opNeg] at e
  obtain ⟨rfl, rfl⟩ := e
  exact un_neg pins s σ H x v Q I rx ⟨_, ha.intE, k.here r (.int _)⟩
theorem o_add (hK : X.K = T.K := by rfl) : OpR X (binaryOp .Add) (rO T opAdd) := fun pins s σ H x y v u Q I rx ry q => by
  obtain ⟨ρ, st, a, b, w, s', r, ha, hb, e, k⟩ := q
  cases a <;> cases b <;> simp only [opAdd] at e <;> try cases e
  · exact op_add pins s σ H x y v u Q I rx ry ⟨_, _, ha.intE, hb.intE, k.here r (.int _)⟩
  · split at e
    · rename_i h
      cases e
      exact op_add_str pins s σ H x y v u Q I rx ry ⟨_, _, ha.strE, hb.strE, by rw [lim_eq]; exact h, k.here r (.str _)⟩
    · cases e
  · split at e
    · rename_i xs ys h
      cases e
      obtain ⟨p, vs, rfl, h1, h2⟩ := ha.tupE
      obtain ⟨p', vs', rfl, h1', h2'⟩ := hb.tupE
      refine op_catA pins s σ H _ _ v u Q I rx ry ⟨p, p', vs, vs', rfl, rfl, by rw [hK]; exact h1, by rw [hK]; exact h1', by rw [← h2.length, ← h2'.length, lim_eq]; exact h, ?_, ?_, ?_⟩
      · intro e
        subst e
        cases h2
        exact k.here r (.tup h1' h2')
      · intro _ e
        subst e
        cases h2'
        rw [List.append_nil] at k
        exact k.here r (.tup h1 h2)
      · intro _ _ q hq
        exact k.tup r (h2.append h2') hq
    · cases e
  · rename_i i j
    split at e
    · rename_i xs ys h1 h2
      split at e
      · rename_i h
        cases e
        obtain ⟨p, rfl, hp⟩ := ha.refE
        obtain ⟨p', rfl, hp'⟩ := hb.refE
        obtain ⟨vs, g1, g2⟩ := r.lst h1 hp
        obtain ⟨vs', g1', g2'⟩ := r.lst h2 hp'
        exact op_cat pins s σ H _ _ v u Q I rx ry ⟨p, p', vs, vs', rfl, rfl, g1, g1', by rw [← g2.length, ← g2'.length, lim_eq]; exact h, fun q hq => k.lst r (g2.append g2') hq⟩
      · cases e
    · cases e
theorem RVs.rep {ρ : List Addr} {H : Hp} {xs : List Vl} {vs : List V} (h : RVs T ρ H xs vs) : ∀ n : Nat, RVs T ρ H (List.replicate n xs).flatten (List.replicate n vs).flatten
  | 0 => .nil
  | n + 1 => by
    rw [List.replicate_succ, List.replicate_succ, List.flatten_cons, List.flatten_cons]
    exact h.append (RVs.rep h n)
theorem o_mul : OpR X (binaryOp .Mult) (rO T opMul) := fun pins s σ H x y v u Q I rx ry q => by
  obtain ⟨ρ, st, a, b, w, s', r, ha, hb, e, k⟩ := q
  cases a <;> cases b <;> simp only [opMul] at e <;> try cases e
  · split at e
    · rename_i h
      cases e
      exact op_mul pins s σ H x y v u Q I rx ry ⟨_, _, ha.intE, hb.intE, h, k.here r (.int _)⟩
    · cases e
  · split at e
    · rename_i xs h1
      split at e
      · rename_i h
        cases e
        obtain ⟨p, rfl, hp⟩ := ha.refE
        obtain ⟨vs, g1, g2⟩ := r.lst h1 hp
        have hz := h.2.1
        exact op_rep pins s σ H _ _ v u Q I rx ry ⟨p, _, vs, rfl, hb.intE, g1, by omega, by omega, by rw [← g2.length, lim_eq]; exact h.2.2, fun q hq => k.lst r (g2.rep _) hq⟩
      · cases e
    · cases e
theorem RV.non_iff {ρ : List Addr} {H : Hp} {a : Vl} {x : V} (h : RV T ρ H a x) : decide (x = .non) = isNon a := by
  cases h <;> simp [isNon]
theorem o_isN : OpR X (compareOp .Is) (rO T opIsN) := fun pins s σ H x y v u Q I rx ry q => by
  obtain ⟨ρ, st, a, b, w, s', r, ha, hb, e, k⟩ := q
  cases b <;> simp only [opIsN] at e <;> try cases e
  exact op_isN pins s σ H x y v u Q I rx ry ⟨hb.nonE, by rw [ha.non_iff]; exact k.here r (.bl _)⟩
theorem o_notN : OpR X (compareOp .IsNot) (rO T opNotN) := fun pins s σ H x y v u Q I rx ry q => by
  obtain ⟨ρ, st, a, b, w, s', r, ha, hb, e, k⟩ := q
  cases b <;> simp only [opNotN] at e <;> try cases e
  refine op_notN pins s σ H x y v u Q I rx ry ⟨hb.nonE, ?_⟩
  rw [ha.non_iff]
  exact k.here r (.bl _)
end

/-! ### data -/
def mapO {α β : Type} (f : α → Option β) : List α → Option (List β)
  | [] => some []
  | x :: xs => match f x, mapO f xs with
    | some y, some ys => some (y :: ys)
    | _, _ => none
def toD : Nat → Sto → Vl → Option PyData
  | 0, _, _ => none
  | n + 1, s, v => match v with
    | .non => some .none
    | .bl b => some (.bool b)
    | .int i => some (.int i)
    | .str x => some (.str x)
    | .tup xs => (mapO (toD n s) xs).map .tuple
    | .ref i => match s[i]? with
      | some (.lst xs) => (mapO (toD n s) xs).map .list
      | _ => none
    | _ => none
section
variable {T : Tb} {ρ : List Addr} {H : Hp} {s : Sto}
theorem toDs_dp {f : Vl → Option PyData} {n : Nat} (hf : ∀ v z d, RV T ρ H v z → f v = some d → Dp T.K H z d ∧ d.depth ≤ n) : ∀ {xs : List Vl} {vs : List V} {ds : List PyData}, RVs T ρ H xs vs → mapO f xs = some ds → DpAll T.K H vs ds ∧ PyData.depthAll ds ≤ n
  | _, _, _, .nil, e => by
    simp only [mapO] at e
    cases e
    exact ⟨.nil, by simp only [PyData.depthAll]; omega⟩
  | _, _, _, .cons h hs, e => by
    simp only [mapO] at e
    split at e
    · rename_i y ys e1 e2
      cases e
      obtain ⟨a1, a2⟩ := hf _ _ _ h e1
      obtain ⟨b1, b2⟩ := toDs_dp hf hs e2
      refine ⟨.cons a1 b1, ?_⟩
      simp only [PyData.depthAll]
      omega
    · cases e
theorem toD_dp (r : Rel T ρ H s) : ∀ (n : Nat) (v : Vl) (z : V) (d : PyData), RV T ρ H v z → toD n s v = some d → Dp T.K H z d ∧ d.depth ≤ n
  | 0, _, _, _, _, e => by cases e
  | n + 1, v, z, d, h, e => by
    have ih := toD_dp r n
    cases v <;> simp only [toD] at e <;> try cases e
    · rw [h.nonE]; exact ⟨.non, by simp only [PyData.depth]; omega⟩
    · rw [h.blE]; exact ⟨.bl _, by simp only [PyData.depth]; omega⟩
    · rw [h.intE]; exact ⟨.int _, by simp only [PyData.depth]; omega⟩
    · rw [h.strE]; exact ⟨.str _, by simp only [PyData.depth]; omega⟩
    · rename_i xs
      cases e1 : mapO (toD n s) xs with
      | none => rw [e1] at e; cases e
      | some ds =>
        rw [e1] at e
        cases e
        obtain ⟨a, vs, rfl, h1, h2⟩ := h.tupE
        obtain ⟨b1, b2⟩ := toDs_dp ih h2 e1
        exact ⟨.tup h1 b1, by simp only [PyData.depth]; omega⟩
    · rename_i i
      split at e
      · rename_i xs hx
        cases e1 : mapO (toD n s) xs with
        | none => rw [e1] at e; cases e
        | some ds =>
          rw [e1] at e
          cases e
          obtain ⟨a, rfl, ha⟩ := h.refE
          obtain ⟨vs, h1, h2⟩ := r.lst hx ha
          obtain ⟨b1, b2⟩ := toDs_dp ih h2 e1
          exact ⟨.lst (SqL.of h1) b1, by simp only [PyData.depth]; omega⟩
      · cases e
end
/-- == -/
def eqS : Vl → Vl → Option Bool
  | .non, .non => some true
  | .int i, .int j => some (i == j)
  | .bl i, .bl j => some (i == j)
  | .str i, .str j => some (i == j)
  | .non, .int _ => some false
  | .non, .str _ => some false
  | .int _, .non => some false
  | .int _, .str _ => some false
  | .str _, .non => some false
  | .str _, .int _ => some false
  | _, _ => none
def eqM (a b : Vl) (s : Sto) : Option Bool := match eqS a b with
  | some k => some k
  | none => match toD 40 s a, toD 40 s b with
    | some d, some e => if d.canLay0 && e.canLay0 then some (PyData.eqv d e) else none
    | _, _ => none
def opEq : O2 := fun a b s => match eqM a b s with
  | some k => some (.bl k, s)
  | none => none
def opNe : O2 := fun a b s => match eqM a b s with
  | some k => some (.bl (!k), s)
  | none => none
section
variable {X : Cx} {T : Tb}
theorem eqS_ok {ρ : List Addr} {H : Hp} {a b : Vl} {x y : V} {k : Bool} (ha : RV T ρ H a x) (hb : RV T ρ H b y) (e : eqS a b = some k) : scal x y = true ∧ decide (x = y) = k := by
  cases ha <;> cases hb <;> simp only [eqS] at e <;> try cases e
  all_goals (refine ⟨rfl, ?_⟩)
  all_goals first
    | (rw [dec_int]; done)
    | (rw [dec_bl]; done)
    | (rw [dec_str]; done)
    | simp
theorem sh40 {d : PyData} (h : d.canLay0 = true) (h2 : d.depth ≤ 40) : SeqAt.shaped d = true := by
  unfold SeqAt.shaped
  rw [h, decide_eq_true (by omega)]
  rfl
theorem o_eq (hu : X.A.units + 64 < cLine) (hK : X.K = T.K := by rfl) : OpR X (compareOp .Eq) (rO T opEq) := fun pins s σ H x y v u Q I rx ry q => by
  obtain ⟨ρ, st, a, b, w, s', r, ha, hb, e, k⟩ := q
  unfold opEq at e
  split at e
  · rename_i c hc
    cases e
    unfold eqM at hc
    split at hc
    · rename_i c' hs
      cases hc
      obtain ⟨h1, h2⟩ := eqS_ok ha hb hs
      exact op_eq pins s σ H x y v u Q I rx ry ⟨h1, by rw [h2]; exact k.here r (.bl _)⟩
    · split at hc
      · rename_i d e hd he
        split at hc
        · rename_i hl
          cases hc
          obtain ⟨l1, l2⟩ := Bool.and_eq_true_iff.mp hl
          obtain ⟨p1, p2⟩ := toD_dp r 40 a x d ha hd
          obtain ⟨q1, q2⟩ := toD_dp r 40 b y e hb he
          exact op_eqD hu pins s σ H x y v u Q I rx ry ⟨d, e, by rw [hK]; exact p1, by rw [hK]; exact q1, sh40 l1 p2, sh40 l2 q2, k.here r (.bl _)⟩
        · cases hc
      · cases hc
  · cases e
theorem o_ne (hu : X.A.units + 64 < cLine) (hK : X.K = T.K := by rfl) : OpR X (compareOp .NotEq) (rO T opNe) := fun pins s σ H x y v u Q I rx ry q => by
  obtain ⟨ρ, st, a, b, w, s', r, ha, hb, e, k⟩ := q
  unfold opNe at e
  split at e
  · rename_i c hc
    cases e
    unfold eqM at hc
    split at hc
    · rename_i c' hs
      cases hc
      obtain ⟨h1, h2⟩ := eqS_ok ha hb hs
      exact op_ne pins s σ H x y v u Q I rx ry ⟨h1, by rw [h2]; exact k.here r (.bl _)⟩
    · split at hc
      · rename_i d e hd he
        split at hc
        · rename_i hl
          cases hc
          obtain ⟨l1, l2⟩ := Bool.and_eq_true_iff.mp hl
          obtain ⟨p1, p2⟩ := toD_dp r 40 a x d ha hd
          obtain ⟨q1, q2⟩ := toD_dp r 40 b y e hb he
          exact op_neD hu pins s σ H x y v u Q I rx ry ⟨d, e, by rw [hK]; exact p1, by rw [hK]; exact q1, sh40 l1 p2, sh40 l2 q2, k.here r (.bl _)⟩
        · cases hc
      · cases hc
  · cases e
end
end Sm

/-! S3: subscripts, slices, in, stores, built-in calls, methods of built-in types -/
namespace Sm
open PySem L2

/-! ### dicts as lists of pairs -/
section
variable {κ : Type} [DecidableEq κ]
def look (kvs : List (κ × Vl)) (k : κ) : Option Vl := match kvs with
  | [] => none
  | p :: r => if p.1 = k then some p.2 else look r k
def hasK (kvs : List (κ × Vl)) (k : κ) : Bool := match kvs with
  | [] => false
  | p :: r => if p.1 = k then true else hasK r k
/-- in its place, or at the end -/
def put (kvs : List (κ × Vl)) (k : κ) (v : Vl) : List (κ × Vl) := match kvs with
  | [] => [(k, v)]
  | p :: r => if p.1 = k then (k, v) :: r else p :: put r k v
variable {T : Tb} {ρ : List Addr} {H : Hp}
theorem look_ok {k : κ} : ∀ {kvs : List (κ × Vl)} {vs : List (κ × V)}, vs.map (·.1) = kvs.map (·.1) → RVs T ρ H (kvs.map (·.2)) (vs.map (·.2)) →
    (look kvs k = none → valV vs k = none) ∧ ∀ v, look kvs k = some v → ∃ z, valV vs k = some z ∧ RV T ρ H v z
  | [], [], _, _ => ⟨fun _ => rfl, fun v e => by simp [look] at e⟩
  | [], _ :: _, e, _ => by simp at e
  | _ :: _, [], e, _ => by simp at e
  | p :: r, q :: t, e, h => by
    simp only [List.map_cons, List.cons.injEq] at e
    rw [List.map_cons, List.map_cons] at h
    cases h with
    | cons h1 h2 =>
      have ih := look_ok (k := k) e.2 h2
      by_cases hk : p.1 = k
      · have hq : q.1 = k := e.1.trans hk
        rw [valV_pos hq]
        refine ⟨fun z => ?_, fun v z => ?_⟩
        · simp only [look, if_pos hk] at z; cases z
        · simp only [look, if_pos hk] at z; cases z; exact ⟨_, rfl, h1⟩
      · have hq : ¬ q.1 = k := fun z => hk (e.1.symm.trans z)
        rw [valV_neg hq]
        simp only [look, if_neg hk]
        exact ih
theorem hasK_look (kvs : List (κ × Vl)) (k : κ) : hasK kvs k = (look kvs k).isSome := by
  induction kvs with
  | nil => rfl
  | cons p r ih =>
    unfold hasK look
    by_cases h : p.1 = k
    · rw [if_pos h, if_pos h]; rfl
    · rw [if_neg h, if_neg h]; exact ih
theorem hasK_ok {k : κ} {kvs : List (κ × Vl)} {vs : List (κ × V)} (e : vs.map (·.1) = kvs.map (·.1)) (h : RVs T ρ H (kvs.map (·.2)) (vs.map (·.2))) : hasK kvs k = (valV vs k).isSome := by
  rw [hasK_look]
  obtain ⟨h1, h2⟩ := look_ok (k := k) e h
  cases q : look kvs k with
  | none => rw [h1 q]; rfl
  | some v => obtain ⟨z, hz, _⟩ := h2 v q; rw [hz]; rfl
theorem putK_cons_eq {k : κ} {q : κ × V} {t : List (κ × V)} {z : V} (nd : q.1 = k) (hn : valV t k = none) : putK (q :: t) k z = (k, z) :: t := by
  unfold putK
  rw [if_pos (by simp [nd])]
  rw [List.map_cons, if_pos nd, nd]
  congr 1
  rw [List.map_congr_left (g := id)]
  · simp
  · intro p hp
    have : ¬ p.1 = k := fun e => by
      have h2 : (valV t k).isSome = true := by
        rw [← valV_any]
        exact List.any_eq_true.mpr ⟨p, hp, by simp [e]⟩
      rw [hn] at h2; cases h2
    rw [if_neg this]; rfl
theorem putK_cons_ne {k : κ} {q : κ × V} {t : List (κ × V)} {z : V} (h : ¬ q.1 = k) : putK (q :: t) k z = q :: putK t k z := by
  unfold putK
  rw [List.any_cons, decide_eq_false h, Bool.false_or]
  split
  · rw [List.map_cons, if_neg h]
  · rfl
theorem put_ok {k : κ} {v : Vl} {z : V} (hv : RV T ρ H v z) : ∀ {kvs : List (κ × Vl)} {vs : List (κ × V)}, (vs.map (·.1)).Nodup → vs.map (·.1) = kvs.map (·.1) → RVs T ρ H (kvs.map (·.2)) (vs.map (·.2)) →
    (putK vs k z).map (·.1) = (put kvs k v).map (·.1) ∧ RVs T ρ H ((put kvs k v).map (·.2)) ((putK vs k z).map (·.2))
  | [], [], _, _, _ => ⟨rfl, .cons hv .nil⟩
  | [], _ :: _, _, e, _ => by simp at e
  | _ :: _, [], _, e, _ => by simp at e
  | p :: r, q :: t, nd, e, h => by
    simp only [List.map_cons, List.cons.injEq] at e
    rw [List.map_cons, List.nodup_cons] at nd
    rw [List.map_cons, List.map_cons] at h
    cases h with
    | cons h1 h2 =>
      by_cases hk : p.1 = k
      · have hq : q.1 = k := e.1.trans hk
        have hn : valV t k = none := by
          cases w : valV t k with
          | none => rfl
          | some u =>
            exfalso
            have h3 : (t.any fun kv => decide (kv.1 = k)) = true := by rw [valV_any, w]; rfl
            obtain ⟨p', hp, e'⟩ := List.any_eq_true.mp h3
            exact nd.1 (by rw [hq, ← of_decide_eq_true e']; exact List.mem_map_of_mem hp)
        rw [putK_cons_eq hq hn]
        simp only [put, if_pos hk]
        exact ⟨by simp [e.2], .cons hv h2⟩
      · have hq : ¬ q.1 = k := fun z => hk (e.1.symm.trans z)
        rw [putK_cons_ne hq]
        simp only [put, if_neg hk]
        obtain ⟨a, b⟩ := put_ok hv nd.2 e.2 h2
        exact ⟨by simp [e.1, a], .cons h1 b⟩
end
def keyOf : Vl → Option Key
  | .int i => some (.inl i)
  | .str x => some (.inr x)
  | _ => none
def keyVl : Key → Vl
  | .inl i => .int i
  | .inr x => .str x
section
variable {T : Tb} {ρ : List Addr} {H : Hp}
theorem keyOf_ok {a : Vl} {x : V} {k : Key} (h : RV T ρ H a x) (e : keyOf a = some k) : x = kV k := by
  cases a <;> simp [keyOf] at e
  · subst e; exact h.intE
  · subst e; exact h.strE
theorem keyVl_ok (k : Key) : RV T ρ H (keyVl k) (kV k) := by
  cases k with
  | inl i => exact .int i
  | inr x => exact .str x
theorem RVs.at : ∀ {xs : List Vl} {vs : List V} {i : Int} {x : Vl}, RVs T ρ H xs vs → atI xs i = some x → ∃ v, atI vs i = some v ∧ RV T ρ H x v := fun {xs vs i x} h e => by
  unfold atI at e ⊢
  rw [← h.length]
  cases q : ixN xs.length i with
  | none => rw [q] at e; cases e
  | some j =>
    rw [q] at e
    exact h.get e
end
/-- the dict's keys are unlike: by the abstract heap -/
theorem dk_nodup {X : Cx} {pins : List (Addr × Obj)} {σ : St} {H : Hp} {s : Shared} {a : Addr} {vs : List (Key × V)} (I : Inv X pins σ H s) (h : H a = some (.dK vs)) : (vs.map (·.1)).Nodup := by
  obtain ⟨_, _, us, rel, dd⟩ := dk_of I.hok h
  have e := rel.keys
  rw [e]
  obtain ⟨_, _, _, _, _, _, _, _, nd⟩ := dd
  exact nd
/-! ### subscripts -/
def opIx : O2
  | .tup xs, .int i, s => (atI xs i).map fun v => (v, s)
  | .scr ns, .int i, s => (atI ns i).map fun v => (.int v, s)
  | .str x, .int i, s => if x.length ≤ LIM then (atI x.cps.toList i).map fun c => (.str ⟨#[c]⟩, s) else none
  | .ref j, y, s => match s[j]? with
    | some (.lst xs) => match y with
      | .int i => (atI xs i).map fun v => (v, s)
      | _ => none
    | some (.dic kvs) => match keyOf y with
      | some k => (look kvs k).map fun v => (v, s)
      | none => none
    | _ => none
  | _, _, _ => none
section
variable {X : Cx} {T : Tb}
theorem o_ix (hu : X.A.units + 1 < cLine) (hK : X.K = T.K := by rfl) : IxR X (rO T opIx) := fun value slice pins s σ H x y v u Q I rx ry q hs => by
  obtain ⟨ρ, st, a, b, w, s', r, ha, hb, e, k⟩ := q
  cases a with
  | tup xs =>
    cases b <;> simp only [opIx] at e <;> try cases e
    obtain ⟨z, hz, e⟩ := Option.map_eq_some_iff.mp e
    cases e
    obtain ⟨p, vs, rfl, h1, h2⟩ := ha.tupE
    obtain ⟨z', h3, h4⟩ := h2.at hz
    exact ix_tup value slice pins s σ H _ y v u Q I rx ry ⟨p, vs, _, z', rfl, hb.intE, by rw [hK]; exact h1, h3, k.here r h4⟩ hs
  | scr ns =>
    cases b <;> simp only [opIx] at e <;> try cases e
    obtain ⟨z, hz, e⟩ := Option.map_eq_some_iff.mp e
    cases e
    obtain ⟨p, rfl, h1⟩ := ha.scrE
    refine ix_list value slice pins s σ H _ y v u Q I rx ry ⟨p, _, _, .int z, rfl, hb.intE, by rw [hK]; exact h1, ?_, k.here r (.int z)⟩ hs
    unfold atI at hz ⊢
    rw [List.length_map]
    cases q : ixN ns.length _ with
    | none => rw [q] at hz; cases hz
    | some j =>
      rw [q] at hz
      have hz : ns[j]? = some z := hz
      show (ns.map V.int)[j]? = some (V.int z)
      rw [List.getElem?_map, hz]; rfl
  | str t =>
    cases b <;> simp only [opIx] at e <;> try cases e
    split at e
    · rename_i hl
      obtain ⟨z, hz, e⟩ := Option.map_eq_some_iff.mp e
      cases e
      exact ix_str value slice pins s σ H x y v u Q I rx ry ⟨t, _, z, ha.strE, hb.intE, by rw [lim_eq]; exact hl, hz, k.here r (.str _)⟩ hs
    · cases e
  | ref j =>
    obtain ⟨p, rfl, hp⟩ := ha.refE
    simp only [opIx] at e
    split at e
    · rename_i xs hx
      split at e
      · obtain ⟨z, hz, e⟩ := Option.map_eq_some_iff.mp e
        cases e
        obtain ⟨vs, h1, h2⟩ := r.lst hx hp
        obtain ⟨z', h3, h4⟩ := h2.at hz
        exact ix_list value slice pins s σ H _ y v u Q I rx ry ⟨p, vs, _, z', rfl, hb.intE, SqL.of h1, h3, k.here r h4⟩ hs
      · cases e
    · rename_i kvs hx
      split at e
      · rename_i key hk
        obtain ⟨z, hz, e⟩ := Option.map_eq_some_iff.mp e
        cases e
        obtain ⟨vs, h1, h2, h3⟩ := r.dic hx hp
        obtain ⟨z', h4, h5⟩ := (look_ok (k := key) h2 h3).2 _ hz
        have ey := keyOf_ok hb hk
        subst ey
        have g : DGet H p (kV key) (some z') := by rw [← h4]; exact DGet.k h1
        obtain rfl : v = Value.ref p := rx
        exact PyProof.Rows.tail_any (dict_typeIs I g) PySem.F.slot_dict_getitem.lookup (d_getItem hu I g ry fun w' s3 I3 rw' => ⟨z', H, I3, rw', k.here r h5⟩) hs
      · cases e
    · cases e
  | _ => simp only [opIx] at e; cases e
end
/-! ### slices -/
def cutL {α : Type} (xs : List α) (lo hi : Option Int) : List α := (xs.drop (HT.sIx xs.length 0 lo)).take (HT.sIx xs.length xs.length hi - HT.sIx xs.length 0 lo)
abbrev OSl := Vl → Option Int → Option Int → Sto → Option (Vl × Sto)
def opSl : OSl
  | .tup xs, lo, hi, s => some (.tup (cutL xs lo hi), s)
  | .scr ns, lo, hi, s => some (.ref s.length, s ++ [.lst ((cutL ns lo hi).map Vl.int)])
  | .str x, lo, hi, s => if x.length ≤ LIM then some (.str (cutS x lo hi), s) else none
  | .ref j, lo, hi, s => match s[j]? with
    | some (.lst xs) => some (.ref s.length, s ++ [.lst (cutL xs lo hi)])
    | _ => none
  | _, _, _, _ => none
def oPart : Option EM → Lo → M (Option Int)
  | none, _ => ret none
  | some m, lo => bnd (m lo) fun x => match x with
    | .int i => ret (some i)
    | _ => failM
def eSl (f : OSl) (a : EM) (l h : Option EM) : EM := fun lo => bnd (a lo) fun x => bnd (oPart l lo) fun i => bnd (oPart h lo) fun j => lift (f x i j)
theorem cutL_map {α β : Type} (f : α → β) (xs : List α) (lo hi : Option Int) : cutL (xs.map f) lo hi = (cutL xs lo hi).map f := by
  unfold cutL
  rw [List.length_map, List.map_take, List.map_drop]
def rSl (T : Tb) (f : OSl) : V → Option Int → Option Int → Hp → VK → Prop := fun x lo hi H Q => ∃ ρ s a v s', Rel T ρ H s ∧ RV T ρ H a x ∧ f a lo hi s = some (v, s') ∧ Aft T ρ H s' v Q
section
variable {X : Cx} {T : Tb} {W : WX}
theorem RVs.cut {ρ : List Addr} {H : Hp} {xs : List Vl} {vs : List V} (h : RVs T ρ H xs vs) (lo hi : Option Int) : RVs T ρ H (cutL xs lo hi) (cutV vs lo hi) := by
  unfold cutL cutV
  rw [h.length]
  exact (h.drop _).take _
theorem RVs.ints {ρ : List Addr} {H : Hp} : ∀ ns : List Int, RVs T ρ H (ns.map Vl.int) (ns.map V.int)
  | [] => .nil
  | n :: ns => .cons (.int n) (RVs.ints ns)
theorem o_sl (hK : X.K = T.K := by rfl) : SlR X (rSl T opSl) := fun pins s σ H x v vl vu lo hi sl Q I rx hs pl pu q => by
  obtain ⟨ρ, st, a, w, s', r, ha, e, k⟩ := q
  cases a with
  | tup xs =>
    simp only [opSl] at e
    cases e
    obtain ⟨p, vs, rfl, h1, h2⟩ := ha.tupE
    refine sl_tupA pins s σ H _ v vl vu lo hi sl Q I rx hs pl pu ⟨p, vs, rfl, by rw [hK]; exact h1, fun hw => ?_, fun _ q hq => k.tup r (h2.cut lo hi) hq⟩
    have : cutL xs lo hi = xs := by
      unfold cutL
      rw [h2.length, hw.1, hw.2]
      rw [List.drop_zero, Nat.sub_zero, ← h2.length, List.take_length]
    rw [this] at k
    exact k.here r (.tup h1 h2)
  | scr ns =>
    simp only [opSl] at e
    cases e
    obtain ⟨p, rfl, h1⟩ := ha.scrE
    refine sl_list pins s σ H _ v vl vu lo hi sl Q I rx hs pl pu ⟨p, _, rfl, by rw [hK]; exact h1, fun q hq => ?_⟩
    refine k.lst r ?_ hq
    rw [← cutL_map]
    exact RVs.cut (RVs.ints ns) lo hi
  | str t =>
    simp only [opSl] at e
    split at e
    · rename_i hl
      cases e
      exact sl_str pins s σ H x v vl vu lo hi sl Q I rx hs pl pu ⟨t, ha.strE, by rw [lim_eq]; exact hl, k.here r (.str _)⟩
    · cases e
  | ref j =>
    simp only [opSl] at e
    split at e
    · rename_i xs hx
      cases e
      obtain ⟨p, rfl, hp⟩ := ha.refE
      obtain ⟨vs, h1, h2⟩ := r.lst hx hp
      exact sl_list pins s σ H _ v vl vu lo hi sl Q I rx hs pl pu ⟨p, vs, rfl, SqL.of h1, fun q hq => k.lst r (h2.cut lo hi) hq⟩
    · cases e
  | _ => simp only [opSl] at e; cases e
/-- a slice's part -/
abbrev tO (T : Tb) (W : WX) (m : Option EM) : TO := tG (fun _ _ a b => a = b) T W (oPart m)
theorem co_none : PO X none (tO T W none) := ⟨fun pins s σ H Q I h => po_none.run pins s σ H Q I (by
  obtain ⟨ρ, st, lo, r, rl, p⟩ := h
  exact p ρ H none .refl r rfl)⟩
theorem co_some {e : Expr} {me : EM} (he : PE X e (tE T W me)) : PO X (some e) (tO T W (some me)) := ⟨fun pins s σ H Q I h => (po_some he).run pins s σ H Q I (by
  refine tG_bnd (R := RV T) h fun ρ st lo x z H1 r rl hx p => ?_
  cases hx with
  | int i => exact ⟨i, rfl, p ρ H1 (some i) .refl r rfl⟩
  | _ => exact p.elim)⟩
theorem ce_slice {e : Expr} {l h : Option Expr} {me : EM} {ml mh : Option EM} {pos p2 : Pos} {f : OSl} (hr : SlR X (rSl T f)) (he : PE X e (tE T W me)) (hl : PO X l (tO T W ml)) (hh : PO X h (tO T W mh)) : PE X (.Subscript e (.Slice l h none p2) pos) (tE T W (eSl f me ml mh)) :=
  pe_mono (pe_slice hr he hl hh) fun σ H Q q => tG_bnd (R := RV T) q fun ρ s lo x z H1 r rl hx p =>
    po_bnd (R := fun _ _ a b => a = b) (m := oPart ml) r rl p fun ρ1 s1 i i' H2 ext1 r1 rl1 hi p1 =>
      po_bnd (R := fun _ _ a b => a = b) (m := oPart mh) r1 rl1 p1 fun ρ2 s2 j j' H3 ext2 r2 rl2 hj p2 => by
        subst hi hj
        obtain ⟨v, s3, e, k⟩ := po_lift p2
        exact ⟨ρ2, s2, x, v, s3, r2, hx.mono (ext1.trans ext2), e, k⟩
end
/-! ### in -/
def flat : Vl → Bool
  | .non => true
  | .bl _ => true
  | .int _ => true
  | .str _ => true
  | _ => false
def eqF : Vl → Vl → Bool
  | .non, .non => true
  | .bl a, .bl b => a == b
  | .bl a, .int b => (if a then 1 else 0) == b
  | .int a, .bl b => a == (if b then 1 else 0)
  | .int a, .int b => a == b
  | .str a, .str b => a == b
  | _, _ => false
def inF (x : Vl) (xs : List Vl) : Bool := xs.any fun y => eqF y x
def inM (x y : Vl) (s : Sto) : Option Bool := match y with
  | .tup ys => if flat x && ys.all flat then some (inF x ys) else none
  | .str b => match x with
    | .str a => match a.cps.toList with
      | [c] => some (decide (c ∈ b.cps.toList))
      | _ => none
    | _ => none
  | .ref j => match s[j]? with
    | some (.lst ys) => if flat x && ys.all flat then some (inF x ys) else none
    | some (.dic kvs) => match keyOf x with
      | some k => some (hasK kvs k)
      | none => none
    | _ => none
  | _ => none
def opIn : O2 := fun x y s => match inM x y s with
  | some b => some (.bl b, s)
  | none => none
def opNotIn : O2 := fun x y s => match inM x y s with
  | some b => some (.bl (!b), s)
  | none => none
section
variable {X : Cx} {T : Tb} {ρ : List Addr} {H : Hp}
theorem flat_ok {a : Vl} {x : V} (h : RV T ρ H a x) (f : flat a = true) : flatV x = true := by
  cases h <;> simp [flat] at f <;> rfl
theorem eqF_ok {a b : Vl} {x y : V} (h : RV T ρ H a x) (g : RV T ρ H b y) (fa : flat a = true) (fb : flat b = true) : eqV x y = eqF a b := by
  cases h <;> simp [flat] at fa <;> cases g <;> simp [flat] at fb <;> rfl
theorem flats_ok : ∀ {xs : List Vl} {vs : List V}, RVs T ρ H xs vs → xs.all flat = true → vs.all flatV = true
  | _, _, .nil, _ => rfl
  | _, _, .cons h hs, e => by
    rw [List.all_cons, Bool.and_eq_true_iff] at e
    rw [List.all_cons, flat_ok h e.1, flats_ok hs e.2]; rfl
theorem inF_ok {a : Vl} {x : V} (h : RV T ρ H a x) (f : flat a = true) : ∀ {xs : List Vl} {vs : List V}, RVs T ρ H xs vs → xs.all flat = true → inV x vs = inF a xs
  | _, _, .nil, _ => rfl
  | _, _, .cons g hs, e => by
    rw [List.all_cons, Bool.and_eq_true_iff] at e
    have ih := inF_ok h f hs e.2
    unfold inV inF at ih ⊢
    rw [List.any_cons, List.any_cons, ih, eqF_ok g h e.1 f]
/-- the four kinds, told apart -/
theorem inM_cases {s : Sto} {a b : Vl} {x y : V} {c : Bool} (r : Rel T ρ H s) (ha : RV T ρ H a x) (hb : RV T ρ H b y) (e : inM a b s = some c) :
    (∃ p vs, y = .ref p ∧ (SqL T.K H p vs ∨ SqT T.K H p vs) ∧ flatV x = true ∧ vs.all flatV = true ∧ inV x vs = c) ∨ (∃ (n : Nat) (z : Str), x = .str ⟨#[n]⟩ ∧ y = .str z ∧ decide (n ∈ z.cps.toList) = c) ∨
    ∃ p o, y = .ref p ∧ DGet H p x o ∧ o.isSome = c := by
  cases b with
  | tup ys =>
    simp only [inM] at e
    split at e
    · rename_i hf
      cases e
      obtain ⟨f1, f2⟩ := Bool.and_eq_true_iff.mp hf
      obtain ⟨p, vs, rfl, h1, h2⟩ := hb.tupE
      exact .inl ⟨p, vs, rfl, .inr h1, flat_ok ha f1, flats_ok h2 f2, inF_ok ha f1 h2 f2⟩
    · cases e
  | str z =>
    simp only [inM] at e
    cases a <;> simp only at e <;> try cases e
    rename_i t
    split at e
    · rename_i c' hc
      cases e
      refine .inr (.inl ⟨c', z, ?_, hb.strE, rfl⟩)
      rw [ha.strE]
      obtain ⟨⟨l⟩⟩ := t
      have hc : l = [c'] := hc
      subst hc; rfl
    · cases e
  | ref j =>
    obtain ⟨p, rfl, hp⟩ := hb.refE
    simp only [inM] at e
    split at e
    · rename_i ys hx
      split at e
      · rename_i hf
        cases e
        obtain ⟨f1, f2⟩ := Bool.and_eq_true_iff.mp hf
        obtain ⟨vs, h1, h2⟩ := r.lst hx hp
        exact .inl ⟨p, vs, rfl, .inl (SqL.of h1), flat_ok ha f1, flats_ok h2 f2, inF_ok ha f1 h2 f2⟩
      · cases e
    · rename_i kvs hx
      split at e
      · rename_i k hk
        cases e
        obtain ⟨vs, h1, h2, h3⟩ := r.dic hx hp
        have ey := keyOf_ok ha hk
        subst ey
        exact .inr (.inr ⟨p, _, rfl, DGet.k h1, (hasK_ok h2 h3).symm⟩)
      · cases e
    · cases e
  | _ => simp only [inM] at e; cases e
theorem o_in (hu : X.A.units + 1 < cLine) (hK : X.K = T.K := by rfl) : OpR X (compareOp .In) (rO T opIn) := fun pins s σ H x y v u Q I rx ry q => by
  obtain ⟨ρ, st, a, b, w, s', r, ha, hb, e, k⟩ := q
  unfold opIn at e
  split at e
  · rename_i c hc
    cases e
    rcases inM_cases r ha hb hc with ⟨p, vs, rfl, h1, h2, h3, h4⟩ | ⟨n, z, rfl, rfl, h4⟩ | ⟨p, o, rfl, g, h4⟩
    · exact op_in_seq pins s σ H x _ v u Q I rx ry ⟨p, vs, rfl, by rw [hK]; exact h1, h2, h3, by rw [if_neg (by decide), h4]; exact k.here r (.bl _)⟩
    · exact op_in_sign pins s σ H _ _ v u Q I rx ry ⟨n, z, rfl, rfl, by rw [h4]; exact k.here r (.bl _)⟩
    · obtain rfl : u = Value.ref p := ry
      exact d_in hu I g rx fun s3 I3 => ⟨.bl o.isSome, H, I3, rfl, by rw [h4]; exact k.here r (.bl _)⟩
  · cases e
theorem o_notIn (hu : X.A.units + 1 < cLine) (hK : X.K = T.K := by rfl) : OpR X (compareOp .NotIn) (rO T opNotIn) := fun pins s σ H x y v u Q I rx ry q => by
  obtain ⟨ρ, st, a, b, w, s', r, ha, hb, e, k⟩ := q
  unfold opNotIn at e
  split at e
  · rename_i c hc
    cases e
    rcases inM_cases r ha hb hc with ⟨p, vs, rfl, h1, h2, h3, h4⟩ | ⟨n, z, rfl, rfl, h4⟩ | ⟨p, o, rfl, g, h4⟩
    · exact op_notIn_seq pins s σ H x _ v u Q I rx ry ⟨p, vs, rfl, by rw [hK]; exact h1, h2, h3, by rw [if_pos rfl, h4]; exact k.here r (.bl _)⟩
    · exact op_notIn_sign pins s σ H _ _ v u Q I rx ry ⟨n, z, rfl, rfl, by rw [h4]; exact k.here r (.bl _)⟩
    · obtain rfl : u = Value.ref p := ry
      exact d_notIn hu I g rx fun s3 I3 => ⟨.bl (!o.isSome), H, I3, rfl, by rw [h4]; exact k.here r (.bl _)⟩
  · cases e
end
end Sm

/-! S4: built-in calls and methods of built-in types -/
namespace Sm
open PySem L2
section
variable {T : Tb} {ρ : List Addr} {H : Hp}
theorem RVs.one {a : Vl} {xs : List V} (h : RVs T ρ H [a] xs) : ∃ x, xs = [x] ∧ RV T ρ H a x := by
  cases h with
  | cons h1 h2 => cases h2; exact ⟨_, rfl, h1⟩
theorem RVs.two {a b : Vl} {xs : List V} (h : RVs T ρ H [a, b] xs) : ∃ x y, xs = [x, y] ∧ RV T ρ H a x ∧ RV T ρ H b y := by
  cases h with
  | cons h1 h2 =>
    obtain ⟨y, rfl, h3⟩ := h2.one
    exact ⟨_, y, rfl, h1, h3⟩
theorem RVs.zero {xs : List V} (h : RVs T ρ H [] xs) : xs = [] := by cases h; rfl
def asInt : Vl → Option Int
  | .int i => some i
  | _ => none
def asBl : Vl → Option Bool
  | .bl i => some i
  | _ => none
def asStr : Vl → Option Str
  | .str i => some i
  | _ => none
theorem asInts_ok : ∀ {xs : List Vl} {vs : List V} {ns : List Int}, RVs T ρ H xs vs → mapO asInt xs = some ns → vs = ns.map V.int
  | _, _, _, .nil, e => by simp [mapO] at e; subst e; rfl
  | _, _, _, .cons h hs, e => by
    simp only [mapO] at e
    split at e
    · rename_i y ys e1 e2
      cases e
      have := asInts_ok hs e2
      subst this
      cases h <;> simp [asInt] at e1
      subst e1; rfl
    · cases e
theorem asBls_ok : ∀ {xs : List Vl} {vs : List V} {ns : List Bool}, RVs T ρ H xs vs → mapO asBl xs = some ns → vs = ns.map V.bl
  | _, _, _, .nil, e => by simp [mapO] at e; subst e; rfl
  | _, _, _, .cons h hs, e => by
    simp only [mapO] at e
    split at e
    · rename_i y ys e1 e2
      cases e
      have := asBls_ok hs e2
      subst this
      cases h <;> simp [asBl] at e1
      subst e1; rfl
    · cases e
theorem asStrs_ok : ∀ {xs : List Vl} {vs : List V} {ns : List Str}, RVs T ρ H xs vs → mapO asStr xs = some ns → vs = ns.map V.str
  | _, _, _, .nil, e => by simp [mapO] at e; subst e; rfl
  | _, _, _, .cons h hs, e => by
    simp only [mapO] at e
    split at e
    · rename_i y ys e1 e2
      cases e
      have := asStrs_ok hs e2
      subst this
      cases h <;> simp [asStr] at e1
      subst e1; rfl
    · cases e
end
theorem mapO_ints (ns : List Int) : mapO asInt (ns.map Vl.int) = some ns := by
  induction ns with
  | nil => rfl
  | cons n ns ih => simp only [List.map_cons, mapO, asInt, ih]
theorem mapO_bls (ns : List Bool) : mapO asBl (ns.map Vl.bl) = some ns := by
  induction ns with
  | nil => rfl
  | cons n ns ih => simp only [List.map_cons, mapO, asBl, ih]
theorem mapO_strs (ns : List Str) : mapO asStr (ns.map Vl.str) = some ns := by
  induction ns with
  | nil => rfl
  | cons n ns ih => simp only [List.map_cons, mapO, asStr, ih]
/-! ### sorting ints -/
def insS (x : Int) : List Int → List Int
  | [] => [x]
  | y :: ys => if x ≤ y then x :: y :: ys else y :: insS x ys
def srt : List Int → List Int
  | [] => []
  | x :: xs => insS x (srt xs)
theorem insS_perm (x : Int) : ∀ ys : List Int, (insS x ys).Perm (x :: ys)
  | [] => .refl _
  | y :: ys => by
    unfold insS
    split
    · exact .refl _
    · exact (List.Perm.cons y (insS_perm x ys)).trans (List.Perm.swap x y ys)
theorem srt_perm : ∀ xs : List Int, (srt xs).Perm xs
  | [] => .refl _
  | x :: xs => (insS_perm x (srt xs)).trans (List.Perm.cons x (srt_perm xs))
theorem insS_mem {x z : Int} {ys : List Int} : z ∈ insS x ys ↔ z = x ∨ z ∈ ys := by
  rw [(insS_perm x ys).mem_iff, List.mem_cons]
theorem insS_sorted (x : Int) : ∀ ys : List Int, ys.Pairwise (· ≤ ·) → (insS x ys).Pairwise (· ≤ ·)
  | [], _ => List.pairwise_singleton _ _
  | y :: ys, h => by
    unfold insS
    split
    · rename_i hle
      refine List.pairwise_cons.mpr ⟨fun z hz => ?_, h⟩
      rcases List.mem_cons.mp hz with rfl | hz
      · exact hle
      · exact Int.le_trans hle ((List.pairwise_cons.mp h).1 z hz)
    · rename_i hle
      refine List.pairwise_cons.mpr ⟨fun z hz => ?_, insS_sorted x ys (List.pairwise_cons.mp h).2⟩
      rcases insS_mem.mp hz with rfl | hz
      · omega
      · exact (List.pairwise_cons.mp h).1 z hz
theorem srt_sorted : ∀ xs : List Int, (srt xs).Pairwise (· ≤ ·)
  | [] => List.Pairwise.nil
  | x :: xs => insS_sorted x _ (srt_sorted xs)
theorem srt_eq {xs ys : List Int} (p : ys.Perm xs) (h : ys.Pairwise (· ≤ ·)) : ys = srt xs := PySem.W.ksm_same (p.trans (srt_perm xs).symm) h (srt_sorted xs)
theorem srt_mem {z : Int} {xs : List Int} : z ∈ srt xs ↔ z ∈ xs := (srt_perm xs).mem_iff
theorem srt_length (xs : List Int) : (srt xs).length = xs.length := (srt_perm xs).length_eq

/-! ### calls -/
def lenM (x : Vl) (s : Sto) : Option Nat := match x with
  | .tup xs => some xs.length
  | .scr ns => some ns.length
  | .str z => if z.length ≤ LIM then some z.length else none
  | .ref j => match s[j]? with
    | some (.lst xs) => some xs.length
    | some (.dic kvs) => some kvs.length
    | _ => none
  | _ => none
def oLen : OC
  | [x], s => (lenM x s).map fun n => (.int n, s)
  | _, _ => none
def oAbs : OC
  | [.int i], s => some (.int (if i < 0 then -i else i), s)
  | _, _ => none
def oInt : OC
  | [.int i], s => some (.int i, s)
  | [.bl b], s => some (.int (if b then 1 else 0), s)
  | _, _ => none
def oStr : OC
  | [.int i], s => if i.natAbs.log2 < 1920 then some (.str (toString i), s) else none
  | _, _ => none
def oMax : OC
  | [.int i, .int j], s => some (.int (if j > i then j else i), s)
  | _, _ => none
def oMin : OC
  | [.int i, .int j], s => some (.int (if j < i then j else i), s)
  | _, _ => none
def oTuple : OC
  | [.tup xs], s => some (.tup xs, s)
  | [.ref j], s => match s[j]? with
    | some (.lst xs) => some (.tup xs, s)
    | _ => none
  | _, _ => none
def oList : OC
  | [.tup xs], s => some (.ref s.length, s ++ [.lst xs])
  | [.ref j], s => match s[j]? with
    | some (.lst xs) => some (.ref s.length, s ++ [.lst xs])
    | some (.dic kvs) => some (.ref s.length, s ++ [.lst (kvs.map fun kv => keyVl kv.1)])
    | _ => none
  | _, _ => none
def lstOf (x : Vl) (s : Sto) : Option (List Vl) := match x with
  | .ref j => match s[j]? with
    | some (.lst xs) => some xs
    | _ => none
  | _ => none
def oSum : OC
  | [x], s => match lstOf x s with
    | some xs => (mapO asInt xs).map fun ns => (.int ns.sum, s)
    | none => none
  | _, _ => none
def oAll : OC
  | [x], s => match lstOf x s with
    | some xs => (mapO asBl xs).map fun ns => (.bl (ns.all id), s)
    | none => none
  | _, _ => none
def oAny : OC
  | [x], s => match lstOf x s with
    | some xs => (mapO asBl xs).map fun ns => (.bl (ns.any id), s)
    | none => none
  | _, _ => none
def oSorted : OC
  | [x], s => match lstOf x s with
    | some xs => (mapO asInt xs).map fun ns => (.ref s.length, s ++ [.lst ((srt ns).map Vl.int)])
    | none => none
  | _, _ => none
def oRepr : OC
  | [x], s => match toD 40 s x with
    | some d => if d.showable && decide (d.shown.length ≤ LIM) then some (.str d.shown, s) else none
    | none => none
  | _, _ => none
section
variable {X : Cx} {T : Tb}
theorem CallR.imp {f : Value} {r r' : List V → Hp → VK → Prop} (h : CallR X f r) (k : ∀ xs H Q, r' xs H Q → r xs H Q) : CallR X f r' := fun pins s σ H xs us Q I rs q => h pins s σ H xs us Q I rs (k xs H Q q)
theorem d_lenC {H : Hp} {a : Addr} {kvs : List (Key × V)} : ∀ (pins : List (Addr × Obj)) (s : Shared) (σ : St) (xs : List V) (us : List Value) (Q : VK), Inv X pins σ H s → Vals xs us → xs = [.ref a] → H a = some (.dK kvs) → Q (.int kvs.length) H →
    wpAny (model X.prog X.w) X.A (call (.builtin "len") us) (EP X pins σ Q) X.xe s := fun pins s σ xs us Q I r e h q => by
  subst e
  cases r with
  | cons r1 r2 =>
    cases r2
    obtain rfl := r1
    exact d_len I (.inl h) fun t s' I' => ⟨.int _, H, I', ⟨t, rfl⟩, q⟩
theorem c_len (hK : X.K = T.K := by rfl) : CallR X (.builtin "len") (rC T oLen) := fun pins s σ H xs us Q I rs q => by
  obtain ⟨ρ, st, as, w, s', r, ha, e, k⟩ := q
  unfold oLen at e
  split at e
  · rename_i x
    obtain ⟨z, rfl, hz⟩ := ha.one
    obtain ⟨n, hn, e⟩ := Option.map_eq_some_iff.mp e
    cases e
    have fin := k.here r (.int (n : Int))
    cases x with
    | tup ys =>
      obtain ⟨p, vs, rfl, h1, h2⟩ := hz.tupE
      cases hn
      rw [h2.length] at fin
      exact call_len_seq pins s σ H _ us Q I rs ⟨p, vs, rfl, .inr (by rw [hK]; exact h1), fin⟩
    | scr ns =>
      obtain ⟨p, rfl, h1⟩ := hz.scrE
      cases hn
      exact call_len_seq pins s σ H _ us Q I rs ⟨p, _, rfl, .inl (by rw [hK]; exact h1), by rw [List.length_map]; exact fin⟩
    | str t =>
      simp only [lenM] at hn
      split at hn
      · rename_i hl
        cases hn
        exact call_len pins s σ H _ us Q I rs ⟨_, _, rfl, by rw [hz.strE]; exact ⟨by rw [lim_eq]; exact hl, rfl⟩, fin⟩
      · cases hn
    | ref j =>
      obtain ⟨p, rfl, hp⟩ := hz.refE
      simp only [lenM] at hn
      split at hn
      · rename_i ys hx
        cases hn
        obtain ⟨vs, h1, h2⟩ := r.lst hx hp
        rw [h2.length] at fin
        exact call_len_seq pins s σ H _ us Q I rs ⟨p, vs, rfl, .inl (SqL.of h1), fin⟩
      · rename_i kvs hx
        cases hn
        obtain ⟨vs, h1, h2, h3⟩ := r.dic hx hp
        have : kvs.length = vs.length := by have := congrArg List.length h2; simpa using this.symm
        rw [this] at fin
        exact d_lenC pins s σ _ us Q I rs rfl h1 fin
      · cases hn
    | _ => cases hn
  · cases e
theorem c_abs : CallR X (.builtin "abs") (rC T oAbs) := CallR.imp call_abs fun xs H Q q => by
  obtain ⟨ρ, st, as, w, s', r, ha, e, k⟩ := q
  unfold oAbs at e
  split at e
  · obtain ⟨z, rfl, hz⟩ := ha.one
    cases e
    exact ⟨_, by rw [hz.intE], k.here r (.int _)⟩
  · cases e
theorem c_int : CallR X (.type "int") (rC T oInt) := CallR.imp call_int1 fun xs H Q q => by
  obtain ⟨ρ, st, as, w, s', r, ha, e, k⟩ := q
  unfold oInt at e
  split at e
  · obtain ⟨z, rfl, hz⟩ := ha.one
    cases e
    exact .inl ⟨_, by rw [hz.intE], k.here r (.int _)⟩
  · obtain ⟨z, rfl, hz⟩ := ha.one
    cases e
    exact .inr ⟨_, by rw [hz.blE], k.here r (.int _)⟩
  · cases e
theorem c_str : CallR X (.type "str") (rC T oStr) := CallR.imp call_str_int fun xs H Q q => by
  obtain ⟨ρ, st, as, w, s', r, ha, e, k⟩ := q
  unfold oStr at e
  split at e
  · split at e
    · rename_i hl
      obtain ⟨z, rfl, hz⟩ := ha.one
      cases e
      exact ⟨_, by rw [hz.intE], hl, k.here r (.str _)⟩
    · cases e
  · cases e
theorem c_max (hc : X.calm = true := by rfl) : CallR X (.builtin "max") (rC T oMax) := CallR.imp (call_max2 hc) fun xs H Q q => by
  obtain ⟨ρ, st, as, w, s', r, ha, e, k⟩ := q
  unfold oMax at e
  split at e
  · obtain ⟨z, z', rfl, hz, hz'⟩ := ha.two
    cases e
    exact ⟨_, _, by rw [hz.intE, hz'.intE], k.here r (.int _)⟩
  · cases e
theorem c_min (hc : X.calm = true := by rfl) : CallR X (.builtin "min") (rC T oMin) := CallR.imp (call_min2 hc) fun xs H Q q => by
  obtain ⟨ρ, st, as, w, s', r, ha, e, k⟩ := q
  unfold oMin at e
  split at e
  · obtain ⟨z, z', rfl, hz, hz'⟩ := ha.two
    cases e
    exact ⟨_, _, by rw [hz.intE, hz'.intE], k.here r (.int _)⟩
  · cases e
theorem c_tuple (hK : X.K = T.K := by rfl) : CallR X (.type "tuple") (rC T oTuple) := CallR.imp call_tuple_of fun xs H Q q => by
  obtain ⟨ρ, st, as, w, s', r, ha, e, k⟩ := q
  unfold oTuple at e
  split at e
  · obtain ⟨z, rfl, hz⟩ := ha.one
    cases e
    obtain ⟨p, vs, rfl, h1, h2⟩ := hz.tupE
    exact ⟨p, vs, rfl, .inr ⟨by rw [hK]; exact h1, k.here r (.tup h1 h2)⟩⟩
  · split at e
    · rename_i xs hx
      cases e
      obtain ⟨z, rfl, hz⟩ := ha.one
      obtain ⟨p, rfl, hp⟩ := hz.refE
      obtain ⟨vs, h1, h2⟩ := r.lst hx hp
      exact ⟨p, vs, rfl, .inl ⟨SqL.of h1, fun q hq => k.tup r h2 hq⟩⟩
    · cases e
  · cases e
theorem keys_ok {ρ : List Addr} {H : Hp} : ∀ {kvs : List (Key × Vl)} {vs : List (Key × V)}, vs.map (·.1) = kvs.map (·.1) → RVs T ρ H (kvs.map fun kv => keyVl kv.1) (vs.map fun kv => kV kv.1)
  | [], [], _ => .nil
  | [], _ :: _, e => by simp at e
  | _ :: _, [], e => by simp at e
  | p :: r, q :: t, e => by
    simp only [List.map_cons, List.cons.injEq] at e
    rw [List.map_cons, List.map_cons, e.1]
    exact .cons (keyVl_ok _) (keys_ok e.2)
theorem c_list (hc : X.calm = true := by rfl) (hK : X.K = T.K := by rfl) : CallR X (.type "list") (rC T oList) := fun pins s σ H xs us Q I rs q => by
  obtain ⟨ρ, st, as, w, s', r, ha, e, k⟩ := q
  unfold oList at e
  split at e
  · obtain ⟨z, rfl, hz⟩ := ha.one
    cases e
    obtain ⟨p, vs, rfl, h1, h2⟩ := hz.tupE
    exact call_list_of pins s σ H _ us Q I rs ⟨p, vs, rfl, .inr (by rw [hK]; exact h1), fun q hq => k.lst r h2 hq⟩
  · obtain ⟨z, rfl, hz⟩ := ha.one
    obtain ⟨p, rfl, hp⟩ := hz.refE
    split at e
    · rename_i xs hx
      cases e
      obtain ⟨vs, h1, h2⟩ := r.lst hx hp
      exact call_list_of pins s σ H _ us Q I rs ⟨p, vs, rfl, .inl (SqL.of h1), fun q hq => k.lst r h2 hq⟩
    · rename_i kvs hx
      cases e
      obtain ⟨vs, h1, h2, h3⟩ := r.dic hx hp
      exact call_list_dK hc pins s σ H _ us Q I rs ⟨p, vs, rfl, h1, fun q hq => k.lst r (keys_ok h2) hq⟩
    · cases e
  · cases e
theorem lstOf_ok {ρ : List Addr} {H : Hp} {s : Sto} {x : Vl} {z : V} {xs : List Vl} (r : Rel T ρ H s) (hz : RV T ρ H x z) (e : lstOf x s = some xs) : ∃ p vs, z = .ref p ∧ H p = some (.lst vs) ∧ RVs T ρ H xs vs := by
  unfold lstOf at e
  split at e
  · split at e
    · rename_i ys hx
      cases e
      obtain ⟨p, rfl, hp⟩ := hz.refE
      obtain ⟨vs, h1, h2⟩ := r.lst hx hp
      exact ⟨p, vs, rfl, h1, h2⟩
    · cases e
  · cases e
theorem c_sum (hc : X.calm = true := by rfl) : CallR X (.builtin "sum") (rC T oSum) := CallR.imp (cr_sum hc) fun xs H Q q => by
  obtain ⟨ρ, st, as, w, s', r, ha, e, k⟩ := q
  unfold oSum at e
  split at e
  · split at e
    · rename_i x xs hx
      obtain ⟨z, rfl, hz⟩ := ha.one
      obtain ⟨ns, hn, e⟩ := Option.map_eq_some_iff.mp e
      cases e
      obtain ⟨p, vs, rfl, h1, h2⟩ := lstOf_ok r hz hx
      rw [asInts_ok h2 hn] at h1
      exact ⟨p, ns, rfl, SqL.of h1, k.here r (.int _)⟩
    · cases e
  · cases e
theorem c_all (hc : X.calm = true := by rfl) : CallR X (.builtin "all") (rC T oAll) := CallR.imp (cr_all hc) fun xs H Q q => by
  obtain ⟨ρ, st, as, w, s', r, ha, e, k⟩ := q
  unfold oAll at e
  split at e
  · split at e
    · rename_i x xs hx
      obtain ⟨z, rfl, hz⟩ := ha.one
      obtain ⟨ns, hn, e⟩ := Option.map_eq_some_iff.mp e
      cases e
      obtain ⟨p, vs, rfl, h1, h2⟩ := lstOf_ok r hz hx
      rw [asBls_ok h2 hn] at h1
      exact ⟨p, ns, rfl, SqL.of h1, k.here r (.bl _)⟩
    · cases e
  · cases e
theorem c_any (hc : X.calm = true := by rfl) : CallR X (.builtin "any") (rC T oAny) := CallR.imp (cr_any hc) fun xs H Q q => by
  obtain ⟨ρ, st, as, w, s', r, ha, e, k⟩ := q
  unfold oAny at e
  split at e
  · split at e
    · rename_i x xs hx
      obtain ⟨z, rfl, hz⟩ := ha.one
      obtain ⟨ns, hn, e⟩ := Option.map_eq_some_iff.mp e
      cases e
      obtain ⟨p, vs, rfl, h1, h2⟩ := lstOf_ok r hz hx
      rw [asBls_ok h2 hn] at h1
      exact ⟨p, ns, rfl, SqL.of h1, k.here r (.bl _)⟩
    · cases e
  · cases e
theorem c_sorted : CallR X (.builtin "sorted") (rC T oSorted) := CallR.imp cr_sortedI fun xs H Q q => by
  obtain ⟨ρ, st, as, w, s', r, ha, e, k⟩ := q
  unfold oSorted at e
  split at e
  · split at e
    · rename_i x xs hx
      obtain ⟨z, rfl, hz⟩ := ha.one
      obtain ⟨ns, hn, e⟩ := Option.map_eq_some_iff.mp e
      cases e
      obtain ⟨p, vs, rfl, h1, h2⟩ := lstOf_ok r hz hx
      rw [asInts_ok h2 hn] at h1
      refine ⟨p, ns, rfl, SqL.of h1, fun ns' q hp hs hq => ?_⟩
      rw [srt_eq hp hs]
      exact k.lst r (RVs.ints _) hq
    · cases e
  · cases e
/-- repr of data -/
theorem dp_noDict {K : PySem.W.Frag} {H : Hp} : ∀ (d : PyData) (v : V), Dp K H v d → d.hasDict = false
  | .none, _, _ => by simp only [PyData.hasDict]
  | .bool _, _, _ => by simp only [PyData.hasDict]
  | .int _, _, _ => by simp only [PyData.hasDict]
  | .str _, _, _ => by simp only [PyData.hasDict]
  | .list ds, _, .lst _ h => by
    simp only [PyData.hasDict]
    exact go ds _ h
  | .tuple ds, _, .tup _ h => by
    simp only [PyData.hasDict]
    exact go ds _ h
where
  go {K : PySem.W.Frag} {H : Hp} : ∀ (ds : List PyData) (vs : List V), DpAll K H vs ds → PyData.hasDictAll ds = false
  | [], _, _ => by simp only [PyData.hasDictAll]
  | d :: ds, _, .cons h hs => by
    simp only [PyData.hasDictAll]
    rw [dp_noDict d _ h, go ds _ hs]
    rfl
theorem c_repr (hg : X.A.guards = some []) (hu : X.A.units + 64 < cLine) (hK : X.K = T.K := by rfl) : CallR X (.builtin "repr") (rC T oRepr) := fun pins s σ H xs us Q I rs q => by
  obtain ⟨ρ, st, as, w, s', r, ha, e, k⟩ := q
  unfold oRepr at e
  split at e
  · rename_i x
    split at e
    · rename_i d hd
      split at e
      · rename_i hb
        cases e
        obtain ⟨hs, hl⟩ := Bool.and_eq_true_iff.mp hb
        have hl := of_decide_eq_true hl
        obtain ⟨z, rfl, hz⟩ := ha.one
        obtain ⟨p1, p2⟩ := toD_dp r 40 x z d hz hd
        have nd := dp_noDict d z p1
        have fin := k.here r (.str d.shown)
        cases rs with
        | cons r1 r2 =>
          cases r2
          rename_i u
          rw [← hK] at p1
          obtain ⟨bs, rd⟩ := Dp.reads I d z u p1 r1
          cases p1 with
          | non =>
            obtain rfl := r1
            simp only [PyData.shown] at fin
            exact PySem.P.repr_of_none ⟨.str _, H, I.tok _, ⟨_, rfl⟩, fin⟩
          | bl b =>
            obtain rfl := r1
            simp only [PyData.shown] at fin
            refine PySem.P.repr_of_bool ⟨.str _, H, I.tok _, ⟨_, rfl⟩, fin⟩
          | int i =>
            obtain ⟨t, rfl⟩ := r1
            simp only [PyData.shown] at fin
            simp only [PyData.showable] at hs
            exact PySem.P.repr_of_int (of_decide_eq_true hs) ⟨.str _, H, I.tok _, ⟨_, rfl⟩, fin⟩
          | str y =>
            obtain ⟨t, rfl⟩ := r1
            simp only [PyData.shown] at fin hl
            exact PySem.P.repr_of_str ⟨.str _, H, I.tok _, ⟨_, rfl⟩, fin⟩ (by rw [lim_eq]; exact hl)
          | lst g1 g2 =>
            obtain rfl := r1
            exact repr_of_reads' rd hs (fun z => by rw [nd] at z; cases z) hg (by omega) (fun _ _ e => e) (fun h' u tk hk => ⟨.str _, H, I.kept (t' := tk) hk, ⟨_, rfl⟩, fin⟩) (by rw [lim_eq]; exact hl)
          | tup g1 g2 =>
            obtain rfl := r1
            exact repr_of_reads' rd hs (fun z => by rw [nd] at z; cases z) hg (by omega) (fun _ _ e => e) (fun h' u tk hk => ⟨.str _, H, I.kept (t' := tk) hk, ⟨_, rfl⟩, fin⟩) (by rw [lim_eq]; exact hl)
      · cases e
    · cases e
  · cases e
end
/-! ### methods of built-in types -/
inductive Kd where
  | list | dict | str
def kd (k : Kd) (x : Vl) (s : Sto) : Bool := match k, x with
  | .str, .str _ => true
  | .list, .ref j => match s[j]? with
    | some (.lst _) => true
    | _ => false
  | .dict, .ref j => match s[j]? with
    | some (.dic _) => true
    | _ => false
  | _, _ => false
def Kd.nm : Kd → String
  | .list => "list"
  | .dict => "dict"
  | .str => "str"
def eBm (t : Kd) (f : OMt) (o : EM) (a : AM) : EM := fun lo => bnd (o lo) fun x s => match kd t x s with
  | true => bnd (a lo) (fun xs => lift (f x xs)) s
  | false => .fail
def eBm0 (t : Kd) (f : OMt) (o : EM) : EM := fun lo => bnd (o lo) fun x s => match kd t x s with
  | true => lift (f x []) s
  | false => .fail
def oAppend : OMt
  | .ref j, [v], s => match s[j]? with
    | some (.lst xs) => if xs.length < LIM then some (.non, s.set j (.lst (xs ++ [v]))) else none
    | _ => none
  | _, _, _ => none
def oExtend : OMt
  | .ref j, [.ref i], s => match s[j]?, s[i]? with
    | some (.lst xs), some (.lst ys) => if xs.length + ys.length ≤ LIM then some (.non, s.set j (.lst (xs ++ ys))) else none
    | _, _ => none
  | _, _, _ => none
def oPop : OMt
  | .ref j, [], s => match s[j]? with
    | some (.lst xs) => match xs[xs.length - 1]? with
      | some v => some (v, s.set j (.lst xs.dropLast))
      | none => none
    | _ => none
  | _, _, _ => none
section
variable {X : Cx} {T : Tb} {W : WX} {o e : Expr} {es : List Expr} {mo : EM} {ma : AM} {name : Str} {apos cpos : Pos} {id : String} {f : OMt} {t : Kd}
theorem kd_ok {ρ : List Addr} {H : Hp} {s : Sto} {x : Vl} {z : V} (r : Rel T ρ H s) (hz : RV T ρ H x z) (h : kd t x s = true) : tyV X.K t.nm z H := by
  cases t <;> cases x <;> simp only [kd] at h <;> try cases h
  · split at h
    · rename_i hx
      obtain ⟨p, rfl, hp⟩ := hz.refE
      obtain ⟨vs, h1, h2⟩ := r.lst hx hp
      exact .inl ⟨rfl, vs, SqL.of h1⟩
    · cases h
  · split at h
    · rename_i hx
      obtain ⟨p, rfl, hp⟩ := hz.refE
      obtain ⟨vs, h1, h2⟩ := r.dic hx hp
      exact .inr (.inr (.inl ⟨rfl, .inl ⟨vs, h1⟩⟩))
    · cases h
  · rw [hz.strE]; exact rfl
theorem ce_bm (pa : PlainAttrs t.nm) (slot : Slot t.nm name id) (hty : typeOf (.builtin id) = pure (.type "method_descriptor")) (hm : MtR X id (rMt T f)) (ho : PE X o (tE T W mo)) (ha : PA X (e :: es) (tA T W ma))
    (hbase : attributeBase o name X.env (eval o X.env) = eval o X.env := by rfl)
    (hfew : ((backTo cpos (starEach (e :: es) X.env)).all (fun x => !x.1) && (backToKw cpos (keywordEach [] X.env)).all (fun x => x.1.isSome)
      && decide ((e :: es).length + ([] : List Keyword).length + (if ([] : List Keyword).isEmpty then 0 else 1) < 30)) = true := by rfl)
    (hline : (apos.endLine == cpos.line) = true := by rfl) (hs : starEach (e :: es) X.env = (false, eval e X.env) :: starEach es X.env := by rfl) (hplain : (backTo cpos (starEach es X.env)).any (·.1) = false := by rfl) :
    PE X (.Call (.Attribute o name apos) (e :: es) [] cpos) (tE T W (eBm t f mo ma)) :=
  pe_mono (pe_bm pa slot hty hm ho ha hbase hfew hline hs hplain) fun σ H Q h => tG_bnd (R := RV T) h fun ρ s lo x z H1 r rl hx p => by
    cases hk : kd t x s with
    | false => simp only [hk] at p; exact p.elim
    | true =>
      simp only [hk] at p
      refine ⟨kd_ok r hx hk, po_bnd (R := RVs T) (m := ma) r rl p fun ρ' s' xs zs H' ext r' rl' hxs p' => ?_⟩
      obtain ⟨v, s3, e, k⟩ := po_lift p'
      exact ⟨ρ', s', x, xs, v, s3, r', hx.mono ext, hxs, e, k⟩
theorem ce_bm0 (pa : PlainAttrs t.nm) (slot : Slot t.nm name id) (hty : typeOf (.builtin id) = pure (.type "method_descriptor")) (hm : MtR X id (rMt T f)) (ho : PE X o (tE T W mo))
    (hbase : attributeBase o name X.env (eval o X.env) = eval o X.env := by rfl) (hline : (apos.endLine == cpos.line) = true := by rfl) : PE X (.Call (.Attribute o name apos) [] [] cpos) (tE T W (eBm0 t f mo)) :=
  pe_mono (pe_bm0 pa slot hty hm ho hbase hline) fun σ H Q h => tG_bnd (R := RV T) h fun ρ s lo x z H1 r rl hx p => by
    cases hk : kd t x s with
    | false => simp only [hk] at p; exact p.elim
    | true =>
      simp only [hk] at p
      obtain ⟨v, s3, e, k⟩ := po_lift p
      exact ⟨kd_ok r hx hk, ρ, s, x, [], v, s3, r, hx, .nil, e, k⟩
theorem MtR.imp {r r' : V → List V → Hp → VK → Prop} (h : MtR X id r) (k : ∀ x xs H Q, r' x xs H Q → r x xs H Q) : MtR X id r' := fun pins s σ H x xs v us Q I rx rs q => h pins s σ H x xs v us Q I rx rs (k x xs H Q q)
theorem m_append : MtR X "list.append" (rMt T oAppend) := MtR.imp mt_append fun x xs H Q q => by
  obtain ⟨ρ, st, a, as, w, s', r, ha, hs, e, k⟩ := q
  unfold oAppend at e
  split at e
  · split at e
    · rename_i v s j ys hx
      split at e
      · rename_i hl
        cases e
        obtain ⟨p, rfl, hp⟩ := ha.refE
        obtain ⟨z, rfl, hz⟩ := hs.one
        obtain ⟨vs, h1, h2⟩ := r.lst hx hp
        refine ⟨p, vs, z, rfl, rfl, h1, by rw [← h2.length, lim_eq]; exact hl, ?_⟩
        exact k.set r hp h1 (fun z => z) ⟨_, upd_same, (h2.append (.cons hz .nil)).mono (r.setExt hp h1)⟩ .non
      · cases e
    · cases e
  · cases e
theorem m_extend : MtR X "list.extend" (rMt T oExtend) := MtR.imp mt_extend fun x xs H Q q => by
  obtain ⟨ρ, st, a, as, w, s', r, ha, hs, e, k⟩ := q
  unfold oExtend at e
  split at e
  · split at e
    · rename_i ys zs hx hy
      split at e
      · rename_i hl
        cases e
        obtain ⟨p, rfl, hp⟩ := ha.refE
        obtain ⟨z, rfl, hz⟩ := hs.one
        obtain ⟨q, rfl, hq⟩ := hz.refE
        obtain ⟨vs, h1, h2⟩ := r.lst hx hp
        obtain ⟨us, h3, h4⟩ := r.lst hy hq
        refine ⟨p, q, vs, us, rfl, rfl, h1, h3, by rw [← h2.length, ← h4.length, lim_eq]; exact hl, ?_⟩
        exact k.set r hp h1 (fun z => z) ⟨_, upd_same, (h2.append h4).mono (r.setExt hp h1)⟩ .non
      · cases e
    · cases e
  · cases e
theorem RVs.dropLast {ρ : List Addr} {H : Hp} {xs : List Vl} {vs : List V} (h : RVs T ρ H xs vs) : RVs T ρ H xs.dropLast vs.dropLast := by
  rw [List.dropLast_eq_take, List.dropLast_eq_take, h.length]
  exact h.take _
theorem m_pop : MtR X "list.pop" (rMt T oPop) := MtR.imp mt_pop fun x xs H Q q => by
  obtain ⟨ρ, st, a, as, w, s', r, ha, hs, e, k⟩ := q
  unfold oPop at e
  split at e
  · split at e
    · rename_i ys hx
      split at e
      · rename_i v hv
        cases e
        obtain ⟨p, rfl, hp⟩ := ha.refE
        rw [hs.zero]
        obtain ⟨vs, h1, h2⟩ := r.lst hx hp
        obtain ⟨z, hz, rz⟩ := h2.get hv
        refine ⟨p, vs, z, rfl, rfl, h1, by rw [← h2.length]; exact hz, ?_⟩
        exact k.set r hp h1 (fun z => z) ⟨_, upd_same, h2.dropLast.mono (r.setExt hp h1)⟩ rz
      · cases e
    · cases e
  · cases e
end
end Sm

/-! S5: statements -/
namespace Sm
open PySem L2

inductive RS where
  | nx (lo : Lo) (s : Sto) | rt (v : Vl) (s : Sto) | bk (lo : Lo) (s : Sto) | ct (lo : Lo) (s : Sto) | exc (e : Ex) (lo : Lo) (s : Sto) | fail
abbrev SM := Lo → Sto → RS
def bndS {α : Type} (m : Lo → M α) (f : Lo → α → Sto → RS) : SM := fun lo s => match m lo s with
  | .ok a s' => f lo a s'
  | .exc e s' => .exc e lo s'
  | .fail => .fail
def sNil : SM := fun lo s => .nx lo s
def sSeq (a b : SM) : SM := fun lo s => match a lo s with
  | .nx lo' s' => b lo' s'
  | .rt v s' => .rt v s'
  | .bk lo' s' => .bk lo' s'
  | .ct lo' s' => .ct lo' s'
  | .exc e lo' s' => .exc e lo' s'
  | .fail => .fail
def sExpr (e : EM) : SM := bndS e fun lo _ s => .nx lo s
def sRet (e : EM) : SM := bndS e fun _ v s => .rt v s
def sRetN : SM := fun _ s => .rt .non s
def sSet (i : Nat) (e : EM) : SM := bndS e fun lo v s => .nx (lo.set i (some v)) s
def sIf (t : TM) (a b : SM) : SM := bndS t fun lo c s => match c with
  | true => a lo s
  | false => b lo s
def sBreak : SM := fun lo s => .bk lo s
def sCont : SM := fun lo s => .ct lo s
/-- a, b = e1, e2 and three -/
def sPar (i j : Nat) (a : AM) : SM := bndS a fun lo vs s => match vs with
  | [v, w] => .nx ((lo.set i (some v)).set j (some w)) s
  | _ => .fail
def sPar3 (i j l : Nat) (a : AM) : SM := bndS a fun lo vs s => match vs with
  | [v, w, x] => .nx (((lo.set i (some v)).set j (some w)).set l (some x)) s
  | _ => .fail

/-- what is asked behind a statement -/
def PoXS (T : Tb) (W : WX) (ρ : List Addr) (H : Hp) (e : Ex) (lo : Lo) (s : Sto) : Prop :=
  ∀ (ρ' : List Addr) (H' : Hp) (σ' : St) (C : Addr), Ext T ρ H ρ' H' → Rel T ρ' H' s → RL T ρ' H' lo σ' → T.cl[e.c]? = some C →
    match e.fs with
    | none => W (.ref C) none σ' H'
    | some fs => ∀ (d : Addr) (vs : List (Str × V)), H' d = some (.xd vs) → vs.map (·.1) = fs.map (·.1) → RVs T ρ' H' (fs.map (·.2)) (vs.map (·.2)) → W (.ref C) (some d) σ' H'
def PoN (T : Tb) (ρ : List Addr) (H : Hp) (lo : Lo) (s : Sto) (Q : St → Hp → Prop) : Prop := ∀ (ρ' : List Addr) (H' : Hp) (σ' : St), Ext T ρ H ρ' H' → Rel T ρ' H' s → RL T ρ' H' lo σ' → Q σ' H'
def PoS (T : Tb) (W : WX) (ρ : List Addr) (H : Hp) (r : RS) (D : Ends) : Prop := match r with
  | .nx lo s => PoN T ρ H lo s D.nx
  | .rt v s => ∀ (ρ' : List Addr) (H' : Hp) (z : V), Ext T ρ H ρ' H' → Rel T ρ' H' s → RV T ρ' H' v z → D.rt z H'
  | .bk lo s => PoN T ρ H lo s D.bk
  | .ct lo s => PoN T ρ H lo s D.ct
  | .exc e lo s => PoXS T W ρ H e lo s
  | .fail => False
theorem PoN.mono {T : Tb} {ρ ρ' : List Addr} {H H' : Hp} {lo : Lo} {s : Sto} {Q : St → Hp → Prop} (p : PoN T ρ H lo s Q) (e : Ext T ρ H ρ' H') : PoN T ρ' H' lo s Q := fun ρ2 H2 σ2 e2 => p ρ2 H2 σ2 (e.trans e2)
theorem PoS.mono {T : Tb} {W : WX} {ρ ρ' : List Addr} {H H' : Hp} {r : RS} {D : Ends} (p : PoS T W ρ H r D) (e : Ext T ρ H ρ' H') : PoS T W ρ' H' r D := by
  cases r with
  | nx lo s => exact PoN.mono (lo := lo) p e
  | rt v s => exact fun ρ2 H2 z e2 => p ρ2 H2 z (e.trans e2)
  | bk lo s => exact PoN.mono (lo := lo) p e
  | ct lo s => exact PoN.mono (lo := lo) p e
  | exc x lo s => exact fun ρ2 H2 σ2 C e2 => p ρ2 H2 σ2 C (e.trans e2)
  | fail => exact p
def tS (T : Tb) (W : WX) (m : SM) : TS := fun D σ H => ∃ (ρ : List Addr) (s : Sto) (lo : Lo), Rel T ρ H s ∧ RL T ρ H lo σ ∧ PoS T W ρ H (m lo s) D
theorem ps_mono {X : Cx} {e : Stmt} {t t' : TS} (h : PS X e t) (k : ∀ D σ H, t' D σ H → t D σ H) : PS X e t' := ⟨fun pins s σ H D I q => h.run pins s σ H D I (k D σ H q)⟩
theorem pss_mono {X : Cx} {e : List Stmt} {t t' : TS} (h : PSs X e t) (k : ∀ D σ H, t' D σ H → t D σ H) : PSs X e t' := ⟨fun pins s σ H D I q => h.run pins s σ H D I (k D σ H q)⟩
/-- a part of a statement, then the rest -/
theorem poS_bnd {α β : Type} {R : List Addr → Hp → α → β → Prop} {T : Tb} {W : WX} {m : Lo → M α} {f : Lo → α → Sto → RS} {ρ : List Addr} {s : Sto} {lo : Lo} {σ : St} {H : Hp} {D : Ends} {Q' : β → Hp → Prop}
    (r : Rel T ρ H s) (rl : RL T ρ H lo σ) (p : PoS T W ρ H (bndS m f lo s) D)
    (k : ∀ (ρ' : List Addr) (s' : Sto) (a : α) (b : β) (H' : Hp), Ext T ρ H ρ' H' → Rel T ρ' H' s' → RL T ρ' H' lo σ → R ρ' H' a b → PoS T W ρ' H' (f lo a s') D → Q' b H') : tG R T W m σ H Q' := by
  refine ⟨ρ, s, lo, r, rl, ?_⟩
  unfold bndS at p
  cases e : m lo s with
  | ok a s1 =>
    rw [e] at p
    exact fun ρ' H' b x r' hb => k ρ' s1 a b H' x r' (rl.mono x) hb (p.mono x)
  | exc z s1 =>
    rw [e] at p
    exact fun ρ' H' C x r' hC => p ρ' H' σ C x r' (rl.mono x) hC
  | fail => rw [e] at p; exact p
theorem tS_bnd {α β : Type} {R : List Addr → Hp → α → β → Prop} {T : Tb} {W : WX} {m : Lo → M α} {f : Lo → α → Sto → RS} {σ : St} {H : Hp} {D : Ends} {Q' : β → Hp → Prop} (h : tS T W (bndS m f) D σ H)
    (k : ∀ (ρ : List Addr) (s : Sto) (lo : Lo) (a : α) (b : β) (H' : Hp), Rel T ρ H' s → RL T ρ H' lo σ → R ρ H' a b → PoS T W ρ H' (f lo a s) D → Q' b H') : tG R T W m σ H Q' := by
  obtain ⟨ρ, s, lo, r, rl, p⟩ := h
  exact poS_bnd r rl p fun ρ' s' a b H' _ r' rl' hb p' => k ρ' s' lo a b H' r' rl' hb p'
section
variable {X : Cx} {T : Tb} {W : WX} {e c : Expr} {st : Stmt} {rest a b : List Stmt} {me : EM} {mt : TM} {ms mr ma mb : SM} {pos : Pos}
theorem cs_nil : PSs X [] (tS T W sNil) := pss_mono pss_nil fun D σ H h => by
  obtain ⟨ρ, s, lo, r, rl, p⟩ := h
  exact p ρ H σ .refl r rl
theorem cs_cons (h1 : PS X st (tS T W ms)) (h2 : PSs X rest (tS T W mr)) : PSs X (st :: rest) (tS T W (sSeq ms mr)) := pss_mono (pss_cons h1 h2) fun D σ H h => by
  obtain ⟨ρ, s, lo, r, rl, p⟩ := h
  refine ⟨ρ, s, lo, r, rl, ?_⟩
  unfold sSeq at p
  cases e : ms lo s with
  | nx lo' s' =>
    rw [e] at p
    exact fun ρ' H' σ' x r' rl' => ⟨ρ', s', lo', r', rl', p.mono x⟩
  | rt v s' => rw [e] at p; exact p
  | bk lo' s' => rw [e] at p; exact p
  | ct lo' s' => rw [e] at p; exact p
  | exc z lo' s' => rw [e] at p; exact p
  | fail => rw [e] at p; exact p
theorem cs_one (h1 : PS X st (tS T W ms)) : PSs X [st] (tS T W ms) := pss_one h1
theorem cs_expr (he : PE X e (tE T W me)) (hs : swapsWith e none pos.line X.env = pure false := by rfl) : PS X (.Expr e pos) (tS T W (sExpr me)) := ps_mono (ps_expr he hs) fun D σ H h =>
  tS_bnd (R := RV T) h fun ρ s lo x z H' r rl hx p => p ρ H' σ .refl r rl
theorem cs_ret (he : PE X e (tE T W me)) : PS X (.Return (some e) pos) (tS T W (sRet me)) := ps_mono (ps_ret he) fun D σ H h =>
  tS_bnd (R := RV T) h fun ρ s lo x z H' r rl hx p => p ρ H' z .refl r hx
theorem cs_retN : PS X (.Return none pos) (tS T W sRetN) := ps_mono ps_retN fun D σ H h => by
  obtain ⟨ρ, s, lo, r, rl, p⟩ := h
  exact p ρ H .non .refl r .non
theorem cs_pass : PS X (.Pass pos) (tS T W sNil) := ps_mono ps_pass fun D σ H h => by
  obtain ⟨ρ, s, lo, r, rl, p⟩ := h
  exact p ρ H σ .refl r rl
theorem cs_break : PS X (.Break pos) (tS T W sBreak) := ps_mono ps_break fun D σ H h => by
  obtain ⟨ρ, s, lo, r, rl, p⟩ := h
  exact p ρ H σ .refl r rl
theorem cs_continue : PS X (.Continue pos) (tS T W sCont) := ps_mono ps_continue fun D σ H h => by
  obtain ⟨ρ, s, lo, r, rl, p⟩ := h
  exact p ρ H σ .refl r rl
theorem cs_if (hc : PT X c (tT T W mt)) (ha : PSs X a (tS T W ma)) (hb : PSs X b (tS T W mb)) : PS X (.If c a b pos) (tS T W (sIf mt ma mb)) := ps_mono (ps_if hc ha hb) fun D σ H h =>
  tS_bnd (R := RB) h fun ρ s lo x z H' r rl hx p => by
    cases hx
    cases x with
    | true => exact ⟨ρ, s, lo, r, rl, p⟩
    | false => exact ⟨ρ, s, lo, r, rl, p⟩
theorem tasg_le {i : Nat} {D : Ends} {σ : St} {H : Hp} (h : tS T W (sSet i me) D σ H) : tAsg (tE T W me) (gName i) D σ H :=
  tS_bnd (R := RV T) h fun ρ s lo x z H' r rl hx p => p ρ H' _ .refl r (rl.set i hx)
theorem cs_set {i : Nat} {x : Str} {pos' : Pos} (hN : X.N.Nodup) (hi : X.N[i]? = some x) (hx : Loc X.env.scope x) (he : PE X e (tE T W me)) (hs : swapsWith e (some (.Name x pos')) pos.line X.env = pure false := by rfl) (hf : X.fn x = true ∨ X.env.scope.names.lookup x = some .local := by first | exact .inl rfl | exact .inr rfl | assumption) :
    PS X (.Assign [.Name x pos'] e pos) (tS T W (sSet i me)) := ps_mono (ps_set hN hi hx he hs hf) fun D σ H h => tasg_le h
theorem cs_par {i j : Nat} {x y : Str} {a b : Expr} {ma : AM} {px py pt : Pos} {kt k2 pt2} (hc : X.calm = true) (hN : X.N.Nodup) (hi : X.N[i]? = some x) (hj : X.N[j]? = some y) (hij : i ≠ j)
    (hx : X.env.scope.names.lookup x = some .local) (hy : X.env.scope.names.lookup y = some .local) (ha : PA X [a, b] (tA T W ma))
    (hw : swappedStores [.Tuple [.Name x px, .Name y py] kt pt] (.Tuple [a, b] k2 pt2) X.env = pure (some [x, y]))
    (hs : swapsWithSole [.Tuple [.Name x px, .Name y py] kt pt] (.Tuple [a, b] k2 pt2) pos.line X.env = pure false := by rfl) :
    PS X (.Assign [.Tuple [.Name x px, .Name y py] kt pt] (.Tuple [a, b] k2 pt2) pos) (tS T W (sPar i j ma)) := ps_mono (ps_par hc hN hi hj hij hx hy ha hw hs) fun D σ H h =>
  tS_bnd (R := RVs T) h fun ρ s lo vs zs H' r rl hx p => by
    cases hx with
    | nil => exact p.elim
    | cons h1 h2 =>
      cases h2 with
      | nil => exact p.elim
      | cons h2 h3 =>
        cases h3 with
        | nil => exact ⟨_, _, rfl, p ρ H' _ .refl r ((rl.set i h1).set j h2)⟩
        | cons h3 h4 => exact p.elim
theorem cs_par3 {i j l : Nat} {x y z : Str} {a b c : Expr} {ma : AM} {px py pz pt : Pos} {kt k2 pt2} (hc : X.calm = true) (hN : X.N.Nodup) (hi : X.N[i]? = some x) (hj : X.N[j]? = some y) (hl : X.N[l]? = some z) (hij : i ≠ j) (hil : i ≠ l) (hjl : j ≠ l)
    (hx : X.env.scope.names.lookup x = some .local) (hy : X.env.scope.names.lookup y = some .local) (hz : X.env.scope.names.lookup z = some .local) (ha : PA X [a, b, c] (tA T W ma))
    (hw : swappedStores [.Tuple [.Name x px, .Name y py, .Name z pz] kt pt] (.Tuple [a, b, c] k2 pt2) X.env = pure (some [x, y, z]))
    (hs : swapsWithSole [.Tuple [.Name x px, .Name y py, .Name z pz] kt pt] (.Tuple [a, b, c] k2 pt2) pos.line X.env = pure false := by rfl) :
    PS X (.Assign [.Tuple [.Name x px, .Name y py, .Name z pz] kt pt] (.Tuple [a, b, c] k2 pt2) pos) (tS T W (sPar3 i j l ma)) := ps_mono (ps_par3 hc hN hi hj hl hij hil hjl hx hy hz ha hw hs) fun D σ H h =>
  tS_bnd (R := RVs T) h fun ρ s lo vs zs H' r rl hx p => by
    cases hx with
    | nil => exact p.elim
    | cons h1 h2 =>
      cases h2 with
      | nil => exact p.elim
      | cons h2 h3 =>
        cases h3 with
        | nil => exact p.elim
        | cons h3 h4 =>
          cases h4 with
          | nil => exact ⟨_, _, _, rfl, p ρ H' _ .refl r (((rl.set i h1).set j h2).set l h3)⟩
          | cons h4 h5 => exact p.elim
end

/-! ### targets -/
abbrev GM := Vl → Lo → M Lo
def gNm (i : Nat) : GM := fun v lo s => .ok (lo.set i (some v)) s
abbrev OSet := Vl → Vl → Vl → Sto → Option Sto
def liftU (f : Sto → Option Sto) (lo : Lo) : M Lo := fun s => match f s with
  | some s' => .ok lo s'
  | none => .fail
def gSb (f : OSet) (o i : EM) : GM := fun v lo => bnd (o lo) fun x => bnd (i lo) fun y => liftU (f x y v) lo
def gNms (js : List Nat) (vs : List Vl) (lo : Lo) : Option Lo := match js, vs with
  | [], [] => some lo
  | j :: js, v :: vs => gNms js vs (lo.set j (some v))
  | _, _ => none
/-- names in brackets -/
def gTp (js : List Nat) : GM := fun v lo s => match v with
  | .tup xs => match gNms js xs lo with
    | some lo' => .ok lo' s
    | none => .fail
  | _ => .fail
/-- the readings of targets -/
abbrev RLo (T : Tb) : List Addr → Hp → Lo → St → Prop := fun ρ H lo σ => RL T ρ H lo σ
def tGt (T : Tb) (W : WX) (g : GM) : TG := fun z σ H Q => ∃ (ρ : List Addr) (s : Sto) (lo : Lo) (v : Vl), Rel T ρ H s ∧ RL T ρ H lo σ ∧ RV T ρ H v z ∧ Po (RLo T) T (fun c d H' => W c d σ H') ρ H (g v lo s) Q
def sAsg (g : GM) (e : EM) : SM := bndS e fun lo v s => match g v lo s with
  | .ok lo' s' => .nx lo' s'
  | .exc x s' => .exc x lo s'
  | .fail => .fail
theorem pg_mono {X : Cx} {e : Expr} {t t' : TG} (h : PG X e t) (k : ∀ v σ H Q, t' v σ H Q → t v σ H Q) : PG X e t' := ⟨fun pins s σ H v u Q I r q => h.run pins s σ H v u Q I r (k v σ H Q q)⟩
def opSet : OSet
  | .ref j, y, v, s => match s[j]? with
    | some (.lst xs) => match y with
      | .int i => match ixN xs.length i with
        | some n => some (s.set j (.lst (xs.set n v)))
        | none => none
      | _ => none
    | some (.dic kvs) => match keyOf y with
      | some k => if kvs.length < LIM then some (s.set j (.dic (put kvs k v))) else none
      | none => none
    | _ => none
  | _, _, _, _ => none
def rSt (T : Tb) (f : OSet) : TSet := fun o i v H Q => ∃ ρ s a b c s', Rel T ρ H s ∧ RV T ρ H a o ∧ RV T ρ H b i ∧ RV T ρ H c v ∧ f a b c s = some s' ∧ ∀ (ρ' : List Addr) (H' : Hp), Ext T ρ H ρ' H' → Rel T ρ' H' s' → Q H'
section
variable {X : Cx} {T : Tb} {W : WX} {o i e tg : Expr} {mo mi me : EM} {g : GM} {f : OSet} {pos : Pos}
theorem cg_name {n : Nat} {x : Str} (hN : X.N.Nodup) (hi : X.N[n]? = some x) (hx : Loc X.env.scope x) (hf : X.fn x = true ∨ X.env.scope.names.lookup x = some .local := by first | exact .inl rfl | exact .inr rfl | assumption) : PG X (.Name x pos) (tGt T W (gNm n)) :=
  pg_mono (pg_name hN hi hx hf) fun v σ H Q h => by
    obtain ⟨ρ, s, lo, x, r, rl, hx, p⟩ := h
    exact p ρ H _ .refl r (rl.set n hx)
theorem cg_sub (ho : PE X o (tE T W mo)) (hi : PE X i (tE T W mi)) (hs : PSet X (rSt T f)) (k : PG X (.Subscript o i pos) (gSub (tE T W mo) (tE T W mi) (rSt T f))) : PG X (.Subscript o i pos) (tGt T W (gSb f mo mi)) :=
  pg_mono k fun v σ H Q h => by
    obtain ⟨ρ, s, lo, x, r, rl, hx, p⟩ := h
    refine po_bnd (R := RV T) (m := mo) r rl p fun ρ1 s1 a z H1 ext1 r1 rl1 ha p1 => po_bnd (R := RV T) (m := mi) r1 rl1 p1 fun ρ2 s2 b y H2 ext2 r2 rl2 hb p2 => ?_
    unfold liftU at p2
    cases e : f a b x s2 with
    | none => rw [e] at p2; exact p2.elim
    | some s3 =>
      rw [e] at p2
      exact ⟨ρ2, s2, a, b, x, s3, r2, ha.mono ext2, hb, hx.mono (ext1.trans ext2), e, fun ρ3 H3 e3 r3 => p2 ρ3 H3 σ e3 r3 (rl2.mono e3)⟩
theorem cs_asg (he : PE X e (tE T W me)) (hg : PG X tg (tGt T W g)) (hs : swapsWithSole [tg] e pos.line X.env = pure false := by rfl) (hw : swappedStores [tg] e X.env = pure none := by rfl)
    (h1 : (assignEach [tg] X.env).map (·.2) = [assign tg X.env] := by rfl) : PS X (.Assign [tg] e pos) (tS T W (sAsg g me)) := ps_mono (ps_asg he hg hs hw h1) fun D σ H h =>
  tS_bnd (R := RV T) h fun ρ s lo x z H' r rl hx p => ⟨ρ, s, lo, x, r, rl, hx, by
    cases e : g x lo s with
    | ok lo' s' =>
      rw [e] at p
      exact fun ρ2 H2 σ2 e2 r2 rl2 => p ρ2 H2 σ2 e2 r2 rl2
    | exc y s' =>
      rw [e] at p
      exact fun ρ2 H2 C e2 r2 hC => p ρ2 H2 σ C e2 r2 (rl.mono e2) hC
    | fail => rw [e] at p; exact p⟩
theorem p_set (hu : X.A.units + 1 < cLine) : PSet X (rSt T opSet) := by
  intro pins s σ H ov iv v ou iu u Q I ro ri rv h
  obtain ⟨ρ, st, a, b, c, s', r, ha, hb, hc, e, k⟩ := h
  unfold opSet at e
  split at e
  · rename_i j y w s0
    obtain ⟨p, rfl, hp⟩ := ha.refE
    split at e
    · rename_i xs hx
      split at e
      · rename_i i
        split at e
        · rename_i n hn
          cases e
          obtain ⟨vs, h1, h2⟩ := r.lst hx hp
          refine set_list pins s σ H _ _ v ou iu u Q I ro ri rv ⟨p, vs, i, n, rfl, hb.intE, h1, by rw [← h2.length]; exact hn, ?_⟩
          exact k ρ _ (r.setExt hp h1) (r.set hp ⟨_, upd_same, (h2.set hc n).mono (r.setExt hp h1)⟩)
        · cases e
      · cases e
    · rename_i kvs hx
      split at e
      · rename_i key hk
        split at e
        · rename_i hl
          cases e
          obtain ⟨vs, h1, h2, h3⟩ := r.dic hx hp
          have ey := keyOf_ok hb hk
          subst ey
          have hlen : vs.length = kvs.length := by have := congrArg List.length h2; simpa using this
          have nd := dk_nodup I h1
          obtain ⟨q1, q2⟩ := put_ok (k := key) hc nd h2 h3
          obtain rfl : ou = Value.ref p := ro
          refine d_setItem hu I (DPut.k (v := v) h1 (by rw [hlen, lim_eq]; exact hl)) ri rv fun s4 I4 => ⟨_, I4, ?_⟩
          exact k ρ _ (r.setExt hp h1) (r.set hp ⟨_, upd_same, q1, q2.mono (r.setExt hp h1)⟩)
        · cases e
      · cases e
    · cases e
  · cases e
end
end Sm

/-! S6: loops and comprehensions -/
namespace Sm
open PySem L2

/-- the i-th item of what is walked: an item, the end, or nothing known -/
abbrev NX := Nat → Sto → Option (Option Vl)
def nxFix (xs : List Vl) : NX := fun i _ => some xs[i]?
def nxLst (j : Nat) : NX := fun i s => match s[j]? with
  | some (.lst xs) => some xs[i]?
  | _ => none
def nxEnum (j : Nat) : NX := fun i s => match s[j]? with
  | some (.lst xs) => match xs[i]? with
    | some v => some (some (.tup [.int (i : Nat), v]))
    | none => some none
  | _ => none
/-- an iterator of the model yields what nx says -/
def ItOk (T : Tb) (J : It) (nx : NX) (ρ : List Addr) (H : Hp) : Prop := ∀ (ρ1 : List Addr) (H1 : Hp) (s : Sto) (i : Nat), Ext T ρ H ρ1 H1 → Rel T ρ1 H1 s → match nx i s with
  | some (some v) => J.go i H1 ∧ ∀ x H2, J.yld i H1 x H2 → Ext T ρ1 H1 ρ1 H2 ∧ Rel T ρ1 H2 s ∧ RV T ρ1 H2 v x
  | some none => J.stop i H1
  | none => True
theorem ItOk.mono {T : Tb} {J : It} {nx : NX} {ρ ρ' : List Addr} {H H' : Hp} (h : ItOk T J nx ρ H) (e : Ext T ρ H ρ' H') : ItOk T J nx ρ' H' := fun ρ1 H1 s i e1 r => h ρ1 H1 s i (e.trans e1) r
abbrev IM := Lo → M NX
abbrev tI (T : Tb) (W : WX) (m : IM) : TI := fun σ H R => tG (fun ρ H nx J => ItOk T J nx ρ H) T W m σ H R
/-- the loop, by fuel -/
def loopN (nx : NX) (g : GM) (b : SM) : Nat → Nat → SM
  | 0, _, _, _ => .fail
  | n + 1, i, lo, s => match nx i s with
    | none => .fail
    | some none => .nx lo s
    | some (some v) => match g v lo s with
      | .fail => .fail
      | .exc e s' => .exc e lo s'
      | .ok lo' s' => match b lo' s' with
        | .nx lo2 s2 => loopN nx g b n (i + 1) lo2 s2
        | .ct lo2 s2 => loopN nx g b n (i + 1) lo2 s2
        | .bk lo2 s2 => .nx lo2 s2
        | .rt v2 s2 => .rt v2 s2
        | .exc e lo2 s2 => .exc e lo2 s2
        | .fail => .fail
def sFor (n : Nat) (m : IM) (g : GM) (b : SM) : SM := bndS m fun lo nx s => loopN nx g b n 0 lo s
/-- the same over items that are known -/
def loopX (g : GM) (b : SM) : List Vl → SM
  | [], lo, s => .nx lo s
  | v :: vs, lo, s => match g v lo s with
    | .fail => .fail
    | .exc e s' => .exc e lo s'
    | .ok lo' s' => match b lo' s' with
      | .nx lo2 s2 => loopX g b vs lo2 s2
      | .ct lo2 s2 => loopX g b vs lo2 s2
      | .bk lo2 s2 => .nx lo2 s2
      | .rt v2 s2 => .rt v2 s2
      | .exc e lo2 s2 => .exc e lo2 s2
      | .fail => .fail
def sForX (m : AM) (g : GM) (b : SM) : SM := bndS m fun lo xs s => loopX g b xs lo s
theorem loopX_eq (g : GM) (b : SM) (all : List Vl) : ∀ (n i : Nat) (lo : Lo) (s : Sto), all.length - i < n → loopN (nxFix all) g b n i lo s = loopX g b (all.drop i) lo s := by
  intro n
  induction n with
  | zero => intro i lo s h; omega
  | succ n ih =>
    intro i lo s h
    unfold loopN
    simp only [nxFix]
    cases e : all[i]? with
    | none =>
      have : all.length ≤ i := List.getElem?_eq_none_iff.mp e
      rw [List.drop_eq_nil_of_le this]
      rfl
    | some v =>
      obtain ⟨hi, hv⟩ := List.getElem?_eq_some_iff.mp e
      rw [List.drop_eq_getElem_cons hi, hv]
      simp only [loopX]
      cases g v lo s with
      | fail => rfl
      | exc e s' => rfl
      | ok lo' s' =>
        simp only
        cases b lo' s' with
        | nx lo2 s2 => exact ih (i + 1) lo2 s2 (by omega)
        | ct lo2 s2 => exact ih (i + 1) lo2 s2 (by omega)
        | bk lo2 s2 => rfl
        | rt v2 s2 => rfl
        | exc e lo2 s2 => rfl
        | fail => rfl
section
variable {X : Cx} {T : Tb} {W : WX} {tg iter : Expr} {body : List Stmt} {m : IM} {ma : AM} {g : GM} {b : SM} {pos : Pos}
theorem loop_le {n : Nat} {D : Ends} {σ : St} {H : Hp} (h : tS T W (sFor n m g b) D σ H) : tFor (tI T W m) (tGt T W g) (tS T W b) D σ H :=
  tS_bnd (R := fun ρ H nx J => ItOk T J nx ρ H) h fun ρ0 s0 lo0 nx J H0 r0 rl0 ok p0 => by
    refine ⟨fun i k σ H => ∃ ρ s lo, Rel T ρ H s ∧ RL T ρ H lo σ ∧ ItOk T J nx ρ H ∧ PoS T W ρ H (loopN nx g b k i lo s) D, ⟨n, ρ0, s0, lo0, r0, rl0, ok, p0⟩, ?_⟩
    rintro i k σ1 H1 ⟨ρ, s, lo, r, rl, ok, p⟩
    cases k with
    | zero => exact p.elim
    | succ k =>
      unfold loopN at p
      have q := ok ρ H1 s i .refl r
      cases e : nx i s with
      | none => simp only [e] at p; exact p.elim
      | some o =>
        simp only [e] at p q
        cases o with
        | none => exact .inl ⟨q, p ρ H1 σ1 .refl r rl⟩
        | some v =>
          obtain ⟨go, yl⟩ := q
          refine .inr ⟨go, fun σ' H' => ∃ ρ s lo, Rel T ρ H' s ∧ RL T ρ H' lo σ' ∧ ItOk T J nx ρ H' ∧ PoS T W ρ H' (loopN nx g b k (i + 1) lo s) D, fun σ' H' h => ⟨k, Nat.lt_succ_self k, h⟩, fun x H2 y => ?_⟩
          obtain ⟨x1, r2, hv⟩ := yl x H2 y
          refine ⟨ρ, s, lo, v, r2, rl.mono x1, hv, ?_⟩
          have p := p.mono x1
          cases e2 : g v lo s with
          | fail => simp only [e2] at p; exact p
          | exc z s' => simp only [e2] at p; exact fun ρ' H' C x r' hC => p ρ' H' σ1 C x r' (rl.mono (x1.trans x)) hC
          | ok lo' s' =>
            simp only [e2] at p
            intro ρ3 H3 σ3 x3 r3 rl3
            refine ⟨ρ3, s', lo', r3, rl3, ?_⟩
            have p := p.mono x3
            have ok3 := ok.mono (x1.trans x3)
            cases e3 : b lo' s' with
            | nx lo2 s2 => simp only [e3] at p; exact fun ρ4 H4 σ4 x4 r4 rl4 => ⟨ρ4, s2, lo2, r4, rl4, ok3.mono x4, p.mono x4⟩
            | ct lo2 s2 => simp only [e3] at p; exact fun ρ4 H4 σ4 x4 r4 rl4 => ⟨ρ4, s2, lo2, r4, rl4, ok3.mono x4, p.mono x4⟩
            | bk lo2 s2 => simp only [e3] at p; exact p
            | rt v2 s2 => simp only [e3] at p; exact p
            | exc z lo2 s2 => simp only [e3] at p; exact p
            | fail => simp only [e3] at p; exact p
theorem cs_for (n : Nat) (hp : PassesOwn (model X.prog X.w) X.A X.env X.xe) (hc : X.calm = true) (hi : PI X tg iter (tI T W m)) (hg : PG X tg (tGt T W g)) (hb : PSs X body (tS T W b))
    (hs : ∀ x, foldedSetIterable iter X.env x = pure x := by intro _; rfl) : PS X (.For tg iter body [] pos) (tS T W (sFor n m g b)) := ps_mono (ps_for hp hc hi hg hb hs) fun D σ H h => loop_le h
/-- what is walked as a list that is known -/
def iFix (ma : AM) : IM := fun lo => bnd (ma lo) fun xs => ret (nxFix xs)
theorem cs_forX (hp : PassesOwn (model X.prog X.w) X.A X.env X.xe) (hc : X.calm = true) (hi : PI X tg iter (tI T W (iFix ma))) (hg : PG X tg (tGt T W g)) (hb : PSs X body (tS T W b))
    (hs : ∀ x, foldedSetIterable iter X.env x = pure x := by intro _; rfl) : PS X (.For tg iter body [] pos) (tS T W (sForX ma g b)) := ps_mono (ps_for hp hc hi hg hb hs) fun D σ H h => by
  obtain ⟨ρ, s, lo, r, rl, p⟩ := h
  unfold sForX bndS at p
  cases e : ma lo s with
  | ok xs s' =>
    refine loop_le (n := xs.length + 1) ⟨ρ, s, lo, r, rl, ?_⟩
    have : sFor (xs.length + 1) (iFix ma) g b lo s = loopX g b xs lo s' := by
      unfold sFor bndS iFix bnd
      rw [e]
      simp only [ret]
      rw [loopX_eq g b xs (xs.length + 1) 0 lo s' (by omega), List.drop_zero]
    rw [this]
    rw [e] at p
    exact p
  | exc z s' =>
    refine loop_le (n := 1) ⟨ρ, s, lo, r, rl, ?_⟩
    have : sFor 1 (iFix ma) g b lo s = .exc z lo s' := by
      unfold sFor bndS iFix bnd
      rw [e]
    rw [this]
    rw [e] at p
    exact p
  | fail =>
    rw [e] at p
    exact p.elim
theorem pi_mono {tg iter : Expr} {t t' : TI} (h : PI X tg iter t) (k : ∀ σ H R, t' σ H R → t σ H R) : PI X tg iter t' := ⟨fun pins s σ H R I q => h.run pins s σ H R I (k σ H R q)⟩
/-- over a tuple -/
def aTup (e : EM) : AM := fun lo => bnd (e lo) fun x => match x with
  | .tup xs => ret xs
  | _ => failM
/-- over range(n), range(a, b) -/
def rng (lo : Int) (n : Nat) : List Vl := (List.range n).map fun i => Vl.int (lo + (i : Nat))
def aRng (a : AM) : AM := fun lo => bnd (a lo) fun xs => match xs with
  | [.int n] => if -(2 ^ 62) ≤ n ∧ n < 2 ^ 62 then ret (rng 0 n.toNat) else failM
  | _ => failM
def aRng2 (a : AM) : AM := fun lo => bnd (a lo) fun xs => match xs with
  | [.int i, .int j] => if -(2 ^ 62) ≤ i ∧ i < 2 ^ 62 ∧ -(2 ^ 62) ≤ j ∧ j < 2 ^ 62 then ret (rng i (j - i).toNat) else failM
  | _ => failM
/-- over a list, enumerate(list): the list's number -/
def iLst (e : EM) : IM := fun lo => bnd (e lo) fun x => match x with
  | .ref j => fun s => match s[j]? with
    | some (.lst _) => .ok (nxLst j) s
    | _ => .fail
  | _ => failM
def iEnm (a : AM) : IM := fun lo => bnd (a lo) fun xs => match xs with
  | [.ref j] => fun s => match s[j]? with
    | some (.lst _) => .ok (nxEnum j) s
    | _ => .fail
  | _ => failM
theorem bnd_bnd {α β γ : Type} (m : M α) (f : α → M β) (g : β → M γ) : bnd (bnd m f) g = bnd m fun x => bnd (f x) g := by
  funext s
  unfold bnd
  cases m s <;> rfl
theorem fix_le {R : It → Hp → Prop} {σ : St} {H : Hp} (h : tI T W (iFix ma) σ H R) : tA T W (fun lo => ma lo) σ H fun vs H1 => ∀ J, (∀ ρ s xs, Rel T ρ H1 s → RVs T ρ H1 xs vs → ItOk T J (nxFix xs) ρ H1) → R J H1 :=
  tG_bnd (R := RVs T) h fun ρ s lo xs vs H1 r rl hx p J hJ => p ρ H1 J .refl r (hJ ρ s xs r hx)
theorem ci_tup {e : Expr} {me : EM} (he : PE X e (tE T W me)) (hK : X.K = T.K := by rfl) : PI X tg e (tI T W (iFix (aTup me))) := pi_mono (pi_tup he) fun σ H R h => by
  obtain ⟨ρ, s, lo, r, rl, p⟩ := h
  refine po_bnd (R := RV T) (m := me) (f := fun x => bnd (match x with | .tup xs => ret xs | _ => failM) fun xs => ret (nxFix xs)) (R' := fun ρ H nx J => ItOk T J nx ρ H) (Q := R) r rl ?_ fun ρ1 s1 x z H1 ext1 r1 rl1 hx p1 => ?_
  · unfold iFix aTup at p
    unfold bnd at p ⊢
    cases e : me lo s <;> rw [e] at p <;> exact p
  · cases hx with
    | tup h1 h2 =>
      rename_i a vs xs
      refine ⟨a, rfl, ⟨vs, by rw [hK]; exact h1⟩, p1 ρ1 H1 _ .refl r1 ?_⟩
      intro ρ2 H2 s2 i e2 r2
      have h1' := e2.tup _ _ h1
      have h2' := h2.mono e2
      rw [← hK] at h1'
      simp only [nxFix]
      cases e : xs[i]? with
      | none =>
        have : xs.length ≤ i := List.getElem?_eq_none_iff.mp e
        exact ⟨vs, h1', by rw [← h2'.length]; exact this⟩
      | some v =>
        obtain ⟨z, hz, rz⟩ := h2'.get e
        refine ⟨⟨vs, z, h1', hz⟩, fun x H3 y => ?_⟩
        obtain ⟨rfl, y⟩ := y
        have := y vs h1'
        rw [hz] at this
        cases this
        exact ⟨.refl, r2, rz⟩
    | _ => exact p1.elim
end
end Sm

/-! S7: what is walked; while; comprehensions -/
namespace Sm
open PySem L2
section
variable {X : Cx} {T : Tb} {W : WX} {tg : Expr} {pos p : Pos}
theorem ok_rng {lo : Int} {n : Nat} {ρ : List Addr} {H : Hp} : ItOk T (Itr lo n) (nxFix (rng lo n)) ρ H := by
  intro ρ1 H1 s i e r
  simp only [nxFix, rng]
  by_cases h : i < n
  · rw [List.getElem?_map, List.getElem?_range h]
    refine ⟨h, fun x H2 y => ?_⟩
    obtain ⟨rfl, rfl⟩ := y
    exact ⟨.refl, r, .int _⟩
  · rw [List.getElem?_eq_none (by simp; omega)]
    exact Nat.le_of_not_lt h
theorem ci_rng1 {a : Expr} {ma : AM} (hg : Gl X "range") (hm : X.mg "range" = none) (ha : PA X [a] (tA T W ma)) (hs : starEach [a] X.env = [(false, eval a X.env)] := by rfl) : PI X tg (.Call (.Name "range" p) [a] [] pos) (tI T W (iFix (aRng ma))) :=
  pi_mono (pi_range1 hg hm ha hs) fun σ H R h => by
    obtain ⟨ρ, s, lo, r, rl, q⟩ := h
    unfold iFix aRng at q
    rw [bnd_bnd] at q
    refine po_bnd (R := RVs T) (m := ma) r rl q fun ρ1 s1 xs zs H1 ext1 r1 rl1 hx p1 => ?_
    split at p1
    · rename_i n
      split at p1
      · rename_i hn
        obtain ⟨z, rfl, hz⟩ := hx.one
        exact ⟨n, by rw [hz.intE], hn.1, hn.2, p1 ρ1 H1 _ .refl r1 ok_rng⟩
      · exact p1.elim
    · exact p1.elim
theorem ci_rng2 {a b : Expr} {ma : AM} (hg : Gl X "range") (hm : X.mg "range" = none) (ha : PA X [a, b] (tA T W ma)) (hs : starEach [a, b] X.env = [(false, eval a X.env), (false, eval b X.env)] := by rfl) (hs2 : starEach [b] X.env = [(false, eval b X.env)] := by rfl) :
    PI X tg (.Call (.Name "range" p) [a, b] [] pos) (tI T W (iFix (aRng2 ma))) :=
  pi_mono (pi_range2 hg hm ha hs hs2) fun σ H R h => by
    obtain ⟨ρ, s, lo, r, rl, q⟩ := h
    unfold iFix aRng2 at q
    rw [bnd_bnd] at q
    refine po_bnd (R := RVs T) (m := ma) r rl q fun ρ1 s1 xs zs H1 ext1 r1 rl1 hx p1 => ?_
    split at p1
    · rename_i i j
      split at p1
      · rename_i hn
        obtain ⟨z, z', rfl, hz, hz'⟩ := hx.two
        exact ⟨i, j, by rw [hz.intE, hz'.intE], hn, p1 ρ1 H1 _ .refl r1 ok_rng⟩
      · exact p1.elim
    · exact p1.elim
theorem ci_lst {e : Expr} {me : EM} (he : PE X e (tE T W me)) (hK : X.K = T.K := by rfl) : PI X tg e (tI T W (iLst me)) := pi_mono (pi_list he) fun σ H R h => by
  obtain ⟨ρ, s, lo, r, rl, q⟩ := h
  refine po_bnd (R := RV T) (m := me) r rl q fun ρ1 s1 x z H1 ext1 r1 rl1 hx p1 => ?_
  cases hx with
  | ref ha =>
    rename_i j a
    simp only at p1
    split at p1
    · rename_i xs hj
      obtain ⟨vs, h1, h2⟩ := r1.lst hj ha
      refine ⟨a, rfl, ⟨vs, SqL.of h1⟩, p1 ρ1 H1 _ .refl r1 ?_⟩
      intro ρ2 H2 s2 i e2 r2
      have ha2 := e2.pre _ _ ha
      unfold nxLst
      cases e : s2[j]? with
      | none => trivial
      | some o =>
        cases o with
        | lst ys =>
          obtain ⟨us, g1, g2⟩ := r2.lst e ha2
          simp only
          cases e3 : ys[i]? with
          | none => exact ⟨us, SqL.of g1, by rw [← g2.length]; exact List.getElem?_eq_none_iff.mp e3⟩
          | some v =>
            obtain ⟨w, hw, rw'⟩ := g2.get e3
            refine ⟨⟨us, w, SqL.of g1, hw⟩, fun x H3 y => ?_⟩
            obtain ⟨rfl, y⟩ := y
            have := y us (SqL.of g1)
            rw [hw] at this
            cases this
            exact ⟨.refl, r2, rw'⟩
        | _ => trivial
    · exact p1.elim
  | _ => exact p1.elim
/-- enumerate(list) -/
theorem ci_enm {e : Expr} {ma : AM} {elts : List Expr} {kk : Nat} {tpos : Pos} (hg : Gl X "enumerate") (hm : X.mg "enumerate" = none) (ha : PA X [e] (tA T W ma)) (hs : starEach [e] X.env = [(false, eval e X.env)] := by rfl) (hK : X.K = T.K := by rfl) :
    PI X (.Tuple elts kk tpos) (.Call (.Name "enumerate" p) [e] [] pos) (tI T W (iEnm ma)) := pi_mono (pi_enum hg hm ha hs) fun σ H R h => by
  obtain ⟨ρ, s, lo, r, rl, q⟩ := h
  refine po_bnd (R := RVs T) (m := ma) r rl q fun ρ1 s1 xs zs H1 ext1 r1 rl1 hx p1 => ?_
  split at p1
  · rename_i j
    obtain ⟨z, rfl, hz⟩ := hx.one
    obtain ⟨a, rfl, ha⟩ := hz.refE
    split at p1
    · rename_i ys hj
      obtain ⟨vs, h1, h2⟩ := r1.lst hj ha
      refine ⟨a, vs, rfl, SqL.of h1, p1 ρ1 H1 _ .refl r1 ?_⟩
      intro ρ2 H2 s2 i e2 r2
      have ha2 := e2.pre _ _ ha
      unfold nxEnum
      cases e : s2[j]? with
      | none => trivial
      | some o =>
        cases o with
        | lst ys =>
          obtain ⟨us, g1, g2⟩ := r2.lst e ha2
          simp only
          cases e3 : ys[i]? with
          | none => exact ⟨us, SqL.of g1, by rw [← g2.length]; exact List.getElem?_eq_none_iff.mp e3⟩
          | some v =>
            obtain ⟨w, hw, rw'⟩ := g2.get e3
            refine ⟨⟨us, w, SqL.of g1, hw⟩, fun x H3 y => ?_⟩
            obtain ⟨q, u, rfl, hq, rfl, y⟩ := y
            have := y us (SqL.of g1)
            rw [hw] at this
            cases this
            exact ⟨ext_upd hq, r2.laid hq, .tup (SqT.of upd_same) (.cons (.int _) (.cons (rw'.mono (ext_upd hq)) .nil))⟩
        | _ => trivial
    · exact p1.elim
  · exact p1.elim
end
/-! ### while -/
def loopW (t : TM) (b : SM) : Nat → SM
  | 0, _, _ => .fail
  | n + 1, lo, s => match t lo s with
    | .fail => .fail
    | .exc e s' => .exc e lo s'
    | .ok false s' => .nx lo s'
    | .ok true s' => match b lo s' with
      | .nx lo2 s2 => loopW t b n lo2 s2
      | .ct lo2 s2 => loopW t b n lo2 s2
      | .bk lo2 s2 => .nx lo2 s2
      | .rt v2 s2 => .rt v2 s2
      | .exc e lo2 s2 => .exc e lo2 s2
      | .fail => .fail
section
variable {X : Cx} {T : Tb} {W : WX} {c : Expr} {body : List Stmt} {mt : TM} {b : SM} {pos : Pos}
theorem cs_while (n : Nat) (hp : PassesOwn (model X.prog X.w) X.A X.env X.xe) (hc : PT X c (tT T W mt)) (hb : PSs X body (tS T W b)) : PS X (.While c body [] pos) (tS T W (loopW mt b n)) :=
  ps_mono (ps_while hp hc hb) fun D σ H h => by
    obtain ⟨ρ, s, lo, r, rl, p⟩ := h
    refine ⟨fun k σ H => ∃ ρ s lo, Rel T ρ H s ∧ RL T ρ H lo σ ∧ PoS T W ρ H (loopW mt b k lo s) D, ⟨n, ρ, s, lo, r, rl, p⟩, ?_⟩
    rintro k σ1 H1 ⟨ρ, s, lo, r, rl, p⟩
    cases k with
    | zero => exact p.elim
    | succ k =>
      unfold loopW at p
      refine ⟨ρ, s, lo, r, rl, ?_⟩
      cases e : mt lo s with
      | fail => simp only [e] at p; exact p
      | exc z s' => simp only [e] at p; exact fun ρ' H' C x r' hC => p ρ' H' σ1 C x r' (rl.mono x) hC
      | ok c s' =>
        intro ρ2 H2 c' x2 r2 ec
        cases ec
        cases c with
        | false =>
          simp only [e] at p
          exact p ρ2 H2 σ1 x2 r2 (rl.mono x2)
        | true =>
          simp only [e] at p
          refine ⟨fun σ' H' => ∃ ρ s lo, Rel T ρ H' s ∧ RL T ρ H' lo σ' ∧ PoS T W ρ H' (loopW mt b k lo s) D, fun σ' H' h => ⟨k, Nat.lt_succ_self k, h⟩, ρ2, s', lo, r2, rl.mono x2, ?_⟩
          have p := p.mono x2
          cases e3 : b lo s' with
          | nx lo2 s2 => simp only [e3] at p; exact fun ρ4 H4 σ4 x4 r4 rl4 => ⟨ρ4, s2, lo2, r4, rl4, p.mono x4⟩
          | ct lo2 s2 => simp only [e3] at p; exact fun ρ4 H4 σ4 x4 r4 rl4 => ⟨ρ4, s2, lo2, r4, rl4, p.mono x4⟩
          | bk lo2 s2 => simp only [e3] at p; exact p
          | rt v2 s2 => simp only [e3] at p; exact p
          | exc z lo2 s2 => simp only [e3] at p; exact p
          | fail => simp only [e3] at p; exact p
end
/-! ### targets of several names -/
def gNs : List Nat → TGs
  | [] => gNil
  | j :: js => gCons (gName j) (gNs js)
section
variable {X : Cx} {T : Tb} {W : WX} {pos : Pos}
theorem gNs_ok {ρ : List Addr} {H : Hp} {Q : St → Hp → Prop} : ∀ {js : List Nat} {xs : List Vl} {vs : List V} {lo lo' : Lo} {σ : St}, RVs T ρ H xs vs → RL T ρ H lo σ → gNms js xs lo = some lo' → (∀ σ', RL T ρ H lo' σ' → Q σ' H) → gNs js vs σ H Q
  | [], [], _, _, _, _, .nil, rl, e, k => by
    cases e
    exact ⟨rfl, k _ rl⟩
  | [], _ :: _, _, _, _, _, _, _, e, _ => by cases e
  | _ :: _, [], _, _, _, _, _, _, e, _ => by cases e
  | j :: js, x :: xs, _, lo, lo', σ, .cons h hs, rl, e, k => ⟨_, _, rfl, gNs_ok hs (rl.set j h) (show gNms js xs (lo.set j (some x)) = some lo' from e) k⟩
theorem gNms_len : ∀ {js : List Nat} {xs : List Vl} {lo lo' : Lo}, gNms js xs lo = some lo' → xs.length = js.length
  | [], [], _, _, _ => rfl
  | [], _ :: _, _, _, e => by cases e
  | _ :: _, [], _, _, e => by cases e
  | j :: js, x :: xs, lo, lo', e => by
    rw [List.length_cons, List.length_cons, gNms_len (show gNms js xs (lo.set j (some x)) = some lo' from e)]
theorem cg_tup {es : List Expr} {k : Nat} {js : List Nat} (h : PG X (.Tuple es k pos) (gTup X.K js.length (gNs js))) (hK : X.K = T.K := by rfl) : PG X (.Tuple es k pos) (tGt T W (gTp js)) := pg_mono h fun z σ H Q h => by
  obtain ⟨ρ, s, lo, v, r, rl, hv, p⟩ := h
  unfold gTp at p
  split at p
  · rename_i xs
    split at p
    · rename_i lo' e
      obtain ⟨a, vs, rfl, h1, h2⟩ := hv.tupE
      exact ⟨a, vs, rfl, by rw [hK]; exact h1, by rw [← h2.length]; exact gNms_len e, gNs_ok h2 rl e fun σ' rl' => p ρ H σ' .refl r rl'⟩
    · exact p.elim
  · exact p.elim
end
/-! ### comprehensions -/
def wipeL (lo : Lo) : List Nat → Lo
  | [] => lo
  | v :: vs => (wipeL lo vs).set v none
abbrev GL := Vl → Lo → Option Lo
def glN (j : Nat) : GL := fun v lo => some (lo.set j (some v))
def glT (js : List Nat) : GL := fun v lo => match v with
  | .tup xs => gNms js xs lo
  | _ => none
def tTrue : TM := fun _ => ret true
/-- one turn: kept or not -/
def lcStep (t : TM) (e : EM) (d : Nat) (lo : Lo) (s : Sto) : Option Sto := match t lo s with
  | .ok false s1 => some s1
  | .ok true s1 => match e lo s1 with
    | .ok y s2 => match s2[d]? with
      | some (.lst acc) => if acc.length < LIM then some (s2.set d (.lst (acc ++ [y]))) else none
      | _ => none
    | _ => none
  | _ => none
def lcN (nx : NX) (g : GL) (t : TM) (e : EM) (d : Nat) (lo : Lo) : Nat → Nat → Sto → Option Sto
  | 0, _, _ => none
  | n + 1, i, s => match nx i s with
    | none => none
    | some none => some s
    | some (some v) => match g v lo with
      | none => none
      | some lo' => match lcStep t e d lo' s with
        | none => none
        | some s' => lcN nx g t e d lo n (i + 1) s'
def lcX (g : GL) (t : TM) (e : EM) (d : Nat) (lo : Lo) : List Vl → Sto → Option Sto
  | [], s => some s
  | v :: vs, s => match g v lo with
    | none => none
    | some lo' => match lcStep t e d lo' s with
      | none => none
      | some s' => lcX g t e d lo vs s'
def eLc (n : Nat) (m : IM) (g : GL) (t : TM) (e : EM) (vs : List Nat) : EM := fun lo => bnd (m lo) fun nx s => match lcN nx g t e s.length (wipeL lo vs) n 0 (s ++ [.lst []]) with
  | some s' => .ok (.ref s.length) s'
  | none => .fail
def eLcX (m : AM) (g : GL) (t : TM) (e : EM) (vs : List Nat) : EM := fun lo => bnd (m lo) fun xs s => match lcX g t e s.length (wipeL lo vs) xs (s ++ [.lst []]) with
  | some s' => .ok (.ref s.length) s'
  | none => .fail
theorem lcX_eq (g : GL) (t : TM) (e : EM) (d : Nat) (lo : Lo) (all : List Vl) : ∀ (n i : Nat) (s : Sto), all.length - i < n → lcN (nxFix all) g t e d lo n i s = lcX g t e d lo (all.drop i) s := by
  intro n
  induction n with
  | zero => intro i s h; omega
  | succ n ih =>
    intro i s h
    unfold lcN
    simp only [nxFix]
    cases h1 : all[i]? with
    | none =>
      have : all.length ≤ i := List.getElem?_eq_none_iff.mp h1
      rw [List.drop_eq_nil_of_le this]
      rfl
    | some v =>
      obtain ⟨hi, hv⟩ := List.getElem?_eq_some_iff.mp h1
      rw [List.drop_eq_getElem_cons hi, hv]
      simp only [lcX]
      cases g v lo with
      | none => rfl
      | some lo' =>
        simp only
        cases lcStep t e d lo' s with
        | none => rfl
        | some s' => exact ih (i + 1) s' (by omega)
theorem wipe_get (σ : St) (i : Nat) : ∀ vs : List Nat, (wipe σ vs)[i]? = if i ∈ vs ∧ i < σ.length then some none else σ[i]?
  | [] => by simp [wipe]
  | v :: vs => by
    unfold wipe
    rw [List.getElem?_set, wipe_get σ i vs, wipe_length]
    by_cases h : v = i
    · subst h
      by_cases h2 : v < σ.length
      · rw [if_pos rfl, if_pos h2, if_pos ⟨List.mem_cons_self .., h2⟩]
      · rw [if_pos rfl, if_neg h2, if_neg (fun z => h2 z.2)]
        rw [List.getElem?_eq_none (by omega)]
    · rw [if_neg h]
      by_cases h3 : i ∈ vs ∧ i < σ.length
      · rw [if_pos h3, if_pos ⟨List.mem_cons_of_mem _ h3.1, h3.2⟩]
      · rw [if_neg h3, if_neg]
        rintro ⟨a, b⟩
        rcases List.mem_cons.mp a with q | q
        · exact h q.symm
        · exact h3 ⟨q, b⟩
theorem wipe_set {σ : St} {vs : List Nat} {j : Nat} {x : Option V} (hj : j ∈ vs) : wipe (σ.set j x) vs = wipe σ vs := by
  apply List.ext_getElem?
  intro i
  rw [wipe_get, wipe_get, List.length_set]
  by_cases h : i ∈ vs ∧ i < σ.length
  · rw [if_pos h, if_pos h]
  · rw [if_neg h, if_neg h]
    by_cases e : j = i
    · subst e
      have : ¬ j < σ.length := fun z => h ⟨hj, z⟩
      rw [List.getElem?_eq_none (by rw [List.length_set]; omega), List.getElem?_eq_none (by omega)]
    · rw [List.getElem?_set_ne e]
theorem wipe_wipe (σ : St) (vs : List Nat) : wipe (wipe σ vs) vs = wipe σ vs := by
  apply List.ext_getElem?
  intro i
  rw [wipe_get, wipe_get, wipe_length]
  split <;> rfl
section
variable {X : Cx} {T : Tb} {W : WX} {pos : Pos}
abbrev WF : WX := fun _ _ _ _ => False
theorem RL.wipe {ρ : List Addr} {H : Hp} {lo : Lo} {σ : St} (rl : RL T ρ H lo σ) : ∀ vs : List Nat, RL T ρ H (wipeL lo vs) (wipe σ vs)
  | [] => rl
  | v :: vs => by
    have ih := RL.wipe rl vs
    unfold wipeL L2.wipe
    refine ⟨by rw [List.length_set, List.length_set]; exact ih.len, fun i x h => ?_⟩
    by_cases e : v = i
    · subst e
      by_cases hv : v < (wipeL lo vs).length
      · rw [List.getElem?_set_self hv] at h; cases h
      · rw [List.getElem?_eq_none (by rw [List.length_set]; omega)] at h; cases h
    · rw [List.getElem?_set_ne e] at h ⊢
      exact ih.at_ i x h
/-- how a comprehension's target stores: the reading gt and the pure gl agree, and stay within the own slots -/
def TgOk (T : Tb) (gt : TG) (gl : GL) (vs : List Nat) : Prop := ∀ (ρ : List Addr) (H : Hp) (lo lo' : Lo) (σ : St) (v : Vl) (z : V) (Q : St → Hp → Prop), RL T ρ H lo (wipe σ vs) → RV T ρ H v z → gl v lo = some lo' →
  (∀ σ', RL T ρ H lo' σ' → L2.wipe σ' vs = L2.wipe σ vs → Q σ' H) → gt z (L2.wipe σ vs) H Q
theorem tg_name {j : Nat} {vs : List Nat} (hj : j ∈ vs) : TgOk T (gName j) (glN j) vs := fun ρ H lo lo' σ v z Q rl hv e k => by
  cases e
  exact k _ (rl.set j hv) (by rw [wipe_set hj, wipe_wipe])
theorem gNs_w {ρ : List Addr} {H : Hp} {Q : St → Hp → Prop} {ws : List Nat} {σ0 : St} : ∀ {js : List Nat} {xs : List Vl} {vs : List V} {lo lo' : Lo} {σ : St}, (∀ j ∈ js, j ∈ ws) → RVs T ρ H xs vs → RL T ρ H lo σ → L2.wipe σ ws = σ0 → gNms js xs lo = some lo' → (∀ σ', RL T ρ H lo' σ' → L2.wipe σ' ws = σ0 → Q σ' H) → gNs js vs σ H Q
  | [], [], _, _, _, _, _, .nil, rl, hw, e, k => by
    cases e
    exact ⟨rfl, k _ rl hw⟩
  | [], _ :: _, _, _, _, _, _, _, _, _, e, _ => by cases e
  | _ :: _, [], _, _, _, _, _, _, _, _, e, _ => by cases e
  | j :: js, x :: xs, _, lo, lo', σ, hj, .cons h hs, rl, hw, e, k => ⟨_, _, rfl, gNs_w (fun i hi => hj i (List.mem_cons_of_mem _ hi)) hs (rl.set j h) (by rw [wipe_set (hj j (List.mem_cons_self ..))]; exact hw) (show gNms js xs (lo.set j (some x)) = some lo' from e) k⟩
theorem tg_tup {js vs : List Nat} {K : PySem.W.Frag} (hj : ∀ j ∈ js, j ∈ vs) (hK : K = T.K) : TgOk T (gTup K js.length (gNs js)) (glT js) vs := fun ρ H lo lo' σ v z Q rl hv e k => by
  unfold glT at e
  split at e
  · rename_i xs
    obtain ⟨a, us, rfl, h1, h2⟩ := hv.tupE
    exact ⟨a, us, rfl, by rw [hK]; exact h1, by rw [← h2.length]; exact gNms_len e, gNs_w hj h2 rl (wipe_wipe σ vs) e k⟩
  · cases e
theorem lc_le {n : Nat} {m : IM} {gl : GL} {gt : TG} {mt : TM} {me : EM} {vs : List Nat} {σ : St} {H : Hp} {Q : VK} (hg : TgOk T gt gl vs) (h : tE T W (eLc n m gl mt me vs) σ H Q) : tLc (tI T W m) gt (tT T WF mt) (tE T WF me) vs σ H Q :=
  tG_bnd (R := fun ρ H nx J => ItOk T J nx ρ H) h fun ρ0 s0 lo0 nx J H0 r0 rl0 ok0 p0 => by
    intro D hD
    have xD : Ext T ρ0 H0 (ρ0 ++ [D]) (upd H0 D (.lst [])) := r0.newExt hD
    have rD : Rel T (ρ0 ++ [D]) (upd H0 D (.lst [])) (s0 ++ [.lst []]) := r0.new hD ⟨[], upd_same, .nil⟩
    have aD : (ρ0 ++ [D])[s0.length]? = some D := by rw [← r0.len, List.getElem?_append_right (Nat.le_refl _)]; simp
    cases e0 : lcN nx gl mt me s0.length (wipeL lo0 vs) n 0 (s0 ++ [.lst []]) with
    | none => rw [e0] at p0; exact p0.elim
    | some s9 =>
      rw [e0] at p0
      refine ⟨fun i k H => ∃ ρ s, Ext T (ρ0 ++ [D]) (upd H0 D (.lst [])) ρ H ∧ Rel T ρ H s ∧ lcN nx gl mt me s0.length (wipeL lo0 vs) k i s = some s9, ⟨n, _, _, .refl, rD, e0⟩, ?_⟩
      rintro i k H1 ⟨ρ, s, x, r, e⟩
      have hd := x.pre _ _ aD
      cases k with
      | zero => cases e
      | succ k =>
        unfold lcN at e
        have q := ok0 ρ H1 s i (xD.trans x) r
        cases e1 : nx i s with
        | none => simp only [e1] at e; cases e
        | some o =>
          simp only [e1] at e q
          cases o with
          | none =>
            cases e
            exact .inl ⟨q, p0 ρ H1 (.ref D) (xD.trans x) r (.ref hd)⟩
          | some v =>
            obtain ⟨go, yl⟩ := q
            cases e2 : gl v (wipeL lo0 vs) with
            | none => simp only [e2] at e; cases e
            | some lo' =>
              simp only [e2] at e
              cases e3 : lcStep mt me s0.length lo' s with
              | none => simp only [e3] at e; cases e
              | some s' =>
                simp only [e3] at e
                refine .inr ⟨go, fun H => ∃ ρ, Ext T (ρ0 ++ [D]) (upd H0 D (.lst [])) ρ H ∧ Rel T ρ H s', fun H' ⟨ρ', x', r'⟩ => ⟨k, Nat.lt_succ_self k, ρ', s', x', r', e⟩, fun z H2 y => ?_⟩
                obtain ⟨x1, r2, hv⟩ := yl z H2 y
                have x2 := x.trans x1
                refine hg ρ H2 (wipeL lo0 vs) lo' σ v z _ ((rl0.mono (xD.trans x2)).wipe vs) hv e2 fun σ' rl' hw => ⟨hw, ?_⟩
                unfold lcStep at e3
                refine ⟨ρ, s, lo', r2, rl', ?_⟩
                cases e4 : mt lo' s with
                | fail => simp only [e4] at e3; cases e3
                | exc z s1 => simp only [e4] at e3; cases e3
                | ok c s1 =>
                  intro ρ3 H3 c' x3 r3 ec
                  cases ec
                  cases c with
                  | false =>
                    simp only [e4] at e3
                    cases e3
                    exact ⟨ρ3, x2.trans x3, r3⟩
                  | true =>
                    simp only [e4] at e3
                    refine ⟨ρ3, s1, lo', r3, rl'.mono x3, ?_⟩
                    cases e5 : me lo' s1 with
                    | fail => simp only [e5] at e3; cases e3
                    | exc z s2 => simp only [e5] at e3; cases e3
                    | ok w s2 =>
                      simp only [e5] at e3
                      intro ρ4 H4 zw x4 r4 hw4
                      split at e3
                      · rename_i acc hacc
                        split at e3
                        · rename_i hl
                          cases e3
                          have hd4 := (x1.trans (x3.trans x4)).pre _ _ hd
                          obtain ⟨us, g1, g2⟩ := r4.lst hacc hd4
                          refine ⟨us, g1, by rw [← g2.length, lim_eq]; exact hl, ρ4, (x2.trans (x3.trans x4)).trans (r4.setExt hd4 g1), r4.set hd4 ⟨_, upd_same, (g2.append (.cons hw4 .nil)).mono (r4.setExt hd4 g1)⟩⟩
                        · cases e3
                      · cases e3
/-- the tests of a comprehension -/
theorem cts_nil : PTs X [] (tT T WF tTrue) := ⟨fun pins s σ H Q I h => pts_nil.run pins s σ H Q I (by
  obtain ⟨ρ, st, lo, r, rl, p⟩ := h
  exact p ρ H true .refl r rfl)⟩
theorem cts_one {c : Expr} {mt : TM} (h : PT X c (tT T WF mt)) : PTs X [c] (tT T WF mt) := pts_one h
theorem lcx_le {ma : AM} {gl : GL} {gt : TG} {mt : TM} {me : EM} {vs : List Nat} {σ : St} {H : Hp} {Q : VK} (hg : TgOk T gt gl vs) (h : tE T W (eLcX ma gl mt me vs) σ H Q) : tLc (tI T W (iFix ma)) gt (tT T WF mt) (tE T WF me) vs σ H Q := by
  obtain ⟨ρ, s, lo, r, rl, p⟩ := h
  unfold eLcX bnd at p
  cases e : ma lo s with
  | ok xs s' =>
    refine lc_le (n := xs.length + 1) hg ⟨ρ, s, lo, r, rl, ?_⟩
    have : eLc (xs.length + 1) (iFix ma) gl mt me vs lo s = (match lcX gl mt me s'.length (wipeL lo vs) xs (s' ++ [.lst []]) with | some s2 => .ok (.ref s'.length) s2 | none => .fail) := by
      unfold eLc iFix bnd
      simp only [e, ret]
      rw [lcX_eq gl mt me s'.length (wipeL lo vs) xs (xs.length + 1) 0 _ (by omega), List.drop_zero]
    rw [this]
    simp only [e] at p
    exact p
  | exc z s' =>
    refine lc_le (n := 1) hg ⟨ρ, s, lo, r, rl, ?_⟩
    have : eLc 1 (iFix ma) gl mt me vs lo s = .exc z s' := by
      unfold eLc iFix bnd
      simp only [e]
    rw [this]
    simp only [e] at p
    exact p
  | fail => simp only [e] at p; exact p.elim
end
end Sm

/-! S8: comprehensions as expressions; defs and their calls; attributes -/
namespace Sm
open PySem PySem.Spec PyProof.Rows L2
section
variable {X : Cx} {T : Tb} {W : WX} {elt tg iter : Expr} {ifs : List Expr} {scope : Scope} {own : List (Str × Nat)} {pos spos py : Pos} {m : IM} {ma : AM} {gt : TG} {gl : GL} {mt : TM} {me : EM}
theorem ce_lc (n : Nat) (hc : X.calm = true) (hN : X.N.Nodup) (hi : PI X tg iter (tI T W m)) (ok : BlkOk X.N X.env.scope scope own) (ho : TgOk T gt gl (own.map (·.2)))
    (hg : ∀ s H C cl fp, PG (X.blk s H scope (compEnvC scope cl C X.env) fp) tg gt) (ht : ∀ s H C cl fp, PTs (X.blk s H scope (compEnvC scope cl C X.env) fp) ifs (tT T WF mt))
    (he : ∀ s H C cl fp, PE (X.blk s H scope (compEnvC scope cl C X.env) fp) elt (tE T WF me)) (hs : ∀ x, foldedSetIterable iter X.env x = pure x := by intro _; rfl) :
    PE X (.ListComp elt [⟨tg, iter, ifs, 0⟩] scope pos) (tE T W (eLc n m gl mt me (own.map (·.2)))) := pe_mono (pe_lc hc hN hi ok hg ht he hs) fun _ _ _ h => lc_le ho h
theorem ce_lcX (hc : X.calm = true) (hN : X.N.Nodup) (hi : PI X tg iter (tI T W (iFix ma))) (ok : BlkOk X.N X.env.scope scope own) (ho : TgOk T gt gl (own.map (·.2)))
    (hg : ∀ s H C cl fp, PG (X.blk s H scope (compEnvC scope cl C X.env) fp) tg gt) (ht : ∀ s H C cl fp, PTs (X.blk s H scope (compEnvC scope cl C X.env) fp) ifs (tT T WF mt))
    (he : ∀ s H C cl fp, PE (X.blk s H scope (compEnvC scope cl C X.env) fp) elt (tE T WF me)) (hs : ∀ x, foldedSetIterable iter X.env x = pure x := by intro _; rfl) :
    PE X (.ListComp elt [⟨tg, iter, ifs, 0⟩] scope pos) (tE T W (eLcX ma gl mt me (own.map (·.2)))) := pe_mono (pe_lc hc hN hi ok hg ht he hs) fun _ _ _ h => lcx_le ho h
/-- y = [..] on one line -/
theorem cs_setLc (n : Nat) {i : Nat} {y : Str} (hc : X.calm = true) (hN : X.N.Nodup) (hy : X.N[i]? = some y) (hyl : X.env.scope.names.lookup y = some .local)
    (hsw : swapsWith (.ListComp elt [⟨tg, iter, ifs, 0⟩] scope pos) (some (.Name y py)) spos.line X.env = pure true) (hi : PI X tg iter (tI T W m)) (ok : BlkOk X.N X.env.scope scope own) (ho : TgOk T gt gl (own.map (·.2)))
    (hg : ∀ s H C cl fp, PG (X.blk s H scope (compEnvC scope cl C X.env) fp) tg gt) (ht : ∀ s H C cl fp, PTs (X.blk s H scope (compEnvC scope cl C X.env) fp) ifs (tT T WF mt))
    (he : ∀ s H C cl fp, PE (X.blk s H scope (compEnvC scope cl C X.env) fp) elt (tE T WF me)) (hs : ∀ x, foldedSetIterable iter X.env x = pure x := by intro _; rfl) :
    PS X (.Assign [.Name y py] (.ListComp elt [⟨tg, iter, ifs, 0⟩] scope pos) spos) (tS T W (sSet i (eLc n m gl mt me (own.map (·.2))))) := ps_mono (ps_setLc hc hN hy hyl hsw hi ok hg ht he hs) fun _ _ _ h => lc_le ho (tasg_le h)
theorem cs_setLcX {i : Nat} {y : Str} (hc : X.calm = true) (hN : X.N.Nodup) (hy : X.N[i]? = some y) (hyl : X.env.scope.names.lookup y = some .local)
    (hsw : swapsWith (.ListComp elt [⟨tg, iter, ifs, 0⟩] scope pos) (some (.Name y py)) spos.line X.env = pure true) (hi : PI X tg iter (tI T W (iFix ma))) (ok : BlkOk X.N X.env.scope scope own) (ho : TgOk T gt gl (own.map (·.2)))
    (hg : ∀ s H C cl fp, PG (X.blk s H scope (compEnvC scope cl C X.env) fp) tg gt) (ht : ∀ s H C cl fp, PTs (X.blk s H scope (compEnvC scope cl C X.env) fp) ifs (tT T WF mt))
    (he : ∀ s H C cl fp, PE (X.blk s H scope (compEnvC scope cl C X.env) fp) elt (tE T WF me)) (hs : ∀ x, foldedSetIterable iter X.env x = pure x := by intro _; rfl) :
    PS X (.Assign [.Name y py] (.ListComp elt [⟨tg, iter, ifs, 0⟩] scope pos) spos) (tS T W (sSet i (eLcX ma gl mt me (own.map (·.2))))) := ps_mono (ps_setLc hc hN hy hyl hsw hi ok hg ht he hs) fun _ _ _ h => lcx_le ho (tasg_le h)
end

/-! ### defs -/
/-- a def's promise where no repr runs around -/
structure FnG (P : Program) (w : World) (K : PySem.W.Frag) (mg : Str → Option Value) (base : Heap) (k : Nat) (f : Addr) (fd : FuncData) (ps : List Str) (sp : Sp) : Prop where
  len : ∀ vs H Q E, sp vs H Q E → vs.length = ps.length
  run : ∀ (A : Around) (outer : List Env) (s : Shared) (H : Hp) (args : Args) (us : List Value) (vs : List V) (Q : VK) (E : XK), Room k A → A.guards = some [] → Env0 P w K mg base A outer s H → BindsTo s fd args (ps.zip us) → Vals vs us → sp vs H Q E →
    codeAny (model P w) A (.call (.ref f) args) (CR (L2.CX P w) outer P w H s Q E) s
theorem FnG.mono {P : Program} {w : World} {K : PySem.W.Frag} {mg : Str → Option Value} {base : Heap} {j k : Nat} {f : Addr} {fd : FuncData} {ps : List Str} {sp : Sp} (F : FnG P w K mg base j f fd ps sp) (h : j ≤ k) : FnG P w K mg base k f fd ps sp :=
  ⟨F.len, fun A outer s H args us vs Q E hr => F.run A outer s H args us vs Q E (hr.mono h)⟩
/-- a def by its body -/
theorem fnG_of {P : Program} {w : World} {K : PySem.W.Frag} {mg : Str → Option Value} {base : Heap} {k : Nat} {x qual : Str} {st : Stmt} {f : Addr} {fd : FuncData} {N ps : List Str} {sp : Sp} (F : Fun K x qual st f fd) (S : FnScope N ps (defScope st)) (len : ∀ vs H Q E, sp vs H Q E → vs.length = ps.length)
    (hbody : ∀ (cdv : Value) (A : Around) (outer : List Env) (s : Shared) (H : Hp) (vs : List V) (Q : VK) (E : XK), Room k (A.deeper (envOfC qual (defScope st) s.heap.objs.size f cdv)) → A.guards = some [] → sp vs H Q E →
      ∃ t, PSs (cxOf (L2.CX P w) P w K mg base N qual (defScope st) f cdv A outer s H E) (defBody st) t ∧ t { nx := fun _ H' => Q .non H', rt := Q } (L2.start N vs) H) : FnG P w K mg base (k + 1) f fd ps sp := by
  obtain ⟨oc, od, kV, doc, pm, an, cdv, ct, osl, rfl, lk, hcd⟩ := F.ex
  refine ⟨len, fun A outer s H args us vs Q E hr hg e0 hb r hsp => ?_⟩
  have inK : K.In s.heap := e0.mod.kin.keeps fun b o e => (e0.bs b o e).1
  have nl : s.heap.NoLimit := e0.mod.nolimit.keeps fun b o e => (e0.bs b o e).1
  have kinds : ∀ y ∈ ps.zip us, (defScope st).names.lookup y.1 = some .local ∨ ((defScope st).names.lookup y.1 = some .cell ∧ ((cellsFrom (s.heap.objs.size + 1) (defScope st).names []).lookup y.1).isSome = true) := by
    rintro ⟨n, v⟩ hy
    exact (S.par n (List.of_mem_zip hy).1).imp id fun q => ⟨q, PySem.W.cellsFrom_some _ _ _ (.inl q)⟩
  refine codeAny_call_function hr.depth (inK _ _ lk) rfl S.co S.gen rfl (PySem.W.codeRec_of inK hcd) (hb _ _ _ _ (wpAny_newFunctionEnv_cells S.kind kinds fun env he s1 y => ?_))
  subst he
  refine ⟨nl.keeps y.toInCall.keep, codeAny_func ?_⟩
  obtain ⟨t, ht, hq⟩ := hbody cdv A outer s H vs Q E (hr.deeper _) hg hsp
  refine wpAny_mono (ht.run [] s1 (L2.start N vs) H _ (inv_start S hr.hd e0 (len _ _ _ _ hsp) r y) hq) (fun fl s' hs => ?_) fun e s' hs => hs
  cases fl with
  | ret u => obtain ⟨v, σ', H', J, rv, q⟩ := hs; exact ⟨v, H', J.os, J.bare, J.base, J.hok, rv, q⟩
  | next => obtain ⟨σ', H', J, q⟩ := hs; exact ⟨V.non, H', J.os, J.bare, J.base, J.hok, rfl, q⟩
  | brk => obtain ⟨_, _, _, q⟩ := hs; exact q.elim
  | cont => obtain ⟨_, _, _, q⟩ := hs; exact q.elim
/-- the promise of a pure function -/
def SpM (T : Tb) (n : Nat) (m : List Vl → M Vl) : Sp := fun vs H Q E => ∃ (ρ : List Addr) (s : Sto) (as : List Vl), Rel T ρ H s ∧ RVs T ρ H as vs ∧ as.length = n ∧ Po (RV T) T E ρ H (m as s) Q
/-- a body as a function; n: how many names -/
def fnM (n : Nat) (b : SM) : List Vl → M Vl := fun as s => match b (as.map some ++ List.replicate (n - as.length) none) s with
  | .nx _ s' => .ok .non s'
  | .rt v s' => .ok v s'
  | .exc e _ s' => .exc e s'
  | _ => .fail
theorem rl_start {T : Tb} {ρ : List Addr} {H : Hp} {as : List Vl} {vs : List V} {N : List Str} (h : RVs T ρ H as vs) : RL T ρ H (as.map some ++ List.replicate (N.length - as.length) none) (L2.start N vs) := by
  refine ⟨?_, fun i x e => ?_⟩
  · unfold L2.start
    simp only [List.length_append, List.length_map, List.length_replicate, h.length]
  · by_cases hi : i < as.length
    · rw [List.getElem?_append_left (by simpa using hi), List.getElem?_map] at e
      cases q : as[i]? with
      | none => rw [q] at e; cases e
      | some y =>
        rw [q] at e
        cases e
        obtain ⟨z, h1, h2⟩ := h.get q
        refine ⟨z, ?_, h2⟩
        unfold L2.start
        rw [List.getElem?_append_left (by rw [List.length_map, ← h.length]; exact hi), List.getElem?_map, h1]; rfl
    · rw [List.getElem?_append_right (by simpa using hi), List.getElem?_replicate] at e
      split at e <;> cases e
theorem fn_body {T : Tb} {N : List Str} {n : Nat} {b : SM} {vs : List V} {H : Hp} {Q : VK} {E : XK} (h : SpM T n (fnM N.length b) vs H Q E) : tS T (fun c d _ H' => E c d H') b { nx := fun _ H' => Q .non H', rt := Q } (L2.start N vs) H := by
  obtain ⟨ρ, s, as, r, hv, hl, p⟩ := h
  refine ⟨ρ, s, _, r, rl_start hv, ?_⟩
  unfold fnM at p
  cases e : b (as.map some ++ List.replicate (N.length - as.length) none) s with
  | nx lo s' => rw [e] at p; exact fun ρ' H' σ' x r' _ => p ρ' H' .non x r' .non
  | rt v s' => rw [e] at p; exact p
  | exc z lo s' => rw [e] at p; exact fun ρ' H' σ' C x r' _ hC => p ρ' H' C x r' hC
  | bk lo s' => rw [e] at p; exact p.elim
  | ct lo s' => rw [e] at p; exact p.elim
  | fail => rw [e] at p; exact p.elim
/-- a def of the text computes the pure function of its body -/
theorem fn_sim {P : Program} {w : World} {K : PySem.W.Frag} {mg : Str → Option Value} {base : Heap} {k n : Nat} {x qual : Str} {st : Stmt} {f : Addr} {fd : FuncData} {N ps : List Str} {T : Tb} {b : SM} (F : Fun K x qual st f fd) (S : FnScope N ps (defScope st)) (hn : n = ps.length)
    (body : ∀ (cdv : Value) (A : Around) (outer : List Env) (s : Shared) (H : Hp) (E : XK), Room k (A.deeper (envOfC qual (defScope st) s.heap.objs.size f cdv)) → A.guards = some [] →
      PSs (cxOf (L2.CX P w) P w K mg base N qual (defScope st) f cdv A outer s H E) (defBody st) (tS T (fun c d _ H' => E c d H') b)) : FnG P w K mg base (k + 1) f fd ps (SpM T n (fnM N.length b)) :=
  fnG_of F S (fun vs H Q E ⟨ρ, s, as, r, hv, hl, p⟩ => by rw [← hv.length, hl, hn]) fun cdv A outer s H vs Q E hr hg h => ⟨_, body cdv A outer s H E hr hg, fn_body h⟩

/-! ### calls of defs -/
section
variable {X : Cx} {T : Tb} {W : WX} {k n : Nat} {f : Addr} {fd : FuncData} {ps : List Str} {mf : List Vl → M Vl} {x : Str} {p pos apos : Pos} {e o : Expr} {es : List Expr} {ma : AM} {mo : EM} {ds : List Value} {dvs : List V} {das : List Vl}
def eCall (mf : List Vl → M Vl) (a : AM) : EM := fun lo => bnd (a lo) mf
/-- with defaults das behind the arguments -/
def eCallD (mf : List Vl → M Vl) (das : List Vl) (a : AM) : EM := fun lo => bnd (a lo) fun as => mf (as ++ das)
theorem run_G {sp : Sp} {pins : List (Addr × Obj)} {σ : L2.St} {H : Hp} {s : Shared} {Q : VK} {us : List Value} {vs : List V} (F : FnG X.prog X.w X.K X.mg X.base k f fd ps sp) (hr : Room k X.A) (hg : X.A.guards = some []) (hb : Binds X.K fd ps ds) (hd : Vals dvs ds) (tk : Takes X W)
    (I : Inv X pins σ H s) (r : Vals vs us) (h : sp (vs ++ dvs) H Q fun c d H' => W c d σ H') : wpAny (model X.prog X.w) X.A (call (.ref f) us) (EP X pins σ Q) X.xe s := by
  have r2 : Vals (vs ++ dvs) (us ++ ds) := r.append hd
  refine wpAny_call (codeAny_mono (F.run X.A X.stack s H ⟨us, []⟩ (us ++ ds) (vs ++ dvs) Q _ hr hg I.env0 (hb s us I.kIn (by rw [← r2.length]; exact F.len _ _ _ _ h)) r2 h) fun z s' hq => ?_)
  cases z with
  | error y => exact tk y s' (XE.of_call I (fun _ _ _ q => q) hq)
  | ok fl =>
    cases fl with
    | ret u => exact I.after hq
    | next => exact hq.elim
    | brk => exact hq.elim
    | cont => exact hq.elim
theorem spM_of {ρ : List Addr} {s : Sto} {as : List Vl} {vs : List V} {H : Hp} {Q : VK} {E : XK} (r : Rel T ρ H s) (hv : RVs T ρ H as vs) (hl : as.length = n) (p : Po (RV T) T E ρ H (mf as s) Q) : SpM T n mf vs H Q E := ⟨ρ, s, as, r, hv, hl, p⟩
/-- the number of arguments is checked in the pure function -/
def arg (n : Nat) (mf : List Vl → M Vl) : List Vl → M Vl := fun as s => if as.length = n then mf as s else .fail
theorem ce_call (F : FnG X.prog X.w X.K X.mg X.base k f fd ps (SpM T n mf)) (hr : Room k X.A) (hgd : X.A.guards = some []) (hg : Gl X x) (hm : X.mg x = some (.ref f)) (hk : PySem.W.keepIn X.K (.ref f) = true) (hb : Binds X.K fd ps []) (tk : Takes X W) (ha : PA X (e :: es) (tA T W ma))
    (hdb : (x == ("__debug__" : Str)) = false := by decide) (he : starEach (e :: es) X.env = (false, eval e X.env) :: starEach es X.env := by rfl) (hpl : (backTo pos (starEach es X.env)).any (·.1) = false := by rfl) :
    PE X (.Call (.Name x p) (e :: es) [] pos) (tE T W (eCall (arg n mf) ma)) := by
  refine ⟨fun pins s σ H Q I h => wpAny_Call_Name_kw (ld_glob I hg hm ?_ hdb)⟩
  have h : tA T W ma σ H fun vs H1 => SpM T n mf (vs ++ []) H1 Q fun c d H' => W c d σ H' := tG_bnd (R := RVs T) h fun ρ s lo xs zs H1 r rl hx q => by
    unfold arg at q
    split at q
    · rename_i hl
      rw [List.append_nil]
      exact spM_of r hx hl q
    · exact q.elim
  refine PySem.W.callWith_K (h₀ := X.base) I.ok.mod.kin hk (thn (ha.run pos pins s σ H _ I h) fun us s1 ⟨vs, H1, I1, r, q⟩ => ⟨I1.kIn, ?_⟩) he hpl
  exact run_G F hr hgd hb .nil tk I1 r q
theorem ce_call0 (F : FnG X.prog X.w X.K X.mg X.base k f fd ps (SpM T 0 mf)) (hr : Room k X.A) (hgd : X.A.guards = some []) (hg : Gl X x) (hm : X.mg x = some (.ref f)) (hk : PySem.W.keepIn X.K (.ref f) = true) (hb : Binds X.K fd ps []) (tk : Takes X W)
    (hdb : (x == ("__debug__" : Str)) = false := by decide) : PE X (.Call (.Name x p) [] [] pos) (tE T W (eCall mf aNil)) := by
  refine ⟨fun pins s σ H Q I h => wpAny_Call_Name_kw (ld_glob I hg hm ?_ hdb)⟩
  obtain ⟨ρ, st, lo, r, rl, q⟩ := h
  exact PySem.W.callWith_K0 I.kIn hk (run_G (us := []) (vs := []) F hr hgd hb .nil tk I .nil (spM_of (as := []) r .nil rfl q))
end
end Sm

/-! S9: the end of a law: from the pure function of the law to the row -/
namespace Sm
open PySem PySem.Spec PyProof.Rows L2
/-- nothing is tracked but the script -/
def H0 (K : PySem.W.Frag) (a : Addr) (ob : Obj) (ns : List Int) : Hp := fun b => if b = a ∧ (K.lookup a).isNone = true then some (.frz ob (.lst (ns.map V.int))) else none
theorem H0_some {K : PySem.W.Frag} {a b : Addr} {ob : Obj} {ns : List Int} {u : HO} (h : H0 K a ob ns b = some u) : b = a ∧ K.lookup a = none ∧ u = .frz ob (.lst (ns.map V.int)) := by
  unfold H0 at h
  split at h
  · rename_i q
    cases h
    refine ⟨q.1, ?_, rfl⟩
    cases e : K.lookup a with
    | none => rfl
    | some o => rw [e] at q; exact absurd q.2 (by simp)
  · cases h
theorem law_G {P : Program} {w : World} {T : Tb} {mg mb : Str → Option Value} {k : Nat} {fa a : Addr} {fd : FuncData} {x : Str} {m : List Vl → M Vl} {s₁ : Shared} {vs : List Value} {ns : List Int} {st : Sto}
    (KX : T.K.In s₁.heap) (hns : s₁.heap.Ns mainGlobals mg) (hb : s₁.heap.Ns builtinsNs mb) (hbb : ∀ x : Str, x ≠ "__name__" → mb x = bootBuiltins x) (hlim : s₁.heap.NoLimit) (hg : s₁.gens = #[])
    (ha : s₁.heap.get? a = some { cls := .type "list", data := .seq vs.toArray }) (hi : IntsAre vs ns) (hl : ns.length ≤ sizeLine) (hr : Room k callerA)
    (F : ∀ base : Heap, T.K.In base → base.Ns mainGlobals mg → FnG P w T.K mg base k fa fd [x] (SpM T 1 m)) (hbind : ∀ (s : Shared) (u : Value), BindsTo s fd ⟨[u], []⟩ [(x, u)])
    (hm : m [.scr ns] [] = .ok (.bl true) st) :
    codeAny (model P w) callerA (.call (.ref fa) ⟨[.ref a], []⟩) (fun r s' => r = .ok (.ret (.bool true)) ∧ OldK s₁.heap s'.heap ∧ s'.os = s₁.os ∧ AllBare s'.gens) s₁ := by
  have rv := vals_ints hi
  let ob : Obj := { cls := .type "list", data := .seq vs.toArray }
  let H := H0 T.K a ob ns
  have out : ∀ {b : Addr} {o : Obj}, s₁.heap.get? b = some o → b ≠ a → (hidT s₁.heap H).get? b = some o := fun {b o} e n => hidT_get e (by
    cases q : H b with
    | none => rfl
    | some u => exact absurd (H0_some q).1 n)
  have nd : ∀ {b : Addr} {m : Str → Option Value}, s₁.heap.Ns b m → (hidT s₁.heap H).Ns b m := fun {b m} ⟨o, es, ep, e, d, r⟩ => ⟨o, es, ep, out e (fun z => by
    subst z
    rw [ha] at e
    cases e
    have d : Data.seq vs.toArray _ = Data.dict es ep := d
    cases d), d, r⟩
  have inB : T.K.In (hidT s₁.heap H) := fun b o e => hidT_get (KX b o e) (by
    cases q : H b with
    | none => rfl
    | some u =>
      obtain ⟨rfl, h2, _⟩ := H0_some q
      rw [h2] at e
      cases e)
  have md : Mod T.K mg (hidT s₁.heap H) := ⟨inB, nd hns, ⟨mb, nd hb, hbb⟩, let ⟨mc, h1, h2⟩ := hlim; ⟨mc, nd h1, h2⟩⟩
  have hok : HOk P w H s₁.heap := fun b u q => by
    obtain ⟨rfl, h2, rfl⟩ := H0_some q
    exact ⟨ha, by rw [List.length_map]; exact hl, vs, _, rv, ha⟩
  have e0 : Env0 P w T.K mg (hidT s₁.heap H) callerA [] s₁ H := ⟨rfl, md, fun b o e => of_hidT e, Nat.le_of_eq (hidT_size _ _), trivial, fun b hb => absurd hb (List.not_mem_nil), hok, .of_eq hg⟩
  have rs : RV T [] H (.scr ns) (.ref a) := by
    cases q : T.K.lookup a with
    | none => exact .scr (o := ob) (by show H0 T.K a ob ns a = _; unfold H0; rw [if_pos ⟨rfl, by rw [q]; rfl⟩])
    | some o =>
      have e := KX a o q
      rw [ha] at e
      cases e
      exact .scrK fun H' => .inr ⟨_, vs.toArray, _, q, rfl, rfl, rfl, by rw [List.size_toArray, ← rv.length, List.length_map]; exact hl, by simpa using rv⟩
  have sp : SpM T 1 m [.ref a] H (fun v _ => v = .bl true) fun _ _ _ => False := ⟨[], [], [.scr ns], ⟨rfl, List.nodup_nil, fun i a o h _ => by simp at h⟩, .cons rs .nil, rfl, by
    rw [hm]
    exact fun ρ' H' z _ _ hz => hz.blE⟩
  refine codeAny_mono ((F _ inB (nd hns)).run callerA [] s₁ H ⟨[.ref a], []⟩ [.ref a] [.ref a] _ _ hr rfl e0 (hbind s₁ (.ref a)) (.cons rfl .nil) sp) fun r s' h => ?_
  cases r with
  | error e =>
    obtain ⟨_, _, _, _, _, _, _, _, _, _, _, _, z⟩ := h
    exact z.elim
  | ok fl =>
    cases fl with
    | next => exact h.elim
    | brk => exact h.elim
    | cont => exact h.elim
    | ret u =>
      obtain ⟨v, H', os, bare, un, hok', r', q⟩ := h
      have q : v = .bl true := q
      subst q
      obtain rfl : u = Value.bool true := r'
      refine ⟨rfl, OldK.of_keep fun b o e => ?_, os, bare⟩
      cases q : H b with
      | none => exact un.keep b o e q (fun z => absurd z (List.not_mem_nil)) (List.not_mem_nil)
      | some u =>
        obtain ⟨rfl, h2, rfl⟩ := H0_some q
        have z2 := un.frzs b _ _ q
        obtain ⟨e2, _⟩ := hok' b _ z2
        rw [ha] at e
        cases e
        exact e2
/-- the goal that the head leaves, from the law's pure function -/
theorem walk_G {l : PySem.W.OpenLaw} {n k : Nat} {q : Program} {loose : List Str} {XP : (Str → Option Value) → Heap → Prop} {YP : World → Heap → Prop} {d : DefRec} {K : Params → PySem.W.Frag} {x : Str} {m : List Vl → M Vl}
    (hn : l.most = some n) (hn2 : n ≤ sizeLine) (hdf : d.params.defaults = []) (hr : Room k callerA) (hY : ∀ (w : World) (h : Heap), YP w h → (K w.params).In h)
    (F : ∀ (w : World) (mg : Str → Option Value) (fa : Addr) (h : Heap), (K w.params).In h → h.Ns mainGlobals mg → mg d.name = some (.ref fa) → ∃ (T : Tb) (fd : FuncData), T.K = K w.params ∧ (∀ (s : Shared) (u : Value), BindsTo s fd ⟨[u], []⟩ [(x, u)]) ∧
        ∀ base : Heap, T.K.In base → base.Ns mainGlobals mg → FnG l.prog w T.K mg base k fa fd [x] (SpM T 1 m))
    (hm : ∀ ns : List Int, ns.length ≤ n → ∃ st, m [.scr ns] [] = .ok (.bl true) st) :
    PySem.W.WalkO q loose XP YP l.row.toRowW d [] (fun f vs => PySem.call f vs) := by
  refine Att.attach_call hn hdf fun w s₀ s₁ mg mb fa o pm cd doc a vs ns G Y ho hd hcd hmg hobj hints hlen hg => ?_
  obtain ⟨T, fd, eT, hb, hF⟩ := F w mg fa _ (hY w _ Y) G.T.g hmg
  obtain ⟨st, e⟩ := hm ns hlen
  exact law_G (by rw [eT]; exact hY w _ Y) G.T.g G.T.b G.T.builtins G.T.nolimit hg hobj hints (Nat.le_trans hlen hn2) hr hF hb e
end Sm

/-! S10: objects: fields, methods, making -/
namespace Sm
open PySem PySem.Spec PyProof.Rows L2
def putS (f : Str) (v : Vl) : List (Str × Vl) → List (Str × Vl)
  | [] => [(f, v)]
  | (g, x) :: r => if g = f then (g, v) :: r else (g, x) :: putS f v r
def getS (fs : List (Str × Vl)) (f : Str) : Option Vl := match fs with
  | [] => none
  | (g, x) :: r => if g = f then some x else getS r f
section
variable {T : Tb} {ρ : List Addr} {H : Hp}
theorem lookup_step {α : Type} (f g : Str) (x : α) (r : List (Str × α)) : List.lookup f ((g, x) :: r) = if g = f then some x else List.lookup f r := by
  by_cases h : g = f
  · subst h
    rw [if_pos rfl]
    simp [List.lookup]
  · rw [if_neg h]
    have : (f == g) = false := by
      cases e : (f == g) with
      | false => rfl
      | true => exact absurd (eq_of_beq e).symm h
    simp [List.lookup, this]
theorem getS_ok {f : Str} : ∀ {fs : List (Str × Vl)} {vs : List (Str × V)}, vs.map (·.1) = fs.map (·.1) → RVs T ρ H (fs.map (·.2)) (vs.map (·.2)) →
    (getS fs f = none → vs.lookup f = none) ∧ ∀ v, getS fs f = some v → ∃ z, vs.lookup f = some z ∧ RV T ρ H v z
  | [], [], _, _ => ⟨fun _ => rfl, fun v e => by simp [getS] at e⟩
  | [], _ :: _, e, _ => by simp at e
  | _ :: _, [], e, _ => by simp at e
  | (g, x) :: r, (g', z) :: t, e, h => by
    simp only [List.map_cons, List.cons.injEq] at e
    rw [List.map_cons, List.map_cons] at h
    obtain ⟨e1, e2⟩ := e
    subst e1
    cases h with
    | cons h1 h2 =>
      have ih := getS_ok (f := f) e2 h2
      rw [lookup_step]
      unfold getS
      by_cases hk : g' = f
      · rw [if_pos hk, if_pos hk]
        refine ⟨(fun q => nomatch q), fun v q => ?_⟩
        cases q
        exact ⟨z, rfl, h1⟩
      · rw [if_neg hk, if_neg hk]
        exact ih
theorem putS_ok {f : Str} {v : Vl} {z : V} (hv : RV T ρ H v z) : ∀ {fs : List (Str × Vl)} {vs : List (Str × V)}, vs.map (·.1) = fs.map (·.1) → RVs T ρ H (fs.map (·.2)) (vs.map (·.2)) →
    (putF f z vs).map (·.1) = (putS f v fs).map (·.1) ∧ RVs T ρ H ((putS f v fs).map (·.2)) ((putF f z vs).map (·.2))
  | [], [], _, _ => ⟨rfl, .cons hv .nil⟩
  | [], _ :: _, e, _ => by simp at e
  | _ :: _, [], e, _ => by simp at e
  | (g, x) :: r, (g', y) :: t, e, h => by
    simp only [List.map_cons, List.cons.injEq] at e
    rw [List.map_cons, List.map_cons] at h
    obtain ⟨e1, e2⟩ := e
    subst e1
    cases h with
    | cons h1 h2 =>
      unfold putF putS
      by_cases hk : g' = f
      · rw [if_pos hk, if_pos hk]
        exact ⟨by simp [e2], .cons hv h2⟩
      · rw [if_neg hk, if_neg hk]
        obtain ⟨a, b⟩ := putS_ok hv e2 h2
        exact ⟨by simp [a], .cons h1 b⟩
theorem Rel.ins {s : Sto} {i c : Nat} {fs : List (Str × Vl)} {a : Addr} (r : Rel T ρ H s) (h : s[i]? = some (.ins c fs)) (ha : ρ[i]? = some a) :
    ∃ (C dx : Addr) (vs : List (Str × V)), T.cl[c]? = some C ∧ H a = some (.ins C dx vs) ∧ vs.map (·.1) = fs.map (·.1) ∧ RVs T ρ H (fs.map (·.2)) (vs.map (·.2)) := r.ob i a _ ha h
end
/-- e.f, of an object of one of the classes cs -/
def eFld (cs : List Nat) (f : Str) (o : EM) : EM := fun lo => bnd (o lo) fun x s => match x with
  | .ref j => match s[j]? with
    | some (.ins c fs) => if c ∈ cs then match getS fs f with
        | some v => .ok v s
        | none => .fail
      else .fail
    | _ => .fail
  | _ => .fail
/-- e.f = v -/
def setFld (cs : List Nat) (f : Str) (x v : Vl) (s : Sto) : Option Sto := match x with
  | .ref j => match s[j]? with
    | some (.ins c fs) => if c ∈ cs ∧ fs.length < 1000 then some (s.set j (.ins c (putS f v fs))) else none
    | _ => none
  | _ => none
def sFldM (cs : List Nat) (f : Str) (o e : EM) : SM := bndS e fun lo v s => bndS o (fun lo x s => match setFld cs f x v s with
  | some s' => .nx lo s'
  | none => .fail) lo s
/-- the classes cs have no attribute f of their own -/
def FldOk (T : Tb) (cs : List Nat) (f : Str) : Prop := ∀ c ∈ cs, ∀ C, T.cl[c]? = some C → Cls T.K C ∧ NoAttr T.K C f
/-- o.m(..): the method by the object's class -/
abbrev MTab := Nat → Option (List Vl → M Vl)
def eMeth (m : Str) (tab : MTab) (o : EM) (a : AM) : EM := fun lo => bnd (o lo) fun x s => match x with
  | .ref j => match s[j]? with
    | some (.ins c fs) => match tab c, getS fs m with
      | some mf, none => bnd (a lo) (fun as => mf (.ref j :: as)) s
      | _, _ => .fail
    | _ => .fail
  | _ => .fail
section
variable {X : Cx} {T : Tb} {W : WX} {o e value : Expr} {es : List Expr} {f : Str} {pos pos' apos : Pos} {mo me : EM} {ma : AM} {cs : List Nat}
theorem ce_fld (ok : FldOk T cs f) (he : PE X e (tE T W me)) (hb : attributeBase e f X.env (eval e X.env) = eval e X.env := by rfl) (hK : X.K = T.K := by rfl) : PE X (.Attribute e f pos) (tE T W (eFld cs f me)) :=
  pe_mono (pe_fld he hb) fun σ H Q h => tG_bnd (R := RV T) h fun ρ s lo x z H1 r rl hx p => by
    cases hx with
    | ref ha =>
      simp only at p
      split at p
      · rename_i c fs hj
        split at p
        · rename_i hc
          split at p
          · rename_i v hv
            obtain ⟨C, dx, vs, h1, h2, h3, h4⟩ := r.ins hj ha
            obtain ⟨w, h5, h6⟩ := (getS_ok (f := f) h3 h4).2 v hv
            obtain ⟨k1, k2⟩ := ok c hc C h1
            rw [hK]
            exact ⟨_, C, dx, vs, w, rfl, h2, k1, k2, h5, p ρ H1 w .refl r h6⟩
          · exact p.elim
        · exact p.elim
      · exact p.elim
    | _ => exact p.elim
theorem cs_fld (ok : FldOk T cs f) (ho : PE X o (tE T W mo)) (hv : PE X value (tE T W me)) (hs : swapsWith value (some (.Attribute o f pos')) pos.line X.env = pure false := by rfl) (hK : X.K = T.K := by rfl) :
    PS X (.Assign [.Attribute o f pos'] value pos) (tS T W (sFldM cs f mo me)) := ps_mono (ps_fld ho hv hs) fun D σ H h =>
  tS_bnd (R := RV T) h fun ρ s lo v z H1 r rl hv p => poS_bnd (R := RV T) r rl p fun ρ' s' x y H' ext r' rl' hx p' => by
    unfold setFld at p'
    cases hx with
    | ref ha =>
      simp only at p'
      split at p'
      · rename_i sf e
        split at e
        · rename_i c fs hj
          split at e
          · rename_i hc
            cases e
            obtain ⟨C, dx, vs, h1, h2, h3, h4⟩ := r'.ins hj ha
            obtain ⟨k1, k2⟩ := ok c hc.1 C h1
            obtain ⟨g1, g2⟩ := putS_ok (f := f) (hv.mono ext) h3 h4
            have hlen : vs.length = fs.length := by have := congrArg List.length h3; simpa using this
            rw [hK]
            refine ⟨_, C, dx, vs, rfl, h2, k1, k2, by rw [hlen]; exact hc.2, ?_⟩
            exact p' ρ' _ σ (r'.setExt ha h2) (r'.set ha ⟨C, dx, _, h1, upd_same, g1, g2.mono (r'.setExt ha h2)⟩) (rl'.mono (r'.setExt ha h2))
          · cases e
        · cases e
      · exact p'.elim
    | _ => exact p'.elim
/-- the methods m of the classes of tab -/
def MethOk (X : Cx) (T : Tb) (m : Str) (k n : Nat) (tab : MTab) : Prop := ∀ c mf, tab c = some mf → ∀ C, T.cl[c]? = some C → ∃ (f : Addr) (fd : FuncData) (ps : List Str), Cls T.K C ∧ Meth T.K C m f ∧ FnG X.prog X.w X.K X.mg X.base k f fd ps (SpM T (n + 1) mf) ∧ Binds X.K fd ps []
def tabA (n : Nat) (tab : MTab) : MTab := fun c => (tab c).map (arg (n + 1))
theorem ce_meth {m : Str} {k n : Nat} {tab : MTab} {pl : Sem Bool} (ok : MethOk X T m k n tab) (hr : Room k X.A) (hgd : X.A.guards = some []) (tk : Takes X W) (ho : PE X o (tE T W mo)) (ha : PA X (e :: es) (tA T W ma))
    (hst : starEach (e :: es) X.env = (false, eval e X.env) :: starEach es X.env := by rfl) (hpl : (backTo pos (starEach es X.env)).any (·.1) = false := by rfl)
    (ht : eval (.Call (.Attribute o m apos) (e :: es) [] pos) X.env = (do let ov ← eval o X.env; standAt apos.atName; let (f, first) ← holding [ov] (getMethod ov m pl); callWith pos f first (backTo pos (starEach (e :: es) X.env)) (backToKw pos (keywordEach [] X.env))) := by rfl)
    (hK : X.K = T.K := by rfl) : PE X (.Call (.Attribute o m apos) (e :: es) [] pos) (tE T W (eMeth m (tabA n tab) mo ma)) := by
  refine ⟨fun pins s σ H Q I h => ?_⟩
  have h : tE T W mo σ H fun x H1 => ∃ (a C dx f : Addr) (fs : List (Str × V)) (mf : List Vl → M Vl) (fd : FuncData) (ps : List Str), x = .ref a ∧ H1 a = some (.ins C dx fs) ∧ Cls T.K C ∧ Meth T.K C m f ∧ fs.lookup m = none ∧ FnG X.prog X.w X.K X.mg X.base k f fd ps (SpM T (n + 1) mf) ∧ Binds X.K fd ps [] ∧
      tA T W ma σ H1 fun vs H2 => SpM T (n + 1) mf (.ref a :: vs ++ []) H2 Q fun c d H' => W c d σ H' := tG_bnd (R := RV T) h fun ρ s lo x z H1 r rl hx p => by
    cases hx with
    | ref hρ =>
      rename_i j a
      simp only at p
      split at p
      · rename_i c fs hj
        split at p
        · rename_i mf hm hg
          unfold tabA at hm
          obtain ⟨mf0, hm0, rfl⟩ := Option.map_eq_some_iff.mp hm
          obtain ⟨C, dx, vs, h1, h2, h3, h4⟩ := r.ins hj hρ
          obtain ⟨f, fd, ps, k1, k2, k3, k4⟩ := ok c mf0 hm0 C h1
          refine ⟨a, C, dx, f, vs, mf0, fd, ps, rfl, h2, k1, k2, (getS_ok (f := m) h3 h4).1 hg, k3, k4, po_bnd (R := RVs T) (m := ma) r rl p fun ρ' s' as zs H' ext r' rl' has p' => ?_⟩
          unfold arg at p'
          split at p'
          · rename_i hl
            rw [List.append_nil]
            exact spM_of r' (.cons (.ref (ext.pre _ _ hρ)) has) hl p'
          · exact p'.elim
        · exact p.elim
      · exact p.elim
    | _ => exact p.elim
  refine PySem.W.methodCall_KW (pl := pl) (thn (ho.run pins s σ H _ I h) fun u s1 ⟨x, H1, I1, rx, a, C, dx, f, fs, mf, fd, ps, ex, ea, cl, mt, l, F, hb, q⟩ => ?_) ht
  subst ex
  obtain rfl : u = Value.ref a := rx
  rw [← hK] at cl mt
  refine getmeth_ok I1 ea cl mt l ?_
  refine PySem.W.callWith_K (first := [.ref a]) (h₀ := X.base) I.ok.mod.kin mt.kp (thn (ha.run pos pins s1 σ H1 _ I1 q) fun us s2 ⟨vs, H2, I2, r, q2⟩ => ⟨I2.kIn, ?_⟩) hst hpl
  exact run_G (us := .ref a :: us) (vs := .ref a :: vs) F hr hgd hb .nil tk I2 (.cons rfl r) q2
theorem ce_meth0 {m : Str} {k : Nat} {tab : MTab} {pl : Sem Bool} (ok : MethOk X T m k 0 tab) (hr : Room k X.A) (hgd : X.A.guards = some []) (tk : Takes X W) (ho : PE X o (tE T W mo))
    (ht : eval (.Call (.Attribute o m apos) [] [] pos) X.env = (do let ov ← eval o X.env; standAt apos.atName; let (f, first) ← holding [ov] (getMethod ov m pl); callWith pos f first (backTo pos (starEach [] X.env)) (backToKw pos (keywordEach [] X.env))) := by rfl)
    (hK : X.K = T.K := by rfl) : PE X (.Call (.Attribute o m apos) [] [] pos) (tE T W (eMeth m (tabA 0 tab) mo aNil)) := by
  refine ⟨fun pins s σ H Q I h => ?_⟩
  have h : tE T W mo σ H fun x H1 => ∃ (a C dx f : Addr) (fs : List (Str × V)) (mf : List Vl → M Vl) (fd : FuncData) (ps : List Str), x = .ref a ∧ H1 a = some (.ins C dx fs) ∧ Cls T.K C ∧ Meth T.K C m f ∧ fs.lookup m = none ∧ FnG X.prog X.w X.K X.mg X.base k f fd ps (SpM T (0 + 1) mf) ∧ Binds X.K fd ps [] ∧
      SpM T (0 + 1) mf [.ref a] H1 Q fun c d H' => W c d σ H' := tG_bnd (R := RV T) h fun ρ s lo x z H1 r rl hx p => by
    cases hx with
    | ref hρ =>
      rename_i j a
      simp only at p
      split at p
      · rename_i c fs hj
        split at p
        · rename_i mf hm hg
          unfold tabA at hm
          obtain ⟨mf0, hm0, rfl⟩ := Option.map_eq_some_iff.mp hm
          obtain ⟨C, dx, vs, h1, h2, h3, h4⟩ := r.ins hj hρ
          obtain ⟨f, fd, ps, k1, k2, k3, k4⟩ := ok c mf0 hm0 C h1
          exact ⟨a, C, dx, f, vs, mf0, fd, ps, rfl, h2, k1, k2, (getS_ok (f := m) h3 h4).1 hg, k3, k4, spM_of r (.cons (.ref hρ) .nil) rfl p⟩
        · exact p.elim
      · exact p.elim
    | _ => exact p.elim
  refine PySem.W.methodCall_KW (pl := pl) (thn (ho.run pins s σ H _ I h) fun u s1 ⟨x, H1, I1, rx, a, C, dx, f, fs, mf, fd, ps, ex, ea, cl, mt, l, F, hb, q⟩ => ?_) ht
  subst ex
  obtain rfl : u = Value.ref a := rx
  rw [← hK] at cl mt
  refine getmeth_ok I1 ea cl mt l ?_
  exact PySem.W.callWith_K0 (first := [.ref a]) I1.kIn mt.kp (run_G (us := [.ref a]) (vs := [.ref a]) F hr hgd hb .nil tk I1 (.cons rfl .nil) (by rw [List.append_nil]; exact q))
end
/-! ### making -/
/-- C(..): a new object of class c, then __init__ -/
def eMake (c : Nat) (mi : List Vl → M Vl) (a : AM) : EM := fun lo => bnd (a lo) fun as s => match mi (.ref s.length :: as) (s ++ [.ins c []]) with
  | .ok .non s' => .ok (.ref s.length) s'
  | .ok _ _ => .fail
  | .exc e s' => .exc e s'
  | .fail => .fail
theorem under_guards {A : Around} {C : Addr} {us : List Value} (h : A.guards = some []) : (A.under (.builtin "type.__call__" ⟨.ref C :: us, []⟩)).guards = some [] := by
  simp [Around.under, Code.guards, Code.isGuard, guardIds, pushGuards, h]
section
variable {X : Cx} {T : Tb} {W : WX} {e : Expr} {es : List Expr} {p pos : Pos} {ma : AM} {C f : Addr} {fd : FuncData} {ps : List Str} {k n c : Nat} {mi : List Vl → M Vl} {x : Str}
theorem run_mk {pins : List (Addr × Obj)} {σ : L2.St} {H : Hp} {s : Shared} {Q : VK} {us : List Value} {vs : List V} (M : Mk X.K C f) (F : FnG X.prog X.w X.K X.mg X.base k f fd ps (SpM T (n + 1) mi)) (hr : Room (k + 1) X.A) (hgd : X.A.guards = some []) (hb : Binds X.K fd ps []) (tk : Takes X W) (hc : T.cl[c]? = some C)
    (I : Inv X pins σ H s) (r : Vals vs us)
    (h : ∃ (ρ : List Addr) (st : Sto) (as : List Vl), Rel T ρ H st ∧ RVs T ρ H as vs ∧ as.length = n ∧ Po (RV T) T (fun c d H' => W c d σ H') ρ H (match mi (.ref st.length :: as) (st ++ [.ins c []]) with
      | .ok .non s' => .ok (.ref st.length) s'
      | .ok _ _ => .fail
      | .exc e s' => .exc e s'
      | .fail => (.fail : Res Vl)) Q) : wpAny (model X.prog X.w) X.A (call (.ref C) us) (EP X pins σ Q) X.xe s := by
  obtain ⟨ρ, st, as, rel, has, hl, p⟩ := h
  have f1 : H (s.heap.objs.size + 1) = none := I.hok.fresh (Nat.le_succ _)
  have f0 : H s.heap.objs.size = none := I.hok.fresh (Nat.le_refl _)
  have ne : s.heap.objs.size + 1 ≠ s.heap.objs.size := Nat.succ_ne_self _
  have I2 := Inv.made (C := C) I
  have r2 : Vals (V.ref (s.heap.objs.size + 1) :: vs) (Value.ref (s.heap.objs.size + 1) :: us) := .cons rfl r
  -- the new object in the pure store
  have relD : Rel T ρ (upd H s.heap.objs.size (.own (s.heap.objs.size + 1))) st := rel.laid f0
  have f1' : upd H s.heap.objs.size (.own (s.heap.objs.size + 1)) (s.heap.objs.size + 1) = none := by rw [upd_ne ne]; exact f1
  have ext : Ext T ρ H (ρ ++ [s.heap.objs.size + 1]) (upd (upd H s.heap.objs.size (.own (s.heap.objs.size + 1))) (s.heap.objs.size + 1) (.ins C s.heap.objs.size [])) := (ext_upd f0).trans (relD.newExt f1')
  have relN : Rel T (ρ ++ [s.heap.objs.size + 1]) (upd (upd H s.heap.objs.size (.own (s.heap.objs.size + 1))) (s.heap.objs.size + 1) (.ins C s.heap.objs.size [])) (st ++ [.ins c []]) := relD.new f1' ⟨C, _, [], hc, upd_same, rfl, .nil⟩
  have sp : SpM T (n + 1) mi (V.ref (s.heap.objs.size + 1) :: vs) (upd (upd H s.heap.objs.size (.own (s.heap.objs.size + 1))) (s.heap.objs.size + 1) (.ins C s.heap.objs.size [])) (fun v H2 => v = .non ∧ Q (.ref (s.heap.objs.size + 1)) H2) fun c d H' => W c d σ H' := by
    refine ⟨_, _, .ref st.length :: as, relN, .cons rel.newRef (has.mono ext), by rw [List.length_cons, hl], ?_⟩
    cases e : mi (.ref st.length :: as) (st ++ [.ins c []]) with
    | fail => rw [e] at p; exact p
    | exc z s' => rw [e] at p; exact fun ρ' H' D x' => p ρ' H' D (ext.trans x')
    | ok v s' =>
      rw [e] at p
      intro ρ' H' z x' r' hz
      cases v <;> try exact p.elim
      exact ⟨hz.nonE, p ρ' H' _ (ext.trans x') r' (.ref (x'.pre _ _ (by rw [← rel.len, List.getElem?_append_right (Nat.le_refl _)]; simp)))⟩
  refine wpAny_call (make_map (f := f) I.kIn M.makes M.init (beq_iff_eq.mp M.fn) (codeAny_mono (F.run _ X.stack _ _ ⟨Value.ref (s.heap.objs.size + 1) :: us, []⟩ _ _ _ _ (hr.make C us []) (under_guards hgd) (I2.env0.make C us []) (by
    have := hb _ (Value.ref (s.heap.objs.size + 1) :: us) I2.kIn (by rw [List.append_nil, ← r2.length]; exact F.len _ _ _ _ sp)
    rw [List.append_nil] at this
    exact this) r2 sp) fun z s' hq => ?_))
  cases z with
  | error y => exact tk y s' (XE.of_call I2 (fun _ _ _ q => q) hq)
  | ok fl =>
    cases fl with
    | ret u =>
      obtain ⟨v, H', I3, rv, ev, q3⟩ := I2.after hq
      subst ev
      exact ⟨rv, ⟨V.ref (s.heap.objs.size + 1), H', I3, rfl, q3⟩⟩
    | next => exact hq.elim
    | brk => exact hq.elim
    | cont => exact hq.elim
def argI (n : Nat) (mf : List Vl → M Vl) : List Vl → M Vl := fun as s => if as.length = n + 1 then mf as s else .fail
theorem ce_make (M : Mk X.K C f) (F : FnG X.prog X.w X.K X.mg X.base k f fd ps (SpM T (n + 1) mi)) (hr : Room (k + 1) X.A) (hgd : X.A.guards = some []) (hg : Gl X x) (hm : X.mg x = some (.ref C)) (hb : Binds X.K fd ps []) (tk : Takes X W) (hc : T.cl[c]? = some C) (ha : PA X (e :: es) (tA T W ma))
    (hdb : (x == ("__debug__" : Str)) = false := by decide) (he : starEach (e :: es) X.env = (false, eval e X.env) :: starEach es X.env := by rfl) (hpl : (backTo pos (starEach es X.env)).any (·.1) = false := by rfl) :
    PE X (.Call (.Name x p) (e :: es) [] pos) (tE T W (eMake c (argI n mi) ma)) := by
  refine ⟨fun pins s σ H Q I h => wpAny_Call_Name_kw (ld_glob I hg hm ?_ hdb)⟩
  have h : tA T W ma σ H fun vs H1 => ∃ (ρ : List Addr) (st : Sto) (as : List Vl), Rel T ρ H1 st ∧ RVs T ρ H1 as vs ∧ as.length = n ∧ Po (RV T) T (fun c d H' => W c d σ H') ρ H1 (match mi (.ref st.length :: as) (st ++ [.ins c []]) with
      | .ok .non s' => .ok (.ref st.length) s'
      | .ok _ _ => .fail
      | .exc e s' => .exc e s'
      | .fail => (.fail : Res Vl)) Q := tG_bnd (R := RVs T) h fun ρ s lo xs zs H1 r rl hx q => by
    unfold argI at q
    split at q
    · rename_i q1
      split at q1
      · rename_i hl
        refine ⟨ρ, s, xs, r, hx, by simpa using hl, ?_⟩
        rw [q1]
        exact q
      · cases q1
    · exact q.elim
    · rename_i q1
      split at q1
      · rename_i hl
        refine ⟨ρ, s, xs, r, hx, by simpa using hl, ?_⟩
        rw [q1]
        exact q
      · cases q1
    · exact q.elim
  refine PySem.W.callWith_K (h₀ := X.base) I.ok.mod.kin M.kp (thn (ha.run pos pins s σ H _ I h) fun us s1 ⟨vs, H1, I1, r, q⟩ => ⟨I1.kIn, ?_⟩) he hpl
  exact run_mk M F hr hgd hb tk hc I1 r q
theorem ce_make0 (M : Mk X.K C f) (F : FnG X.prog X.w X.K X.mg X.base k f fd ps (SpM T (0 + 1) mi)) (hr : Room (k + 1) X.A) (hgd : X.A.guards = some []) (hg : Gl X x) (hm : X.mg x = some (.ref C)) (hb : Binds X.K fd ps []) (tk : Takes X W) (hc : T.cl[c]? = some C)
    (hdb : (x == ("__debug__" : Str)) = false := by decide) : PE X (.Call (.Name x p) [] [] pos) (tE T W (eMake c mi aNil)) := by
  refine ⟨fun pins s σ H Q I h => wpAny_Call_Name_kw (ld_glob I hg hm ?_ hdb)⟩
  obtain ⟨ρ, st, lo, r, rl, q⟩ := h
  exact PySem.W.callWith_K0 I.kIn M.kp (run_mk (us := []) (vs := []) M F hr hgd hb tk hc I .nil ⟨ρ, st, [], r, .nil, rfl, q⟩)
end
end Sm

/-! S11: sets of ints: set(list), sorted(set) -/
namespace L2
open PySem PySem.Spec PyProof.Rows
abbrev set0 (w : World) : Obj := { cls := .type "set", dict := none, data := .set #[] 0 (.fresh 0 0 (!w.params.followText "set-order")) }
section
variable {P : Program} {w : World} {A : Around} {E : Value → Shared → Prop} {s : Shared}
/-- set(l), l a list of ints -/
theorem call_set_lst {l : Addr} {items : Array Value} (ns : List Int) {Q : Value → Shared → Prop} (hh : A.handled = none) (hl : s.heap.IsList l items) (hit : IntsAre items.toList ns) (hb : ns.length + 1 < scanBound)
    (h : ∀ (h' : Heap) (tk c : Nat), SetR w h' s.heap.objs.size (fun j => decide (j ∈ ns)) c → (∀ b o, s.heap.get? b = some o → h'.get? b = some o) → Q (.ref s.heap.objs.size) { s with heap := h', toks := tk }) :
    wpAny (model P w) A (call (.type "set") [.ref l]) Q E s := by
  have hz : items.size = ns.length := by rw [← Array.length_toList]; exact hit.length
  obtain ⟨c, tl, hmro⟩ := F.called_set.mro
  have hmade := F.called_set.made
  have hsub := F.called_set.sub
  have h1 := F.called_set.notType
  have h2 := F.called_set.canCreate
  have hct := F.typeCall_set_1 (.ref l)
  refine wpAny_call (codeAny_of_tree (show wpAny _ _ (callAny (.type "set") _) _ _ _ from wpAny_pure ⟨Code.quiet_builtin _ (by decide +kernel), codeAny_builtin F.entry_type_call ?_⟩))
  rw [Around.under_plain (weight_type_call_type "set" [.ref l] []) rfl]
  repeat (any_goals (first | assumption | wp_step))
  refine codeAny_mono (code_set_led1 (.ref l) (E := E) (Q₁ := fun obj s₁ => obj = .ref s.heap.objs.size ∧ s₁ = { s with heap := s.heap.push (set0 w) }) ⟨rfl, rfl⟩) fun r s₁ hr => ?_
  cases r with
  | error e => exact hr
  | ok fl =>
    cases fl with
    | ret obj =>
      obtain ⟨rfl, rfl⟩ := hr
      have hS : (s.heap.push (set0 w)).get? s.heap.objs.size = some (set0 w) := Heap.get?_push_size _ rfl
      have hT : Shared.TypeIs { s with heap := s.heap.push (set0 w) } (.ref s.heap.objs.size) "set" := ⟨_, hS, rfl⟩
      have hli := F.called_set.init.lookup
      have hbi := F.called_set.init.bind (.ref s.heap.objs.size)
      repeat (any_goals (first | assumption | wp_step))
      refine codeAny_mono (codeAny_call_builtin (R := wants (fun r s₂ => r = .none ∧ ∃ h' tk c, s₂ = { s with heap := h', toks := tk } ∧ SetR w h' s.heap.objs.size (fun j => decide (j ∈ ns)) c ∧ ∀ b o, s.heap.get? b = some o → h'.get? b = some o) E) F.called_set.init.plain F.entry_set_init (check_set_init_1 hT ?_)) fun r₂ s₂ hr₂ => ?_
      · obtain ⟨⟨oc, od, oda, osl⟩, ho, hc, nl, hd⟩ := hl
        obtain rfl : oc = _ := hc
        obtain rfl : oda = _ := hd
        have hS2 := F.sub_list_set
        have hF2 := F.sub_list_frozenset
        have hne : (Value.type "list" == Value.type "dict") = false := by decide
        have ho' := Heap.get?_push_of_some (set0 w) ho
        have hl1 : (s.heap.push (set0 w)).IsList l items := ⟨_, ho', rfl, nl, rfl⟩
        unfold Builtin.«set.__init__» noKeywords Builtin.Frozenset.updateFrom
        generalize hPI : pyIter = PI
        wp_walk
        subst hPI
        refine wpAny_pyIter_list hl1 (wpAny_bind (wpAny_runValue ?_))
        have lS : l < s.heap.objs.size := Heap.lt_size ho
        have eS : (s.heap.push (set0 w)).objs.size = s.heap.objs.size + 1 := Heap.size_push ..
        refine set_update_ints ((Walks.list (A := A.in1.in1.in1) (by simp [hh]) (s.heap.push (set0 w)).objs.size l (by rw [eS]; exact Nat.ne_of_lt (Nat.lt_succ_of_lt lS)) items).toS) s.heap.objs.size (by rw [eS]; simp only [List.mem_cons, List.not_mem_nil, or_false, not_or]; exact ⟨Nat.ne_of_lt (Nat.lt_succ_self _), Nat.ne_of_gt lS⟩) ns hz hb (fun i v hv => ?_) (items.size - 0) 0 _ (by omega) (Nat.zero_le _)
          ⟨⟨_, Heap.get?_push_size _ rfl, rfl, rfl⟩, (hl1.push _)⟩ ⟨0, Nat.le_refl 0, setR_new_at (Heap.get?_push_of_some _ hS)⟩ fun s' c' hm hc' hS' => ?_
        · have hi : i < ns.length := by rw [← hz]; exact (Array.getElem?_eq_some_iff.mp hv).1
          obtain ⟨t, e⟩ := PyProof.Rows.IntsAre.int_at hit i v (by rw [Array.getElem?_toList]; exact hv)
          exact ⟨ns[i], t, List.getElem?_eq_getElem hi, by rw [e, List.getD_eq_getElem?_getD, List.getElem?_eq_getElem hi] <;> rfl⟩
        · obtain ⟨h', g2, d', tk', os'⟩ := s'
          obtain rfl : g2 = s.gens := hm.gens
          obtain rfl : d' = s.drawn := hm.drawn
          obtain rfl : os' = s.os := hm.os
          refine wpAny_pure (show wpAny _ _ (ret Value.none) _ _ _ from wpAny_pure ⟨rfl, h', tk', c', rfl, hS', fun b o e => ?_⟩)
          have lb : b < s.heap.objs.size := Heap.lt_size e
          exact hm.heap b o (by rw [eS]; simp only [List.mem_cons, List.not_mem_nil, or_false, not_or]; exact ⟨Nat.ne_of_lt lb, Nat.ne_of_lt (Nat.lt_succ_of_lt lb)⟩) (Heap.get?_push_of_some _ (Heap.get?_push_of_some _ e))
      · cases r₂ with
        | error e => exact hr₂
        | ok fl₂ =>
          cases fl₂ with
          | ret r =>
            obtain ⟨rfl, h', tk, c', rfl, hS', hk'⟩ := hr₂
            repeat (any_goals (first | assumption | wp_step))
            exact h _ _ _ hS' hk'
          | _ => exact hr₂.elim
    | _ => exact hr.elim
end
theorem nodup_len {α : Type} [DecidableEq α] : ∀ (a b : List α), a.Nodup → b.Nodup → (∀ x, x ∈ a ↔ x ∈ b) → a.length = b.length := fun a b ha hb h => by
  exact ((List.perm_ext_iff_of_nodup ha hb).mpr h).length_eq
theorem SetR.size {w : World} {h : Heap} {a : Addr} {S : Int → Bool} {n : Nat} (R : SetR w h a S n) {xs : List Int} (nd : xs.Nodup) (hS : ∀ k, S k = true ↔ k ∈ xs) : n = xs.length := by
  obtain ⟨o, es, ep, t, h1, h2, h3, h4, h5, h6, h7, h8, h9, _⟩ := R
  rw [← h9, ← Array.length_toList, ← List.length_map (f := keyOf) (as := es.toList)]
  exact nodup_len _ _ h5 nd fun x => (h6 x).symm.trans (hS x)
end L2
namespace Sm
open PySem PySem.Spec PyProof.Rows L2
/-- the unlike ones of a list, each at its last place -/
def ddup : List Int → List Int
  | [] => []
  | x :: xs => if x ∈ xs then ddup xs else x :: ddup xs
theorem mem_ddup {x : Int} : ∀ {xs : List Int}, x ∈ ddup xs ↔ x ∈ xs
  | [] => Iff.rfl
  | y :: ys => by
    unfold ddup
    split
    · rename_i h
      rw [mem_ddup, List.mem_cons]
      exact ⟨.inr, fun q => q.elim (fun z => by rw [z]; exact h) id⟩
    · rw [List.mem_cons, List.mem_cons, mem_ddup]
theorem ddup_nodup : ∀ xs : List Int, (ddup xs).Nodup
  | [] => List.nodup_nil
  | y :: ys => by
    unfold ddup
    split
    · exact ddup_nodup ys
    · rename_i h
      exact List.nodup_cons.mpr ⟨fun z => h (mem_ddup.mp z), ddup_nodup ys⟩
def oSet : OC
  | [x], s => match lstOf x s with
    | some xs => match mapO asInt xs with
      | some ns => if ns.length < 4000 then some (.ref s.length, s ++ [.set (ddup ns)]) else none
      | none => none
    | none => none
  | _, _ => none
/-- sorted of a list or of a set of ints -/
def oSortS : OC
  | [.ref j], s => match s[j]? with
    | some (.lst xs) => (mapO asInt xs).map fun ns => (.ref s.length, s ++ [.lst ((srt ns).map Vl.int)])
    | some (.set xs) => if xs.length < 64 then some (.ref s.length, s ++ [.lst ((srt xs).map Vl.int)]) else none
    | _ => none
  | _, _ => none
section
variable {X : Cx} {T : Tb}
theorem c_set (hc : X.calm = true := by rfl) (hw : X.w = T.w := by rfl) : CallR X (.type "set") (rC T oSet) := fun pins s σ H xs us Q I rs q => by
  obtain ⟨ρ, st, as, v, s', r, ha, e, k⟩ := q
  unfold oSet at e
  split at e
  · split at e
    · rename_i x ys hx
      split at e
      · rename_i ns hn
        split at e
        · rename_i hl
          cases e
          obtain ⟨z, rfl, hz⟩ := ha.one
          obtain ⟨p, vs, rfl, h1, h2⟩ := lstOf_ok r hz hx
          have ev := asInts_ok h2 hn
          subst ev
          obtain ⟨its, rv, pl, hsz⟩ := I.list (SqL.of h1)
          cases rs with
          | cons r1 r2 =>
            cases r2
            obtain rfl := r1
            refine call_set_lst ns (I.ok.hd hc) pl.isList (by simpa using rv.ints) (by unfold scanBound; omega) fun h' tk c R hk => ?_
            have hp : H s.heap.objs.size = none := I.hok.fresh (Nat.le_refl _)
            have hsize : c = (ddup ns).length := R.size (ddup_nodup ns) fun j => by rw [mem_ddup]; exact decide_eq_true_iff
            subst hsize
            have I' := I.laid (a := s.heap.objs.size) (t' := tk) hk (Nat.le_refl _) (setO_new (P := X.prog) (H := upd H s.heap.objs.size (SetO X.w s.heap.objs.size (fun j => decide (j ∈ ns)) (ddup ns).length)) R)
            refine ⟨.ref s.heap.objs.size, _, I', rfl, ?_⟩
            rw [hw]
            exact k.new r hp ⟨ddup_nodup ns, _, fun j => by rw [mem_ddup]; exact decide_eq_true_iff, upd_same⟩
        · cases e
      · cases e
    · cases e
  · cases e
theorem lt_le {l : List Int} (h : l.Pairwise (· < ·)) : l.Pairwise (· ≤ ·) := h.imp fun q => Int.le_of_lt q
theorem lt_nodup {l : List Int} (h : l.Pairwise (· < ·)) : l.Nodup := h.imp fun q => Int.ne_of_lt q
theorem c_sortS (hc : X.calm = true := by rfl) (hw : X.w = T.w := by rfl) : CallR X (.builtin "sorted") (rC T oSortS) := fun pins s σ H xs us Q I rs q => by
  obtain ⟨ρ, st, as, v, s', r, ha, e, k⟩ := q
  unfold oSortS at e
  split at e
  · rename_i s0 j
    split at e
    · rename_i ys hy
      exact c_sorted pins s σ H xs us Q I rs ⟨ρ, _, [.ref j], v, s', r, ha, by simp only [oSorted, lstOf, hy]; exact e, k⟩
    · rename_i ys hy
      split at e
      · rename_i hl
        cases e
        obtain ⟨z, rfl, hz⟩ := ha.one
        obtain ⟨p, rfl, hp⟩ := hz.refE
        obtain ⟨nd, S, hS, hH⟩ := r.ob _ _ _ hp hy
        refine cr_sortedSet hc pins s σ H _ us Q I rs ⟨p, S, _, rfl, by rw [hw]; exact hH, hl, fun ns q h1 h2 h3 hq => ?_⟩
        have : ns = srt ys := srt_eq ((List.perm_ext_iff_of_nodup (lt_nodup h1) nd).mpr fun a => (h2 a).trans (hS a)) (lt_le h1)
        rw [this]
        exact k.lst r (RVs.ints _) hq
      · cases e
    · cases e
  · cases e
end
end Sm

/-! S12: dicts: displays, their values walked and listed -/
namespace Sm
open PySem PySem.Spec PyProof.Rows L2
def eDict0 : EM := fun _ s => .ok (.ref s.length) (s ++ [.dic []])
/-- the pairs of a display -/
def dpM : List (EM × EM) → Lo → M (List (Vl × Vl))
  | [], _ => ret []
  | (k, v) :: r, lo => bnd (k lo) fun x => bnd (v lo) fun y => bnd (dpM r lo) fun ps => ret ((x, y) :: ps)
def keyP (p : Vl × Vl) : Option (Key × Vl) := match keyOf p.1 with
  | some k => some (k, p.2)
  | none => none
def mergeP (kvs more : List (Key × Vl)) : List (Key × Vl) := more.foldl (fun acc kv => put acc kv.1 kv.2) kvs
def eDict (ps : List (EM × EM)) : EM := fun lo s => match dpM ps lo (s ++ [.dic []]) with
  | .ok prs s' => match s'[s.length]?, mapO keyP prs with
    | some (.dic []), some kvs => if kvs.length ≤ 15 then .ok (.ref s.length) (s'.set s.length (.dic (mergeP [] kvs))) else .fail
    | _, _ => .fail
  | .exc e s' => .exc e s'
  | .fail => .fail
def RP (T : Tb) : List Addr → Hp → List (Vl × Vl) → List (V × V) → Prop := fun ρ H ps qs => RVs T ρ H (ps.map (·.1)) (qs.map (·.1)) ∧ RVs T ρ H (ps.map (·.2)) (qs.map (·.2))
section
variable {X : Cx} {T : Tb} {W : WX} {pos : Pos}
theorem ce_dict0 : PE X (.Dict [] [] pos) (tE T W eDict0) := pe_mono pe_dnewK fun σ H Q h => by
  obtain ⟨ρ, s, lo, r, rl, p⟩ := h
  exact fun q hq => p (ρ ++ [q]) _ _ (r.newExt hq) (r.new (b := .dic []) hq ⟨[], upd_same, rfl, .nil⟩) r.newRef
theorem pairs_le {σ : L2.St} : ∀ {ps : List (EM × EM)} {H : Hp} {Q : List (V × V) → Hp → Prop}, tG (RP T) T W (dpM ps) σ H Q → tPairs (ps.map fun p => (tE T W p.1, tE T W p.2)) σ H Q
  | [], H, Q, h => by
    obtain ⟨ρ, s, lo, r, rl, p⟩ := h
    exact p ρ H [] .refl r ⟨.nil, .nil⟩
  | (k, v) :: ps, H, Q, h => tG_bnd (R := RV T) h fun ρ s lo x z H1 r rl hx p => po_bnd (R := RV T) (m := v) r rl p fun ρ1 s1 y z1 H2 e1 r1 rl1 hy p1 =>
      pairs_le (po_bnd (R := RP T) (m := dpM ps) r1 rl1 p1 fun ρ2 s2 prs qs H3 e2 r2 rl2 hp p2 => p2 ρ2 H3 _ .refl r2 ⟨.cons (hx.mono (e1.trans e2)) hp.1, .cons (hy.mono e2) hp.2⟩)
theorem keyP_ok {ρ : List Addr} {H : Hp} : ∀ {ps : List (Vl × Vl)} {qs : List (V × V)} {kvs : List (Key × Vl)}, RP T ρ H ps qs → mapO keyP ps = some kvs → ∃ vs : List (Key × V), qs = vs.map (fun kv => (kV kv.1, kv.2)) ∧ vs.map (·.1) = kvs.map (·.1) ∧ RVs T ρ H (kvs.map (·.2)) (vs.map (·.2))
  | [], [], _, _, e => by
    simp only [mapO] at e
    cases e
    exact ⟨[], rfl, rfl, .nil⟩
  | [], _ :: _, _, h, _ => by cases h.1
  | _ :: _, [], _, h, _ => by cases h.1
  | (a, b) :: ps, (x, y) :: qs, kvs, h, e => by
    obtain ⟨h1, h2⟩ := h
    rw [List.map_cons, List.map_cons] at h1 h2
    cases h1 with
    | cons a1 a2 =>
      cases h2 with
      | cons b1 b2 =>
        simp only [mapO] at e
        split at e
        · rename_i kv kvs' e1 e2
          cases e
          unfold keyP at e1
          split at e1
          · rename_i k hk
            cases e1
            obtain ⟨vs, rfl, g2, g3⟩ := keyP_ok ⟨a2, b2⟩ e2
            refine ⟨(k, y) :: vs, ?_, by simp [g2], .cons b1 g3⟩
            have := keyOf_ok a1 hk
            simp only at this
            rw [this]; rfl
          · cases e1
        · cases e
theorem putK_nodup {kvs : List (Key × V)} {k : Key} {v : V} (h : (kvs.map (·.1)).Nodup) : ((putK kvs k v).map (·.1)).Nodup := by
  unfold putK
  split
  · have : (kvs.map fun kv => if kv.1 = k then (kv.1, v) else kv).map (·.1) = kvs.map (·.1) := by
      rw [List.map_map]
      apply List.map_congr_left
      intro p _
      simp only [Function.comp]
      split <;> rfl
    rw [this]; exact h
  · rename_i hn
    rw [List.map_append, List.nodup_append]
    refine ⟨h, by simp, fun a ha b hb => ?_⟩
    simp at hb
    subst hb
    intro e
    subst e
    obtain ⟨p, hp, e⟩ := List.mem_map.mp ha
    exact hn (List.any_eq_true.mpr ⟨p, hp, by simp [e]⟩)
theorem merge_ok {ρ : List Addr} {H : Hp} : ∀ {more : List (Key × Vl)} {ms : List (Key × V)} {kvs : List (Key × Vl)} {vs : List (Key × V)}, ms.map (·.1) = more.map (·.1) → RVs T ρ H (more.map (·.2)) (ms.map (·.2)) → (vs.map (·.1)).Nodup → vs.map (·.1) = kvs.map (·.1) → RVs T ρ H (kvs.map (·.2)) (vs.map (·.2)) →
    (mergeK vs ms).map (·.1) = (mergeP kvs more).map (·.1) ∧ RVs T ρ H ((mergeP kvs more).map (·.2)) ((mergeK vs ms).map (·.2))
  | [], [], _, _, _, _, _, e, h => ⟨e, h⟩
  | [], _ :: _, _, _, e, _, _, _, _ => by simp at e
  | _ :: _, [], _, _, e, _, _, _, _ => by simp at e
  | (k, v) :: more, (k', z) :: ms, kvs, vs, e, h, nd, e2, h2 => by
    simp only [List.map_cons, List.cons.injEq] at e
    rw [List.map_cons, List.map_cons] at h
    obtain ⟨e1, e3⟩ := e
    subst e1
    cases h with
    | cons a b =>
      obtain ⟨g1, g2⟩ := put_ok (k := k') a nd e2 h2
      exact merge_ok (more := more) (ms := ms) (kvs := put kvs k' v) (vs := putK vs k' z) e3 b (putK_nodup nd) g1 g2
theorem ce_dict {keys : List (Option Expr)} {values : List Expr} {ps : List (EM × EM)} (h : PPs X pos keys values (ps.map fun p => (tE T W p.1, tE T W p.2))) (hall : keys.all (·.isSome) = true := by rfl) (hl : keys.length = values.length := by rfl) (h0 : keys ≠ [] := by exact fun z => nomatch z)
    (h15 : keys.length ≤ 15 := by decide) : PE X (.Dict keys values pos) (tE T W (eDict ps)) := pe_mono (pe_disp h hall hl h0 h15) fun σ H Q h => by
  obtain ⟨ρ, s, lo, r, rl, p⟩ := h
  intro q hq
  have xD : Ext T ρ H (ρ ++ [q]) (upd H q (.dK [])) := r.newExt hq
  have aD : (ρ ++ [q])[s.length]? = some q := by rw [← r.len, List.getElem?_append_right (Nat.le_refl _)]; simp
  refine pairs_le ⟨ρ ++ [q], s ++ [.dic []], lo, r.new (b := .dic []) hq ⟨[], upd_same, rfl, .nil⟩, rl.mono xD, ?_⟩
  unfold eDict at p
  cases e : dpM ps lo (s ++ [.dic []]) with
  | fail => rw [e] at p; exact p
  | exc z s' => rw [e] at p; exact fun ρ' H' C x => p ρ' H' C (xD.trans x)
  | ok prs s' =>
    rw [e] at p
    intro ρ' H' qs x r' hp
    simp only at p
    split at p
    · rename_i kvs hd hk
      split at p
      · rename_i hn
        have aD' := x.pre _ _ aD
        obtain ⟨vs0, g1, g2, _⟩ := r'.dic hd aD'
        have : vs0 = [] := by simpa using g2
        subst this
        obtain ⟨vs, rfl, k2, k3⟩ := keyP_ok hp hk
        refine ⟨g1, vs, rfl, ?_, ?_⟩
        · have : vs.length = kvs.length := by have := congrArg List.length k2; simpa using this
          rw [this]; exact hn
        · obtain ⟨m1, m2⟩ := merge_ok (kvs := []) (vs := []) k2 k3 (by simp) rfl .nil
          exact p ρ' _ _ ((xD.trans x).trans (r'.setExt aD' g1)) (r'.set aD' ⟨_, upd_same, m1, m2.mono (r'.setExt aD' g1)⟩) (.ref aD')
      · exact p.elim
    · exact p.elim
/-! ### the values of a dict, walked in a comprehension: it is locked meanwhile -/
def nxVals (j : Nat) : NX := fun i s => match s[j]? with
  | some (.fdic kvs) => match kvs[i]? with
    | some kv => some (some kv.2)
    | none => some none
  | _ => none
def iVal (e : EM) : IM := fun lo => bnd (e lo) fun x => match x with
  | .ref j => fun s => match s[j]? with
    | some (.fdic _) => .ok (nxVals j) s
    | _ => .fail
  | _ => failM
/-- c run while the dict of e is locked -/
def eLock (e c : EM) : EM := fun lo s => match e lo s with
  | .ok (.ref j) _ => match s[j]? with
    | some (.dic kvs) => match c lo (s.set j (.fdic kvs)) with
      | .ok v s' => match s'[j]? with
        | some (.fdic _) => .ok v (s'.set j (.dic kvs))
        | _ => .fail
      | _ => .fail
    | _ => .fail
  | _ => .fail
theorem RVs.vals_at {ρ : List Addr} {H : Hp} {kvs : List (Key × Vl)} {vs : List (Key × V)} {i : Nat} {kv : Key × Vl} (e : vs.map (·.1) = kvs.map (·.1)) (h : RVs T ρ H (kvs.map (·.2)) (vs.map (·.2))) (hi : kvs[i]? = some kv) : ∃ z, vs[i]? = some (kv.1, z) ∧ RV T ρ H kv.2 z := by
  obtain ⟨z, h1, h2⟩ := h.get (i := i) (x := kv.2) (by rw [List.getElem?_map, hi]; rfl)
  rw [List.getElem?_map] at h1
  cases q : vs[i]? with
  | none => rw [q] at h1; cases h1
  | some p =>
    rw [q] at h1
    have h1 : p.2 = z := Option.some.inj h1
    have e' : (vs.map (·.1))[i]? = (kvs.map (·.1))[i]? := by rw [e]
    rw [List.getElem?_map, List.getElem?_map, q, hi] at e'
    have e' : p.1 = kv.1 := Option.some.inj e'
    refine ⟨z, ?_, h2⟩
    rw [← h1, ← e']
theorem ci_vals {tg e : Expr} {me : EM} {apos cpos : Pos} (he : PE X e (tE T W me)) (hbase : attributeBase e "values" X.env (eval e X.env) = eval e X.env := by rfl) (hline : (apos.endLine == cpos.line) = true := by rfl) : PI X tg (.Call (.Attribute e "values" apos) [] [] cpos) (tI T W (iVal me)) :=
  pi_mono (pi_values he hbase hline) fun σ H R h => by
    obtain ⟨ρ, s, lo, r, rl, q⟩ := h
    refine po_bnd (R := RV T) (m := me) r rl q fun ρ1 s1 x z H1 ext1 r1 rl1 hx p1 => ?_
    cases hx with
    | ref ha =>
      rename_i j a
      simp only at p1
      split at p1
      · rename_i kvs hj
        obtain ⟨o, vs, h1, h2, h3⟩ := r1.ob _ _ _ ha hj
        refine ⟨a, o, vs, rfl, h1, p1 ρ1 H1 _ .refl r1 ?_⟩
        intro ρ2 H2 s2 i e2 r2
        have ha2 := e2.pre _ _ ha
        have hfz := e2.frd _ _ _ h1
        unfold nxVals
        cases e : s2[j]? with
        | none => trivial
        | some ob =>
          cases ob with
          | fdic kvs2 =>
            obtain ⟨o', vs', g1, g2, g3⟩ := r2.ob _ _ _ ha2 e
            rw [hfz] at g1
            cases g1
            simp only
            have hlen : vs.length = kvs2.length := by have := congrArg List.length g2; simpa using this
            cases e3 : kvs2[i]? with
            | none => exact ⟨hfz, by rw [hlen]; exact List.getElem?_eq_none_iff.mp e3⟩
            | some kv =>
              obtain ⟨w, hw, rw'⟩ := RVs.vals_at g2 g3 e3
              refine ⟨⟨hfz, by rw [hlen]; exact (List.getElem?_eq_some_iff.mp e3).1⟩, fun x H3 y => ?_⟩
              obtain ⟨rfl, k, y⟩ := y
              rw [hw] at y
              cases y
              exact ⟨.refl, r2, rw'⟩
          | _ => trivial
      · exact p1.elim
    | _ => exact p1.elim
theorem lock_le {e c : EM} {t : TE} {σ : L2.St} {H : Hp} {Q : VK} (hc : ∀ H Q, tE T W c σ H Q → t σ H Q) (h : tE T W (eLock e c) σ H Q) : tLockE t σ H Q := by
  obtain ⟨ρ, s, lo, r, rl, p⟩ := h
  unfold eLock at p
  split at p
  · rename_i j s1 e1
    split at p
    · rename_i kvs hj
      split at p
      · rename_i v s' e2
        split at p
        · rename_i kvs' hj'
          obtain ⟨a, ha, _⟩ := r.at hj
          obtain ⟨vs, h1, h2, h3⟩ := r.dic hj ha
          refine ⟨a, .dK vs, h1, trivial, fun od => hc _ _ ?_⟩
          have x1 : Ext T ρ H ρ (upd H a (.frz od (.dK vs))) := r.setExt ha h1
          refine ⟨ρ, s.set j (.fdic kvs), lo, r.set ha ⟨od, vs, upd_same, h2, h3.mono x1⟩, rl.mono x1, ?_⟩
          rw [e2]
          intro ρ' H' z x' r' hz
          have hfz : H' a = some (.frz od (.dK vs)) := x'.frd _ _ _ upd_same
          refine ⟨hfz, ?_⟩
          have ha' := x'.pre _ _ ha
          have e0 : Ext0 T ρ' H' ρ' (upd H' a (.dK vs)) := ext0_set hfz fun z => z
          have e1 : Ext0 T ρ H ρ' (upd H' a (.dK vs)) := ⟨fun i b q => x'.pre i b q, fun b us q => e0.tup _ _ (x'.tup _ _ (x1.tup _ _ q)), fun b o u q => e0.frz _ _ _ (x'.frz _ _ _ (x1.frz _ _ _ q))⟩
          refine p ρ' _ z ⟨e1, fun b o u q => ?_⟩ (r'.set ha' ⟨vs, upd_same, h2, h3.mono0 e1⟩) (hz.mono0 e0)
          have nb : b ≠ a := fun z => by subst z; rw [h1] at q; cases q
          rw [upd_ne nb]
          exact x'.frd _ _ _ (x1.frd _ _ _ q)
        · exact p.elim
      · exact p.elim
    · exact p.elim
  · exact p.elim
theorem ce_lock {e : EM} {c : EM} {ex : Expr} (h : PE X ex (tE T W c)) : PE X ex (tE T W (eLock e c)) := pe_mono (pe_lock h) fun σ H Q q => lock_le (fun _ _ z => z) q
/-- list(d.values()) -/
def eListVals (e : EM) : EM := fun lo => bnd (e lo) fun x s => match x with
  | .ref j => match s[j]? with
    | some (.dic kvs) => .ok (.ref s.length) (s ++ [.lst (kvs.map (·.2))])
    | _ => .fail
  | _ => .fail
theorem vals_kv {kvs : List (Key × V)} {us : List (Key × Value)} {acc : Array Value} (r : KV kvs us) (h : ItemsOf (fun i v => ∃ k, us[i]? = some (k, v)) acc us.length) : Vals (kvs.map (·.2)) acc.toList := by
  refine vals_of_at (by rw [List.length_map]; exact (Paired.length r).trans (h.1.symm.trans Array.length_toList.symm)) fun j x u h1 h2 => ?_
  obtain ⟨k, hk⟩ := h.2 j u (by rw [← Array.getElem?_toList]; exact h2)
  rw [List.getElem?_map] at h1
  cases q : kvs[j]? with
  | none => rw [q] at h1; cases h1
  | some p =>
    rw [q] at h1
    cases h1
    obtain ⟨u', e1, e2⟩ := kv_get r (k := p.1) (v := p.2) q
    rw [hk] at e1
    cases e1
    exact e2
theorem ce_listVals {e : Expr} {me : EM} {p pos apos cpos : Pos} (hc : X.calm = true) (hg : Gl X "list") (hm : X.mg "list" = none) (he : PE X e (tE T W me)) (hbase : attributeBase e "values" X.env (eval e X.env) = eval e X.env := by rfl) (hline : (apos.endLine == cpos.line) = true := by rfl)
    (hs : starEach [Expr.Call (.Attribute e "values" apos) [] [] cpos] X.env = (false, eval (Expr.Call (.Attribute e "values" apos) [] [] cpos) X.env) :: starEach [] X.env := by rfl) (hpl : (backTo pos (starEach [] X.env)).any (·.1) = false := by rfl) :
    PE X (.Call (.Name "list" p) [.Call (.Attribute e "values" apos) [] [] cpos] [] pos) (tE T W (eListVals me)) := by
  refine ⟨fun pins s σ H Q I h => wpAny_Call_Name_kw (ld_blt I hg hm (show bootBuiltins "list" = some (.type "list") by decide +kernel) (callWith_type1 ?_ hs hpl))⟩
  have h : tE T W me σ H fun x H1 => ∃ (d : Addr) (vs : List (Key × V)), x = .ref d ∧ H1 d = some (.dK vs) ∧ ∀ q, H1 q = none → Q (.ref q) (upd H1 q (.lst (vs.map (·.2)))) := tG_bnd (R := RV T) h fun ρ s lo x z H1 r rl hx p => by
    cases hx with
    | ref ha =>
      simp only at p
      split at p
      · rename_i kvs hj
        obtain ⟨vs, h1, h2, h3⟩ := r.dic hj ha
        exact ⟨_, vs, rfl, h1, fun q hq => Aft.lst p r h3 hq⟩
      · exact p.elim
    | _ => exact p.elim
  rw [hs]
  refine Calls.spliced_cons (wpAny_Call_method (T := "dict") (id := "dict.values") hbase rfl hline F.plainAttrs_dict F.slot_dict_values F.type_dict_values (thn (he.run pins s σ H _ I h) fun u s1 ⟨x, H1, I1, rx, d, vs, ex, hd, q⟩ => ?_))
  subst ex
  obtain rfl : u = Value.ref d := rx
  obtain ⟨z, lo, us, rk, hD⟩ := dk_of I1.hok hd
  obtain ⟨ep, hat⟩ := hD.dictAt
  refine ⟨hat.dictOf.typeIs, hat.dictOf.mapOf.noDict, ?_⟩
  show wpAny _ _ (callWith cpos (.builtin "dict.values") [.ref d] [] []) _ X.xe s1
  refine method_meetsIn F.slot_dict_values F.entry_dict_values rfl (PySem.evalArgs_none ⟨rfl, hat.dictOf.typeIs, F.args_dict_values_1 _, _, meets_dict_values (mixKind X.prog X.w) d lo, ⟨us, hat.dictOf⟩, Calls.spliced_nil ?_⟩)
  have I2 : Inv X pins σ H1 { s1 with heap := s1.heap.push { cls := .type "dict_values", data := .fields #[.ref d] } } := I1.kept (t' := s1.toks) fun b ob q => Heap.get?_push_of_some _ q
  refine PySem.W.kdl_call (PySem.W.kdl_values (knd := mixKind X.prog X.w) (r := s1.heap.objs.size) (d := d) (kvs := us) (ep := ep)) (I.ok.hd hc) ⟨⟨_, Heap.get?_push_size _ rfl, rfl, rfl⟩, hat.push _⟩ (by rw [← Paired.length rk]; exact z) fun h' tk acc c hk hS hacc => ?_
  have hf := I2.hok.fresh (Nat.le_refl _)
  refine ⟨.ref _, _, I2.laid (o := .lst (vs.map (·.2))) (t' := tk) hk (Nat.le_refl _) ⟨by rw [List.length_map]; exact z, acc.toList, c, vals_kv rk hacc, by rw [Array.toArray_toList]; exact hS⟩, rfl, q _ hf⟩
end
end Sm

/-! S18: walls (code that the pure program never reaches), recursion -/
namespace Sm
open PySem L2
section
variable {X : Cx} {T : Tb} {W : WX}
def eFail : EM := fun _ => failM
def sFail : SM := fun _ _ => .fail
theorem tG_fail {α β : Type} {R : List Addr → Hp → α → β → Prop} {σ : St} {H : Hp} {Q : β → Hp → Prop} (h : tG R T W (fun _ => failM) σ H Q) : False := by
  obtain ⟨ρ, s, lo, _, _, p⟩ := h
  exact p
theorem ce_fail {e : Expr} : PE X e (tE T W eFail) := ⟨fun pins s σ H Q I h => (tG_fail h).elim⟩
theorem cs_fail {st : Stmt} : PS X st (tS T W sFail) := ⟨fun pins s σ H D I h => by
  obtain ⟨ρ, s, lo, _, _, p⟩ := h
  exact p.elim⟩
end
def mFail : List Vl → M Vl := fun _ => failM
theorem fnG_fail {P : Program} {w : World} {K : PySem.W.Frag} {mg : Str → Option Value} {base : Heap} {k n : Nat} {f : Addr} {fd : FuncData} {ps : List Str} {T : Tb} : FnG P w K mg base k f fd ps (SpM T n mFail) :=
  ⟨fun vs H Q E ⟨_, _, _, _, _, _, p⟩ => p.elim, fun A outer s H args us vs Q E _ _ _ _ _ ⟨_, _, _, _, _, _, p⟩ => p.elim⟩
end Sm

/-! S19: making objects of classes without an __init__ -/
namespace Sm
open PySem L2 PySem.W
structure MkB (K : PySem.W.Frag) (C : Addr) : Prop where
  makes : PySem.W.makesIn K C = true
  init : PySem.W.findIn K (.ref C) "__init__" = some (some (.builtin "object.__init__"))
  top : PySem.W.mroIn K C (.type "object") = some true
  kp : PySem.W.keepIn K (.ref C) = true
/-- object.__init__ of a new object -/
theorem oiK {K : PySem.W.Frag} {P : Program} {w : World} {A : Around} {C y : Addr} {o : Obj} {R : Result → Shared → Prop} {s : Shared} (B : MkB K C) (X : K.In s.heap) (ho : s.heap.get? y = some o) (hc : o.cls = .ref C) (q : R (.ok (.ret (.ref y))) s) :
    codeAny (model P w) A (.call (.builtin "object.__init__") ⟨[.ref y], []⟩) (PySem.W.InitBack y R) s := by
  have t1 : Looks (model P w) s.heap (typeOf (.ref y)) (.ref C) := NwA.type_at ho hc
  have t2 : Looks (model P w) s.heap (isInstance (.ref y) (.type "object")) true := t1.andThen (looks_mroIn X B.top)
  refine codeAny_call_builtin oi_plain entry_oi (@check_slot (model P w) _ _ _ "object.__init__" "object" "__init__" (.ref y) [] [] _ oi_kind oi_split t2 (NwA.oi_args_any (.ref y) [] []) ?_)
  obtain ⟨hh, g, d, t, os⟩ := s
  rw [oi_run]
  exact wpAny_pure (And.intro rfl q)
def eMakeB (c : Nat) : EM := fun _ s => .ok (.ref s.length) (s ++ [.ins c []])
theorem ce_makeB {X : Cx} {T : Tb} {W : WX} {p pos : Pos} {C : Addr} {c : Nat} {x : Str} (B : MkB X.K C) (hg : Gl X x) (hm : X.mg x = some (.ref C)) (hc : T.cl[c]? = some C)
    (hdb : (x == ("__debug__" : Str)) = false := by decide) : PE X (.Call (.Name x p) [] [] pos) (tE T W (eMakeB c)) := by
  refine ⟨fun pins s σ H Q I h => wpAny_Call_Name_kw (ld_glob I hg hm ?_ hdb)⟩
  obtain ⟨ρ, st, lo, rel, rl, q⟩ := h
  refine PySem.W.callWith_K0 I.kIn B.kp ?_
  have f1 : H (s.heap.objs.size + 1) = none := I.hok.fresh (Nat.le_succ _)
  have f0 : H s.heap.objs.size = none := I.hok.fresh (Nat.le_refl _)
  have ne : s.heap.objs.size + 1 ≠ s.heap.objs.size := Nat.succ_ne_self _
  have I2 := Inv.made (C := C) I
  have relD : Rel T ρ (upd H s.heap.objs.size (.own (s.heap.objs.size + 1))) st := rel.laid f0
  have f1' : upd H s.heap.objs.size (.own (s.heap.objs.size + 1)) (s.heap.objs.size + 1) = none := by rw [upd_ne ne]; exact f1
  have ext : Ext T ρ H (ρ ++ [s.heap.objs.size + 1]) (upd (upd H s.heap.objs.size (.own (s.heap.objs.size + 1))) (s.heap.objs.size + 1) (.ins C s.heap.objs.size [])) := (ext_upd f0).trans (relD.newExt f1')
  have relN : Rel T (ρ ++ [s.heap.objs.size + 1]) (upd (upd H s.heap.objs.size (.own (s.heap.objs.size + 1))) (s.heap.objs.size + 1) (.ins C s.heap.objs.size [])) (st ++ [.ins c []]) := relD.new f1' ⟨C, _, [], hc, upd_same, rfl, .nil⟩
  have hQ := q _ _ (V.ref (s.heap.objs.size + 1)) ext relN rel.newRef
  refine wpAny_call (make_map0 I.kIn B.makes B.init (fun self => Looks.of_pure (oi_bind self)) (oiK (o := PySem.W.instObj C s.heap.objs.size) B I2.kIn ?_ rfl ?_))
  · exact Heap.get?_push_size (h := s.heap.push PySem.W.emptyDict) (o := PySem.W.instObj C s.heap.objs.size) rfl |> fun e => by
      have l : (s.heap.push PySem.W.emptyDict).objs.size = s.heap.objs.size + 1 := by simp [Heap.push]
      rw [l] at e
      exact e
  · exact ⟨V.ref (s.heap.objs.size + 1), _, I2, rfl, hQ⟩
end Sm

/-! S22: defs with a star parameter, objects made by such an __init__; objects that are called -/
namespace Sm
open PySem PySem.Spec PyProof.Rows L2
/-- a def's promise at any number of arguments -/
def FnV (P : Program) (w : World) (K : PySem.W.Frag) (mg : Str → Option Value) (base : Heap) (k : Nat) (f : Addr) (sp : Sp) : Prop :=
  ∀ (A : Around) (outer : List Env) (s : Shared) (H : Hp) (us : List Value) (vs : List V) (Q : VK) (E : XK), Room k A → A.guards = some [] → Env0 P w K mg base A outer s H → Vals vs us → sp vs H Q E →
    codeAny (model P w) A (.call (.ref f) ⟨us, []⟩) (CR (L2.CX P w) outer P w H s Q E) s
theorem FnV.mono {P : Program} {w : World} {K : PySem.W.Frag} {mg : Str → Option Value} {base : Heap} {j k : Nat} {f : Addr} {sp : Sp} (F : FnV P w K mg base j f sp) (h : j ≤ k) : FnV P w K mg base k f sp := fun A outer s H us vs Q E hr => F A outer s H us vs Q E (hr.mono h)
def SpV (T : Tb) (m : List Vl → M Vl) : Sp := fun vs H Q E => ∃ (ρ : List Addr) (s : Sto) (as : List Vl), Rel T ρ H s ∧ RVs T ρ H as vs ∧ Po (RV T) T E ρ H (m as s) Q
/-- n parameters, the rest a tuple -/
def starM (n : Nat) (mf : List Vl → M Vl) : List Vl → M Vl := fun as s => if n ≤ as.length ∧ as.length ≤ LIM then mf (as.take n ++ [.tup (as.drop n)]) s else .fail
/-- how a def with a star parameter binds -/
def BindV (fd : FuncData) (ps : List Str) (pv : Str) : Prop := ∀ us rest : List Value, us.length = ps.length → bindArgs fd ⟨us ++ rest, []⟩ = (newTuple rest >>= fun t => pure (ps.zip us ++ [(pv, t)]))
theorem Fun.bindV {K : PySem.W.Frag} {x qual : Str} {st : Stmt} {f : Addr} {fd : FuncData} {ps : List Str} {pv : Str} (F : Fun K x qual st f fd)
    (h : ∀ (kV doc pm : Value) (an : Option Addr) (cdv ct : Value) (us rest : List Value), us.length = ps.length → bindArgs (PySem.W.fnOf x qual (defArgs st) (defBody st) (defScope st) .none kV doc pm an cdv ct) ⟨us ++ rest, []⟩ = (newTuple rest >>= fun t => pure (ps.zip us ++ [(pv, t)]))) : BindV fd ps pv := by
  obtain ⟨oc, od, kV, doc, pm, an, cdv, ct, osl, rfl, lk, hcd⟩ := F.ex
  exact h kV doc pm an cdv ct
theorem fn_simV {P : Program} {w : World} {K : PySem.W.Frag} {mg : Str → Option Value} {base : Heap} {k n : Nat} {x qual : Str} {st : Stmt} {f : Addr} {fd : FuncData} {N ps : List Str} {pv : Str} {T : Tb} {b : SM} (F : Fun K x qual st f fd) (S : FnScope N (ps ++ [pv]) (defScope st)) (hn : n = ps.length) (hb : BindV fd ps pv)
    (body : ∀ (cdv : Value) (A : Around) (outer : List Env) (s : Shared) (H : Hp) (E : XK), Room k (A.deeper (envOfC qual (defScope st) s.heap.objs.size f cdv)) → A.guards = some [] →
      PSs (cxOf (L2.CX P w) P w K mg base N qual (defScope st) f cdv A outer s H E) (defBody st) (tS T (fun c d _ H' => E c d H') b)) : FnV P w K mg base (k + 1) f (SpV T (starM n (fnM N.length b))) := by
  obtain ⟨oc, od, kV, doc, pm, an, cdv, ct, osl, rfl, lk, hcd⟩ := F.ex
  intro A outer s H us vs Q E hr hg e0 r ⟨ρ, sto, as, rel, has, p⟩
  unfold starM at p
  split at p
  · rename_i hl
    have hvl : as.length = vs.length := has.length
    have hsp : vs.take n ++ vs.drop n = vs := List.take_append_drop n vs
    have r' : Vals (vs.take n ++ vs.drop n) us := by rw [hsp]; exact r
    obtain ⟨u1, u2, eu, r1, r2⟩ := StX.vals_split r'
    subst eu
    have hlw : (vs.take n).length = ps.length := by rw [List.length_take]; omega
    have hl1 : u1.length = ps.length := by rw [← r1.length]; exact hlw
    have hz : (vs.drop n).length ≤ sizeLine := by rw [List.length_drop, lim_eq]; omega
    have hl2 : u2.length ≤ sizeLine := by rw [← r2.length]; exact hz
    have hnn : H s.heap.objs.size = Option.none := e0.hok.fresh (Nat.le_refl _)
    refine StX.run_bnd lk hcd S hr e0 (G := fun xs H2 => ∃ p, H p = Option.none ∧ xs = vs.take n ++ [V.ref p] ∧ H2 = upd H p (.tup (vs.drop n))) (fun A' Ex Q' h => ?_) fun s2 H2 xs ⟨a, hp, ex, eH⟩ hr' => ?_
    · rw [hb u1 u2 hl1]
      refine wpAny_bind (wpAny_newTuple (wpAny_pure ?_) hl2)
      have new : ObjOk P w (upd H s.heap.objs.size (.tup (vs.drop n))) (s.heap.push ({ cls := .type "tuple", data := .seq u2.toArray } : Obj)) s.heap.objs.size (.tup (vs.drop n)) := ⟨hz, u2, r2, ⟨_, Heap.get?_push_size _ rfl, rfl, _, rfl⟩⟩
      have un := StX.un_laid (fs := frs outer) (s := s) (o := ({ cls := .type "tuple", data := .seq u2.toArray } : Obj)) (u := .tup (vs.drop n)) hnn
      have z := h _ _ (vs.take n ++ [V.ref s.heap.objs.size]) (u1 ++ [Value.ref s.heap.objs.size]) (StX.env0_laid e0 new) un rfl (fun e s' => StX.cxUp outer s H _ _ E e s' un (fun b o q => Heap.get?_push_of_some _ q) rfl) (r1.append (.cons rfl .nil))
        (by rw [List.length_append, List.length_append, hlw] <;> rfl) ⟨_, hnn, rfl, rfl⟩
      rw [List.zip_append hl1.symm] at z
      exact z
    · subst ex eH
      refine ⟨_, body cdv A outer s2 _ E hr' hg, fn_body (n := n + 1) ?_⟩
      have ext : Ext T ρ H ρ (upd H a (.tup (vs.drop n))) := ext_upd hp
      exact ⟨ρ, sto, as.take n ++ [.tup (as.drop n)], rel.laid hp, ((has.take n).mono ext).append (.cons (.tup (.inl (.inl upd_same)) ((has.drop n).mono ext)) .nil), by simp; omega, p.mono ext⟩
  · exact p.elim
section
variable {X : Cx} {T : Tb} {W : WX} {e : Expr} {es : List Expr} {p pos : Pos} {ma : AM} {C f : Addr} {k c : Nat} {mi : List Vl → M Vl} {x : Str}
theorem run_mkV {pins : List (Addr × Obj)} {σ : L2.St} {H : Hp} {s : Shared} {Q : VK} {us : List Value} {vs : List V} (M : Mk X.K C f) (F : FnV X.prog X.w X.K X.mg X.base k f (SpV T mi)) (hr : Room (k + 1) X.A) (hgd : X.A.guards = some []) (tk : Takes X W) (hc : T.cl[c]? = some C)
    (I : Inv X pins σ H s) (r : Vals vs us)
    (h : ∃ (ρ : List Addr) (st : Sto) (as : List Vl), Rel T ρ H st ∧ RVs T ρ H as vs ∧ Po (RV T) T (fun c d H' => W c d σ H') ρ H (match mi (.ref st.length :: as) (st ++ [.ins c []]) with
      | .ok .non s' => .ok (.ref st.length) s'
      | .ok _ _ => .fail
      | .exc e s' => .exc e s'
      | .fail => (.fail : Res Vl)) Q) : wpAny (model X.prog X.w) X.A (call (.ref C) us) (EP X pins σ Q) X.xe s := by
  obtain ⟨ρ, st, as, rel, has, p⟩ := h
  have f1 : H (s.heap.objs.size + 1) = none := I.hok.fresh (Nat.le_succ _)
  have f0 : H s.heap.objs.size = none := I.hok.fresh (Nat.le_refl _)
  have ne : s.heap.objs.size + 1 ≠ s.heap.objs.size := Nat.succ_ne_self _
  have I2 := Inv.made (C := C) I
  have r2 : Vals (V.ref (s.heap.objs.size + 1) :: vs) (Value.ref (s.heap.objs.size + 1) :: us) := .cons rfl r
  have relD : Rel T ρ (upd H s.heap.objs.size (.own (s.heap.objs.size + 1))) st := rel.laid f0
  have f1' : upd H s.heap.objs.size (.own (s.heap.objs.size + 1)) (s.heap.objs.size + 1) = none := by rw [upd_ne ne]; exact f1
  have ext : Ext T ρ H (ρ ++ [s.heap.objs.size + 1]) (upd (upd H s.heap.objs.size (.own (s.heap.objs.size + 1))) (s.heap.objs.size + 1) (.ins C s.heap.objs.size [])) := (ext_upd f0).trans (relD.newExt f1')
  have relN : Rel T (ρ ++ [s.heap.objs.size + 1]) (upd (upd H s.heap.objs.size (.own (s.heap.objs.size + 1))) (s.heap.objs.size + 1) (.ins C s.heap.objs.size [])) (st ++ [.ins c []]) := relD.new f1' ⟨C, _, [], hc, upd_same, rfl, .nil⟩
  have sp : SpV T mi (V.ref (s.heap.objs.size + 1) :: vs) (upd (upd H s.heap.objs.size (.own (s.heap.objs.size + 1))) (s.heap.objs.size + 1) (.ins C s.heap.objs.size [])) (fun v H2 => v = .non ∧ Q (.ref (s.heap.objs.size + 1)) H2) fun c d H' => W c d σ H' := by
    refine ⟨_, _, .ref st.length :: as, relN, .cons rel.newRef (has.mono ext), ?_⟩
    cases e : mi (.ref st.length :: as) (st ++ [.ins c []]) with
    | fail => rw [e] at p; exact p
    | exc z s' => rw [e] at p; exact fun ρ' H' D x' => p ρ' H' D (ext.trans x')
    | ok v s' =>
      rw [e] at p
      intro ρ' H' z x' r' hz
      cases v <;> try exact p.elim
      exact ⟨hz.nonE, p ρ' H' _ (ext.trans x') r' (.ref (x'.pre _ _ (by rw [← rel.len, List.getElem?_append_right (Nat.le_refl _)]; simp)))⟩
  refine wpAny_call (make_map (f := f) I.kIn M.makes M.init (beq_iff_eq.mp M.fn) (codeAny_mono (F _ X.stack _ _ (Value.ref (s.heap.objs.size + 1) :: us) _ _ _ (hr.make C us []) (under_guards hgd) (I2.env0.make C us []) r2 sp) fun z s' hq => ?_))
  cases z with
  | error y => exact tk y s' (XE.of_call I2 (fun _ _ _ q => q) hq)
  | ok fl =>
    cases fl with
    | ret u =>
      obtain ⟨v, H', I3, rv, ev, q3⟩ := I2.after hq
      subst ev
      exact ⟨rv, ⟨V.ref (s.heap.objs.size + 1), H', I3, rfl, q3⟩⟩
    | next => exact hq.elim
    | brk => exact hq.elim
    | cont => exact hq.elim
theorem ce_makeV (M : Mk X.K C f) (F : FnV X.prog X.w X.K X.mg X.base k f (SpV T mi)) (hr : Room (k + 1) X.A) (hgd : X.A.guards = some []) (hg : Gl X x) (hm : X.mg x = some (.ref C)) (tk : Takes X W) (hc : T.cl[c]? = some C) (ha : PA X (e :: es) (tA T W ma))
    (hdb : (x == ("__debug__" : Str)) = false := by decide) (he : starEach (e :: es) X.env = (false, eval e X.env) :: starEach es X.env := by rfl) (hpl : (backTo pos (starEach es X.env)).any (·.1) = false := by rfl) :
    PE X (.Call (.Name x p) (e :: es) [] pos) (tE T W (eMake c mi ma)) := by
  refine ⟨fun pins s σ H Q I h => wpAny_Call_Name_kw (ld_glob I hg hm ?_ hdb)⟩
  have h : tA T W ma σ H fun vs H1 => ∃ (ρ : List Addr) (st : Sto) (as : List Vl), Rel T ρ H1 st ∧ RVs T ρ H1 as vs ∧ Po (RV T) T (fun c d H' => W c d σ H') ρ H1 (match mi (.ref st.length :: as) (st ++ [.ins c []]) with
      | .ok .non s' => .ok (.ref st.length) s'
      | .ok _ _ => .fail
      | .exc e s' => .exc e s'
      | .fail => (.fail : Res Vl)) Q := tG_bnd (R := RVs T) h fun ρ s lo xs zs H1 r rl hx q => ⟨ρ, s, xs, r, hx, q⟩
  refine PySem.W.callWith_K (h₀ := X.base) I.ok.mod.kin M.kp (thn (ha.run pos pins s σ H _ I h) fun us s1 ⟨vs, H1, I1, r, q⟩ => ⟨I1.kIn, ?_⟩) he hpl
  exact run_mkV M F hr hgd tk hc I1 r q
theorem ce_makeV0 (M : Mk X.K C f) (F : FnV X.prog X.w X.K X.mg X.base k f (SpV T mi)) (hr : Room (k + 1) X.A) (hgd : X.A.guards = some []) (hg : Gl X x) (hm : X.mg x = some (.ref C)) (tk : Takes X W) (hc : T.cl[c]? = some C)
    (hdb : (x == ("__debug__" : Str)) = false := by decide) : PE X (.Call (.Name x p) [] [] pos) (tE T W (eMake c mi aNil)) := by
  refine ⟨fun pins s σ H Q I h => wpAny_Call_Name_kw (ld_glob I hg hm ?_ hdb)⟩
  obtain ⟨ρ, st, lo, r, rl, q⟩ := h
  exact PySem.W.callWith_K0 I.kIn M.kp (run_mkV (us := []) (vs := []) M F hr hgd tk hc I .nil ⟨ρ, st, [], r, .nil, q⟩)
end
/-! ### objects that are called -/
def eCallO (tab : MTab) (o : EM) (a : AM) : EM := fun lo => bnd (o lo) fun x s => match x with
  | .ref j => bnd (a lo) (fun as s => match s[j]? with
    | some (.ins c fs) => match tab c with
      | some mf => mf (.ref j :: as) s
      | none => .fail
    | _ => .fail) s
  | _ => .fail
def CallOk (X : Cx) (T : Tb) (k n : Nat) (tab : MTab) : Prop := ∀ c mf, tab c = some mf → ∀ C, T.cl[c]? = some C → ∃ (f : Addr) (fd : FuncData) (ps : List Str), StX.CallO T.K C f ∧ FnG X.prog X.w X.K X.mg X.base k f fd ps (SpM T (n + 1) mf) ∧ Binds X.K fd ps []
section
variable {X : Cx} {T : Tb} {W : WX} {k n : Nat} {f : Addr} {fd : FuncData} {ps : List Str} {mf : List Vl → M Vl} {pos : Pos} {e o : Expr} {es : List Expr} {ma : AM} {mo : EM} {ds : List Value} {dvs : List V}
theorem code_G {sp : Sp} {pins : List (Addr × Obj)} {σ : L2.St} {H : Hp} {s : Shared} {Q : VK} {us : List Value} {vs : List V} (F : FnG X.prog X.w X.K X.mg X.base k f fd ps sp) (hr : Room k X.A) (hg : X.A.guards = some []) (hb : Binds X.K fd ps ds) (hd : Vals dvs ds) (tk : Takes X W)
    (I : Inv X pins σ H s) (r : Vals vs us) (h : sp (vs ++ dvs) H Q fun c d H' => W c d σ H') :
    codeAny (model X.prog X.w) X.A (.call (.ref f) ⟨us, []⟩) (fun r s' => match r with | .ok (.ret v) => EP X pins σ Q v s' | .ok _ => False | .error e => X.xe e s') s := by
  have r2 : Vals (vs ++ dvs) (us ++ ds) := r.append hd
  refine codeAny_mono (F.run X.A X.stack s H ⟨us, []⟩ (us ++ ds) (vs ++ dvs) Q _ hr hg I.env0 (hb s us I.kIn (by rw [← r2.length]; exact F.len _ _ _ _ h)) r2 h) fun z s' hq => ?_
  cases z with
  | error y => exact tk y s' (XE.of_call I (fun _ _ _ q => q) hq)
  | ok fl =>
    cases fl with
    | ret u => exact I.after hq
    | next => exact hq.elim
    | brk => exact hq.elim
    | cont => exact hq.elim
theorem ce_callO {tab : MTab} (ok : CallOk X T k n tab) (hr : Room k X.A) (hgd : X.A.guards = some []) (tk : Takes X W) (ho : PE X o (tE T W mo)) (ha : PA X (e :: es) (tA T W ma))
    (ht : eval (.Call o (e :: es) [] pos) X.env = (do callWith pos (← eval o X.env) [] (backTo pos (starEach (e :: es) X.env)) (backToKw pos (keywordEach [] X.env))) := by rfl)
    (he : starEach (e :: es) X.env = (false, eval e X.env) :: starEach es X.env := by rfl) (hpl : (backTo pos (starEach es X.env)).any (·.1) = false := by rfl) (hK : X.K = T.K := by rfl) :
    PE X (.Call o (e :: es) [] pos) (tE T W (eCallO (tabA n tab) mo ma)) := by
  refine ⟨fun pins s σ H Q I h => ?_⟩
  have h : tE T W mo σ H fun x H1 => ∃ a, x = V.ref a ∧ tA T W ma σ H1 fun vs H2 => ∃ (C dx f : Addr) (fs : List (Str × V)) (mf : List Vl → M Vl) (fd : FuncData) (ps : List Str), H2 a = some (.ins C dx fs) ∧ StX.CallO T.K C f ∧ FnG X.prog X.w X.K X.mg X.base k f fd ps (SpM T (n + 1) mf) ∧ Binds X.K fd ps [] ∧
      SpM T (n + 1) mf (.ref a :: vs ++ []) H2 Q fun c d H' => W c d σ H' := tG_bnd (R := RV T) h fun ρ s lo x z H1 r rl hx p => by
    cases hx with
    | ref hρ =>
      rename_i j a
      refine ⟨a, rfl, po_bnd (R := RVs T) (m := ma) r rl p fun ρ' s' as zs H' ext r' rl' has p' => ?_⟩
      split at p'
      · rename_i c fs hj
        split at p'
        · rename_i mf hm
          unfold tabA at hm
          obtain ⟨mf0, hm0, rfl⟩ := Option.map_eq_some_iff.mp hm
          obtain ⟨C, dx, vs, h1, h2, h3, h4⟩ := r'.ins hj (ext.pre _ _ hρ)
          obtain ⟨f, fd, ps, k2, k3, k4⟩ := ok c mf0 hm0 C h1
          refine ⟨C, dx, f, vs, mf0, fd, ps, h2, k2, k3, k4, ?_⟩
          unfold arg at p'
          split at p'
          · rename_i hl
            rw [List.append_nil]
            exact spM_of r' (.cons (.ref (ext.pre _ _ hρ)) has) hl p'
          · exact p'.elim
        · exact p'.elim
      · exact p'.elim
    | _ => exact p.elim
  refine Call_ (thn (ho.run pins s σ H _ I h) fun u s1 ⟨y, H1, I1, ry, a, ey, q⟩ => ?_) ht
  subst ey
  obtain rfl : u = Value.ref a := ry
  refine StX.callO_with (thn (ha.run pos pins s1 σ H1 _ I1 q) fun us s2 ⟨vs, H2, I2, r, C, dx, f, fs, mf, fd, ps, hi, co, F, hb, q2⟩ => ?_) he hpl
  obtain ⟨ox, od, J, hd⟩ := StX.insC_at (C := C) I2 (.inr ⟨dx, fs, hi⟩)
  rw [← hK] at co
  exact ⟨⟨C, ox, od, J, hd⟩, wpAny_call (PySem.W.kco_code I2.kIn J hd co.at_ co.fn co.fi (code_G (us := .ref a :: us) (vs := .ref a :: vs) F hr hgd hb .nil tk I2 (.cons rfl r) q2))⟩
end
end Sm

/-! S20: str.join, dict(d), sorted(d) -/
namespace Sm
open PySem L2
section
variable {X : Cx} {T : Tb}
/-- x.join(list of strs) -/
def oJoin : OMt
  | .str a, [x], s => match lstOf x s with
    | some xs => match mapO asStr xs with
      | some ys => if (ys.map (·.length)).sum + ys.length * a.length ≤ LIM then some (.str (Txt.join a ys), s) else none
      | none => none
    | none => none
  | _, _, _ => none
theorem m_join : MtR X "str.join" (rMt T oJoin) := MtR.imp mt_join fun x xs H Q q => by
  obtain ⟨ρ, st, a, as, w, s', r, ha, hs, e, k⟩ := q
  unfold oJoin at e
  split at e
  · split at e
    · rename_i ys hx
      split at e
      · rename_i zs hz
        split at e
        · rename_i hl
          cases e
          obtain ⟨z, rfl, hz'⟩ := hs.one
          obtain ⟨p, vs, rfl, h1, h2⟩ := lstOf_ok r hz' hx
          have ev := asStrs_ok h2 hz
          subst ev
          cases ha
          exact ⟨_, p, zs, rfl, rfl, .inl (SqL.of h1), hl, k.here r (.str _)⟩
        · cases e
      · cases e
    · cases e
  · cases e
/-- dict(d) -/
def oDict : OC
  | [.ref j], s => match s[j]? with
    | some (.dic kvs) => some (.ref s.length, s ++ [.dic kvs])
    | _ => none
  | _, _ => none
theorem c_dict : CallR X (.type "dict") (rC T oDict) := CallR.imp call_dictD fun xs H Q q => by
  obtain ⟨ρ, st, as, w, s', r, ha, e, k⟩ := q
  unfold oDict at e
  split at e
  · split at e
    · rename_i kvs hx
      cases e
      obtain ⟨z, rfl, hz⟩ := ha.one
      obtain ⟨p, rfl, hp⟩ := hz.refE
      obtain ⟨vs, h1, h2, h3⟩ := r.dic hx hp
      exact ⟨p, vs, rfl, .inl h1, fun q hq => k.new r hq ⟨vs, upd_same, h2, h3.mono (r.newExt hq)⟩⟩
    · cases e
  · cases e
end
end Sm

/-! S21: texts in order; sorted of lists, sets and dicts -/
namespace Sm
open PySem L2 PySem.Spec
theorem lt_irr : ∀ a : List Nat, ltCps a a = false
  | [] => rfl
  | x :: a => by simp [ltCps, lt_irr a]
theorem lt_anti : ∀ a b : List Nat, ltCps a b = false → ltCps b a = false → a = b
  | [], [], _, _ => rfl
  | [], _ :: _, h, _ => by simp [ltCps] at h
  | _ :: _, [], _, h => by simp [ltCps] at h
  | x :: a, y :: b, h1, h2 => by
    simp [ltCps] at h1 h2
    have e : x = y := Nat.le_antisymm h2.1 h1.1
    subst e
    rw [lt_anti a b (h1.2 rfl) (h2.2 rfl)]
theorem lt_asym : ∀ a b : List Nat, ltCps a b = true → ltCps b a = false
  | [], [], h => by simp [ltCps] at h
  | [], _ :: _, _ => by simp [ltCps]
  | _ :: _, [], h => by simp [ltCps] at h
  | x :: a, y :: b, h => by
    simp [ltCps] at h ⊢
    rcases h with h | ⟨rfl, h⟩
    · exact ⟨by omega, fun e => by omega⟩
    · exact ⟨Nat.le_refl _, fun _ => lt_asym a b h⟩
/-- a ≤ b is: not b < a -/
theorem le_trans3 : ∀ a b c : List Nat, ltCps b a = false → ltCps c b = false → ltCps c a = false
  | [], _, [], _, _ => rfl
  | [], [], _ :: _, _, _ => by simp [ltCps]
  | [], _ :: _, _ :: _, _, _ => by simp [ltCps]
  | _ :: _, [], _, h, _ => by simp [ltCps] at h
  | _ :: _, _ :: _, [], _, h => by simp [ltCps] at h
  | x :: a, y :: b, z :: c, h1, h2 => by
    simp [ltCps] at h1 h2 ⊢
    refine ⟨by omega, fun e => ?_⟩
    have e1 : y = x := by omega
    have e2 : z = y := by omega
    exact le_trans3 a b c (h1.2 e1) (h2.2 e2)
abbrev leS (a b : Str) : Prop := ltCps b.cps.toList a.cps.toList = false
theorem leS_total (a b : Str) : leS a b ∨ leS b a := by
  cases h : ltCps b.cps.toList a.cps.toList with
  | false => exact .inl h
  | true => exact .inr (lt_asym _ _ h)
def insT (x : Str) : List Str → List Str
  | [] => [x]
  | y :: ys => if ltCps y.cps.toList x.cps.toList then y :: insT x ys else x :: y :: ys
def srtT : List Str → List Str
  | [] => []
  | x :: xs => insT x (srtT xs)
theorem insT_perm (x : Str) : ∀ ys : List Str, (insT x ys).Perm (x :: ys)
  | [] => .refl _
  | y :: ys => by
    unfold insT
    split
    · exact (List.Perm.cons y (insT_perm x ys)).trans (List.Perm.swap x y ys)
    · exact .refl _
theorem srtT_perm : ∀ xs : List Str, (srtT xs).Perm xs
  | [] => .refl _
  | x :: xs => (insT_perm x (srtT xs)).trans (List.Perm.cons x (srtT_perm xs))
theorem insT_sorted (x : Str) : ∀ ys : List Str, ys.Pairwise leS → (insT x ys).Pairwise leS
  | [], _ => List.pairwise_singleton _ _
  | y :: ys, h => by
    have h' := List.pairwise_cons.mp h
    unfold insT
    split
    · rename_i q
      refine List.pairwise_cons.mpr ⟨fun z hz => ?_, insT_sorted x ys h'.2⟩
      rcases List.mem_cons.mp ((insT_perm x ys).mem_iff.mp hz) with rfl | hz
      · exact lt_asym _ _ q
      · exact h'.1 z hz
    · rename_i q
      have q : leS x y := by simpa using q
      refine List.pairwise_cons.mpr ⟨fun z hz => ?_, h⟩
      rcases List.mem_cons.mp hz with rfl | hz
      · exact q
      · exact le_trans3 _ _ _ q (h'.1 z hz)
theorem srtT_sorted : ∀ xs : List Str, (srtT xs).Pairwise leS
  | [] => List.Pairwise.nil
  | x :: xs => insT_sorted x _ (srtT_sorted xs)
theorem rising_pw : ∀ (p : Str) (l : List Str), PyProof.Rows.risingS p l = true → (p :: l).Pairwise leS
  | p, [], _ => List.pairwise_singleton _ _
  | p, x :: r, h => by
    simp [PyProof.Rows.risingS] at h
    have ih := rising_pw x r h.2
    refine List.pairwise_cons.mpr ⟨fun z hz => ?_, ih⟩
    rcases List.mem_cons.mp hz with rfl | hz
    · exact h.1
    · exact le_trans3 _ _ _ h.1 ((List.pairwise_cons.mp ih).1 z hz)
theorem sortedS_pw : ∀ {l : List Str}, PyProof.Rows.sortedS l = true → l.Pairwise leS
  | [], _ => List.Pairwise.nil
  | x :: r, h => rising_pw x r h
theorem str_ext {a b : Str} (h : a.cps.toList = b.cps.toList) : a = b := by
  cases a; cases b
  simp at h
  rw [h]
theorem same_sorted : ∀ {a b : List Str}, a.Perm b → a.Pairwise leS → b.Pairwise leS → a = b
  | [], b, p, _, _ => by rw [List.nil_perm.mp p]
  | x :: a, [], p, _, _ => by have := p.length_eq; simp at this
  | x :: a, y :: b, p, ha, hb => by
    have ha' := List.pairwise_cons.mp ha
    have hb' := List.pairwise_cons.mp hb
    have e : x = y := by
      have h1 : leS x y := by
        rcases List.mem_cons.mp (p.mem_iff.mpr (List.mem_cons_self ..)) with q | q
        · rw [q]; exact lt_irr _
        · exact ha'.1 y q
      have h2 : leS y x := by
        rcases List.mem_cons.mp (p.mem_iff.mp (List.mem_cons_self ..)) with q | q
        · rw [q]; exact lt_irr _
        · exact hb'.1 x q
      exact str_ext (lt_anti _ _ h2 h1)
    subst e
    rw [same_sorted (List.Perm.cons_inv p) ha'.2 hb'.2]
theorem srtT_eq {xs ys : List Str} (p : ys.Perm xs) (h : PyProof.Rows.sortedS ys = true) : ys = srtT xs := same_sorted (p.trans (srtT_perm xs).symm) (sortedS_pw h) (srtT_sorted xs)
/-- all keys texts -/
def strKeys : List (Key × Vl) → Option (List Str)
  | [] => some []
  | (.inr x, _) :: r => (strKeys r).map (x :: ·)
  | _ => none
theorem strKeys_ok : ∀ {kvs : List (Key × Vl)} {ks : List Str}, strKeys kvs = some ks → kvs.map (·.1) = ks.map Sum.inr
  | [], ks, h => by cases h; rfl
  | (.inl _, _) :: _, ks, h => by cases h
  | (.inr x, _) :: r, ks, h => by
    unfold strKeys at h
    cases e : strKeys r with
    | none => rw [e] at h; cases h
    | some l =>
      rw [e] at h
      cases h
      simp [strKeys_ok e]
/-- sorted of ints (list, set), of texts (list, keys of a dict) -/
def oSort : OC
  | [.ref j], s => match s[j]? with
    | some (.lst xs) => match mapO asInt xs with
      | some ns => some (.ref s.length, s ++ [.lst ((srt ns).map Vl.int)])
      | none => match mapO asStr xs with
        | some zs => if zs.length < 64 then some (.ref s.length, s ++ [.lst ((srtT zs).map Vl.str)]) else none
        | none => none
    | some (.set xs) => if xs.length < 64 then some (.ref s.length, s ++ [.lst ((srt xs).map Vl.int)]) else none
    | some (.dic kvs) => match strKeys kvs with
      | some ks => if ks.length < 64 then some (.ref s.length, s ++ [.lst ((srtT ks).map Vl.str)]) else none
      | none => none
    | _ => none
  | _, _ => none
theorem RVs.strs {T : Tb} {ρ : List Addr} {H : Hp} : ∀ zs : List Str, RVs T ρ H (zs.map Vl.str) (zs.map V.str)
  | [] => .nil
  | z :: zs => .cons (.str z) (RVs.strs zs)
section
variable {X : Cx} {T : Tb}
theorem c_sort (hc : X.calm = true := by rfl) (hw : X.w = T.w := by rfl) : CallR X (.builtin "sorted") (rC T oSort) := fun pins s σ H xs us Q I rs q => by
  obtain ⟨ρ, st, as, v, s', r, ha, e, k⟩ := q
  have base : oSortS as st = some (v, s') → _ := fun e' => c_sortS (T := T) hc hw pins s σ H xs us Q I rs ⟨ρ, st, as, v, s', r, ha, e', k⟩
  unfold oSort at e
  split at e
  · rename_i j
    split at e
    · rename_i ys hx
      split at e
      · rename_i ns hn
        exact base (by simp only [oSortS, hx, hn, Option.map]; exact e)
      · split at e
        · rename_i zs hz
          split at e
          · rename_i hl
            cases e
            obtain ⟨z, rfl, hz'⟩ := ha.one
            obtain ⟨p, rfl, hp⟩ := hz'.refE
            obtain ⟨vs, h1, h2⟩ := r.lst hx hp
            have ev := asStrs_ok h2 hz
            subst ev
            exact cr_sortedS pins s σ H _ us Q I rs ⟨p, zs, rfl, SqL.of h1, hl, fun ys q hp' hs hq => by
              rw [srtT_eq hp' hs]
              exact k.lst r (RVs.strs _) hq⟩
          · cases e
        · cases e
    · rename_i ys hx
      split at e
      · rename_i hl
        exact base (by simp only [oSortS, hx, if_pos hl]; exact e)
      · cases e
    · rename_i kvs hx
      split at e
      · rename_i ks hk
        split at e
        · rename_i hl
          cases e
          obtain ⟨z, rfl, hz'⟩ := ha.one
          obtain ⟨p, rfl, hp⟩ := hz'.refE
          obtain ⟨vs, h1, h2, h3⟩ := r.dic hx hp
          exact call_sortedD hc pins s σ H _ us Q I rs ⟨p, vs, ks, rfl, .inl h1, h2.trans (strKeys_ok hk), hl, fun ys q hp' hs hq => by
            rw [srtT_eq hp' hs]
            exact k.lst r (RVs.strs _) hq⟩
        · cases e
      · cases e
    · cases e
  · cases e
end
end Sm

/-! S25: targets within targets, op=, chains of comparisons, isinstance, get, setdefault, dict(pairs), len of own objects -/
namespace Sm
open PySem L2
/-! ### targets -/
def gAll : List GM → List Vl → Lo → Sto → Option (Lo × Sto)
  | [], [], lo, s => some (lo, s)
  | g :: gs, v :: vs, lo, s => match g v lo s with
    | .ok lo' s' => gAll gs vs lo' s'
    | _ => none
  | _, _, _, _ => none
def gTs (gs : List GM) : GM := fun v lo s => match v with
  | .tup xs => match gAll gs xs lo s with
    | some (lo', s') => .ok lo' s'
    | none => .fail
  | _ => .fail
def tGts (T : Tb) (gs : List GM) : TGs := fun zs σ H Q => ∃ (ρ : List Addr) (s : Sto) (lo : Lo) (vs : List Vl) (lo' : Lo) (s' : Sto), Rel T ρ H s ∧ RL T ρ H lo σ ∧ RVs T ρ H vs zs ∧ gAll gs vs lo s = some (lo', s') ∧ PoN T ρ H lo' s' Q
theorem pgs_mono {X : Cx} {es : List Expr} {t t' : TGs} (h : PGs X es t) (k : ∀ v σ H Q, t' v σ H Q → t v σ H Q) : PGs X es t' := ⟨fun pins s σ H v u Q I r q => h.run pins s σ H v u Q I r (k v σ H Q q)⟩
theorem gAll_len : ∀ {gs : List GM} {vs : List Vl} {lo : Lo} {s : Sto} {r : Lo × Sto}, gAll gs vs lo s = some r → vs.length = gs.length
  | [], [], _, _, _, _ => rfl
  | [], _ :: _, _, _, _, h => by cases h
  | _ :: _, [], _, _, _, h => by cases h
  | g :: gs, v :: vs, lo, s, r, h => by
    unfold gAll at h
    split at h
    · rw [List.length_cons, List.length_cons, gAll_len h]
    · cases h
section
variable {X : Cx} {T : Tb} {W : WX} {e : Expr} {es : List Expr} {g : GM} {gs : List GM} {pos : Pos} {kk : Nat}
theorem cgs_nil : PGs X [] (tGts T []) := pgs_mono pgs_nil fun zs σ H Q h => by
  obtain ⟨ρ, s, lo, vs, lo', s', r, rl, hv, e, p⟩ := h
  cases vs with
  | cons => cases e
  | nil =>
    cases e
    cases hv
    exact ⟨rfl, p ρ H σ .refl r rl⟩
theorem cgs_cons (h1 : PG X e (tGt T W g)) (h2 : PGs X es (tGts T gs)) (hs : (assignEach (e :: es) X.env).map (·.2) = assign e X.env :: (assignEach es X.env).map (·.2) := by rfl) : PGs X (e :: es) (tGts T (g :: gs)) :=
  pgs_mono (pgs_cons h1 h2 hs) fun zs σ H Q h => by
    obtain ⟨ρ, s, lo, vs, lo', s', r, rl, hv, e, p⟩ := h
    cases hv with
    | nil => cases e
    | cons h1 h2 =>
      rename_i x z xs zs
      refine ⟨z, zs, rfl, ρ, s, lo, x, r, rl, h1, ?_⟩
      unfold gAll at e
      split at e
      · rename_i lo1 s1 hg
        rw [hg]
        exact fun ρ' H' σ' ext r' rl' => ⟨ρ', s1, lo1, xs, lo', s', r', rl', h2.mono ext, e, p.mono ext⟩
      · cases e
theorem cg_tups (h : PGs X es (tGts T gs)) (hc : X.calm = true := by rfl) (hn : (assignEach es X.env).length = gs.length := by rfl) (hst : (assignEach es X.env).findIdx? (·.1) = none := by rfl) (hK : X.K = T.K := by rfl) : PG X (.Tuple es kk pos) (tGt T W (gTs gs)) :=
  pg_mono (pg_tup hc h hn hst) fun z σ H Q h => by
    obtain ⟨ρ, s, lo, v, r, rl, hv, p⟩ := h
    unfold gTs at p
    cases v <;> try exact p.elim
    rename_i xs
    obtain ⟨a, vs, rfl, h1, h2⟩ := hv.tupE
    simp only at p
    split at p
    · rename_i lo' s' hg
      refine ⟨a, vs, rfl, by rw [hK]; exact h1, by rw [← h2.length]; exact gAll_len hg, ρ, s, lo, xs, lo', s', r, rl, h2, hg, ?_⟩
      exact fun ρ' H' σ' ext r' rl' => p ρ' H' σ' ext r' rl'
    · exact p.elim
end
/-! ### x op= e -/
def sAug (i : Nat) (f : O2) (e : EM) : SM := fun lo s => match lo[i]? with
  | some (some x) => bndS e (fun lo v s => match f x v s with
    | some (z, s') => .nx (lo.set i (some z)) s'
    | none => .fail) lo s
  | _ => .fail
def opIAdd : O2 := fun a b s => match a, b with
  | .int i, .int j => some (.int (i + j), s)
  | .str i, .str j => if i.length + j.length ≤ LIM then some (.str (i ++ j), s) else none
  | _, _ => none
def opISub : O2 := fun a b s => match a, b with
  | .int i, .int j => some (.int (i - j), s)
  | _, _ => none
section
variable {X : Cx} {T : Tb} {W : WX} {e : Expr} {me : EM} {f : O2} {op : Operator} {pos pos' : Pos}
theorem io_add : OpR X (inplaceOp .Add) (rO T opIAdd) := by
  intro pins s σ H x y v u Q I rx ry q
  obtain ⟨ρ, st, a, b, w, s', r, ha, hb, e, k⟩ := q
  unfold opIAdd at e
  split at e
  · cases e
    rw [ha.intE] at rx
    rw [hb.intE] at ry
    exact iop_add pins s σ H _ _ v u Q I rx ry ⟨_, _, rfl, rfl, k.here r (.int _)⟩
  · split at e
    · rename_i hl
      cases e
      rw [ha.strE] at rx
      rw [hb.strE] at ry
      exact iop_add_str pins s σ H _ _ v u Q I rx ry ⟨_, _, rfl, rfl, by rw [lim_eq]; exact hl, k.here r (.str _)⟩
    · cases e
  · cases e
theorem io_sub : OpR X (inplaceOp .Sub) (rO T opISub) := by
  intro pins s σ H x y v u Q I rx ry q
  obtain ⟨ρ, st, a, b, w, s', r, ha, hb, e, k⟩ := q
  unfold opISub at e
  split at e
  · cases e
    rw [ha.intE] at rx
    rw [hb.intE] at ry
    exact iop_sub pins s σ H _ _ v u Q I rx ry ⟨_, _, rfl, rfl, k.here r (.int _)⟩
  · cases e
theorem cs_aug {i : Nat} {x : Str} (hN : X.N.Nodup) (hi : X.N[i]? = some x) (hx : Loc X.env.scope x) (ho : OpR X (inplaceOp op) (rO T f)) (he : PE X e (tE T W me))
    (hf : X.fn x = true ∨ X.env.scope.names.lookup x = some .local := by first | exact .inl rfl | exact .inr rfl | assumption) : PS X (.AugAssign (.Name x pos') op e pos) (tS T W (sAug i f me)) :=
  ps_mono (ps_aug hN hi hx he ho hf) fun D σ H h => by
    obtain ⟨ρ, s, lo, r, rl, p⟩ := h
    unfold sAug at p
    split at p
    · rename_i x hx
      obtain ⟨z, hz, hv⟩ := rl.at_ i x hx
      refine ⟨z, hz, poS_bnd (R := RV T) r rl p fun ρ' s' a b H' ext r' rl' hb p' => ?_⟩
      split at p'
      · rename_i w s2 hw
        exact ⟨ρ', s', x, a, w, s2, r', hv.mono ext, hb, hw, fun ρ2 H2 u e2 r2 hu => p' ρ2 H2 _ e2 r2 ((rl'.mono e2).set i hu)⟩
      · exact p'.elim
    · exact p.elim
end
/-- o.f op= e -/
def sFldA (cs : List Nat) (f : Str) (op : O2) (o e : EM) : SM := bndS o fun lo x s => match x with
  | .ref j => match s[j]? with
    | some (.ins c fs) => if c ∈ cs then match getS fs f with
        | some v => bndS e (fun lo y s => match op v y s with
          | some (z, s') => match setFld cs f (.ref j) z s' with
            | some s2 => match s'[j]? with
              | some (.ins c' _) => if c' = c then .nx lo s2 else .fail
              | _ => .fail
            | none => .fail
          | none => .fail) lo s
        | none => .fail
      else .fail
    | _ => .fail
  | _ => .fail
section
variable {X : Cx} {T : Tb} {W : WX} {o value : Expr} {mo me : EM} {op : O2} {oper : Operator} {cs : List Nat} {f : Str} {pos tpos : Pos}
theorem cs_fldA (ok : FldOk T cs f) (hop : OpR X (inplaceOp oper) (rO T op)) (ho : PE X o (tE T W mo)) (hv : PE X value (tE T W me)) (hK : X.K = T.K := by rfl) :
    PS X (.AugAssign (.Attribute o f tpos) oper value pos) (tS T W (sFldA cs f op mo me)) := ps_mono (ps_fldaug ho hv hop) fun D σ H h =>
  tS_bnd (R := RV T) h fun ρ s lo x z H' r rl hx p => by
    cases x <;> try exact p.elim
    rename_i j
    simp only at p
    obtain ⟨a, rfl, ha⟩ := hx.refE
    split at p
    · rename_i c fs hj
      split at p
      · rename_i hc
        split at p
        · rename_i v hv
          obtain ⟨C, dx, vs, h1, h2, h3, h4⟩ := r.ins hj ha
          obtain ⟨w, hw, hvw⟩ := (getS_ok (f := f) h3 h4).2 v hv
          refine ⟨a, C, dx, vs, w, rfl, h2, by rw [hK]; exact (ok c hc C h1).1, by rw [hK]; exact (ok c hc C h1).2, hw, poS_bnd (R := RV T) r rl p fun ρ1 s1 y u H1 ext1 r1 rl1 hy p1 => ?_⟩
          split at p1
          · rename_i q s2 hq
            split at p1
            · rename_i s3 h3'
              split at p1
              · rename_i c' fs' hj'
                split at p1
                · rename_i ec
                  subst ec
                  refine ⟨ρ1, s1, v, y, q, s2, r1, hvw.mono ext1, hy, hq, fun ρ2 H2 t e2 r2 ht => ?_⟩
                  have ha2 := e2.pre _ _ (ext1.pre _ _ ha)
                  obtain ⟨C', dx', vs', k1, k2, k3, k4⟩ := r2.ins hj' ha2
                  obtain rfl : C' = C := Option.some.inj (k1.symm.trans h1)
                  unfold setFld at h3'
                  simp only [hj'] at h3'
                  split at h3'
                  · rename_i hcl
                    cases h3'
                    have hlen : vs'.length = fs'.length := by have := congrArg List.length k3; simpa using this
                    refine ⟨dx', vs', k2, by rw [hlen]; exact hcl.2, ?_⟩
                    obtain ⟨q1, q2⟩ := putS_ok (f := f) ht k3 k4
                    exact p1 ρ2 _ σ (e2.trans (r2.setExt ha2 k2)) (r2.set ha2 ⟨C', dx', _, k1, upd_same, q1, q2.mono (r2.setExt ha2 k2)⟩) ((rl1.mono e2).mono (r2.setExt ha2 k2))
                  · cases h3'
                · exact p1.elim
              · exact p1.elim
            · exact p1.elim
          · exact p1.elim
        · exact p.elim
      · exact p.elim
    · exact p.elim
end
/-! ### a op b op' c -/
def eChain (f f' : O2) (a b c : EM) : EM := fun lo => bnd (a lo) fun x => bnd (b lo) fun y => bnd (lift (f x y)) fun z => match z with
  | .bl true => bnd (c lo) fun w => lift (f' y w)
  | .bl false => ret (.bl false)
  | _ => failM
section
variable {X : Cx} {T : Tb} {W : WX} {a b c : Expr} {ma mb mc : EM} {f f' : O2} {op op' : CmpOp} {pos : Pos}
theorem chain_le {σ : L2.St} {H : Hp} {Q : VK} (h : tE T W (eChain f f' ma mb mc) σ H Q) : tChain (rO T f) (rO T f') (tE T W ma) (tE T W mb) (tE T W mc) σ H Q :=
  tG_bnd (f := fun lo x => bnd (mb lo) fun y => bnd (lift (f x y)) fun z => match z with | .bl true => bnd (mc lo) fun w => lift (f' y w) | .bl false => ret (.bl false) | _ => failM) h fun ρ s lo x z H1 r rl hx p =>
    po_bnd (m := mb) r rl p fun ρ1 s1 y z' H2 ext1 r1 rl1 hy p1 => by
      unfold bnd lift at p1
      cases e : f x y s1 with
      | none => rw [e] at p1; exact p1.elim
      | some q =>
        obtain ⟨v, s2⟩ := q
        rw [e] at p1
        refine ⟨ρ1, s1, x, y, v, s2, r1, hx.mono ext1, hy, e, fun ρ3 H3 t e3 r3 ht => ?_⟩
        cases v <;> try exact p1.elim
        rename_i k
        refine ⟨k, ht.blE, ?_⟩
        cases k with
        | false =>
          simp only [Bool.false_eq_true, if_false]
          exact p1 ρ3 H3 _ e3 r3 (.bl false)
        | true =>
          simp only [if_true]
          refine po_bnd (m := mc) r3 (rl1.mono e3) (p1.mono e3) fun ρ4 s4 u t' H4 ext4 r4 rl4 hu p4 => ?_
          obtain ⟨v', s5, e5, k5⟩ := po_lift p4
          exact ⟨ρ4, s4, y, u, v', s5, r4, (hy.mono e3).mono ext4, hu, e5, k5⟩
theorem ce_chain (ho : OpR X (compareOp op) (rO T f)) (ho' : OpR X (compareOp op') (rO T f')) (ha : PE X a (tE T W ma)) (hb : PE X b (tE T W mb)) (hc : PE X c (tE T W mc)) (hm : lastMarks [op, op'] [b, c] = false := by with_unfolding_all rfl) :
    PE X (.Compare a [op, op'] [b, c] pos) (tE T W (eChain f f' ma mb mc)) := pe_mono (pe_chain ho ho' ha hb hc hm) fun _ _ _ h => chain_le h
theorem ct_chain (ho : OpR X (compareOp op) (rO T f)) (ho' : OpR X (compareOp op') (rO T f')) (ha : PE X a (tE T W ma)) (hb : PE X b (tE T W mb)) (hc : PE X c (tE T W mc)) (hm : lastMarks [op, op'] [b, c] = false := by with_unfolding_all rfl) :
    PT X (.Compare a [op, op'] [b, c] pos) (tT T W (tVal (eChain f f' ma mb mc))) := pt_mono (pt_chain ho ho' ha hb hc hm) fun _ _ _ h => chain_le (tval_le h)
end
/-! ### isinstance(x, T) -/
def tyN (x : Vl) (s : Sto) : Option String := match x with
  | .non => some "NoneType"
  | .bl _ => some "bool"
  | .int _ => some "int"
  | .str _ => some "str"
  | .tup _ => some "tuple"
  | .ref j => match s[j]? with
    | some (.lst _) => some "list"
    | some (.dic _) => some "dict"
    | some (.dit _) => some "dict"
    | _ => none
  | _ => none
def isB (t n : String) : Option Bool :=
  if n = "int" then (if t = "int" ∨ t = "bool" then some true else some false)
  else if n = "bool" ∨ n = "str" ∨ n = "tuple" ∨ n = "list" ∨ n = "dict" then some (decide (t = n)) else none
def oIsi : OC
  | [x, .ty n], s => match tyN x s with
    | some t => match isB t n with
      | some b => some (.bl b, s)
      | none => none
    | none => none
  | _, _ => none
theorem isB_ok {t n : String} {b : Bool} (ht : t ∈ ["NoneType", "bool", "int", "str", "tuple", "list", "dict"]) (h : isB t n = some b) : kitB t n = some b := by
  have hn : n ∈ ["int", "bool", "str", "tuple", "list", "dict"] := by
    unfold isB at h
    split at h
    · rename_i q; subst q; simp
    · split at h
      · rename_i q; simp only [List.mem_cons, List.not_mem_nil, or_false]; exact .inr q
      · cases h
  have all : ∀ t ∈ ["NoneType", "bool", "int", "str", "tuple", "list", "dict"], ∀ n ∈ ["int", "bool", "str", "tuple", "list", "dict"], kitB t n = isB t n := by decide +kernel
  rw [all t ht n hn]; exact h
section
variable {X : Cx} {T : Tb} {W : WX}
theorem tyN_ok {ρ : List Addr} {H : Hp} {s : Sto} {x : Vl} {z : V} {t : String} (r : Rel T ρ H s) (hz : RV T ρ H x z) (h : tyN x s = some t) : TyX T.K H z (.type t) ∧ t ∈ ["NoneType", "bool", "int", "str", "tuple", "list", "dict"] := by
  unfold tyN at h
  cases x with
  | non => cases h; rw [hz.nonE]; exact ⟨.base .non, by simp⟩
  | bl b => cases h; rw [hz.blE]; exact ⟨.base (.bl b), by simp⟩
  | int i => cases h; rw [hz.intE]; exact ⟨.base (.int i), by simp⟩
  | str y => cases h; rw [hz.strE]; exact ⟨.base (.str y), by simp⟩
  | tup xs =>
    cases h
    obtain ⟨a, vs, rfl, h1, h2⟩ := hz.tupE
    refine ⟨?_, by simp⟩
    rcases h1 with (h1 | ⟨o, h1⟩) | h1
    · exact .base (.tup h1)
    · exact .fTuple h1
    · obtain ⟨o, items, n, k1, k2, k3⟩ := h1
      exact .kTuple k1 k2
  | ref j =>
    obtain ⟨a, rfl, ha⟩ := hz.refE
    simp only at h
    split at h
    · rename_i xs hj
      cases h
      obtain ⟨vs, h1, _⟩ := r.lst hj ha
      exact ⟨.base (.lst h1), by simp⟩
    · rename_i xs hj
      cases h
      obtain ⟨vs, h1, _⟩ := r.dic hj ha
      exact ⟨.base (.dK h1), by simp⟩
    · rename_i xs hj
      cases h
      obtain ⟨vs, h1, _⟩ := r.ob j a _ ha hj
      exact ⟨.base (.dT h1), by simp⟩
    · cases h
  | scr ns => cases h
  | ty n => cases h
  | fn i => cases h
theorem c_isi (hK : X.K = T.K := by rfl) : CallR X (.builtin "isinstance") (rC T oIsi) := CallR.imp call_isi fun xs H Q q => by
  obtain ⟨ρ, st, as, w, s', r, ha, e, k⟩ := q
  unfold oIsi at e
  split at e
  · split at e
    · rename_i x n _ t ht
      split at e
      · rename_i b hb
        cases e
        obtain ⟨z, y, rfl, hz, hy⟩ := ha.two
        cases hy
        obtain ⟨h1, h2⟩ := tyN_ok r hz ht
        exact ⟨z, _, _, _, b, rfl, .ty n, by rw [hK]; exact h1, kit_ty (isB_ok h2 hb), k.here r (.bl b)⟩
      · cases e
    · cases e
  · cases e
theorem ce_ty {x : Str} {n : String} {pos : Pos} (hg : Gl X x) (hm : X.mg x = none) (hv : bootBuiltins x = some (.type n)) (hn : x ≠ "__name__" := by decide) (hdb : (x == ("__debug__" : Str)) = false := by decide) : PE X (.Name x pos) (tE T W (eC (.ty n))) :=
  ce_of (z := .ty n) (pe_bltn hg hm hv rfl hn hdb) fun _ _ => .ty n
end
/-! ### d.get(k), d.get(k, x), d.setdefault(k, x) -/
def isDic (j : Nat) (s : Sto) : Bool := match s[j]? with
  | some (.dic _) => true
  | _ => false
def eDGet1 (d k : EM) : EM := fun lo => bnd (d lo) fun x s => match x with
  | .ref j => if isDic j s then bnd (k lo) (fun y s => match s[j]?, keyOf y with
    | some (.dic kvs), some key => .ok ((look kvs key).getD .non) s
    | _, _ => .fail) s else .fail
  | _ => .fail
def eDGet2 (d k v : EM) : EM := fun lo => bnd (d lo) fun x s => match x with
  | .ref j => if isDic j s then bnd (k lo) (fun y => bnd (v lo) fun z s => match s[j]?, keyOf y with
    | some (.dic kvs), some key => .ok ((look kvs key).getD z) s
    | _, _ => .fail) s else .fail
  | _ => .fail
def eDSet (d k v : EM) : EM := fun lo => bnd (d lo) fun x s => match x with
  | .ref j => if isDic j s then bnd (k lo) (fun y => bnd (v lo) fun z s => match s[j]?, keyOf y with
    | some (.dic kvs), some key => if kvs.length < LIM then (match look kvs key with
      | some w => .ok w s
      | none => .ok z (s.set j (.dic (put kvs key z)))) else .fail
    | _, _ => .fail) s else .fail
  | _ => .fail
theorem put_none {κ : Type} [DecidableEq κ] {k : κ} {v : Vl} : ∀ {kvs : List (κ × Vl)}, look kvs k = none → put kvs k v = kvs ++ [(k, v)]
  | [], _ => rfl
  | p :: r, h => by
    unfold look at h
    split at h
    · cases h
    · rename_i q
      unfold put
      rw [if_neg q, put_none h]
      rfl
theorem putK_none {κ : Type} [DecidableEq κ] {k : κ} {z : V} {vs : List (κ × V)} (h : valV vs k = none) : putK vs k z = vs ++ [(k, z)] := by
  unfold putK
  rw [if_neg]
  rw [valV_any, h]
  exact Bool.noConfusion
theorem RVs.snoc {T : Tb} {ρ : List Addr} {H : Hp} {xs : List Vl} {vs : List V} {x : Vl} {v : V} (h : RVs T ρ H xs vs) (hx : RV T ρ H x v) : RVs T ρ H (xs ++ [x]) (vs ++ [v]) := h.append (.cons hx .nil)
section
variable {X : Cx} {T : Tb} {W : WX} {o e f : Expr} {apos cpos : Pos} {md mk mv : EM}
theorem isDic_ok {ρ : List Addr} {H : Hp} {s : Sto} {j : Nat} {a : Addr} (r : Rel T ρ H s) (ha : ρ[j]? = some a) (h : isDic j s = true) : IsD H a := by
  unfold isDic at h
  split at h
  · rename_i kvs hj
    obtain ⟨vs, h1, _⟩ := r.dic hj ha
    exact .inl ⟨vs, .inl h1⟩
  · cases h
theorem ce_dget1 (hu : X.A.units + 1 < cLine) (ho : PE X o (tE T W md)) (he : PE X e (tE T W mk)) (m : M1 X o "get" apos e cpos) : PE X (.Call (.Attribute o "get" apos) [e] [] cpos) (tE T W (eDGet1 md mk)) :=
  pe_mono (pe_dget1 hu ho he m) fun σ H Q h => tG_bnd (R := RV T) h fun ρ s lo x z H1 r rl hx p => by
    cases x <;> try exact p.elim
    rename_i j
    obtain ⟨a, rfl, ha⟩ := hx.refE
    simp only at p
    split at p
    · rename_i hd
      refine ⟨a, rfl, isDic_ok r ha hd, po_bnd (R := RV T) (m := mk) r rl p fun ρ' s' y w H' ext r' rl' hy p' => ?_⟩
      split at p'
      · rename_i kvs key hj hk
        obtain ⟨vs, h1, h2, h3⟩ := r'.dic hj (ext.pre _ _ ha)
        have ey := keyOf_ok hy hk
        subst ey
        refine ⟨_, DGet.k h1, ?_⟩
        obtain ⟨q1, q2⟩ := look_ok (k := key) h2 h3
        cases q : look kvs key with
        | none => rw [q1 q]; rw [q] at p'; exact p' ρ' H' _ .refl r' .non
        | some v => obtain ⟨z, hz, hv⟩ := q2 v q; rw [hz]; rw [q] at p'; exact p' ρ' H' _ .refl r' hv
      · exact p'.elim
    · exact p.elim
theorem ce_dget2 (hu : X.A.units + 1 < cLine) (ho : PE X o (tE T W md)) (he : PE X e (tE T W mk)) (hf : PE X f (tE T W mv)) (m : M2 X o "get" apos e f cpos) : PE X (.Call (.Attribute o "get" apos) [e, f] [] cpos) (tE T W (eDGet2 md mk mv)) :=
  pe_mono (pe_dget2 hu ho he hf m) fun σ H Q h => tG_bnd (R := RV T) h fun ρ s lo x z H1 r rl hx p => by
    cases x <;> try exact p.elim
    rename_i j
    obtain ⟨a, rfl, ha⟩ := hx.refE
    simp only at p
    split at p
    · rename_i hd
      refine ⟨a, rfl, isDic_ok r ha hd, po_bnd (R := RV T) (m := mk) r rl p fun ρ' s' y w H' ext r' rl' hy p' => po_bnd (R := RV T) (m := mv) r' rl' p' fun ρ2 s2 dv w2 H2 ext2 r2 rl2 hd2 p2 => ?_⟩
      split at p2
      · rename_i kvs key hj hk
        obtain ⟨vs, h1, h2, h3⟩ := r2.dic hj (ext2.pre _ _ (ext.pre _ _ ha))
        have ey := keyOf_ok (hy.mono ext2) hk
        subst ey
        refine ⟨_, DGet.k h1, ?_⟩
        obtain ⟨q1, q2⟩ := look_ok (k := key) h2 h3
        cases q : look kvs key with
        | none => rw [q1 q]; rw [q] at p2; exact p2 ρ2 H2 _ .refl r2 hd2
        | some v => obtain ⟨z, hz, hv⟩ := q2 v q; rw [hz]; rw [q] at p2; exact p2 ρ2 H2 _ .refl r2 hv
      · exact p2.elim
    · exact p.elim
theorem ce_dsetd (ho : PE X o (tE T W md)) (he : PE X e (tE T W mk)) (hf : PE X f (tE T W mv)) (m : M2 X o "setdefault" apos e f cpos) : PE X (.Call (.Attribute o "setdefault" apos) [e, f] [] cpos) (tE T W (eDSet md mk mv)) :=
  ⟨fun pins s σ H Q I h => (pe_dsetd ho he hf m).run pins s σ H Q I (tG_bnd (R := RV T) h fun ρ s lo x z H1 r rl hx p => by
    cases x <;> try exact p.elim
    rename_i j
    obtain ⟨a, rfl, ha⟩ := hx.refE
    simp only at p
    split at p
    · rename_i hd
      refine ⟨a, rfl, isDic_ok r ha hd, po_bnd (R := RV T) (m := mk) r rl p fun ρ' s' y w H' ext r' rl' hy p' => po_bnd (R := RV T) (m := mv) r' rl' p' fun ρ2 s2 dv w2 H2 ext2 r2 rl2 hd2 p2 => ?_⟩
      split at p2
      · rename_i kvs key hj hk
        have ha2 := ext2.pre _ _ (ext.pre _ _ ha)
        obtain ⟨vs, h1, h2, h3⟩ := r2.dic hj ha2
        have ey := keyOf_ok (hy.mono ext2) hk
        obtain ⟨q1, q2⟩ := look_ok (k := key) h2 h3
        have hlen : vs.length = kvs.length := by have := congrArg List.length h2; simpa using this
        split at p2
        · rename_i hl
          refine ⟨vs, key, h1, ey, by rw [hlen, lim_eq]; exact hl, fun v' hv' => ?_, fun hn => ?_⟩
          · cases q : look kvs key with
            | none => rw [q1 q] at hv'; cases hv'
            | some v =>
              obtain ⟨z, hz, hv⟩ := q2 v q
              rw [hz] at hv'
              cases hv'
              rw [q] at p2
              exact p2 ρ2 H2 _ .refl r2 hv
          · cases q : look kvs key with
            | some v => obtain ⟨z, hz, hv⟩ := q2 v q; rw [hz] at hn; cases hn
            | none =>
              rw [q] at p2
              refine p2 ρ2 _ _ (r2.setExt ha2 h1) (r2.set ha2 ⟨putK vs key w2, upd_same, ?_, ?_⟩) (hd2.mono (r2.setExt ha2 h1))
              · rw [putK_none hn, put_none q]; simp [h2]
              · rw [putK_none hn, put_none q]
                simp only [List.map_append, List.map_cons, List.map_nil]
                exact (h3.snoc hd2).mono (r2.setExt ha2 h1)
        · exact p2.elim
      · exact p2.elim
    · exact p.elim)⟩
end
end Sm

/-! S26: len of own objects, dict(list of pairs), min and max of a list of ints -/
namespace Sm
open PySem L2 PySem.W
section
variable {prog : Program} {w : World} {A : Around} {E : Value → Shared → Prop} {s : Shared} {K : Frag} {x C f : Addr} {ox : Obj} {od : Option Obj}
theorem len_own {Q : Value → Shared → Prop} (X : K.In s.heap) (I : InstAt s.heap x ox C od) (hs : findIn K (.ref C) "__len__" = some (some (.ref f))) (hf : isFn K (.ref f) = true)
    (h : wpAny (model prog w) A.in1 (call (.ref f) [.ref x]) (fun v s' => ∃ n t, v = .int n t ∧ 0 ≤ n ∧ n < 2 ^ 62 ∧ ∀ t' k, Q (.int n t') { s' with toks := k }) E s) :
    wpAny (model prog w) A (call (.builtin "len") [.ref x]) Q E s := by
  refine Calls.call_function_entry kind_len plain_len entry_len (args_len1 _) ?_
  unfold Builtin.«len»
  refine wpAny_bind (m := oneArg "len" _) (wpAny_pure (wpAny_bind (m := callSpecial? (.ref x) (Str.ofString "__len__")) ?_))
  refine special_fn X I hs (beq_iff_eq.mp hf) (wpAny_mono h (fun r s' hr => ?_) fun _ _ y => y)
  obtain ⟨n, t, rfl, h0, h1, hq⟩ := hr
  refine wpAny_bind (wpAny_holding (wpAny_pure (wpAny_bind (wpAny_letGo ?_))))
  have a1 : ¬ n < 0 := by omega
  have a2 : ¬ n ≥ 2 ^ 63 := by omega
  simp only [a1, a2, if_false]
  exact wpAny_bind (wpAny_mkInt (wpAny_pure ⟨_, rfl, hq _ _⟩))
end
structure LenO (K : PySem.W.Frag) (C f : Addr) : Prop where
  at_ : PySem.W.findIn K (.ref C) "__len__" = some (some (.ref f))
  fn : PySem.W.isFn K (.ref f) = true
def eLenO (tab : MTab) (o : EM) : EM := fun lo => bnd (o lo) fun x s => match x with
  | .ref j => match s[j]? with
    | some (.ins c fs) => match tab c with
      | some mf => match mf [.ref j] s with
        | .ok (.int n) s' => if 0 ≤ n ∧ n < 2 ^ 62 then .ok (.int n) s' else .fail
        | .exc e s' => .exc e s'
        | _ => .fail
      | none => .fail
    | _ => .fail
  | _ => .fail
def LenOk (X : Cx) (T : Tb) (k : Nat) (tab : MTab) : Prop := ∀ c mf, tab c = some mf → ∀ C, T.cl[c]? = some C → ∃ (f : Addr) (fd : FuncData) (ps : List Str), LenO T.K C f ∧ FnG X.prog X.w X.K X.mg X.base k f fd ps (SpM T 1 mf) ∧ Binds X.K fd ps []
section
variable {X : Cx} {T : Tb} {W : WX} {k : Nat} {p pos : Pos} {o : Expr} {mo : EM}
theorem ce_lenO {tab : MTab} (ok : LenOk X T k tab) (hr : Room (k + 1) X.A) (hgd : X.A.guards = some []) (tk : Takes X W) (hg : Gl X "len") (hm : X.mg "len" = none) (ho : PE X o (tE T W mo))
    (he : starEach [o] X.env = (false, eval o X.env) :: starEach [] X.env := by rfl) (hpl : (backTo pos (starEach [] X.env)).any (·.1) = false := by rfl) (hK : X.K = T.K := by rfl) :
    PE X (.Call (.Name "len" p) [o] [] pos) (tE T W (eLenO tab mo)) := by
  have key : ∀ (pins : List (Addr × Obj)) (s : Shared) (σ : L2.St) (H : Hp) (xs : List V) (us : List Value) (Q : VK), Inv X pins σ H s → Vals xs us →
      (∃ (ρ : List Addr) (st : Sto) (x : Vl) (z : V), xs = [z] ∧ Rel T ρ H st ∧ RV T ρ H x z ∧ Po (RV T) T (fun c d H' => W c d σ H') ρ H ((match x with
        | .ref j => match st[j]? with
          | some (.ins c fs) => match tab c with
            | some mf => match mf [.ref j] st with
              | .ok (.int n) s' => if 0 ≤ n ∧ n < 2 ^ 62 then .ok (.int n) s' else .fail
              | .exc e s' => .exc e s'
              | _ => .fail
            | none => .fail
          | _ => .fail
        | _ => .fail : Res Vl)) Q) → wpAny (model X.prog X.w) X.A (call (.builtin "len") us) (EP X pins σ Q) X.xe s := by
    rintro pins s σ H xs us Q I rs ⟨ρ, st, x, z, rfl, r, hx, p⟩
    obtain ⟨u, rfl, ru⟩ := vals1 rs
    cases x <;> try exact p.elim
    rename_i j
    obtain ⟨a, rfl, ha⟩ := hx.refE
    obtain rfl : u = Value.ref a := ru
    simp only at p
    split at p
    · rename_i c fs hj
      split at p
      · rename_i mf hmf
        obtain ⟨C, dx, vs, h1, h2, h3, h4⟩ := r.ins hj ha
        obtain ⟨f, fd, ps, lo, F, hb⟩ := ok c mf hmf C h1
        obtain ⟨ox, od, J, hd⟩ := StX.insC_at (C := C) I (.inr ⟨dx, vs, h2⟩)
        rw [← hK] at lo
        have sp : SpM T 1 mf [V.ref a] H (fun v H' => ∃ n, v = .int n ∧ 0 ≤ n ∧ n < 2 ^ 62 ∧ Q (.int n) H') fun c d H' => W c d σ H' := by
          refine spM_of r (.cons hx .nil) rfl ?_
          cases e : mf [.ref j] st with
          | fail => rw [e] at p; exact p.elim
          | exc x s' => rw [e] at p; exact p
          | ok v s' =>
            rw [e] at p
            cases v <;> try exact p.elim
            rename_i n
            simp only at p
            split at p
            · rename_i hn
              intro ρ' H' z ext r' hz
              exact ⟨n, hz.intE, hn.1, hn.2, p ρ' H' _ ext r' (.int n)⟩
            · exact p.elim
        refine len_own I.kIn J lo.at_ lo.fn (wpAny_call (codeAny_mono (F.run X.A.in1 X.stack s H ⟨[.ref a], []⟩ [.ref a] [.ref a] _ _ hr.in1 hgd I.env0.in1 (hb s [.ref a] I.kIn (F.len _ _ _ _ sp)) (.cons rfl .nil) sp) fun z s' hq => ?_))
        cases z with
        | error y => exact tk y s' (XE.of_call I (fun _ _ _ q => q) hq)
        | ok fl =>
          cases fl with
          | ret u =>
            obtain ⟨v, H', I3, rv, n, rfl, h0, h1', q⟩ := I.after hq
            obtain ⟨t, rfl⟩ := rv
            exact ⟨n, t, rfl, h0, h1', fun t' k' => ⟨.int n, H', I3.tok k', ⟨t', rfl⟩, q⟩⟩
          | next => exact hq.elim
          | brk => exact hq.elim
          | cont => exact hq.elim
      · exact p.elim
    · exact p.elim
  have ha : PA X [o] (tA T W (aCons mo aNil)) := ca_cons ho ca_nil he
  refine ⟨fun pins s σ H Q I h => wpAny_Call_Name_kw (ld_blt (u := .builtin "len") I hg hm (by decide +kernel) ?_ (by decide) (by decide))⟩
  refine PyProof.Rows.callWith_builtin1 (thn (ha.run pos pins s σ H (fun vs H1 => ∃ (ρ : List Addr) (st : Sto) (x : Vl) (z : V), vs = [z] ∧ Rel T ρ H1 st ∧ RV T ρ H1 x z ∧ Po (RV T) T (fun c d H' => W c d σ H') ρ H1 ((match x with
        | .ref j => match st[j]? with
          | some (.ins c fs) => match tab c with
            | some mf => match mf [.ref j] st with
              | .ok (.int n) s' => if 0 ≤ n ∧ n < 2 ^ 62 then .ok (.int n) s' else .fail
              | .exc e s' => .exc e s'
              | _ => .fail
            | none => .fail
          | _ => .fail
        | _ => .fail : Res Vl)) Q) I ?_) fun us s1 ⟨vs, H1, I1, r1, q1⟩ => key pins s1 σ H1 vs us Q I1 r1 q1) he hpl
  obtain ⟨ρ, st, lo, r, rl, q⟩ := h
  refine ⟨ρ, st, lo, r, rl, ?_⟩
  have q : Po (RV T) T _ ρ H (bnd (mo lo) _ st) Q := q
  unfold aCons bnd
  unfold bnd at q
  cases e : mo lo st with
  | fail => rw [e] at q; exact q
  | exc x s' => rw [e] at q; exact q
  | ok v s' =>
    rw [e] at q
    intro ρ' H' zs ext r' hzs
    obtain ⟨z, rfl, hz⟩ := hzs.one
    exact ⟨ρ', s', v, z, rfl, r', hz, q.mono ext⟩
end
/-! ### dict(list of pairs), min, max -/
def asPr : Vl → Option (Key × Vl)
  | .tup [k, v] => match keyOf k with
    | some key => some (key, v)
    | none => none
  | _ => none
def oDictP : OC
  | [x], s => match lstOf x s with
    | some xs => match mapO asPr xs with
      | some kvs => some (.ref s.length, s ++ [.dic (mergeP [] kvs)])
      | none => none
    | none => none
  | _, _ => none
section
variable {X : Cx} {T : Tb}
theorem asPr_ok {ρ : List Addr} {H : Hp} : ∀ {xs : List Vl} {vs : List V} {kvs : List (Key × Vl)}, RVs T ρ H xs vs → mapO asPr xs = some kvs → ∃ (ps : List Addr) (ms : List (Key × V)), vs = ps.map V.ref ∧ Paired (fun p kv => SqT T.K H p [kV kv.1, kv.2]) ps ms ∧ ms.map (·.1) = kvs.map (·.1) ∧ RVs T ρ H (kvs.map (·.2)) (ms.map (·.2))
  | _, _, _, .nil, h => by
    cases h
    exact ⟨[], [], rfl, .nil, rfl, .nil⟩
  | _, _, kvs, .cons (x := x) (v := v) (xs := xs) (vs := vs) h1 h2, h => by
    unfold mapO at h
    cases e : asPr x with
    | none => simp only [e] at h; cases h
    | some kv =>
      simp only [e] at h
      cases e2 : mapO asPr xs with
      | none => simp only [e2] at h; cases h
      | some ks =>
        simp only [e2] at h
        cases h
        obtain ⟨ps, ms, rfl, q1, q2, q3⟩ := asPr_ok h2 e2
        unfold asPr at e
        split at e
        · rename_i a b
          split at e
          · rename_i key hk
            cases e
            obtain ⟨p, us, rfl, s1, s2⟩ := h1.tupE
            obtain ⟨u1, u2, rfl, r1, r2⟩ := s2.two
            have ek := keyOf_ok r1 hk
            subst ek
            exact ⟨p :: ps, (key, u2) :: ms, rfl, .cons s1 q1, by simp [q2], .cons r2 q3⟩
          · cases e
        · cases e
theorem c_dictP (hc : X.calm = true := by rfl) (hK : X.K = T.K := by rfl) : CallR X (.type "dict") (rC T oDictP) := CallR.imp (call_dictP hc) fun xs H Q q => by
  obtain ⟨ρ, st, as, w, s', r, ha, e, k⟩ := q
  unfold oDictP at e
  split at e
  · split at e
    · rename_i ys hx
      split at e
      · rename_i kvs hz
        cases e
        obtain ⟨z, rfl, hz'⟩ := ha.one
        obtain ⟨p, vs, rfl, h1, h2⟩ := lstOf_ok r hz' hx
        obtain ⟨ps, ms, rfl, q1, q2, q3⟩ := asPr_ok h2 hz
        refine ⟨p, ps, ms, rfl, SqL.of h1, by rw [hK]; exact q1, fun q hq => ?_⟩
        obtain ⟨m1, m2⟩ := merge_ok (kvs := []) (vs := []) q2 q3 (by simp) rfl .nil
        exact k.new r hq ⟨_, upd_same, m1, m2.mono (r.newExt hq)⟩
      · cases e
    · cases e
  · cases e
end
end Sm

/-! S27: enumerate(tuple); min and max of a list of ints -/
namespace Sm
open PySem L2 PyProof.Rows
open AutoSeq1 (wpAny_loadPart')
section
variable {prog : Program} {w : World} {A : Around} {E : Value → Shared → Prop} {s : Shared}
theorem meets_enumT (l : Addr) (its : Array Value) (n : Nat) (dct : Option Addr) (sl : Array (Option Value)) :
    Meets (Builtin.«enumerate.__new__» ⟨[.type "enumerate", .ref l], []⟩) (fun _ R s => s.heap.get? l = some { cls := .type "tuple", dict := dct, data := .seq its n, slots := sl } ∧
      R (.ok (.ret (.ref (s.heap.push { cls := .type "tuple_iterator", data := .fields #[.ref l, .int 0 0] }).objs.size)))
        { s with heap := (s.heap.push { cls := .type "tuple_iterator", data := .fields #[.ref l, .int 0 0] }).push { cls := .type "enumerate", data := .fields #[.none, .bool false, .ref s.heap.objs.size, rawInt 0, .none, .none] } }) :=
  .of_wp fun prog w A R s h => by
    obtain ⟨hp, g, d, tk, os⟩ := s
    obtain ⟨hl, hR⟩ := h
    have hsub := sub_enumerate
    have hT : Heap.IsTuple (Shared.heap ⟨hp, g, d, tk, os⟩) l its := ⟨_, hl, rfl, n, rfl⟩
    wp_walk using wpAny_loadPart' hl
    refine wpAny_stack_any fun st => wpAny_pure ?_
    split
    · rename_i c _ _ _ _ _
      cases (c == Value.type "enumerate") <;> (wp_walk using wpAny_loadPart' hl, wpAny_pyIter_tuple hT; exact ⟨_, rfl, hR⟩)
    · wp_walk using wpAny_loadPart' hl, wpAny_pyIter_tuple hT
      exact ⟨_, rfl, hR⟩
theorem call_enumT {l : Addr} {its : Array Value} {Q : Value → Shared → Prop} (hL : s.heap.IsTuple l its)
    (h : ∀ h', IsEnum h' (s.heap.objs.size + 1) s.heap.objs.size 0 .none → h'.IsTupleIter s.heap.objs.size l 0 → (∀ b o, s.heap.get? b = some o → h'.get? b = some o) → Q (.ref (s.heap.objs.size + 1)) { s with heap := h' }) :
    wpAny (model prog w) A (call (.type "enumerate") [.ref l]) Q E s := by
  obtain ⟨⟨c, dct, dt, sl⟩, hl, hc, n, hd⟩ := hL
  replace hc : c = .type "tuple" := hc
  replace hd : dt = .seq its n := hd
  subst hc hd
  refine callType_new F.called_enumerate (by decide) (F.typeCall_enumerate_1 _) (F.newCall_enumerate_1 _) (fun obj => F.args_object_init_2 obj _) F.entry_enumerate_new (meets_enumT l its n dct sl) ⟨hl, ?_⟩
  have hz : (s.heap.push { cls := .type "tuple_iterator", data := .fields #[.ref l, .int 0 0] }).objs.size = s.heap.objs.size + 1 := Heap.size_push ..
  show _ ∧ _
  rw [hz]
  have he : IsEnum ((s.heap.push { cls := .type "tuple_iterator", data := .fields #[.ref l, .int 0 0] }).push { cls := .type "enumerate", data := .fields #[.none, .bool false, .ref s.heap.objs.size, rawInt 0, .none, .none] }) (s.heap.objs.size + 1) s.heap.objs.size 0 .none := by
    have q := Heap.get?_push_size (s.heap.push { cls := .type "tuple_iterator", data := .fields #[.ref l, .int 0 0] }) (o := { cls := .type "enumerate", data := .fields #[.none, .bool false, .ref s.heap.objs.size, rawInt 0, .none, .none] }) rfl
    rw [hz] at q
    exact q
  exact ⟨⟨_, he, rfl⟩, h _ he ⟨_, Heap.get?_push_of_some _ (Heap.get?_push_size _ rfl), rfl, rfl⟩ fun b o x => Heap.get?_push_of_some _ (Heap.get?_push_of_some _ x)⟩
end
def IteT (K : PySem.W.Frag) (a : Addr) (n : Nat) : It where
  go := fun i H => ∃ (xs : List V) (x : V), SqT K H a xs ∧ xs[i]? = some x ∧ xs.length = n
  yld := fun i H v H' => ∃ T x, v = .ref T ∧ H T = none ∧ H' = upd H T (.tup [.int (i : Nat), x]) ∧ ∀ xs, SqT K H a xs → xs[i]? = some x
  stop := fun i H => ∃ xs : List V, SqT K H a xs ∧ xs.length = n ∧ n ≤ i
theorem IsTup.tuple {h : Heap} {a : Addr} {its : Array Value} (x : IsTup h a its) : h.IsTuple a its := x
theorem turn_enumT {P : Program} {w : World} {K : PySem.W.Frag} {elts : List Expr} {kk : Nat} {tpos : Pos} (a e it : Addr) (n : Nat) :
    Turn P w K (.Tuple elts kk tpos) (IteT K a n) [e, it] e (fun i h => (∃ old, IsEnum h e it ((i : Nat) : Int) old) ∧ h.IsTupleIter it a i ∧ e ≠ it ∧ i ≤ n) where
  mem := List.mem_cons_self ..
  obj := fun i h st b hb => by
    obtain ⟨⟨old, he⟩, ⟨o, ho, hc, hd⟩, _⟩ := st
    rcases List.mem_cons.mp hb with rfl | hb
    · exact ⟨_, he, fun v q => nomatch q⟩
    · obtain rfl : b = it := by simpa using hb
      exact ⟨o, ho, fun v q => by rw [hd] at q; cases q⟩
  keep := fun i h h' st k => by
    obtain ⟨⟨old, he⟩, hi, hne, hn⟩ := st
    exact ⟨⟨old, k e (List.mem_cons_self ..) _ he⟩, hi.at fun o q => k it (List.mem_cons_of_mem _ (List.mem_cons_self ..)) o q, hne, hn⟩
  item := by
    intro X hP hw hK hc i pins s σ H E I hf st hg
    subst hP hw hK
    obtain ⟨⟨old, he⟩, hit, hne, hn⟩ := st
    obtain ⟨xs, x, hq, hx, hxn⟩ := hg
    obtain ⟨its, rv, p, hz⟩ := I.tuple hq
    obtain ⟨u, hu, ru⟩ := rv.get hx
    have lte : e < s.heap.objs.size := Heap.lt_size he
    have lti : it < s.heap.objs.size := by obtain ⟨_, q, _⟩ := hit; exact Heap.lt_size q
    have hai : a ≠ it := by
      rintro rfl
      obtain ⟨o1, q1, c1, _⟩ := hit
      obtain ⟨o2, q2, c2, _⟩ := p
      rw [q1] at q2; cases q2; rw [c1] at c2; exact absurd c2 (by decide)
    have hae : e ≠ a := by
      rintro rfl
      obtain ⟨o2, q2, c2, _⟩ := p
      have q1 : s.heap.get? e = some _ := he
      rw [q1] at q2; cases q2; exact absurd (show Value.type "enumerate" = Value.type "tuple" from c2) (by decide)
    have iu : its.toArray[i]? = some u := by simpa using hu
    have ilt : i < its.toArray.size := (Array.getElem?_eq_some_iff.mp iu).1
    refine wpAny_pyNext_enum_itemD (Draws.tuple (A := X.A.in1) (I.ok.hd hc) it a hai its.toArray) he ⟨hit, p⟩ ilt hne (by simp [hne, hae]) fun y h' tk hy ho st' hT hsz hk => ?_
    have hy : its.toArray[i]? = some y := hy
    obtain rfl : u = y := Option.some.inj (iu.symm.trans hy)
    refine ⟨_, rfl, wpAny_letOwnedTupleGo_enum (s := { s with heap := h', toks := tk + 1 }) ho fun h2 he2 sb => ?_⟩
    have hT2 : h2.get? s.heap.objs.size = some { cls := .type "tuple", data := .seq #[.int i tk, u] } := (sb.2 _ (Nat.ne_of_gt lte)).trans hT
    have new : ObjOk X.prog X.w (upd H s.heap.objs.size (.tup [.int (i : Nat), x])) h2 s.heap.objs.size (.tup [.int (i : Nat), x]) :=
      ⟨Nat.le_trans (show 2 ≤ 16 by decide) (by rw [sizeLine_eq]; decide), [.int i tk, u], .cons ⟨_, rfl⟩ (.cons ru .nil), ⟨_, hT2, rfl, _, rfl⟩⟩
    have kp : ∀ b ob, b ∉ [e, it] → s.heap.get? b = some ob → h2.get? b = some ob := fun b ob hb q => by
      simp only [List.mem_cons, List.not_mem_nil, or_false, not_or] at hb
      exact (sb.2 b hb.1).trans (hk b ob hb.1 hb.2 q)
    have I1 := I.turnedNew (ch := [e, it]) (t' := tk + 1) kp hf (Nat.le_refl _) new
    have e1 : ((i + 1 : Nat) : Int) = (i : Int) + 1 := by omega
    refine ⟨.ref s.heap.objs.size, _, I1, rfl, ⟨_, x, rfl, I.hok.fresh (Nat.le_refl _), rfl, fun ys hy => by rw [I.tuple_inj hy hq]; exact hx⟩, ⟨⟨u, by rw [e1]; exact he2⟩, st'.1.at fun o q => (sb.2 it (Ne.symm hne)).trans q, hne, by have := (List.getElem?_eq_some_iff.mp hx).1; omega⟩, fun b hb => ?_⟩
    have hb' : b < s.heap.objs.size := by
      simp only [List.mem_cons, List.not_mem_nil, or_false] at hb
      rcases hb with rfl | rfl
      · exact lte
      · exact lti
    rw [upd_ne (Nat.ne_of_lt hb')]
    exact (hf b hb).1
  done := by
    intro X hP hw hK hc i pins s σ H E I hf st hg
    subst hP hw hK
    obtain ⟨⟨old, he⟩, hit, hne, hn⟩ := st
    obtain ⟨xs, hq, hxn, hx⟩ := hg
    obtain ⟨its, rv, p, hz⟩ := I.tuple hq
    have hai : a ≠ it := by
      rintro rfl
      obtain ⟨o1, q1, c1, _⟩ := hit
      obtain ⟨o2, q2, c2, _⟩ := p
      rw [q1] at q2; cases q2; rw [c1] at c2; exact absurd c2 (by decide)
    obtain ⟨f0, f1, f2, f3, f4, f5⟩ := hf it (List.mem_cons_of_mem _ (List.mem_cons_self ..))
    have hl := rv.length
    have ei : i = its.toArray.size := by simp; omega
    refine wpAny_pyNext_enum_endD (Draws.tuple (A := X.A.in1) (I.ok.hd hc) it a hai its.toArray) he ⟨ei ▸ hit, p⟩ fun h' eb => ⟨rfl, ?_⟩
    exact I.turned (t' := s.toks) (fun b o hb q => eb b o hb q) f0 f1 f3 f4 f5
  self := fun A i s Q E st h => by
    obtain ⟨⟨_, he⟩, _⟩ := st
    exact wpAny_pyIter_enum he h
def iEnumT (K : PySem.W.Frag) (ta : TA) : TI := fun σ H R => ta σ H fun vs H1 => ∃ a xs, vs = [.ref a] ∧ SqT K H1 a xs ∧ R (IteT K a xs.length) H1
theorem pi_enumT {X : Cx} {e : Expr} {ta : TA} {p pos tpos : Pos} {elts : List Expr} {kk : Nat} (hg : Gl X "enumerate") (hm : X.mg "enumerate" = none) (ha : PA X [e] ta) (hs : starEach [e] X.env = [(false, eval e X.env)] := by rfl) :
    PI X (.Tuple elts kk tpos) (.Call (.Name "enumerate" p) [e] [] pos) (iEnumT X.K ta) := by
  refine ⟨fun pins s σ H R I h => Call_ (ld_blt I hg hm boot_enumerate (PyProof.Rows.callWith_type1 (thn (ha.run pos pins s σ H _ I h) fun us s1 ⟨vs, H1, I1, r1, q1⟩ => ?_) hs rfl))⟩
  obtain ⟨a, xs, rfl, hq, q⟩ := q1
  cases r1 with
  | cons r rr =>
    cases rr
    cases r
    obtain ⟨its, rv, p', hz⟩ := I1.tuple hq
    refine call_enumT p' fun h' he hit hk => wpAny_pyIter_enum he ?_
    have I2 : Inv X pins σ H1 { s1 with heap := h' } := I1.kept (t' := s1.toks) hk
    refine ⟨s1.heap.objs.size + 1, _, _, _, H1, rfl, I2, turn_enumT a (s1.heap.objs.size + 1) s1.heap.objs.size xs.length, ⟨⟨.none, he⟩, hit, Nat.succ_ne_self _, Nat.zero_le _⟩, fun b hb => ?_, q⟩
    have hle : s1.heap.objs.size ≤ b := by
      simp only [List.mem_cons, List.not_mem_nil, or_false] at hb
      rcases hb with rfl | rfl
      · exact Nat.le_succ _
      · exact Nat.le_refl _
    exact I1.fpOk hle (I1.hok.fresh hle)
/-! ### its reading -/
def enmL (xs : List Vl) : List Vl := xs.zipIdx.map fun p => .tup [.int (p.2 : Nat), p.1]
theorem enmL_get {xs : List Vl} {i : Nat} : (enmL xs)[i]? = (xs[i]?).map fun v => .tup [.int (i : Nat), v] := by
  unfold enmL
  rw [List.getElem?_map, List.getElem?_zipIdx]
  cases xs[i]? <;> simp
def aEnm (e : AM) : AM := fun lo => bnd (e lo) fun as => match as with
  | [.tup xs] => ret (enmL xs)
  | _ => failM
section
variable {X : Cx} {T : Tb} {W : WX} {p pos : Pos}
theorem ci_enmT {e : Expr} {ma : AM} {elts : List Expr} {kk : Nat} {tpos : Pos} (hg : Gl X "enumerate") (hm : X.mg "enumerate" = none) (ha : PA X [e] (tA T W ma)) (hs : starEach [e] X.env = [(false, eval e X.env)] := by rfl) (hK : X.K = T.K := by rfl) :
    PI X (.Tuple elts kk tpos) (.Call (.Name "enumerate" p) [e] [] pos) (tI T W (iFix (aEnm ma))) := pi_mono (pi_enumT hg hm ha hs) fun σ H R h => by
  obtain ⟨ρ, s, lo, r, rl, q⟩ := h
  refine po_bnd (R := RVs T) (m := ma) (f := fun as => bnd (match as with | [.tup xs] => ret (enmL xs) | _ => failM) fun xs => ret (nxFix xs)) (R' := fun ρ H nx J => ItOk T J nx ρ H) (Q := R) r rl ?_ fun ρ1 s1 as zs H1 ext1 r1 rl1 hx p1 => ?_
  · unfold iFix aEnm at q
    unfold bnd at q ⊢
    cases e : ma lo s <;> rw [e] at q <;> exact q
  · split at p1
    · rename_i xs
      obtain ⟨z, rfl, hz⟩ := hx.one
      obtain ⟨a, vs, rfl, h1, h2⟩ := hz.tupE
      rw [← hK] at h1
      refine ⟨a, vs, rfl, h1, p1 ρ1 H1 _ .refl r1 ?_⟩
      intro ρ2 H2 s2 i e2 r2
      have h1' := e2.tup _ _ (hK ▸ h1)
      have h2' := h2.mono e2
      rw [← hK] at h1'
      simp only [nxFix, enmL_get]
      cases e : xs[i]? with
      | none =>
        have : xs.length ≤ i := List.getElem?_eq_none_iff.mp e
        exact ⟨vs, h1', rfl, by rw [← h2'.length]; exact this⟩
      | some v =>
        obtain ⟨u, hu, ru⟩ := h2'.get e
        refine ⟨⟨vs, u, h1', hu, rfl⟩, fun x H3 y => ?_⟩
        obtain ⟨t, w, rfl, ht, rfl, y⟩ := y
        have := y vs h1'
        rw [hu] at this
        cases this
        exact ⟨ext_upd ht, r2.laid ht, .tup (SqT.of upd_same) (.cons (.int _) (.cons (ru.mono (ext_upd ht)) .nil))⟩
    · exact p1.elim
end
/-! ### min, max of a list of ints -/
def maxL : List Int → Int
  | [] => 0
  | [x] => x
  | x :: xs => max x (maxL xs)
def minL : List Int → Int
  | [] => 0
  | [x] => x
  | x :: xs => min x (minL xs)
theorem maxL_ok : ∀ {xs : List Int}, 0 < xs.length → maxL xs ∈ xs ∧ ∀ y ∈ xs, y ≤ maxL xs
  | [x], _ => by simp [maxL]
  | x :: y :: xs, _ => by
    have ih := maxL_ok (xs := y :: xs) (by simp)
    have e : maxL (x :: y :: xs) = max x (maxL (y :: xs)) := rfl
    rw [e]
    refine ⟨?_, fun z hz => ?_⟩
    · rcases Int.le_total x (maxL (y :: xs)) with q | q
      · rw [Int.max_eq_right q]; exact List.mem_cons_of_mem _ ih.1
      · rw [Int.max_eq_left q]; exact List.mem_cons_self ..
    · rcases List.mem_cons.mp hz with rfl | hz
      · omega
      · have := ih.2 z hz; omega
theorem minL_ok : ∀ {xs : List Int}, 0 < xs.length → minL xs ∈ xs ∧ ∀ y ∈ xs, minL xs ≤ y
  | [x], _ => by simp [minL]
  | x :: y :: xs, _ => by
    have ih := minL_ok (xs := y :: xs) (by simp)
    have e : minL (x :: y :: xs) = min x (minL (y :: xs)) := rfl
    rw [e]
    refine ⟨?_, fun z hz => ?_⟩
    · rcases Int.le_total x (minL (y :: xs)) with q | q
      · rw [Int.min_eq_left q]; exact List.mem_cons_self ..
      · rw [Int.min_eq_right q]; exact List.mem_cons_of_mem _ ih.1
    · rcases List.mem_cons.mp hz with rfl | hz
      · omega
      · have := ih.2 z hz; omega
def oMaxL : OC
  | [x], s => match lstOf x s with
    | some xs => match mapO asInt xs with
      | some ns => if 0 < ns.length then some (.int (maxL ns), s) else none
      | none => none
    | none => none
  | _, _ => none
def oMinL : OC
  | [x], s => match lstOf x s with
    | some xs => match mapO asInt xs with
      | some ns => if 0 < ns.length then some (.int (minL ns), s) else none
      | none => none
    | none => none
  | _, _ => none
section
variable {X : Cx} {T : Tb}
theorem c_maxL (hc : X.calm = true := by rfl) : CallR X (.builtin "max") (rC T oMaxL) := CallR.imp (cr_max hc) fun xs H Q q => by
  obtain ⟨ρ, st, as, w, s', r, ha, e, k⟩ := q
  unfold oMaxL at e
  split at e
  · split at e
    · rename_i ys hx
      split at e
      · rename_i ns hz
        split at e
        · rename_i hl
          cases e
          obtain ⟨z, rfl, hz'⟩ := ha.one
          obtain ⟨p, vs, rfl, h1, h2⟩ := lstOf_ok r hz' hx
          have ev := asInts_ok h2 hz
          subst ev
          refine ⟨p, ns, rfl, SqL.of h1, hl, fun m hm hy => ?_⟩
          obtain ⟨m1, m2⟩ := maxL_ok hl
          have : m = maxL ns := Int.le_antisymm (m2 m hm) (hy _ m1)
          rw [this]
          exact k.here r (.int _)
        · cases e
      · cases e
    · cases e
  · cases e
theorem c_minL (hc : X.calm = true := by rfl) : CallR X (.builtin "min") (rC T oMinL) := CallR.imp (cr_min hc) fun xs H Q q => by
  obtain ⟨ρ, st, as, w, s', r, ha, e, k⟩ := q
  unfold oMinL at e
  split at e
  · split at e
    · rename_i ys hx
      split at e
      · rename_i ns hz
        split at e
        · rename_i hl
          cases e
          obtain ⟨z, rfl, hz'⟩ := ha.one
          obtain ⟨p, vs, rfl, h1, h2⟩ := lstOf_ok r hz' hx
          have ev := asInts_ok h2 hz
          subst ev
          refine ⟨p, ns, rfl, SqL.of h1, hl, fun m hm hy => ?_⟩
          obtain ⟨m1, m2⟩ := minL_ok hl
          have : m = minL ns := Int.le_antisymm (hy _ m1) (m2 m hm)
          rw [this]
          exact k.here r (.int _)
        · cases e
      · cases e
    · cases e
  · cases e
end
end Sm

/-! S28: defs with defaults -/
namespace Sm
open PySem PySem.Spec PyProof.Rows L2
/-- a def with defaults by its body -/
theorem fnG_ofD {P : Program} {w : World} {K : PySem.W.Frag} {mg : Str → Option Value} {base : Heap} {k : Nat} {x qual : Str} {st : Stmt} {f : Addr} {fd : FuncData} {N ps : List Str} {sp : Sp} {dvs : List V} {kws : List (Str × V)} (F : FunD K x qual (defArgs st) (defBody st) (defScope st) dvs kws f fd) (S : FnScope N ps (defScope st)) (len : ∀ vs H Q E, sp vs H Q E → vs.length = ps.length)
    (hbody : ∀ (cdv : Value) (A : Around) (outer : List Env) (s : Shared) (H : Hp) (vs : List V) (Q : VK) (E : XK), Room k (A.deeper (envOfC qual (defScope st) s.heap.objs.size f cdv)) → A.guards = some [] → sp vs H Q E →
      ∃ t, PSs (cxOf (L2.CX P w) P w K mg base N qual (defScope st) f cdv A outer s H E) (defBody st) t ∧ t { nx := fun _ H' => Q .non H', rt := Q } (L2.start N vs) H) : FnG P w K mg base (k + 1) f fd ps sp := by
  obtain ⟨oc, od, dV, kV, doc, pm, an, cdv, ct, osl, rfl, lk, hcd, _, _⟩ := F.ex
  refine ⟨len, fun A outer s H args us vs Q E hr hg e0 hb r hsp => ?_⟩
  have inK : K.In s.heap := e0.mod.kin.keeps fun b o e => (e0.bs b o e).1
  have nl : s.heap.NoLimit := e0.mod.nolimit.keeps fun b o e => (e0.bs b o e).1
  have kinds : ∀ y ∈ ps.zip us, (defScope st).names.lookup y.1 = some .local ∨ ((defScope st).names.lookup y.1 = some .cell ∧ ((cellsFrom (s.heap.objs.size + 1) (defScope st).names []).lookup y.1).isSome = true) := by
    rintro ⟨n, v⟩ hy
    exact (S.par n (List.of_mem_zip hy).1).imp id fun q => ⟨q, PySem.W.cellsFrom_some _ _ _ (.inl q)⟩
  refine codeAny_call_function hr.depth (inK _ _ lk) rfl S.co S.gen rfl (PySem.W.codeRec_of inK hcd) (hb _ _ _ _ (wpAny_newFunctionEnv_cells S.kind kinds fun env he s1 y => ?_))
  subst he
  refine ⟨nl.keeps y.toInCall.keep, codeAny_func ?_⟩
  obtain ⟨t, ht, hq⟩ := hbody cdv A outer s H vs Q E (hr.deeper _) hg hsp
  refine wpAny_mono (ht.run [] s1 (L2.start N vs) H _ (inv_start S hr.hd e0 (len _ _ _ _ hsp) r y) hq) (fun fl s' hs => ?_) fun e s' hs => hs
  cases fl with
  | ret u => obtain ⟨v, σ', H', J, rv, q⟩ := hs; exact ⟨v, H', J.os, J.bare, J.base, J.hok, rv, q⟩
  | next => obtain ⟨σ', H', J, q⟩ := hs; exact ⟨V.non, H', J.os, J.bare, J.base, J.hok, rfl, q⟩
  | brk => obtain ⟨_, _, _, q⟩ := hs; exact q.elim
  | cont => obtain ⟨_, _, _, q⟩ := hs; exact q.elim
theorem fn_simD {P : Program} {w : World} {K : PySem.W.Frag} {mg : Str → Option Value} {base : Heap} {k n : Nat} {x qual : Str} {st : Stmt} {f : Addr} {fd : FuncData} {N ps : List Str} {T : Tb} {b : SM} {dvs : List V} {kws : List (Str × V)} (F : FunD K x qual (defArgs st) (defBody st) (defScope st) dvs kws f fd) (S : FnScope N ps (defScope st)) (hn : n = ps.length)
    (body : ∀ (cdv : Value) (A : Around) (outer : List Env) (s : Shared) (H : Hp) (E : XK), Room k (A.deeper (envOfC qual (defScope st) s.heap.objs.size f cdv)) → A.guards = some [] →
      PSs (cxOf (L2.CX P w) P w K mg base N qual (defScope st) f cdv A outer s H E) (defBody st) (tS T (fun c d _ H' => E c d H') b)) : FnG P w K mg base (k + 1) f fd ps (SpM T n (fnM N.length b)) :=
  fnG_ofD F S (fun vs H Q E ⟨ρ, s, as, r, hv, hl, p⟩ => by rw [← hv.length, hl, hn]) fun cdv A outer s H vs Q E hr hg h => ⟨_, body cdv A outer s H E hr hg, fn_body h⟩
/-- how it binds where the last parameters are not given -/
structure BindD (K : PySem.W.Frag) (fd : FuncData) (ps : List Str) (das : List Vl) : Prop where
  ex : ∃ (ds : List Value) (dvs : List V), Vals dvs ds ∧ Binds K fd ps ds ∧ ∀ (T : Tb) (ρ : List Addr) (H : Hp), T.K = K → RVs T ρ H das dvs
theorem bindD_of {K : PySem.W.Frag} {fd : FuncData} {ps : List Str} {das : List Vl} {dvs : List V} (h : ∃ ds, Vals dvs ds ∧ Binds K fd ps ds) (hv : ∀ (T : Tb) (ρ : List Addr) (H : Hp), T.K = K → RVs T ρ H das dvs) : BindD K fd ps das := by
  obtain ⟨ds, h1, h2⟩ := h
  exact ⟨ds, dvs, h1, h2, hv⟩
def dflM (n : Nat) (das : List Vl) (mf : List Vl → M Vl) : List Vl → M Vl := fun as s => if as.length + das.length = n then mf (as ++ das) s else .fail
theorem fnV_dfl {P : Program} {w : World} {mg : Str → Option Value} {base : Heap} {k n : Nat} {f : Addr} {fd : FuncData} {ps : List Str} {T : Tb} {mf : List Vl → M Vl} {das : List Vl} (F : FnG P w T.K mg base k f fd ps (SpM T n mf)) (hb : BindD T.K fd ps das) : FnV P w T.K mg base k f (SpV T (dflM n das mf)) := by
  intro A outer s H us vs Q E hr hg e0 r ⟨ρ, sto, as, rel, has, p⟩
  unfold dflM at p
  split at p
  · rename_i hl
    obtain ⟨ds, dvs, rd, hb, hv⟩ := hb.ex
    have inK : T.K.In s.heap := e0.mod.kin.keeps fun b o e => (e0.bs b o e).1
    have hv := hv T ρ H rfl
    have sp : SpM T n mf (vs ++ dvs) H Q E := ⟨ρ, sto, as ++ das, rel, has.append hv, by rw [List.length_append]; exact hl, p⟩
    have r2 : Vals (vs ++ dvs) (us ++ ds) := r.append rd
    exact F.run A outer s H ⟨us, []⟩ (us ++ ds) (vs ++ dvs) Q E hr hg e0 (hb s us inK (by rw [← r2.length]; exact F.len _ _ _ _ sp)) r2 sp
  · exact p.elim
section
variable {X : Cx} {T : Tb} {W : WX} {k : Nat} {f : Addr} {mf : List Vl → M Vl} {x : Str} {p pos : Pos} {e : Expr} {es : List Expr} {ma : AM}
theorem run_V {pins : List (Addr × Obj)} {σ : L2.St} {H : Hp} {s : Shared} {Q : VK} {us : List Value} {vs : List V} {sp : Sp} (F : FnV X.prog X.w X.K X.mg X.base k f sp) (hr : Room k X.A) (hg : X.A.guards = some []) (tk : Takes X W)
    (I : Inv X pins σ H s) (r : Vals vs us) (h : sp vs H Q fun c d H' => W c d σ H') : wpAny (model X.prog X.w) X.A (call (.ref f) us) (EP X pins σ Q) X.xe s := by
  refine wpAny_call (codeAny_mono (F X.A X.stack s H us vs Q _ hr hg I.env0 r h) fun z s' hq => ?_)
  cases z with
  | error y => exact tk y s' (XE.of_call I (fun _ _ _ q => q) hq)
  | ok fl =>
    cases fl with
    | ret u => exact I.after hq
    | next => exact hq.elim
    | brk => exact hq.elim
    | cont => exact hq.elim
theorem ce_callV (F : FnV X.prog X.w X.K X.mg X.base k f (SpV T mf)) (hr : Room k X.A) (hgd : X.A.guards = some []) (hg : Gl X x) (hm : X.mg x = some (.ref f)) (hk : PySem.W.keepIn X.K (.ref f) = true) (tk : Takes X W) (ha : PA X (e :: es) (tA T W ma))
    (hdb : (x == ("__debug__" : Str)) = false := by decide) (he : starEach (e :: es) X.env = (false, eval e X.env) :: starEach es X.env := by rfl) (hpl : (backTo pos (starEach es X.env)).any (·.1) = false := by rfl) :
    PE X (.Call (.Name x p) (e :: es) [] pos) (tE T W (eCall mf ma)) := by
  refine ⟨fun pins s σ H Q I h => wpAny_Call_Name_kw (ld_glob I hg hm ?_ hdb)⟩
  have h : tA T W ma σ H fun vs H1 => SpV T mf vs H1 Q fun c d H' => W c d σ H' := tG_bnd (R := RVs T) h fun ρ s lo xs zs H1 r rl hx q => ⟨ρ, s, xs, r, hx, q⟩
  exact PySem.W.callWith_K (h₀ := X.base) I.ok.mod.kin hk (thn (ha.run pos pins s σ H _ I h) fun us s1 ⟨vs, H1, I1, r, q⟩ => ⟨I1.kIn, run_V F hr hgd tk I1 r q⟩) he hpl
end
/-- a written empty tuple -/
theorem empty_rv {T : Tb} {ρ : List Addr} {H : Hp} {a : Addr} {od : Option Addr} {n : Nat} {sl : Array (Option Value)} (h : T.K.lookup a = some ⟨.type "tuple", od, .seq #[] n, sl⟩) : RV T ρ H (.tup []) (.ref a) :=
  .tup (.inr ⟨_, _, _, h, rfl, rfl, Nat.zero_le _, .nil⟩) .nil
end Sm

/-! S31: a list unpacked into targets -/
namespace Sm
open PySem L2
def gUl (gs : List GM) : GM := fun v lo s => match v with
  | .ref j => match s[j]? with
    | some (.lst xs) => match gAll gs xs lo s with
      | some (lo', s') => .ok lo' s'
      | none => .fail
    | _ => .fail
  | _ => .fail
section
variable {X : Cx} {T : Tb} {W : WX} {es : List Expr} {gs : List GM} {pos : Pos} {kk : Nat}
theorem cg_unl (h : PGs X es (tGts T gs)) (hc : X.calm = true := by rfl) (hn : (assignEach es X.env).length = gs.length := by rfl) (hst : (assignEach es X.env).findIdx? (·.1) = none := by rfl) : PG X (.Tuple es kk pos) (tGt T W (gUl gs)) :=
  pg_mono (pg_unl hc h hn hst) fun z σ H Q h => by
    obtain ⟨ρ, s, lo, v, r, rl, hv, p⟩ := h
    unfold gUl at p
    cases v <;> try exact p.elim
    rename_i j
    obtain ⟨a, rfl, ha⟩ := hv.refE
    simp only at p
    split at p
    · rename_i xs hj
      obtain ⟨vs, h1, h2⟩ := r.lst hj ha
      split at p
      · rename_i lo' s' hg
        refine ⟨a, vs, rfl, SqL.of h1, by rw [← h2.length]; exact gAll_len hg, ρ, s, lo, xs, lo', s', r, rl, h2, hg, ?_⟩
        exact fun ρ' H' σ' ext r' rl' => p ρ' H' σ' ext r' rl'
      · exact p.elim
    · exact p.elim
end
end Sm

/-! S34: f-strings, x or y of lists, split() -/
namespace Sm
open PySem L2
/-- {x}: a text or an int -/
def fmtM (x : Vl) : M Vl := fun s => match x with
  | .str y => if y.length ≤ LIM then .ok (.str y) s else .fail
  | .int i => if i.natAbs.log2 < 1920 then .ok (.str (Str.ofString (toString i))) s else .fail
  | _ => .fail
def eFmt (m : EM) : EM := fun lo => bnd (m lo) fmtM
/-- the parts of a text one behind the other -/
def jnd : List EM → Str → EM
  | [], acc => fun _ => ret (.str acc)
  | m :: ms, acc => fun lo => bnd (m lo) fun x s => match x with
    | .str y => if (acc ++ y).length ≤ LIM then jnd ms (acc ++ y) lo s else .fail
    | _ => .fail
def eJnd (ms : List EM) : EM := jnd ms Str.empty
/-- x or y, x a list -/
def eOrL (a b : EM) : EM := fun lo => bnd (a lo) fun x s => match lstOf x s with
  | some xs => if xs.isEmpty = true then b lo s else .ok x s
  | none => .fail
/-- x.split() -/
def oSplit0 : OMt
  | .str a, [], s => if a.length + 2 ≤ LIM then some (.ref s.length, s ++ [.lst ((Txt.words a).map Vl.str)]) else none
  | _, _, _ => none
/-- str(x): texts, ints, tuples -/
def oStrD : OC
  | [.str y], s => some (.str y, s)
  | [.int i], s => if i.natAbs.log2 < 1920 then some (.str (Str.ofString (toString i)), s) else none
  | [.tup xs], s => match toD 40 s (.tup xs) with
    | some d => if d.showable && decide (d.shown.length ≤ LIM) then some (.str d.shown, s) else none
    | none => none
  | _, _ => none
section
variable {X : Cx} {T : Tb} {W : WX} {a b e : Expr} {ma mb m : EM} {pos : Pos} {rest es : List Expr} {ms : List EM}
theorem ce_fmt (h : PE X e (tE T W m)) : PE X (.FormattedValue e (-1) none pos) (tE T W (eFmt m)) :=
  pe_mono (pe_fmt h) fun σ H Q h => tG_bnd h fun ρ s lo x z H1 r rl hx p => by
    unfold fmtM at p
    cases hx with
    | str y =>
      by_cases q : y.length ≤ LIM
      · simp only [if_pos q] at p
        exact .inl ⟨y, rfl, by rw [lim_eq]; exact q, p ρ H1 _ .refl r (.str y)⟩
      · simp only [if_neg q] at p
        exact p.elim
    | int i =>
      by_cases q : i.natAbs.log2 < 1920
      · simp only [if_pos q] at p
        exact .inr ⟨i, rfl, q, p ρ H1 _ .refl r (.str _)⟩
      · simp only [if_neg q] at p
        exact p.elim
    | _ => exact p.elim
theorem cj_nil : PJ X [] (([] : List EM).map (tE T W)) := .nil
theorem cj_cons (h : PE X e (tE T W m)) (r : PJ X es (ms.map (tE T W))) : PJ X (e :: es) ((m :: ms).map (tE T W)) := .cons h r
theorem jnd_le : ∀ (ms : List EM) (acc : Str) (σ : L2.St) (H : Hp) (Q : VK), tE T W (jnd ms acc) σ H Q → tJs (ms.map (tE T W)) acc σ H fun out H1 => Q (.str out) H1
  | [], acc, σ, H, Q, h => by
    obtain ⟨ρ, s, lo, r, rl, p⟩ := h
    exact po_ret (R := RV T) p r (.str acc)
  | m :: ms, acc, σ, H, Q, h => tG_bnd (f := fun lo x s => match x with | .str y => if (acc ++ y).length ≤ LIM then jnd ms (acc ++ y) lo s else .fail | _ => .fail) h fun ρ s lo x z H1 r rl hx p => by
    cases hx with
    | str y =>
      by_cases q : (acc ++ y).length ≤ LIM
      · simp only [if_pos q] at p
        exact ⟨y, rfl, by rw [lim_eq]; exact q, jnd_le ms (acc ++ y) σ H1 Q ⟨ρ, s, lo, r, rl, p⟩⟩
      · simp only [if_neg q] at p
        exact p.elim
    | _ => exact p.elim
theorem ce_jnd {v1 v2 : Expr} (h : PJ X (v1 :: v2 :: rest) (ms.map (tE T W))) : PE X (.JoinedStr (v1 :: v2 :: rest) pos) (tE T W (eJnd ms)) :=
  pe_mono (pe_joined h) fun σ H Q h => jnd_le ms _ σ H Q h
theorem ce_jnd1 (h : PE X e (tE T W m)) : PE X (.JoinedStr [e] pos) (tE T W m) := pe_joined1 h
theorem ce_orL (ha : PE X a (tE T W ma)) (hb : PE X (.BoolOp .Or (b :: rest) pos) (tE T W mb)) (hK : X.K = T.K := by rfl) : PE X (.BoolOp .Or (a :: b :: rest) pos) (tE T W (eOrL ma mb)) :=
  pe_mono (pe_orT ha hb) fun _ _ _ h => tG_bnd (f := fun lo x s => match lstOf x s with | some xs => if xs.isEmpty = true then mb lo s else .ok x s | none => .fail) h fun ρ s lo x z H1 r rl hx p => by
    cases e : lstOf x s with
    | none => rw [e] at p; exact p.elim
    | some xs =>
      rw [e] at p
      obtain ⟨q, vs, rfl, h1, h2⟩ := lstOf_ok r hx e
      refine ⟨!vs.isEmpty, .inl ⟨vs, by rw [hK]; exact SqL.of h1, rfl⟩, ?_⟩
      have hl := h2.length
      cases xs with
      | nil =>
        cases vs with
        | nil => exact ⟨ρ, s, lo, r, rl, p⟩
        | cons => simp at hl
      | cons y ys =>
        cases vs with
        | nil => simp at hl
        | cons u us =>
          exact p ρ H1 _ .refl r hx
theorem m_split0 : MtR X "str.split" (rMt T oSplit0) := MtR.imp mt_words fun x xs H Q q => by
  obtain ⟨ρ, st, a, as, w, s', r, ha, hs, e, k⟩ := q
  unfold oSplit0 at e
  split at e
  · split at e
    · rename_i hl
      cases e
      cases ha
      cases hs
      refine ⟨_, rfl, rfl, by rw [lim_eq]; exact hl, fun p hp => ?_⟩
      exact k.lst r (RVs.strs _) hp
    · cases e
  · cases e
theorem c_strD (hg : X.A.guards = some []) (hu : X.A.units + 64 < cLine) (hK : X.K = T.K := by rfl) : CallR X (.type "str") (rC T oStrD) := fun pins s σ H xs us Q I rs q => by
  obtain ⟨ρ, st, as, w, s', r, ha, e, k⟩ := q
  unfold oStrD at e
  split at e
  · cases e
    obtain ⟨z, rfl, hz⟩ := ha.one
    cases hz
    exact SkE.call_str_str pins s σ H _ us Q I rs ⟨_, rfl, k.here r (.str _)⟩
  · split at e
    · rename_i hl
      cases e
      obtain ⟨z, rfl, hz⟩ := ha.one
      cases hz
      exact call_str_int pins s σ H _ us Q I rs ⟨_, rfl, hl, k.here r (.str _)⟩
    · cases e
  · rename_i xs0
    split at e
    · rename_i d hd
      split at e
      · rename_i hb
        cases e
        obtain ⟨hs, hl⟩ := Bool.and_eq_true_iff.mp hb
        have hl := of_decide_eq_true hl
        obtain ⟨z, rfl, hz⟩ := ha.one
        obtain ⟨p1, p2⟩ := toD_dp r 40 _ z d hz hd
        have nd := dp_noDict d z p1
        have fin := k.here r (.str d.shown)
        cases rs with
        | cons r1 r2 =>
          cases r2
          rename_i u
          rw [← hK] at p1
          obtain ⟨bs, rd⟩ := Dp.reads I d z u p1 r1
          cases hz with
          | tup g1 g2 =>
            obtain rfl := r1
            exact str_of_reads rd hs (fun z => by rw [nd] at z; cases z) hg (by omega) (fun _ _ e => e) (fun h' u tk hk => ⟨.str _, H, I.kept (t' := tk) hk, ⟨_, rfl⟩, fin⟩) (by rw [lim_eq]; exact hl)
      · cases e
    · cases e
  · cases e
end
end Sm

namespace K32
open PySem PySem.Spec PyProof.Rows L2 Sm
def top (i : Nat) : Stmt := PySem.Challenge.pw_maybegone_k32_facts_by_all_schedules.main.body.getD i (.Pass ⟨0, 0, 0, 0⟩)
abbrev st_HeapU_initU : Stmt := inClass (top 6) 0
abbrev st_Heap_apply : Stmt := inClass (top 6) 1
abbrev st_Heap_held_lists : Stmt := inClass (top 6) 2
abbrev st_Heap_reached_flags : Stmt := inClass (top 6) 3
abbrev st_holders_of : Stmt := top 7
abbrev st_moments_of : Stmt := top 8
abbrev st_questions_of : Stmt := top 9
abbrev st_BoundsU_initU : Stmt := inClass (top 10) 0
abbrev st_Bounds_copied : Stmt := inClass (top 10) 1
abbrev st_Bounds_keep_there : Stmt := inClass (top 10) 2
abbrev st_Bounds_keep_gone : Stmt := inClass (top 10) 3
abbrev st_Bounds_take_reached : Stmt := inClass (top 10) 4
abbrev st_numbered : Stmt := top 11
abbrev st_Bounds_chain : Stmt := inClass (top 10) 5
abbrev st_Bounds_clash : Stmt := inClass (top 10) 6
abbrev st_Facts_tell : Stmt := inClass (top 12) 2
abbrev st_FactsU_initU : Stmt := inClass (top 12) 0
abbrev st_Facts_fate : Stmt := inClass (top 12) 4
abbrev st_Facts_window : Stmt := inClass (top 12) 6
abbrev st__law_deck : Stmt := top 14
abbrev st__law_draw : Stmt := top 15
abbrev st__law_one : Stmt := top 16
abbrev st__law_event : Stmt := top 17
abbrev st__law_story : Stmt := top 18
abbrev st__law_heap : Stmt := top 19
abbrev st__law_closed : Stmt := top 20
abbrev st__law_questions : Stmt := top 21
abbrev st__law_is_schedule : Stmt := top 22
abbrev st__law_schedules : Stmt := top 23
abbrev st__law_agreeing : Stmt := top 24
abbrev st__law_fates_right : Stmt := top 25
abbrev st__law_right : Stmt := top 26
abbrev st_law : Stmt := top 27
abbrev cs_asked_pairs : List Nat := [3, 4, 5]
abbrev cs_bounds : List Nat := [3, 4, 5]
abbrev cs_first_gone : List Nat := [3, 4, 5]
abbrev cs_holders : List Nat := [3, 4, 5]
abbrev cs_kept_cells : List Nat := [3, 4, 5]
abbrev cs_last_there : List Nat := [3, 4, 5]
abbrev cs_moments : List Nat := [3, 4, 5]
abbrev cs_standing : List Nat := [3, 4, 5]
abbrev cs_story : List Nat := [3, 4, 5]
abbrev cs_strong : List Nat := [3, 4, 5]
abbrev cs_told : List Nat := [3, 4, 5]
abbrev cs_why_gone : List Nat := [3, 4, 5]
abbrev cs_why_there : List Nat := [3, 4, 5]
/-! the pure functions -/
def b_HeapU_initU : SM := (sSeq (sFldM cs_standing "standing" (eVar 0) eDict0)
  (sSeq (sFldM cs_kept_cells "kept_cells" (eVar 0) eDict0)
  (sFldM cs_strong "strong" (eVar 0) (eCB oLst aNil))))
def m_HeapU_initU : List Vl → M Vl := fnM 1 b_HeapU_initU
def b_Heap_apply : SM := (sForX (aTup (eVar 1)) (gNm 2)
  (sIf (tVal (eOp opEq (eOp opIx (eVar 2) (eC (.int 0))) (eC (.str "make")))) (sExpr (eBm .list oAppend (eFld cs_strong "strong" (eVar 0)) (aCons eDict0 aNil))) (sIf (tVal (eOp opEq (eOp opIx (eVar 2) (eC (.int 0))) (eC (.str "stand")))) (sAsg (gSb opSet (eFld cs_standing "standing" (eVar 0)) (eOp opIx (eVar 2) (eC (.int 1)))) (eOp opIx (eVar 2) (eC (.int 2)))) (sIf (tVal (eOp opEq (eOp opIx (eVar 2) (eC (.int 0))) (eC (.str "hold")))) (sAsg (gSb opSet (eOp opIx (eFld cs_strong "strong" (eVar 0)) (eOp opIx (eVar 2) (eC (.int 1)))) (eOp opIx (eVar 2) (eC (.int 2)))) (eOp opIx (eVar 2) (eC (.int 3)))) (sIf (tVal (eOp opEq (eOp opIx (eVar 2) (eC (.int 0))) (eC (.str "keep")))) (sAsg (gSb opSet (eFld cs_kept_cells "kept_cells" (eVar 0)) (eOp opIx (eVar 2) (eC (.int 1)))) (eC (.bl true))) sNil)))))
def m_Heap_apply : List Vl → M Vl := fnM 3 b_Heap_apply
def tab_apply : MTab := fun c => match c with
  | 3 => some m_Heap_apply
  | _ => none
def b_Heap_held_lists : SM := (sRet (eLc 100000 (iLst (eFld cs_strong "strong" (eVar 0))) (glN 1) tTrue (eLock (eVar 1) (eLc 100000 (iVal (eVar 1)) (glN 2) (tVal (eOp opNotN (eVar 2) (eC .non))) (eVar 2) [2])) [1]))
def m_Heap_held_lists : List Vl → M Vl := fnM 3 b_Heap_held_lists
def tab_held_lists : MTab := fun c => match c with
  | 3 => some m_Heap_held_lists
  | _ => none
def b_Heap_reached_flags : SM := (sSeq (sSet 2 (eOp opMul (eCB oLst (aCons (eC (.bl false)) aNil)) (eCB oLen (aCons (eVar 1) aNil))))
  (sSeq (sSet 3 (eOp opAdd (eLock (eFld cs_standing "standing" (eVar 0)) (eLc 100000 (iVal (eFld cs_standing "standing" (eVar 0))) (glN 4) (tVal (eOp opNotN (eVar 4) (eC .non))) (eVar 4) [4])) (eCB oList (aCons (eFld cs_kept_cells "kept_cells" (eVar 0)) aNil))))
  (sSeq (loopW (tVal (eOp opNe (eVar 3) (eCB oLst aNil))) (sSeq (sSet 4 (eBm0 .list oPop (eVar 3)))
  (sIf (tNotM (tVal (eOp opIx (eVar 2) (eVar 4)))) (sSeq (sAsg (gSb opSet (eVar 2) (eVar 4)) (eC (.bl true)))
  (sExpr (eBm .list oExtend (eVar 3) (aCons (eOp opIx (eVar 1) (eVar 4)) aNil)))) sNil)) 100000)
  (sRet (eVar 2)))))
def m_Heap_reached_flags : List Vl → M Vl := fnM 5 b_Heap_reached_flags
def tab_reached_flags : MTab := fun c => match c with
  | 3 => some m_Heap_reached_flags
  | _ => none
def b_holders_of : SM := (sSeq (sSet 1 (eLc 100000 (iLst (eVar 0)) (glN 3) tTrue (eCB oLst aNil) [3]))
  (sSeq (sFor 100000 (iEnm (aCons (eVar 0) aNil)) (gTp [2, 3])
  (sFor 100000 (iLst (eVar 3)) (gNm 4)
  (sExpr (eBm .list oAppend (eOp opIx (eVar 1) (eVar 4)) (aCons (eVar 2) aNil)))))
  (sRet (eVar 1))))
def m_holders_of : List Vl → M Vl := fnM 5 b_holders_of
def b_moments_of : SM := (sSeq (sSet 1 (eMake 3 m_HeapU_initU aNil))
  (sSeq (sSet 2 (eCB oLst aNil))
  (sSeq (sForX (aTup (eVar 0)) (gNm 3)
  (sSeq (sSet 4 (eMeth "held_lists" (tabA 0 tab_held_lists) (eVar 1) aNil))
  (sSeq (sExpr (eBm .list oAppend (eVar 2) (aCons (eCB oTup (aCons (eVar 4) (aCons (eMeth "reached_flags" (tabA 1 tab_reached_flags) (eVar 1) (aCons (eVar 4) aNil)) aNil))) aNil)))
  (sExpr (eMeth "apply" (tabA 1 tab_apply) (eVar 1) (aCons (eVar 3) aNil))))))
  (sRet (eVar 2)))))
def m_moments_of : List Vl → M Vl := fnM 5 b_moments_of
def b_questions_of : SM := (sSeq (sSet 1 (eCB oLst aNil))
  (sSeq (sForX (aEnm (aCons (eVar 0) aNil)) (gTp [2, 3])
  (sExpr (eBm .list oExtend (eVar 1) (aCons (eLcX (aTup (eVar 3)) (glN 4) (tVal (eOp opEq (eOp opIx (eVar 4) (eC (.int 0))) (eC (.str "ask")))) (eCB oTup (aCons (eVar 2) (aCons (eOp opIx (eVar 4) (eC (.int 1))) aNil))) [4]) aNil))))
  (sRet (eVar 1))))
def m_questions_of : List Vl → M Vl := fnM 5 b_questions_of
def b_BoundsU_initU : SM := (sSeq (sFldM cs_moments "moments" (eVar 0) (eVar 1))
  (sSeq (sFldM cs_holders "holders" (eVar 0) (eVar 2))
  (sSeq (sSet 3 (eIfM (tVal (eOp opNe (eVar 1) (eCB oLst aNil))) (eCB oLen (aCons (eOp opIx (eOp opIx (eVar 1) (eOp1 opNeg (eC (.int 1)))) (eC (.int 0))) aNil)) (eC (.int 0))))
  (sSeq (sFldM cs_last_there "last_there" (eVar 0) (eOp opMul (eCB oLst (aCons (eOp1 opNeg (eC (.int 1))) aNil)) (eVar 3)))
  (sSeq (sFldM cs_first_gone "first_gone" (eVar 0) (eOp opMul (eCB oLst (aCons (eCB oLen (aCons (eVar 1) aNil)) aNil)) (eVar 3)))
  (sSeq (sFldM cs_why_there "why_there" (eVar 0) (eOp opMul (eCB oLst (aCons (eC .non) aNil)) (eVar 3)))
  (sFldM cs_why_gone "why_gone" (eVar 0) (eOp opMul (eCB oLst (aCons (eC .non) aNil)) (eVar 3)))))))))
def m_BoundsU_initU : List Vl → M Vl := fnM 4 b_BoundsU_initU
def b_Bounds_copied : SM := (sSeq (sSet 1 (eMake 4 (argI 2 m_BoundsU_initU) (aCons (eFld cs_moments "moments" (eVar 0)) (aCons (eFld cs_holders "holders" (eVar 0)) aNil))))
  (sSeq (sFldM cs_last_there "last_there" (eVar 1) (eCB oList (aCons (eFld cs_last_there "last_there" (eVar 0)) aNil)))
  (sSeq (sFldM cs_first_gone "first_gone" (eVar 1) (eCB oList (aCons (eFld cs_first_gone "first_gone" (eVar 0)) aNil)))
  (sSeq (sFldM cs_why_there "why_there" (eVar 1) (eCB oList (aCons (eFld cs_why_there "why_there" (eVar 0)) aNil)))
  (sSeq (sFldM cs_why_gone "why_gone" (eVar 1) (eCB oList (aCons (eFld cs_why_gone "why_gone" (eVar 0)) aNil)))
  (sRet (eVar 1)))))))
def m_Bounds_copied : List Vl → M Vl := fnM 2 b_Bounds_copied
def tab_copied : MTab := fun c => match c with
  | 4 => some m_Bounds_copied
  | _ => none
def b_Bounds_keep_there : SM := (sSeq (sSet 4 (eCB oLst (aCons (eCB oTup (aCons (eVar 1) (aCons (eVar 2) (aCons (eVar 3) aNil)))) aNil)))
  (loopW (tVal (eOp opNe (eVar 4) (eCB oLst aNil))) (sSeq (sAsg (gTp [6, 7, 8]) (eBm0 .list oPop (eVar 4)))
  (sSeq (sSet 5 (eOp opIx (eFld cs_last_there "last_there" (eVar 0)) (eVar 6)))
  (sIf (tVal (eOp opGt (eVar 7) (eVar 5))) (sSeq (sAsg (gSb opSet (eFld cs_last_there "last_there" (eVar 0)) (eVar 6)) (eVar 7))
  (sSeq (sAsg (gSb opSet (eFld cs_why_there "why_there" (eVar 0)) (eVar 6)) (eVar 8))
  (sForX (aRng2 (aCons (eOp opAdd (eVar 5) (eC (.int 1))) (aCons (eOp opAdd (eVar 7) (eC (.int 1))) aNil))) (gNm 9)
  (sIf (tVal (eOp opLt (eVar 6) (eCB oLen (aCons (eOp opIx (eOp opIx (eFld cs_moments "moments" (eVar 0)) (eVar 9)) (eC (.int 0))) aNil)))) (sExpr (eBm .list oExtend (eVar 4) (aCons (eLc 100000 (iLst (eOp opIx (eOp opIx (eOp opIx (eFld cs_moments "moments" (eVar 0)) (eVar 9)) (eC (.int 0))) (eVar 6))) (glN 10) tTrue (eCB oTup (aCons (eVar 10) (aCons (eVar 9) (aCons (eCB oTup (aCons (eC (.str "held")) (aCons (eVar 6) aNil))) aNil)))) [10]) aNil))) sNil)))) sNil))) 100000))
def m_Bounds_keep_there : List Vl → M Vl := fnM 11 b_Bounds_keep_there
def tab_keep_there : MTab := fun c => match c with
  | 4 => some m_Bounds_keep_there
  | _ => none
def b_Bounds_keep_gone : SM := (sSeq (sSet 4 (eCB oLst (aCons (eCB oTup (aCons (eVar 1) (aCons (eVar 2) (aCons (eVar 3) aNil)))) aNil)))
  (loopW (tVal (eOp opNe (eVar 4) (eCB oLst aNil))) (sSeq (sAsg (gTp [6, 7, 8]) (eBm0 .list oPop (eVar 4)))
  (sSeq (sSet 5 (eOp opIx (eFld cs_first_gone "first_gone" (eVar 0)) (eVar 6)))
  (sIf (tVal (eOp opLt (eVar 7) (eVar 5))) (sSeq (sAsg (gSb opSet (eFld cs_first_gone "first_gone" (eVar 0)) (eVar 6)) (eVar 7))
  (sSeq (sAsg (gSb opSet (eFld cs_why_gone "why_gone" (eVar 0)) (eVar 6)) (eVar 8))
  (sForX (aRng2 (aCons (eVar 7) (aCons (eVar 5) aNil))) (gNm 9)
  (sExpr (eBm .list oExtend (eVar 4) (aCons (eLc 100000 (iLst (eOp opIx (eOp opIx (eFld cs_holders "holders" (eVar 0)) (eVar 9)) (eVar 6))) (glN 10) tTrue (eCB oTup (aCons (eVar 10) (aCons (eVar 9) (aCons (eCB oTup (aCons (eC (.str "holder")) (aCons (eVar 6) aNil))) aNil)))) [10]) aNil)))))) sNil))) 100000))
def m_Bounds_keep_gone : List Vl → M Vl := fnM 11 b_Bounds_keep_gone
def tab_keep_gone : MTab := fun c => match c with
  | 4 => some m_Bounds_keep_gone
  | _ => none
def b_Bounds_take_reached : SM := (sFor 100000 (iEnm (aCons (eFld cs_moments "moments" (eVar 0)) aNil)) (gTs [(gNm 1), (gTp [2, 3])])
  (sFor 100000 (iEnm (aCons (eVar 3) aNil)) (gTp [4, 5])
  (sIf (tVal (eVar 5)) (sExpr (eMeth "keep_there" (tabA 3 tab_keep_there) (eVar 0) (aCons (eVar 4) (aCons (eVar 1) (aCons (eCB oTup (aCons (eC (.str "reached")) aNil)) aNil))))) sNil)))
def m_Bounds_take_reached : List Vl → M Vl := fnM 6 b_Bounds_take_reached
def tab_take_reached : MTab := fun c => match c with
  | 4 => some m_Bounds_take_reached
  | _ => none
def b_numbered : SM := (sSeq (sSet 2 (eCB oLst aNil))
  (sSeq (sFor 100000 (iEnm (aCons (eVar 0) aNil)) (gTs [(gNm 3), (gTp [4, 5, 6, 7])])
  (sExpr (eBm .list oAppend (eVar 2) (aCons (eCB oTup (aCons (eVar 4) (aCons (eVar 5) (aCons (eVar 6) (aCons (eIfM (tVal (eOp opEq (eVar 3) (eC (.int 0)))) (eVar 7) (eCB oTup (aCons (eVar 7) (aCons (eOp opSub (eOp opAdd (eVar 1) (eVar 3)) (eC (.int 1))) aNil)))) aNil))))) aNil))))
  (sRet (eCB oTuple (aCons (eVar 2) aNil)))))
def m_numbered : List Vl → M Vl := fnM 8 b_numbered
def b_Bounds_chain : SM := (sSeq (sSet 5 (eCB oLst aNil))
  (sSeq (sSet 6 (eC (.bl true)))
  (sSeq (loopW (tVal (eVar 6)) (sSeq (sSet 7 (eIfM (tVal (eOp opEq (eVar 3) (eC (.str "there")))) (eOp opIx (eFld cs_last_there "last_there" (eVar 0)) (eVar 1)) (eOp opIx (eFld cs_first_gone "first_gone" (eVar 0)) (eVar 1))))
  (sSeq (sSet 8 (eIfM (tVal (eOp opEq (eVar 3) (eC (.str "there")))) (eOp opIx (eFld cs_why_there "why_there" (eVar 0)) (eVar 1)) (eOp opIx (eFld cs_why_gone "why_gone" (eVar 0)) (eVar 1))))
  (sIf (tVal (eOp opNe (eVar 2) (eVar 7))) (sSeq (sExpr (eBm .list oAppend (eVar 5) (aCons (eCB oTup (aCons (eVar 1) (aCons (eVar 2) (aCons (eVar 3) (aCons (eIfM (tVal (eOp opEq (eVar 3) (eC (.str "there")))) (eC (.str "earlier")) (eC (.str "later"))) aNil))))) aNil)))
  (sSet 2 (eVar 7))) (sIf (tVal (eOp opIn (eOp opIx (eVar 8) (eC (.int 0))) (eCB oTup (aCons (eC (.str "held")) (aCons (eC (.str "holder")) aNil))))) (sSeq (sExpr (eBm .list oAppend (eVar 5) (aCons (eCB oTup (aCons (eVar 1) (aCons (eVar 2) (aCons (eVar 3) (aCons (eOp opIx (eVar 8) (eC (.int 0))) aNil))))) aNil)))
  (sSet 1 (eOp opIx (eVar 8) (eC (.int 1))))) (sSeq (sExpr (eBm .list oAppend (eVar 5) (aCons (eCB oTup (aCons (eVar 1) (aCons (eVar 2) (aCons (eVar 3) (aCons (eVar 8) aNil))))) aNil)))
  (sSet 6 (eC (.bl false)))))))) 100000)
  (sRet (eCall (arg 2 m_numbered) (aCons eFail (aCons (eVar 4) aNil)))))))
def m_Bounds_chain : List Vl → M Vl := fnM 9 b_Bounds_chain
def tab_chain : MTab := fun c => match c with
  | 4 => some m_Bounds_chain
  | _ => none
def b_Bounds_clash : SM := (sSeq (sFor 100000 (iEnm (aCons (eFld cs_first_gone "first_gone" (eVar 0)) aNil)) (gTp [1, 2])
  (sIf (tVal (eOp opLe (eVar 2) (eOp opIx (eFld cs_last_there "last_there" (eVar 0)) (eVar 1)))) (sSeq (sSet 3 (eMeth "chain" (tabA 4 tab_chain) (eVar 0) (aCons (eVar 1) (aCons (eVar 2) (aCons (eC (.str "gone")) (aCons (eC (.int 0)) aNil))))))
  (sRet (eOp opAdd (eVar 3) (eMeth "chain" (tabA 4 tab_chain) (eVar 0) (aCons (eVar 1) (aCons (eVar 2) (aCons (eC (.str "there")) (aCons (eCB oLen (aCons (eVar 3) aNil)) aNil)))))))) sNil))
  (sRet (eC .non)))
def m_Bounds_clash : List Vl → M Vl := fnM 4 b_Bounds_clash
def tab_clash : MTab := fun c => match c with
  | 4 => some m_Bounds_clash
  | _ => none
def b_Facts_tell : SM := (sSeq (sSet 2 (eCB oLen (aCons (eFld cs_told "told" (eVar 0)) aNil)))
  (sSeq (sIf (tVal (eOp opGe (eVar 2) (eCB oLen (aCons (eFld cs_asked_pairs "asked_pairs" (eVar 0)) aNil)))) sFail sNil)
  (sSeq (sAsg (gTp [5, 6]) (eOp opIx (eFld cs_asked_pairs "asked_pairs" (eVar 0)) (eVar 2)))
  (sSeq (sSet 3 (eMeth "copied" (tabA 0 tab_copied) (eFld cs_bounds "bounds" (eVar 0)) aNil))
  (sSeq (sIf (tVal (eOp opEq (eVar 1) (eC (.int 1)))) (sExpr (eMeth "keep_gone" (tabA 3 tab_keep_gone) (eVar 3) (aCons (eVar 6) (aCons (eVar 5) (aCons (eCB oTup (aCons (eC (.str "asked")) (aCons (eVar 2) aNil))) aNil))))) (sExpr (eMeth "keep_there" (tabA 3 tab_keep_there) (eVar 3) (aCons (eVar 6) (aCons (eVar 5) (aCons (eCB oTup (aCons (eC (.str "asked")) (aCons (eVar 2) aNil))) aNil))))))
  (sSeq (sSet 4 (eMeth "clash" (tabA 0 tab_clash) (eVar 3) aNil))
  (sSeq (sIf (tVal (eOp opNotN (eVar 4) (eC .non))) sFail sNil)
  (sSeq (sFldM cs_bounds "bounds" (eVar 0) (eVar 3))
  (sSeq (sFldM cs_told "told" (eVar 0) (eOp opAdd (eFld cs_told "told" (eVar 0)) (eCB oTup (aCons (eVar 1) aNil))))
  (sRet (eCB oLen (aCons (eFld cs_told "told" (eVar 0)) aNil))))))))))))
def m_Facts_tell : List Vl → M Vl := fnM 7 b_Facts_tell
def tab_tell : MTab := fun c => match c with
  | 5 => some m_Facts_tell
  | _ => none
def b_FactsU_initU : SM := (sSeq (sFldM cs_story "story" (eVar 0) (eVar 1))
  (sSeq (sFldM cs_told "told" (eVar 0) (eCB oTup aNil))
  (sSeq (sFldM cs_asked_pairs "asked_pairs" (eVar 0) (eCall (arg 1 m_questions_of) (aCons (eVar 1) aNil)))
  (sSeq (sSet 3 (eCall (arg 1 m_moments_of) (aCons (eVar 1) aNil)))
  (sSeq (sFldM cs_bounds "bounds" (eVar 0) (eMake 4 (argI 2 m_BoundsU_initU) (aCons (eVar 3) (aCons (eLc 100000 (iLst (eVar 3)) (glT [5, 6]) tTrue (eCall (arg 1 m_holders_of) (aCons (eVar 5) aNil)) [5, 6]) aNil))))
  (sSeq (sExpr (eMeth "take_reached" (tabA 0 tab_take_reached) (eFld cs_bounds "bounds" (eVar 0)) aNil))
  (sForX (aTup (eVar 2)) (gNm 4)
  (sExpr (eMeth "tell" (tabA 1 tab_tell) (eVar 0) (aCons (eVar 4) aNil))))))))))
def m_FactsU_initU : List Vl → M Vl := fnM 7 b_FactsU_initU
def b_Facts_fate : SM := (sSeq (sIf (tVal (eOp opLe (eVar 2) (eOp opIx (eFld cs_last_there "last_there" (eFld cs_bounds "bounds" (eVar 0))) (eVar 1)))) (sRet (eC (.str "there"))) sNil)
  (sRet (eIfM (tVal (eOp opGe (eVar 2) (eOp opIx (eFld cs_first_gone "first_gone" (eFld cs_bounds "bounds" (eVar 0))) (eVar 1)))) (eC (.str "gone")) (eC (.str "open")))))
def m_Facts_fate : List Vl → M Vl := fnM 3 b_Facts_fate
def tab_fate : MTab := fun c => match c with
  | 5 => some m_Facts_fate
  | _ => none
def b_Facts_window : SM := (sSeq (sSet 2 (eFld cs_moments "moments" (eFld cs_bounds "bounds" (eVar 0))))
  (sSeq (sIf (tOrM (tVal (eOp opEq (eVar 2) (eCB oLst aNil))) (tVal (eOp opGe (eVar 1) (eCB oLen (aCons (eOp opIx (eOp opIx (eVar 2) (eOp1 opNeg (eC (.int 1)))) (eC (.int 0))) aNil))))) (sRet (eCB oTup (aCons (eC .non) (aCons (eC .non) aNil)))) sNil)
  (sSeq (sSet 3 (eOp opAdd (eOp opIx (eFld cs_last_there "last_there" (eFld cs_bounds "bounds" (eVar 0))) (eVar 1)) (eC (.int 1))))
  (sSeq (loopW (tAndM (tVal (eOp opLt (eVar 3) (eCB oLen (aCons (eVar 2) aNil)))) (tVal (eOp opGe (eVar 1) (eCB oLen (aCons (eOp opIx (eOp opIx (eVar 2) (eVar 3)) (eC (.int 0))) aNil))))) (sAug 3 opIAdd (eC (.int 1))) 100000)
  (sSeq (sSet 4 (eOp opIx (eFld cs_first_gone "first_gone" (eFld cs_bounds "bounds" (eVar 0))) (eVar 1)))
  (sRet (eCB oTup (aCons (eIfM (tVal (eOp opLt (eVar 3) (eCB oLen (aCons (eVar 2) aNil)))) (eVar 3) (eC .non)) (aCons (eIfM (tVal (eOp opLt (eVar 4) (eCB oLen (aCons (eVar 2) aNil)))) (eVar 4) (eC .non)) aNil)))))))))
def m_Facts_window : List Vl → M Vl := fnM 5 b_Facts_window
def tab_window : MTab := fun c => match c with
  | 5 => some m_Facts_window
  | _ => none
def b__law_deck : SM := (sRet (eCB oLst (aCons (eLc 100000 (iLst (eSl opSl (eVar 0) none (some (eC (.int 63))))) (glN 1) tTrue (eCB oAbs (aCons (eVar 1) aNil)) [1]) (aCons (eC (.int 0)) aNil))))
def m__law_deck : List Vl → M Vl := fnM 2 b__law_deck
def b__law_draw : SM := (sSeq (sAsg (gSb opSet (eVar 0) (eC (.int 1))) (eOp opAdd (eOp opIx (eVar 0) (eC (.int 1))) (eC (.int 1))))
  (sSeq (sSet 2 (eOp opMod (eCB oInt (aCons (eOp opIx (eVar 0) (eC (.int 1))) aNil)) (eCB oMax (aCons (eC (.int 1)) (aCons (eCB oLen (aCons (eOp opIx (eVar 0) (eC (.int 0))) aNil)) aNil)))))
  (sSeq (sSet 3 (eOp opIx (eOp opAdd (eOp opIx (eVar 0) (eC (.int 0))) (eCB oLst (aCons (eC (.int 0)) aNil))) (eVar 2)))
  (sSeq (sIf (tVal (eOp opGe (eVar 3) (eOp opPow (eC (.int 10)) (eC (.int 18))))) (sSeq (sAsg (gSb opSet (eOp opIx (eVar 0) (eC (.int 0))) (eVar 2)) (eOp opFdiv (eVar 3) (eVar 1)))
  (sRet (eOp opMod (eCB oInt (aCons (eVar 3) aNil)) (eVar 1)))) sNil)
  (sSeq (sSet 4 (eOp opPow (eOp opAdd (eOp opAdd (eOp opMod (eCB oInt (aCons (eVar 3) aNil)) (eC (.int 2147483587))) (eOp opMul (eC (.int 7919)) (eOp opIx (eVar 0) (eC (.int 1))))) (eC (.int 1))) (eC (.int 5))))
  (sRet (eOp opMod (eCB oInt (aCons (eOp opMod (eCB oInt (aCons (eVar 4) aNil)) (eC (.int 2147483647))) aNil)) (eVar 1))))))))
def m__law_draw : List Vl → M Vl := fnM 5 b__law_draw
def b__law_one : SM := (sRet (eOp opIx (eVar 1) (eCall (arg 2 m__law_draw) (aCons (eVar 0) (aCons (eCB oLen (aCons (eVar 1) aNil)) aNil)))))
def m__law_one : List Vl → M Vl := fnM 2 b__law_one
def b__law_event : SM := (sSeq (sSet 2 (eCall (arg 2 m__law_draw) (aCons (eVar 0) (aCons (eC (.int 6)) aNil))))
  (sSeq (sSet 3 (eCall (arg 2 m__law_one) (aCons (eVar 0) (aCons (eOp opAdd (eCB oLst (aCons (eC .non) aNil)) (eVar 1)) aNil))))
  (sSeq (sIf (tOrM (tVal (eOp opLt (eVar 2) (eC (.int 2)))) (tVal (eOp opEq (eVar 1) (eCB oLst aNil)))) (sRet (eCB oTup (aCons (eC (.str "stand")) (aCons (eCall (arg 2 m__law_one) (aCons (eVar 0) (aCons (eCB oLst (aCons (eC (.str "x")) (aCons (eC (.str "y")) aNil))) aNil))) (aCons (eVar 3) aNil))))) sNil)
  (sSeq (sIf (tVal (eOp opLt (eVar 2) (eC (.int 4)))) (sRet (eCB oTup (aCons (eC (.str "hold")) (aCons (eCall (arg 2 m__law_one) (aCons (eVar 0) (aCons (eVar 1) aNil))) (aCons (eCall (arg 2 m__law_one) (aCons (eVar 0) (aCons (eCB oLst (aCons (eC (.str "f")) (aCons (eC (.str "g")) aNil))) aNil))) (aCons (eVar 3) aNil)))))) sNil)
  (sSeq (sIf (tAndM (tVal (eOp opEq (eVar 2) (eC (.int 4)))) (tVal (eOp opEq (eCall (arg 2 m__law_draw) (aCons (eVar 0) (aCons (eC (.int 4)) aNil))) (eC (.int 0))))) (sRet (eCB oTup (aCons (eC (.str "keep")) (aCons (eCall (arg 2 m__law_one) (aCons (eVar 0) (aCons (eVar 1) aNil))) aNil)))) sNil)
  (sRet (eCB oTup (aCons (eC (.str "ask")) (aCons (eCall (arg 2 m__law_one) (aCons (eVar 0) (aCons (eVar 1) aNil))) aNil)))))))))
def m__law_event : List Vl → M Vl := fnM 4 b__law_event
def b__law_story : SM := (sSeq (sPar 4 5 (aCons (eCB oLst aNil) (aCons (eCB oLst aNil) aNil)))
  (sSeq (sForX (aRng (aCons (eVar 2) aNil)) (gNm 3)
  (sSeq (sSet 6 (eCB oLst aNil))
  (sSeq (sForX (aRng (aCons (eCall (arg 2 m__law_draw) (aCons (eVar 0) (aCons (eC (.int 3)) aNil))) aNil)) (gNm 7)
  (sExpr (eBm .list oAppend (eVar 6) (aCons (eCall (arg 2 m__law_event) (aCons (eVar 0) (aCons (eCB oList (aCons (eVar 5) aNil)) aNil))) aNil))))
  (sSeq (sIf (tAndM (tVal (eOp opLt (eCB oLen (aCons (eVar 5) aNil)) (eVar 1))) (tVal (eOp opEq (eCall (arg 2 m__law_draw) (aCons (eVar 0) (aCons (eC (.int 2)) aNil))) (eC (.int 0))))) (sSeq (sExpr (eBm .list oAppend (eVar 6) (aCons (eCB oTup (aCons (eC (.str "make")) (aCons (eCB oLen (aCons (eVar 5) aNil)) aNil))) aNil)))
  (sSeq (sExpr (eBm .list oAppend (eVar 5) (aCons (eCB oLen (aCons (eVar 5) aNil)) aNil)))
  (sIf (tVal (eOp opGt (eCall (arg 2 m__law_draw) (aCons (eVar 0) (aCons (eC (.int 3)) aNil))) (eC (.int 0)))) (sExpr (eBm .list oAppend (eVar 6) (aCons (eCB oTup (aCons (eC (.str "stand")) (aCons (eCall (arg 2 m__law_one) (aCons (eVar 0) (aCons (eCB oLst (aCons (eC (.str "x")) (aCons (eC (.str "y")) aNil))) aNil))) (aCons (eOp opIx (eVar 5) (eOp1 opNeg (eC (.int 1)))) aNil)))) aNil))) sNil))) sNil)
  (sExpr (eBm .list oAppend (eVar 4) (aCons (eCB oTuple (aCons (eVar 6) aNil)) aNil)))))))
  (sRet (eCB oTuple (aCons (eVar 4) aNil)))))
def m__law_story : List Vl → M Vl := fnM 8 b__law_story
def b__law_heap : SM := (sSeq (sPar3 4 5 6 (aCons (eCB oLst aNil) (aCons eDict0 (aCons (eCB oLst aNil) aNil))))
  (sSeq (sForX (aTup (eSl opSl (eVar 0) none (some (eVar 1)))) (gNm 2)
  (sForX (aTup (eVar 2)) (gNm 7)
  (sSeq (sIf (tVal (eOp opEq (eOp opIx (eVar 7) (eC (.int 0))) (eC (.str "make")))) (sExpr (eBm .list oAppend (eVar 4) (aCons eDict0 aNil))) sNil)
  (sSeq (sIf (tVal (eOp opEq (eOp opIx (eVar 7) (eC (.int 0))) (eC (.str "stand")))) (sAsg (gSb opSet (eVar 5) (eOp opIx (eVar 7) (eC (.int 1)))) (eOp opIx (eVar 7) (eC (.int 2)))) sNil)
  (sSeq (sIf (tVal (eOp opEq (eOp opIx (eVar 7) (eC (.int 0))) (eC (.str "keep")))) (sExpr (eBm .list oAppend (eVar 6) (aCons (eOp opIx (eVar 7) (eC (.int 1))) aNil))) sNil)
  (sIf (tVal (eOp opEq (eOp opIx (eVar 7) (eC (.int 0))) (eC (.str "hold")))) (sAsg (gSb opSet (eOp opIx (eVar 4) (eOp opIx (eVar 7) (eC (.int 1)))) (eOp opIx (eVar 7) (eC (.int 2)))) (eOp opIx (eVar 7) (eC (.int 3)))) sNil))))))
  (sSeq (sSet 3 (eLc 100000 (iLst (eVar 4)) (glN 8) tTrue (eLc 100000 (iLst (eListVals (eVar 8))) (glN 9) (tVal (eOp opNotN (eVar 9) (eC .non))) (eVar 9) [9]) [8]))
  (sRet (eCB oTup (aCons (eVar 3) (aCons (eOp opAdd (eVar 6) (eLc 100000 (iLst (eListVals (eVar 5))) (glN 9) (tVal (eOp opNotN (eVar 9) (eC .non))) (eVar 9) [9])) aNil)))))))
def m__law_heap : List Vl → M Vl := fnM 10 b__law_heap
def b__law_closed : SM := (sSeq (sSet 2 (eCB oSortS (aCons (eCB oSet (aCons (eVar 1) aNil)) aNil)))
  (sSeq (sForX (aRng (aCons (eCB oLen (aCons (eVar 0) aNil)) aNil)) (gNm 3)
  (sSeq (sSet 4 (eCB oList (aCons (eVar 2) aNil)))
  (sSeq (sFor 100000 (iLst (eVar 2)) (gNm 5)
  (sExpr (eBm .list oExtend (eVar 4) (aCons (eOp opIx (eVar 0) (eVar 5)) aNil))))
  (sSet 2 (eCB oSortS (aCons (eCB oSet (aCons (eVar 4) aNil)) aNil))))))
  (sRet (eVar 2))))
def m__law_closed : List Vl → M Vl := fnM 6 b__law_closed
def b__law_questions : SM := (sSeq (sSet 1 (eCB oLst aNil))
  (sSeq (sForX (aEnm (aCons (eVar 0) aNil)) (gTp [2, 3])
  (sExpr (eBm .list oExtend (eVar 1) (aCons (eLcX (aTup (eVar 3)) (glN 4) (tVal (eOp opEq (eOp opIx (eVar 4) (eC (.int 0))) (eC (.str "ask")))) (eCB oTup (aCons (eVar 2) (aCons (eOp opIx (eVar 4) (eC (.int 1))) aNil))) [4]) aNil))))
  (sRet (eVar 1))))
def m__law_questions : List Vl → M Vl := fnM 5 b__law_questions
def b__law_is_schedule : SM := (sSeq (sFor 100000 (iEnm (aCons (eVar 0) aNil)) (gTs [(gNm 2), (gTp [5, 6])])
  (sSeq (sSet 3 (eCall (arg 2 m__law_closed) (aCons (eVar 5) (aCons (eVar 6) aNil))))
  (sForX (aRng (aCons (eCB oLen (aCons (eVar 5) aNil)) aNil)) (gNm 4)
  (sSeq (sIf (tAndM (tVal (eOp opLe (eOp opIx (eVar 1) (eVar 4)) (eVar 2))) (tVal (eOp opIn (eVar 4) (eVar 3)))) (sRet (eC (.bl false))) sNil)
  (sIf (tAndM (tVal (eOp opGt (eOp opIx (eVar 1) (eVar 4)) (eVar 2))) (tVal (eCB oAny (aCons (eLc 100000 (iLst (eOp opIx (eVar 5) (eVar 4))) (glN 7) tTrue (eOp opLe (eOp opIx (eVar 1) (eVar 7)) (eVar 2)) [7]) aNil)))) (sRet (eC (.bl false))) sNil)))))
  (sRet (eC (.bl true))))
def m__law_is_schedule : List Vl → M Vl := fnM 8 b__law_is_schedule
def b__law_schedules : SM := (sSeq (sAsg (gTp [2, 3]) (eCB oTup (aCons (eLcX (aRng (aCons (eCB oLen (aCons (eVar 0) aNil)) aNil)) (glN 7) tTrue (eCall (arg 2 m__law_heap) (aCons (eVar 0) (aCons (eVar 7) aNil))) [7]) (aCons (eCB oLst (aCons (eCB oLst aNil) aNil)) aNil))))
  (sSeq (sForX (aRng (aCons (eCB oLen (aCons (eOp opIx (eCall (arg 2 m__law_heap) (aCons (eVar 0) (aCons (eCB oLen (aCons (eVar 0) aNil)) aNil))) (eC (.int 0))) aNil)) aNil)) (gNm 1)
  (sSeq (sSet 4 (eOp opAdd (eLcX (aRng (aCons (eCB oLen (aCons (eVar 0) aNil)) aNil)) (glN 7) (tVal (eOp opLt (eVar 1) (eCB oLen (aCons (eOp opIx (eOp opIx (eVar 2) (eVar 7)) (eC (.int 0))) aNil)))) (eVar 7) [7]) (eCB oLst (aCons (eCB oLen (aCons (eVar 0) aNil)) aNil))))
  (sSeq (sSet 5 (eCB oLst aNil))
  (sSeq (sFor 100000 (iLst (eVar 3)) (gNm 6)
  (sExpr (eBm .list oExtend (eVar 5) (aCons (eLc 100000 (iLst (eVar 4)) (glN 7) tTrue (eOp opAdd (eVar 6) (eCB oLst (aCons (eVar 7) aNil))) [7]) aNil))))
  (sSet 3 (eVar 5))))))
  (sRet (eLc 100000 (iLst (eVar 3)) (glN 6) (tVal (eCall (arg 2 m__law_is_schedule) (aCons (eVar 2) (aCons (eVar 6) aNil)))) (eVar 6) [6]))))
def m__law_schedules : List Vl → M Vl := fnM 8 b__law_schedules
def b__law_agreeing : SM := (sSeq (sSet 3 (eCall (arg 1 m__law_questions) (aCons (eVar 0) aNil)))
  (sSeq (sForX (aEnm (aCons (eVar 2) aNil)) (gTp [4, 5])
  (sSeq (sAsg (gTp [6, 7]) (eOp opIx (eVar 3) (eVar 4)))
  (sSet 1 (eLc 100000 (iLst (eVar 1)) (glN 8) (tVal (eOp opEq (eOp opLe (eOp opIx (eVar 8) (eVar 7)) (eVar 6)) (eOp opEq (eVar 5) (eC (.int 1))))) (eVar 8) [8]))))
  (sRet (eVar 1))))
def m__law_agreeing : List Vl → M Vl := fnM 9 b__law_agreeing
def b__law_fates_right : SM := (sSeq (sSet 3 (eCB oLen (aCons (eVar 1) aNil)))
  (sSeq (sForX (aRng (aCons (eCB oLen (aCons (eOp opIx (eCall (arg 2 m__law_heap) (aCons (eVar 1) (aCons (eVar 3) aNil))) (eC (.int 0))) aNil)) aNil)) (gNm 4)
  (sSeq (sSet 5 (eLc 100000 (iLst (eVar 2)) (glN 9) tTrue (eOp opIx (eVar 9) (eVar 4)) [9]))
  (sSeq (sSet 6 (eCB oTup (aCons (eIfM (tVal (eOp opLt (eCB oMinL (aCons (eVar 5) aNil)) (eVar 3))) (eCB oMinL (aCons (eVar 5) aNil)) (eC .non)) (aCons (eIfM (tVal (eOp opLt (eCB oMaxL (aCons (eVar 5) aNil)) (eVar 3))) (eCB oMaxL (aCons (eVar 5) aNil)) (eC .non)) aNil))))
  (sSeq (sIf (tVal (eOp opNe (eCB oRepr (aCons (eMeth "window" (tabA 1 tab_window) (eVar 0) (aCons (eVar 4) aNil)) aNil)) (eCB oRepr (aCons (eVar 6) aNil)))) (sRet (eC (.bl false))) sNil)
  (sForX (aRng (aCons (eVar 3) aNil)) (gNm 7)
  (sIf (tVal (eOp opLt (eVar 4) (eCB oLen (aCons (eOp opIx (eCall (arg 2 m__law_heap) (aCons (eVar 1) (aCons (eVar 7) aNil))) (eC (.int 0))) aNil)))) (sSeq (sSet 8 (eLc 100000 (iLst (eVar 5)) (glN 10) tTrue (eOp opLe (eVar 10) (eVar 7)) [10]))
  (sSeq (sSet 6 (eIfM (tVal (eCB oAll (aCons (eVar 8) aNil))) (eC (.str "gone")) (eIfM (tVal (eCB oAny (aCons (eVar 8) aNil))) (eC (.str "open")) (eC (.str "there")))))
  (sIf (tVal (eOp opNe (eCB oRepr (aCons (eMeth "fate" (tabA 2 tab_fate) (eVar 0) (aCons (eVar 4) (aCons (eVar 7) aNil))) aNil)) (eCB oRepr (aCons (eVar 6) aNil)))) (sRet (eC (.bl false))) sNil))) sNil))))))
  (sRet (eC (.bl true)))))
def m__law_fates_right : List Vl → M Vl := fnM 11 b__law_fates_right
def b__law_right : SM := (sSeq (sPar3 3 4 5 (aCons (eMake 5 (dflM 3 [(.tup [])] m_FactsU_initU) (aCons (eVar 1) aNil)) (aCons (eCall (arg 1 m__law_schedules) (aCons (eVar 1) aNil)) (aCons (eCB oTup aNil) aNil))))
  (sSeq (sIf (tNotM (tVal (eCall (arg 3 m__law_fates_right) (aCons (eVar 3) (aCons (eVar 1) (aCons (eVar 4) aNil)))))) (sRet (eC (.bl false))) sNil)
  (sSeq (sForX (aRng (aCons (eCB oLen (aCons (eCall (arg 1 m__law_questions) (aCons (eVar 1) aNil)) aNil)) aNil)) (gNm 2)
  (sSeq (sSet 6 (eCall (arg 2 m__law_draw) (aCons (eVar 0) (aCons (eC (.int 2)) aNil))))
  (sSeq (sIf (tVal (eOp opEq (eCall (arg 3 m__law_agreeing) (aCons (eVar 1) (aCons (eVar 4) (aCons (eOp opAdd (eVar 5) (eCB oTup (aCons (eVar 6) aNil))) aNil)))) (eCB oLst aNil))) (sSet 6 (eOp opSub (eC (.int 1)) (eVar 6))) sNil)
  (sSeq (sSet 5 (eOp opAdd (eVar 5) (eCB oTup (aCons (eVar 6) aNil))))
  (sSeq (sIf (tOrM (tVal (eOp opNe (eCB oRepr (aCons (eMeth "tell" (tabA 1 tab_tell) (eVar 3) (aCons (eVar 6) aNil)) aNil)) (eCB oRepr (aCons (eOp opAdd (eVar 2) (eC (.int 1))) aNil)))) (tVal (eOp opNe (eCB oRepr (aCons (eFld cs_told "told" (eVar 3)) aNil)) (eCB oRepr (aCons (eVar 5) aNil))))) (sRet (eC (.bl false))) sNil)
  (sIf (tNotM (tVal (eCall (arg 3 m__law_fates_right) (aCons (eVar 3) (aCons (eVar 1) (aCons (eCall (arg 3 m__law_agreeing) (aCons (eVar 1) (aCons (eVar 4) (aCons (eVar 5) aNil)))) aNil)))))) (sRet (eC (.bl false))) sNil))))))
  (sRet (eCall (arg 3 m__law_fates_right) (aCons (eMake 5 (dflM 3 [] m_FactsU_initU) (aCons (eVar 1) (aCons (eVar 5) aNil))) (aCons (eVar 1) (aCons (eCall (arg 3 m__law_agreeing) (aCons (eVar 1) (aCons (eVar 4) (aCons (eVar 5) aNil)))) aNil))))))))
def m__law_right : List Vl → M Vl := fnM 7 b__law_right
def b_law : SM := (sSeq (sSet 1 (eCall (arg 1 m__law_deck) (aCons (eVar 0) aNil)))
  (sSeq (sForX (aRng (aCons (eC (.int 5)) aNil)) (gNm 2)
  (sIf (tNotM (tVal (eCall (arg 2 m__law_right) (aCons (eVar 1) (aCons (eCall (arg 3 m__law_story) (aCons (eVar 1) (aCons (eOp opAdd (eC (.int 1)) (eCall (arg 2 m__law_draw) (aCons (eVar 1) (aCons (eC (.int 3)) aNil)))) (aCons (eCall (arg 2 m__law_draw) (aCons (eVar 1) (aCons (eC (.int 8)) aNil))) aNil)))) aNil))))) (sRet (eC (.bl false))) sNil))
  (sRet (eC (.bl true)))))
def m_law : List Vl → M Vl := fnM 3 b_law
/-! what the top has left -/
structure TX (K : PySem.W.Frag) (mg : Str → Option Value) where
  f_HeapU_initU : Addr
  d_HeapU_initU : FuncData
  F_HeapU_initU : Fun K "__init__" "Heap.__init__" st_HeapU_initU f_HeapU_initU d_HeapU_initU
  b_HeapU_initU : Binds K d_HeapU_initU ["self"] []
  f_Heap_apply : Addr
  d_Heap_apply : FuncData
  F_Heap_apply : Fun K "apply" "Heap.apply" st_Heap_apply f_Heap_apply d_Heap_apply
  b_Heap_apply : Binds K d_Heap_apply ["self", "item"] []
  f_Heap_held_lists : Addr
  d_Heap_held_lists : FuncData
  F_Heap_held_lists : Fun K "held_lists" "Heap.held_lists" st_Heap_held_lists f_Heap_held_lists d_Heap_held_lists
  b_Heap_held_lists : Binds K d_Heap_held_lists ["self"] []
  f_Heap_reached_flags : Addr
  d_Heap_reached_flags : FuncData
  F_Heap_reached_flags : Fun K "reached_flags" "Heap.reached_flags" st_Heap_reached_flags f_Heap_reached_flags d_Heap_reached_flags
  b_Heap_reached_flags : Binds K d_Heap_reached_flags ["self", "held"] []
  f_holders_of : Addr
  d_holders_of : FuncData
  F_holders_of : Fun K "holders_of" "holders_of" st_holders_of f_holders_of d_holders_of
  b_holders_of : Binds K d_holders_of ["held"] []
  g_holders_of : mg "holders_of" = some (.ref f_holders_of)
  f_moments_of : Addr
  d_moments_of : FuncData
  F_moments_of : Fun K "moments_of" "moments_of" st_moments_of f_moments_of d_moments_of
  b_moments_of : Binds K d_moments_of ["story"] []
  g_moments_of : mg "moments_of" = some (.ref f_moments_of)
  f_questions_of : Addr
  d_questions_of : FuncData
  F_questions_of : Fun K "questions_of" "questions_of" st_questions_of f_questions_of d_questions_of
  b_questions_of : Binds K d_questions_of ["story"] []
  g_questions_of : mg "questions_of" = some (.ref f_questions_of)
  f_BoundsU_initU : Addr
  d_BoundsU_initU : FuncData
  F_BoundsU_initU : Fun K "__init__" "Bounds.__init__" st_BoundsU_initU f_BoundsU_initU d_BoundsU_initU
  b_BoundsU_initU : Binds K d_BoundsU_initU ["self", "moments", "holders"] []
  f_Bounds_copied : Addr
  d_Bounds_copied : FuncData
  F_Bounds_copied : Fun K "copied" "Bounds.copied" st_Bounds_copied f_Bounds_copied d_Bounds_copied
  b_Bounds_copied : Binds K d_Bounds_copied ["self"] []
  f_Bounds_keep_there : Addr
  d_Bounds_keep_there : FuncData
  F_Bounds_keep_there : Fun K "keep_there" "Bounds.keep_there" st_Bounds_keep_there f_Bounds_keep_there d_Bounds_keep_there
  b_Bounds_keep_there : Binds K d_Bounds_keep_there ["self", "cell", "moment", "why"] []
  f_Bounds_keep_gone : Addr
  d_Bounds_keep_gone : FuncData
  F_Bounds_keep_gone : Fun K "keep_gone" "Bounds.keep_gone" st_Bounds_keep_gone f_Bounds_keep_gone d_Bounds_keep_gone
  b_Bounds_keep_gone : Binds K d_Bounds_keep_gone ["self", "cell", "moment", "why"] []
  f_Bounds_take_reached : Addr
  d_Bounds_take_reached : FuncData
  F_Bounds_take_reached : Fun K "take_reached" "Bounds.take_reached" st_Bounds_take_reached f_Bounds_take_reached d_Bounds_take_reached
  b_Bounds_take_reached : Binds K d_Bounds_take_reached ["self"] []
  f_numbered : Addr
  d_numbered : FuncData
  F_numbered : Fun K "numbered" "numbered" st_numbered f_numbered d_numbered
  b_numbered : Binds K d_numbered ["rows", "first"] []
  g_numbered : mg "numbered" = some (.ref f_numbered)
  f_Bounds_chain : Addr
  d_Bounds_chain : FuncData
  F_Bounds_chain : Fun K "chain" "Bounds.chain" st_Bounds_chain f_Bounds_chain d_Bounds_chain
  b_Bounds_chain : Binds K d_Bounds_chain ["self", "cell", "moment", "state", "first"] []
  f_Bounds_clash : Addr
  d_Bounds_clash : FuncData
  F_Bounds_clash : Fun K "clash" "Bounds.clash" st_Bounds_clash f_Bounds_clash d_Bounds_clash
  b_Bounds_clash : Binds K d_Bounds_clash ["self"] []
  f_Facts_tell : Addr
  d_Facts_tell : FuncData
  F_Facts_tell : Fun K "tell" "Facts.tell" st_Facts_tell f_Facts_tell d_Facts_tell
  b_Facts_tell : Binds K d_Facts_tell ["self", "answer"] []
  f_FactsU_initU : Addr
  d_FactsU_initU : FuncData
  e_FactsU_initU_0 : Addr
  F_FactsU_initU : FunD K "__init__" "Facts.__init__" (defArgs st_FactsU_initU) (defBody st_FactsU_initU) (defScope st_FactsU_initU) [V.ref e_FactsU_initU_0] [] f_FactsU_initU d_FactsU_initU
  b_FactsU_initU_0 : BindD K d_FactsU_initU ["self", "story", "answers"] [(.tup [])]
  b_FactsU_initU_1 : BindD K d_FactsU_initU ["self", "story", "answers"] []
  f_Facts_fate : Addr
  d_Facts_fate : FuncData
  F_Facts_fate : Fun K "fate" "Facts.fate" st_Facts_fate f_Facts_fate d_Facts_fate
  b_Facts_fate : Binds K d_Facts_fate ["self", "cell", "moment"] []
  f_Facts_window : Addr
  d_Facts_window : FuncData
  F_Facts_window : Fun K "window" "Facts.window" st_Facts_window f_Facts_window d_Facts_window
  b_Facts_window : Binds K d_Facts_window ["self", "cell"] []
  f__law_deck : Addr
  d__law_deck : FuncData
  F__law_deck : Fun K "_law_deck" "_law_deck" st__law_deck f__law_deck d__law_deck
  b__law_deck : Binds K d__law_deck ["_law_script"] []
  g__law_deck : mg "_law_deck" = some (.ref f__law_deck)
  f__law_draw : Addr
  d__law_draw : FuncData
  F__law_draw : Fun K "_law_draw" "_law_draw" st__law_draw f__law_draw d__law_draw
  b__law_draw : Binds K d__law_draw ["_law_deck_here", "_law_many"] []
  g__law_draw : mg "_law_draw" = some (.ref f__law_draw)
  f__law_one : Addr
  d__law_one : FuncData
  F__law_one : Fun K "_law_one" "_law_one" st__law_one f__law_one d__law_one
  b__law_one : Binds K d__law_one ["_law_deck_here", "_law_items"] []
  g__law_one : mg "_law_one" = some (.ref f__law_one)
  f__law_event : Addr
  d__law_event : FuncData
  F__law_event : Fun K "_law_event" "_law_event" st__law_event f__law_event d__law_event
  b__law_event : Binds K d__law_event ["_law_deck_here", "_law_cells"] []
  g__law_event : mg "_law_event" = some (.ref f__law_event)
  f__law_story : Addr
  d__law_story : FuncData
  F__law_story : Fun K "_law_story" "_law_story" st__law_story f__law_story d__law_story
  b__law_story : Binds K d__law_story ["_law_deck_here", "_law_most", "_law_items"] []
  g__law_story : mg "_law_story" = some (.ref f__law_story)
  f__law_heap : Addr
  d__law_heap : FuncData
  F__law_heap : Fun K "_law_heap" "_law_heap" st__law_heap f__law_heap d__law_heap
  b__law_heap : Binds K d__law_heap ["_law_story_here", "_law_moment"] []
  g__law_heap : mg "_law_heap" = some (.ref f__law_heap)
  f__law_closed : Addr
  d__law_closed : FuncData
  F__law_closed : Fun K "_law_closed" "_law_closed" st__law_closed f__law_closed d__law_closed
  b__law_closed : Binds K d__law_closed ["_law_held", "_law_starts"] []
  g__law_closed : mg "_law_closed" = some (.ref f__law_closed)
  f__law_questions : Addr
  d__law_questions : FuncData
  F__law_questions : Fun K "_law_questions" "_law_questions" st__law_questions f__law_questions d__law_questions
  b__law_questions : Binds K d__law_questions ["_law_story_here"] []
  g__law_questions : mg "_law_questions" = some (.ref f__law_questions)
  f__law_is_schedule : Addr
  d__law_is_schedule : FuncData
  F__law_is_schedule : Fun K "_law_is_schedule" "_law_is_schedule" st__law_is_schedule f__law_is_schedule d__law_is_schedule
  b__law_is_schedule : Binds K d__law_is_schedule ["_law_heaps", "_law_starts"] []
  g__law_is_schedule : mg "_law_is_schedule" = some (.ref f__law_is_schedule)
  f__law_schedules : Addr
  d__law_schedules : FuncData
  F__law_schedules : Fun K "_law_schedules" "_law_schedules" st__law_schedules f__law_schedules d__law_schedules
  b__law_schedules : Binds K d__law_schedules ["_law_story_here"] []
  g__law_schedules : mg "_law_schedules" = some (.ref f__law_schedules)
  f__law_agreeing : Addr
  d__law_agreeing : FuncData
  F__law_agreeing : Fun K "_law_agreeing" "_law_agreeing" st__law_agreeing f__law_agreeing d__law_agreeing
  b__law_agreeing : Binds K d__law_agreeing ["_law_story_here", "_law_rows", "_law_answers"] []
  g__law_agreeing : mg "_law_agreeing" = some (.ref f__law_agreeing)
  f__law_fates_right : Addr
  d__law_fates_right : FuncData
  F__law_fates_right : Fun K "_law_fates_right" "_law_fates_right" st__law_fates_right f__law_fates_right d__law_fates_right
  b__law_fates_right : Binds K d__law_fates_right ["_law_facts", "_law_story_here", "_law_rows"] []
  g__law_fates_right : mg "_law_fates_right" = some (.ref f__law_fates_right)
  f__law_right : Addr
  d__law_right : FuncData
  F__law_right : Fun K "_law_right" "_law_right" st__law_right f__law_right d__law_right
  b__law_right : Binds K d__law_right ["_law_deck_here", "_law_story_here"] []
  g__law_right : mg "_law_right" = some (.ref f__law_right)
  f_law : Addr
  d_law : FuncData
  F_law : Fun K "law" "law" st_law f_law d_law
  b_law : Binds K d_law ["_law_script"] []
  g_law : mg "law" = some (.ref f_law)
  C_Heap : Addr
  cl_Heap : Cls K C_Heap
  gc_Heap : mg "Heap" = some (.ref C_Heap)
  mk_Heap : Mk K C_Heap f_HeapU_initU
  na_Heap_asked_pairs : NoAttr K C_Heap "asked_pairs"
  na_Heap_bounds : NoAttr K C_Heap "bounds"
  na_Heap_first_gone : NoAttr K C_Heap "first_gone"
  na_Heap_holders : NoAttr K C_Heap "holders"
  na_Heap_kept_cells : NoAttr K C_Heap "kept_cells"
  na_Heap_last_there : NoAttr K C_Heap "last_there"
  na_Heap_moments : NoAttr K C_Heap "moments"
  na_Heap_standing : NoAttr K C_Heap "standing"
  na_Heap_story : NoAttr K C_Heap "story"
  na_Heap_strong : NoAttr K C_Heap "strong"
  na_Heap_told : NoAttr K C_Heap "told"
  na_Heap_why_gone : NoAttr K C_Heap "why_gone"
  na_Heap_why_there : NoAttr K C_Heap "why_there"
  mt_Heap_apply : Meth K C_Heap "apply" f_Heap_apply
  mt_Heap_held_lists : Meth K C_Heap "held_lists" f_Heap_held_lists
  mt_Heap_reached_flags : Meth K C_Heap "reached_flags" f_Heap_reached_flags
  C_Bounds : Addr
  cl_Bounds : Cls K C_Bounds
  gc_Bounds : mg "Bounds" = some (.ref C_Bounds)
  mk_Bounds : Mk K C_Bounds f_BoundsU_initU
  na_Bounds_asked_pairs : NoAttr K C_Bounds "asked_pairs"
  na_Bounds_bounds : NoAttr K C_Bounds "bounds"
  na_Bounds_first_gone : NoAttr K C_Bounds "first_gone"
  na_Bounds_holders : NoAttr K C_Bounds "holders"
  na_Bounds_kept_cells : NoAttr K C_Bounds "kept_cells"
  na_Bounds_last_there : NoAttr K C_Bounds "last_there"
  na_Bounds_moments : NoAttr K C_Bounds "moments"
  na_Bounds_standing : NoAttr K C_Bounds "standing"
  na_Bounds_story : NoAttr K C_Bounds "story"
  na_Bounds_strong : NoAttr K C_Bounds "strong"
  na_Bounds_told : NoAttr K C_Bounds "told"
  na_Bounds_why_gone : NoAttr K C_Bounds "why_gone"
  na_Bounds_why_there : NoAttr K C_Bounds "why_there"
  mt_Bounds_chain : Meth K C_Bounds "chain" f_Bounds_chain
  mt_Bounds_clash : Meth K C_Bounds "clash" f_Bounds_clash
  mt_Bounds_copied : Meth K C_Bounds "copied" f_Bounds_copied
  mt_Bounds_keep_gone : Meth K C_Bounds "keep_gone" f_Bounds_keep_gone
  mt_Bounds_keep_there : Meth K C_Bounds "keep_there" f_Bounds_keep_there
  mt_Bounds_take_reached : Meth K C_Bounds "take_reached" f_Bounds_take_reached
  C_Facts : Addr
  cl_Facts : Cls K C_Facts
  gc_Facts : mg "Facts" = some (.ref C_Facts)
  mk_Facts : Mk K C_Facts f_FactsU_initU
  na_Facts_asked_pairs : NoAttr K C_Facts "asked_pairs"
  na_Facts_bounds : NoAttr K C_Facts "bounds"
  na_Facts_first_gone : NoAttr K C_Facts "first_gone"
  na_Facts_holders : NoAttr K C_Facts "holders"
  na_Facts_kept_cells : NoAttr K C_Facts "kept_cells"
  na_Facts_last_there : NoAttr K C_Facts "last_there"
  na_Facts_moments : NoAttr K C_Facts "moments"
  na_Facts_standing : NoAttr K C_Facts "standing"
  na_Facts_story : NoAttr K C_Facts "story"
  na_Facts_strong : NoAttr K C_Facts "strong"
  na_Facts_told : NoAttr K C_Facts "told"
  na_Facts_why_gone : NoAttr K C_Facts "why_gone"
  na_Facts_why_there : NoAttr K C_Facts "why_there"
  mt_Facts_fate : Meth K C_Facts "fate" f_Facts_fate
  mt_Facts_tell : Meth K C_Facts "tell" f_Facts_tell
  mt_Facts_window : Meth K C_Facts "window" f_Facts_window
  n_abs : mg "abs" = none
  n_all : mg "all" = none
  n_any : mg "any" = none
  n_enumerate : mg "enumerate" = none
  n_int : mg "int" = none
  n_len : mg "len" = none
  n_list : mg "list" = none
  n_max : mg "max" = none
  n_min : mg "min" = none
  n_range : mg "range" = none
  n_repr : mg "repr" = none
  n_set : mg "set" = none
  n_sorted : mg "sorted" = none
  n_tuple : mg "tuple" = none
def TX.T {K : PySem.W.Frag} {mg : Str → Option Value} (X : TX K mg) (w : World) : Tb := ⟨K, w, [0, 0, 0, X.C_Heap, X.C_Bounds, X.C_Facts], []⟩
theorem TX.fo_asked_pairs {K : PySem.W.Frag} {mg : Str → Option Value} (X : TX K mg) (w : World) : FldOk (X.T w) cs_asked_pairs "asked_pairs" := by
  intro c hc C h
  simp only [cs_asked_pairs, List.mem_cons, List.not_mem_nil, or_false] at hc
  rcases hc with rfl | rfl | rfl
  · cases h
    exact ⟨X.cl_Heap, X.na_Heap_asked_pairs⟩
  · cases h
    exact ⟨X.cl_Bounds, X.na_Bounds_asked_pairs⟩
  · cases h
    exact ⟨X.cl_Facts, X.na_Facts_asked_pairs⟩
theorem TX.fo_bounds {K : PySem.W.Frag} {mg : Str → Option Value} (X : TX K mg) (w : World) : FldOk (X.T w) cs_bounds "bounds" := by
  intro c hc C h
  simp only [cs_bounds, List.mem_cons, List.not_mem_nil, or_false] at hc
  rcases hc with rfl | rfl | rfl
  · cases h
    exact ⟨X.cl_Heap, X.na_Heap_bounds⟩
  · cases h
    exact ⟨X.cl_Bounds, X.na_Bounds_bounds⟩
  · cases h
    exact ⟨X.cl_Facts, X.na_Facts_bounds⟩
theorem TX.fo_first_gone {K : PySem.W.Frag} {mg : Str → Option Value} (X : TX K mg) (w : World) : FldOk (X.T w) cs_first_gone "first_gone" := by
  intro c hc C h
  simp only [cs_first_gone, List.mem_cons, List.not_mem_nil, or_false] at hc
  rcases hc with rfl | rfl | rfl
  · cases h
    exact ⟨X.cl_Heap, X.na_Heap_first_gone⟩
  · cases h
    exact ⟨X.cl_Bounds, X.na_Bounds_first_gone⟩
  · cases h
    exact ⟨X.cl_Facts, X.na_Facts_first_gone⟩
theorem TX.fo_holders {K : PySem.W.Frag} {mg : Str → Option Value} (X : TX K mg) (w : World) : FldOk (X.T w) cs_holders "holders" := by
  intro c hc C h
  simp only [cs_holders, List.mem_cons, List.not_mem_nil, or_false] at hc
  rcases hc with rfl | rfl | rfl
  · cases h
    exact ⟨X.cl_Heap, X.na_Heap_holders⟩
  · cases h
    exact ⟨X.cl_Bounds, X.na_Bounds_holders⟩
  · cases h
    exact ⟨X.cl_Facts, X.na_Facts_holders⟩
theorem TX.fo_kept_cells {K : PySem.W.Frag} {mg : Str → Option Value} (X : TX K mg) (w : World) : FldOk (X.T w) cs_kept_cells "kept_cells" := by
  intro c hc C h
  simp only [cs_kept_cells, List.mem_cons, List.not_mem_nil, or_false] at hc
  rcases hc with rfl | rfl | rfl
  · cases h
    exact ⟨X.cl_Heap, X.na_Heap_kept_cells⟩
  · cases h
    exact ⟨X.cl_Bounds, X.na_Bounds_kept_cells⟩
  · cases h
    exact ⟨X.cl_Facts, X.na_Facts_kept_cells⟩
theorem TX.fo_last_there {K : PySem.W.Frag} {mg : Str → Option Value} (X : TX K mg) (w : World) : FldOk (X.T w) cs_last_there "last_there" := by
  intro c hc C h
  simp only [cs_last_there, List.mem_cons, List.not_mem_nil, or_false] at hc
  rcases hc with rfl | rfl | rfl
  · cases h
    exact ⟨X.cl_Heap, X.na_Heap_last_there⟩
  · cases h
    exact ⟨X.cl_Bounds, X.na_Bounds_last_there⟩
  · cases h
    exact ⟨X.cl_Facts, X.na_Facts_last_there⟩
theorem TX.fo_moments {K : PySem.W.Frag} {mg : Str → Option Value} (X : TX K mg) (w : World) : FldOk (X.T w) cs_moments "moments" := by
  intro c hc C h
  simp only [cs_moments, List.mem_cons, List.not_mem_nil, or_false] at hc
  rcases hc with rfl | rfl | rfl
  · cases h
    exact ⟨X.cl_Heap, X.na_Heap_moments⟩
  · cases h
    exact ⟨X.cl_Bounds, X.na_Bounds_moments⟩
  · cases h
    exact ⟨X.cl_Facts, X.na_Facts_moments⟩
theorem TX.fo_standing {K : PySem.W.Frag} {mg : Str → Option Value} (X : TX K mg) (w : World) : FldOk (X.T w) cs_standing "standing" := by
  intro c hc C h
  simp only [cs_standing, List.mem_cons, List.not_mem_nil, or_false] at hc
  rcases hc with rfl | rfl | rfl
  · cases h
    exact ⟨X.cl_Heap, X.na_Heap_standing⟩
  · cases h
    exact ⟨X.cl_Bounds, X.na_Bounds_standing⟩
  · cases h
    exact ⟨X.cl_Facts, X.na_Facts_standing⟩
theorem TX.fo_story {K : PySem.W.Frag} {mg : Str → Option Value} (X : TX K mg) (w : World) : FldOk (X.T w) cs_story "story" := by
  intro c hc C h
  simp only [cs_story, List.mem_cons, List.not_mem_nil, or_false] at hc
  rcases hc with rfl | rfl | rfl
  · cases h
    exact ⟨X.cl_Heap, X.na_Heap_story⟩
  · cases h
    exact ⟨X.cl_Bounds, X.na_Bounds_story⟩
  · cases h
    exact ⟨X.cl_Facts, X.na_Facts_story⟩
theorem TX.fo_strong {K : PySem.W.Frag} {mg : Str → Option Value} (X : TX K mg) (w : World) : FldOk (X.T w) cs_strong "strong" := by
  intro c hc C h
  simp only [cs_strong, List.mem_cons, List.not_mem_nil, or_false] at hc
  rcases hc with rfl | rfl | rfl
  · cases h
    exact ⟨X.cl_Heap, X.na_Heap_strong⟩
  · cases h
    exact ⟨X.cl_Bounds, X.na_Bounds_strong⟩
  · cases h
    exact ⟨X.cl_Facts, X.na_Facts_strong⟩
theorem TX.fo_told {K : PySem.W.Frag} {mg : Str → Option Value} (X : TX K mg) (w : World) : FldOk (X.T w) cs_told "told" := by
  intro c hc C h
  simp only [cs_told, List.mem_cons, List.not_mem_nil, or_false] at hc
  rcases hc with rfl | rfl | rfl
  · cases h
    exact ⟨X.cl_Heap, X.na_Heap_told⟩
  · cases h
    exact ⟨X.cl_Bounds, X.na_Bounds_told⟩
  · cases h
    exact ⟨X.cl_Facts, X.na_Facts_told⟩
theorem TX.fo_why_gone {K : PySem.W.Frag} {mg : Str → Option Value} (X : TX K mg) (w : World) : FldOk (X.T w) cs_why_gone "why_gone" := by
  intro c hc C h
  simp only [cs_why_gone, List.mem_cons, List.not_mem_nil, or_false] at hc
  rcases hc with rfl | rfl | rfl
  · cases h
    exact ⟨X.cl_Heap, X.na_Heap_why_gone⟩
  · cases h
    exact ⟨X.cl_Bounds, X.na_Bounds_why_gone⟩
  · cases h
    exact ⟨X.cl_Facts, X.na_Facts_why_gone⟩
theorem TX.fo_why_there {K : PySem.W.Frag} {mg : Str → Option Value} (X : TX K mg) (w : World) : FldOk (X.T w) cs_why_there "why_there" := by
  intro c hc C h
  simp only [cs_why_there, List.mem_cons, List.not_mem_nil, or_false] at hc
  rcases hc with rfl | rfl | rfl
  · cases h
    exact ⟨X.cl_Heap, X.na_Heap_why_there⟩
  · cases h
    exact ⟨X.cl_Bounds, X.na_Bounds_why_there⟩
  · cases h
    exact ⟨X.cl_Facts, X.na_Facts_why_there⟩
/-! each def computes its pure function -/
theorem sc_HeapU_initU : FnScope ["self"] ["self"] (defScope st_HeapU_initU) := ⟨rfl, rfl, rfl, by decide +kernel, rfl, by decide +kernel, by decide +kernel⟩
theorem sim_HeapU_initU {P : Program} {w : World} {K : PySem.W.Frag} {mg : Str → Option Value} {base : Heap} (X : TX K mg) : FnG P w K mg base 1 X.f_HeapU_initU X.d_HeapU_initU ["self"] (SpM (X.T w) 1 m_HeapU_initU) := by
  refine fn_sim (k := 0) (N := ["self"]) (T := X.T w) (b := b_HeapU_initU) X.F_HeapU_initU sc_HeapU_initU rfl fun cdv A outer s H E hr hg => ?_
  have tk := takes_of (X := cxOf (L2.CX P w) P w K mg base ["self"] "Heap.__init__" (defScope st_HeapU_initU) X.f_HeapU_initU cdv A outer s H E) (E := E) rfl rfl rfl rfl
  unfold b_HeapU_initU
  exact (cs_cons (cs_fld (X.fo_standing w) (ce_var 0) ce_dict0)
  (cs_cons (cs_fld (X.fo_kept_cells w) (ce_var 0) ce_dict0)
  (cs_one (cs_fld (X.fo_strong w) (ce_var 0) (ce_lst ca_nil)))))
theorem sc_Heap_apply : FnScope ["self", "item", "event"] ["self", "item"] (defScope st_Heap_apply) := ⟨rfl, rfl, rfl, by decide +kernel, rfl, by decide +kernel, by decide +kernel⟩
theorem sim_Heap_apply {P : Program} {w : World} {K : PySem.W.Frag} {mg : Str → Option Value} {base : Heap} (X : TX K mg) : FnG P w K mg base 1 X.f_Heap_apply X.d_Heap_apply ["self", "item"] (SpM (X.T w) 2 m_Heap_apply) := by
  refine fn_sim (k := 0) (N := ["self", "item", "event"]) (T := X.T w) (b := b_Heap_apply) X.F_Heap_apply sc_Heap_apply rfl fun cdv A outer s H E hr hg => ?_
  have tk := takes_of (X := cxOf (L2.CX P w) P w K mg base ["self", "item", "event"] "Heap.apply" (defScope st_Heap_apply) X.f_Heap_apply cdv A outer s H E) (E := E) rfl rfl rfl rfl
  unfold b_Heap_apply
  exact (cs_one (cs_forX (passes_of rfl) rfl (ci_tup (ce_var 1)) (cg_name (n := 2) sc_Heap_apply.nd rfl (by first | exact Or.inl rfl | exact Or.inr rfl))
  (cs_one (cs_if (ct_cmp (o_eq hr.units) (ce_ix (o_ix (hu_of hr)) (ce_var 2) ce_int) ce_str) (cs_one (cs_expr (ce_bm (t := .list) PySem.F.plainAttrs_list PySem.F.slot_list_append PySem.F.type_list_append m_append (ce_fld (X.fo_strong w) (ce_var 0)) (ca_cons ce_dict0 ca_nil)))) (cs_one (cs_if (ct_cmp (o_eq hr.units) (ce_ix (o_ix (hu_of hr)) (ce_var 2) ce_int) ce_str) (cs_one (cs_asg (ce_ix (o_ix (hu_of hr)) (ce_var 2) ce_int) (cg_sub (ce_fld (X.fo_standing w) (ce_var 0)) (ce_ix (o_ix (hu_of hr)) (ce_var 2) ce_int) (p_set (hu_of hr)) (pg_sub (ce_fld (X.fo_standing w) (ce_var 0)) (ce_ix (o_ix (hu_of hr)) (ce_var 2) ce_int) (p_set (hu_of hr)))))) (cs_one (cs_if (ct_cmp (o_eq hr.units) (ce_ix (o_ix (hu_of hr)) (ce_var 2) ce_int) ce_str) (cs_one (cs_asg (ce_ix (o_ix (hu_of hr)) (ce_var 2) ce_int) (cg_sub (ce_ix (o_ix (hu_of hr)) (ce_fld (X.fo_strong w) (ce_var 0)) (ce_ix (o_ix (hu_of hr)) (ce_var 2) ce_int)) (ce_ix (o_ix (hu_of hr)) (ce_var 2) ce_int) (p_set (hu_of hr)) (pg_sub (ce_ix (o_ix (hu_of hr)) (ce_fld (X.fo_strong w) (ce_var 0)) (ce_ix (o_ix (hu_of hr)) (ce_var 2) ce_int)) (ce_ix (o_ix (hu_of hr)) (ce_var 2) ce_int) (p_set (hu_of hr)))))) (cs_one (cs_if (ct_cmp (o_eq hr.units) (ce_ix (o_ix (hu_of hr)) (ce_var 2) ce_int) ce_str) (cs_one (cs_asg ce_bl (cg_sub (ce_fld (X.fo_kept_cells w) (ce_var 0)) (ce_ix (o_ix (hu_of hr)) (ce_var 2) ce_int) (p_set (hu_of hr)) (pg_sub (ce_fld (X.fo_kept_cells w) (ce_var 0)) (ce_ix (o_ix (hu_of hr)) (ce_var 2) ce_int) (p_set (hu_of hr)))))) cs_nil))))))))))
theorem mo_apply {P : Program} {w : World} {K : PySem.W.Frag} {mg : Str → Option Value} {base : Heap} (X : TX K mg) : ∀ c mf, tab_apply c = some mf → ∀ C, (X.T w).cl[c]? = some C → ∃ (f : Addr) (fd : FuncData) (ps : List Str), Cls (X.T w).K C ∧ Meth (X.T w).K C "apply" f ∧ FnG P w K mg base 1 f fd ps (SpM (X.T w) (1 + 1) mf) ∧ Binds K fd ps [] := by
  intro c mf h C hC
  unfold tab_apply at h
  split at h
  · cases h
    cases hC
    exact ⟨_, _, _, X.cl_Heap, X.mt_Heap_apply, (sim_Heap_apply X).mono (by decide), X.b_Heap_apply⟩
  · cases h
theorem sc_Heap_held_lists : FnScope ["self", "row", "cell"] ["self"] (defScope st_Heap_held_lists) := ⟨rfl, rfl, rfl, by decide +kernel, rfl, by decide +kernel, by decide +kernel⟩
theorem sim_Heap_held_lists {P : Program} {w : World} {K : PySem.W.Frag} {mg : Str → Option Value} {base : Heap} (X : TX K mg) : FnG P w K mg base 1 X.f_Heap_held_lists X.d_Heap_held_lists ["self"] (SpM (X.T w) 1 m_Heap_held_lists) := by
  refine fn_sim (k := 0) (N := ["self", "row", "cell"]) (T := X.T w) (b := b_Heap_held_lists) X.F_Heap_held_lists sc_Heap_held_lists rfl fun cdv A outer s H E hr hg => ?_
  have tk := takes_of (X := cxOf (L2.CX P w) P w K mg base ["self", "row", "cell"] "Heap.held_lists" (defScope st_Heap_held_lists) X.f_Heap_held_lists cdv A outer s H E) (E := E) rfl rfl rfl rfl
  unfold b_Heap_held_lists
  exact (cs_one (cs_ret (ce_lc (own := [("row", 1)]) 100000 rfl sc_Heap_held_lists.nd (ci_lst (ce_fld (X.fo_strong w) (ce_var 0))) (blkOk_by (by kernel_rfl)) (tg_name (List.mem_cons_self ..)) (fun _ _ _ _ _ => pg_name (i := 1) sc_Heap_held_lists.nd rfl (Or.inl rfl)) (fun _ _ _ _ _ => cts_nil) (fun _ _ _ _ _ => (ce_lock (ce_lc (own := [("cell", 2)]) 100000 rfl sc_Heap_held_lists.nd (ci_vals (ce_var 1)) (blkOk_by (by kernel_rfl)) (tg_name (List.mem_cons_self ..)) (fun _ _ _ _ _ => pg_name (i := 2) sc_Heap_held_lists.nd rfl (Or.inl rfl)) (fun _ _ _ _ _ => (cts_one (ct_cmp o_notN (ce_var 2) ce_non))) (fun _ _ _ _ _ => (ce_var 2))))))))
theorem mo_held_lists {P : Program} {w : World} {K : PySem.W.Frag} {mg : Str → Option Value} {base : Heap} (X : TX K mg) : ∀ c mf, tab_held_lists c = some mf → ∀ C, (X.T w).cl[c]? = some C → ∃ (f : Addr) (fd : FuncData) (ps : List Str), Cls (X.T w).K C ∧ Meth (X.T w).K C "held_lists" f ∧ FnG P w K mg base 1 f fd ps (SpM (X.T w) (0 + 1) mf) ∧ Binds K fd ps [] := by
  intro c mf h C hC
  unfold tab_held_lists at h
  split at h
  · cases h
    cases hC
    exact ⟨_, _, _, X.cl_Heap, X.mt_Heap_held_lists, (sim_Heap_held_lists X).mono (by decide), X.b_Heap_held_lists⟩
  · cases h
theorem sc_Heap_reached_flags : FnScope ["self", "held", "found", "waiting", "cell"] ["self", "held"] (defScope st_Heap_reached_flags) := ⟨rfl, rfl, rfl, by decide +kernel, rfl, by decide +kernel, by decide +kernel⟩
theorem sim_Heap_reached_flags {P : Program} {w : World} {K : PySem.W.Frag} {mg : Str → Option Value} {base : Heap} (X : TX K mg) : FnG P w K mg base 1 X.f_Heap_reached_flags X.d_Heap_reached_flags ["self", "held"] (SpM (X.T w) 2 m_Heap_reached_flags) := by
  refine fn_sim (k := 0) (N := ["self", "held", "found", "waiting", "cell"]) (T := X.T w) (b := b_Heap_reached_flags) X.F_Heap_reached_flags sc_Heap_reached_flags rfl fun cdv A outer s H E hr hg => ?_
  have tk := takes_of (X := cxOf (L2.CX P w) P w K mg base ["self", "held", "found", "waiting", "cell"] "Heap.reached_flags" (defScope st_Heap_reached_flags) X.f_Heap_reached_flags cdv A outer s H E) (E := E) rfl rfl rfl rfl
  unfold b_Heap_reached_flags
  exact (cs_cons (cs_set (i := 2) sc_Heap_reached_flags.nd rfl (by first | exact Or.inl rfl | exact Or.inr rfl) (ce_op o_mul (ce_lst (ca_cons ce_bl ca_nil)) (ce_callB (c_len) rfl X.n_len (by decide +kernel) (ca_cons (ce_var 1) ca_nil))))
  (cs_cons (cs_set (i := 3) sc_Heap_reached_flags.nd rfl (by first | exact Or.inl rfl | exact Or.inr rfl) (ce_op o_add (ce_lock (ce_lc (own := [("cell", 4)]) 100000 rfl sc_Heap_reached_flags.nd (ci_vals (ce_fld (X.fo_standing w) (ce_var 0))) (blkOk_by (by kernel_rfl)) (tg_name (List.mem_cons_self ..)) (fun _ _ _ _ _ => pg_name (i := 4) sc_Heap_reached_flags.nd rfl (Or.inl rfl)) (fun _ _ _ _ _ => (cts_one (ct_cmp o_notN (ce_var 4) ce_non))) (fun _ _ _ _ _ => (ce_var 4)))) (ce_callTy (c_list) rfl X.n_list (by decide +kernel) (ca_cons (ce_fld (X.fo_kept_cells w) (ce_var 0)) ca_nil))))
  (cs_cons (cs_while 100000 (passes_of rfl) (ct_cmp (o_ne hr.units) (ce_var 3) (ce_lst ca_nil)) (cs_cons (cs_set (i := 4) sc_Heap_reached_flags.nd rfl (by first | exact Or.inl rfl | exact Or.inr rfl) (ce_bm0 (t := .list) PySem.F.plainAttrs_list PySem.F.slot_list_pop PySem.F.type_list_pop m_pop (ce_var 3)))
  (cs_one (cs_if (ct_not (ct_val (ce_ix (o_ix (hu_of hr)) (ce_var 2) (ce_var 4)))) (cs_cons (cs_asg ce_bl (cg_sub (ce_var 2) (ce_var 4) (p_set (hu_of hr)) (pg_sub (ce_var 2) (ce_var 4) (p_set (hu_of hr)))))
  (cs_one (cs_expr (ce_bm (t := .list) PySem.F.plainAttrs_list PySem.F.slot_list_extend PySem.F.type_list_extend m_extend (ce_var 3) (ca_cons (ce_ix (o_ix (hu_of hr)) (ce_var 1) (ce_var 4)) ca_nil))))) cs_nil))))
  (cs_one (cs_ret (ce_var 2))))))
theorem mo_reached_flags {P : Program} {w : World} {K : PySem.W.Frag} {mg : Str → Option Value} {base : Heap} (X : TX K mg) : ∀ c mf, tab_reached_flags c = some mf → ∀ C, (X.T w).cl[c]? = some C → ∃ (f : Addr) (fd : FuncData) (ps : List Str), Cls (X.T w).K C ∧ Meth (X.T w).K C "reached_flags" f ∧ FnG P w K mg base 1 f fd ps (SpM (X.T w) (1 + 1) mf) ∧ Binds K fd ps [] := by
  intro c mf h C hC
  unfold tab_reached_flags at h
  split at h
  · cases h
    cases hC
    exact ⟨_, _, _, X.cl_Heap, X.mt_Heap_reached_flags, (sim_Heap_reached_flags X).mono (by decide), X.b_Heap_reached_flags⟩
  · cases h
theorem sc_holders_of : FnScope ["held", "found", "holder", "row", "cell"] ["held"] (defScope st_holders_of) := ⟨rfl, rfl, rfl, by decide +kernel, rfl, by decide +kernel, by decide +kernel⟩
theorem sim_holders_of {P : Program} {w : World} {K : PySem.W.Frag} {mg : Str → Option Value} {base : Heap} (X : TX K mg) : FnG P w K mg base 1 X.f_holders_of X.d_holders_of ["held"] (SpM (X.T w) 1 m_holders_of) := by
  refine fn_sim (k := 0) (N := ["held", "found", "holder", "row", "cell"]) (T := X.T w) (b := b_holders_of) X.F_holders_of sc_holders_of rfl fun cdv A outer s H E hr hg => ?_
  have tk := takes_of (X := cxOf (L2.CX P w) P w K mg base ["held", "found", "holder", "row", "cell"] "holders_of" (defScope st_holders_of) X.f_holders_of cdv A outer s H E) (E := E) rfl rfl rfl rfl
  unfold b_holders_of
  exact (cs_cons (cs_setLc (i := 1) (own := [("row", 3)]) 100000 rfl sc_holders_of.nd rfl rfl (sw_true rfl rfl rfl (by kernel_rfl)) (ci_lst (ce_var 0)) (blkOk_by (by kernel_rfl)) (tg_name (List.mem_cons_self ..)) (fun _ _ _ _ _ => pg_name (i := 3) sc_holders_of.nd rfl (Or.inl rfl)) (fun _ _ _ _ _ => cts_nil) (fun _ _ _ _ _ => (ce_lst ca_nil)))
  (cs_cons (cs_for 100000 (passes_of rfl) rfl (ci_enm rfl X.n_enumerate (ca_cons (ce_var 0) ca_nil)) (cg_tup (js := [2, 3]) (pg_tup rfl (pgs_cons (pg_name (i := 2) sc_holders_of.nd rfl (by first | exact Or.inl rfl | exact Or.inr rfl)) (pgs_cons (pg_name (i := 3) sc_holders_of.nd rfl (by first | exact Or.inl rfl | exact Or.inr rfl)) pgs_nil))))
  (cs_one (cs_for 100000 (passes_of rfl) rfl (ci_lst (ce_var 3)) (cg_name (n := 4) sc_holders_of.nd rfl (by first | exact Or.inl rfl | exact Or.inr rfl))
  (cs_one (cs_expr (ce_bm (t := .list) PySem.F.plainAttrs_list PySem.F.slot_list_append PySem.F.type_list_append m_append (ce_ix (o_ix (hu_of hr)) (ce_var 1) (ce_var 4)) (ca_cons (ce_var 2) ca_nil)))))))
  (cs_one (cs_ret (ce_var 1)))))
theorem sc_moments_of : FnScope ["story", "heap", "found", "item", "held"] ["story"] (defScope st_moments_of) := ⟨rfl, rfl, rfl, by decide +kernel, rfl, by decide +kernel, by decide +kernel⟩
theorem sim_moments_of {P : Program} {w : World} {K : PySem.W.Frag} {mg : Str → Option Value} {base : Heap} (X : TX K mg) : FnG P w K mg base 3 X.f_moments_of X.d_moments_of ["story"] (SpM (X.T w) 1 m_moments_of) := by
  refine fn_sim (k := 2) (N := ["story", "heap", "found", "item", "held"]) (T := X.T w) (b := b_moments_of) X.F_moments_of sc_moments_of rfl fun cdv A outer s H E hr hg => ?_
  have tk := takes_of (X := cxOf (L2.CX P w) P w K mg base ["story", "heap", "found", "item", "held"] "moments_of" (defScope st_moments_of) X.f_moments_of cdv A outer s H E) (E := E) rfl rfl rfl rfl
  unfold b_moments_of
  exact (cs_cons (cs_set (i := 1) sc_moments_of.nd rfl (by first | exact Or.inl rfl | exact Or.inr rfl) (ce_make0 X.mk_Heap (sim_HeapU_initU X) (hr.mono (by decide)) hg rfl X.gc_Heap X.b_HeapU_initU tk rfl))
  (cs_cons (cs_set (i := 2) sc_moments_of.nd rfl (by first | exact Or.inl rfl | exact Or.inr rfl) (ce_lst ca_nil))
  (cs_cons (cs_forX (passes_of rfl) rfl (ci_tup (ce_var 0)) (cg_name (n := 3) sc_moments_of.nd rfl (by first | exact Or.inl rfl | exact Or.inr rfl))
  (cs_cons (cs_set (i := 4) sc_moments_of.nd rfl (by first | exact Or.inl rfl | exact Or.inr rfl) (ce_meth0 (mo_held_lists X) (hr.mono (by decide)) hg tk (ce_var 1)))
  (cs_cons (cs_expr (ce_bm (t := .list) PySem.F.plainAttrs_list PySem.F.slot_list_append PySem.F.type_list_append m_append (ce_var 2) (ca_cons (ce_tup (ca_cons (ce_var 4) (ca_cons (ce_meth (mo_reached_flags X) (hr.mono (by decide)) hg tk (ce_var 1) (ca_cons (ce_var 4) ca_nil)) ca_nil))) ca_nil)))
  (cs_one (cs_expr (ce_meth (mo_apply X) (hr.mono (by decide)) hg tk (ce_var 1) (ca_cons (ce_var 3) ca_nil)))))))
  (cs_one (cs_ret (ce_var 2))))))
theorem sc_questions_of : FnScope ["story", "found", "moment", "item", "event"] ["story"] (defScope st_questions_of) := ⟨rfl, rfl, rfl, by decide +kernel, rfl, by decide +kernel, by decide +kernel⟩
theorem sim_questions_of {P : Program} {w : World} {K : PySem.W.Frag} {mg : Str → Option Value} {base : Heap} (X : TX K mg) : FnG P w K mg base 1 X.f_questions_of X.d_questions_of ["story"] (SpM (X.T w) 1 m_questions_of) := by
  refine fn_sim (k := 0) (N := ["story", "found", "moment", "item", "event"]) (T := X.T w) (b := b_questions_of) X.F_questions_of sc_questions_of rfl fun cdv A outer s H E hr hg => ?_
  have tk := takes_of (X := cxOf (L2.CX P w) P w K mg base ["story", "found", "moment", "item", "event"] "questions_of" (defScope st_questions_of) X.f_questions_of cdv A outer s H E) (E := E) rfl rfl rfl rfl
  unfold b_questions_of
  exact (cs_cons (cs_set (i := 1) sc_questions_of.nd rfl (by first | exact Or.inl rfl | exact Or.inr rfl) (ce_lst ca_nil))
  (cs_cons (cs_forX (passes_of rfl) rfl (ci_enmT rfl X.n_enumerate (ca_cons (ce_var 0) ca_nil)) (cg_tup (js := [2, 3]) (pg_tup rfl (pgs_cons (pg_name (i := 2) sc_questions_of.nd rfl (by first | exact Or.inl rfl | exact Or.inr rfl)) (pgs_cons (pg_name (i := 3) sc_questions_of.nd rfl (by first | exact Or.inl rfl | exact Or.inr rfl)) pgs_nil))))
  (cs_one (cs_expr (ce_bm (t := .list) PySem.F.plainAttrs_list PySem.F.slot_list_extend PySem.F.type_list_extend m_extend (ce_var 1) (ca_cons (ce_lcX (own := [("event", 4)]) rfl sc_questions_of.nd (ci_tup (ce_var 3)) (blkOk_by (by kernel_rfl)) (tg_name (List.mem_cons_self ..)) (fun _ _ _ _ _ => pg_name (i := 4) sc_questions_of.nd rfl (Or.inl rfl)) (fun _ _ _ _ _ => (cts_one (ct_cmp (o_eq hr.units) (ce_ix (o_ix (hu_of hr)) (ce_var 4) ce_int) ce_str))) (fun _ _ _ _ _ => (ce_tup (ca_cons (ce_var 2) (ca_cons (ce_ix (o_ix (hu_of hr)) (ce_var 4) ce_int) ca_nil))))) ca_nil)))))
  (cs_one (cs_ret (ce_var 1)))))
theorem sc_BoundsU_initU : FnScope ["self", "moments", "holders", "many"] ["self", "moments", "holders"] (defScope st_BoundsU_initU) := ⟨rfl, rfl, rfl, by decide +kernel, rfl, by decide +kernel, by decide +kernel⟩
theorem sim_BoundsU_initU {P : Program} {w : World} {K : PySem.W.Frag} {mg : Str → Option Value} {base : Heap} (X : TX K mg) : FnG P w K mg base 1 X.f_BoundsU_initU X.d_BoundsU_initU ["self", "moments", "holders"] (SpM (X.T w) 3 m_BoundsU_initU) := by
  refine fn_sim (k := 0) (N := ["self", "moments", "holders", "many"]) (T := X.T w) (b := b_BoundsU_initU) X.F_BoundsU_initU sc_BoundsU_initU rfl fun cdv A outer s H E hr hg => ?_
  have tk := takes_of (X := cxOf (L2.CX P w) P w K mg base ["self", "moments", "holders", "many"] "Bounds.__init__" (defScope st_BoundsU_initU) X.f_BoundsU_initU cdv A outer s H E) (E := E) rfl rfl rfl rfl
  unfold b_BoundsU_initU
  exact (cs_cons (cs_fld (X.fo_moments w) (ce_var 0) (ce_var 1))
  (cs_cons (cs_fld (X.fo_holders w) (ce_var 0) (ce_var 2))
  (cs_cons (cs_set (i := 3) sc_BoundsU_initU.nd rfl (by first | exact Or.inl rfl | exact Or.inr rfl) (ce_if (ct_cmp (o_ne hr.units) (ce_var 1) (ce_lst ca_nil)) (ce_callB (c_len) rfl X.n_len (by decide +kernel) (ca_cons (ce_ix (o_ix (hu_of hr)) (ce_ix (o_ix (hu_of hr)) (ce_var 1) (ce_un o_neg ce_int)) ce_int) ca_nil)) ce_int))
  (cs_cons (cs_fld (X.fo_last_there w) (ce_var 0) (ce_op o_mul (ce_lst (ca_cons (ce_un o_neg ce_int) ca_nil)) (ce_var 3)))
  (cs_cons (cs_fld (X.fo_first_gone w) (ce_var 0) (ce_op o_mul (ce_lst (ca_cons (ce_callB (c_len) rfl X.n_len (by decide +kernel) (ca_cons (ce_var 1) ca_nil)) ca_nil)) (ce_var 3)))
  (cs_cons (cs_fld (X.fo_why_there w) (ce_var 0) (ce_op o_mul (ce_lst (ca_cons ce_non ca_nil)) (ce_var 3)))
  (cs_one (cs_fld (X.fo_why_gone w) (ce_var 0) (ce_op o_mul (ce_lst (ca_cons ce_non ca_nil)) (ce_var 3))))))))))
theorem sc_Bounds_copied : FnScope ["self", "found"] ["self"] (defScope st_Bounds_copied) := ⟨rfl, rfl, rfl, by decide +kernel, rfl, by decide +kernel, by decide +kernel⟩
theorem sim_Bounds_copied {P : Program} {w : World} {K : PySem.W.Frag} {mg : Str → Option Value} {base : Heap} (X : TX K mg) : FnG P w K mg base 3 X.f_Bounds_copied X.d_Bounds_copied ["self"] (SpM (X.T w) 1 m_Bounds_copied) := by
  refine fn_sim (k := 2) (N := ["self", "found"]) (T := X.T w) (b := b_Bounds_copied) X.F_Bounds_copied sc_Bounds_copied rfl fun cdv A outer s H E hr hg => ?_
  have tk := takes_of (X := cxOf (L2.CX P w) P w K mg base ["self", "found"] "Bounds.copied" (defScope st_Bounds_copied) X.f_Bounds_copied cdv A outer s H E) (E := E) rfl rfl rfl rfl
  unfold b_Bounds_copied
  exact (cs_cons (cs_set (i := 1) sc_Bounds_copied.nd rfl (by first | exact Or.inl rfl | exact Or.inr rfl) (ce_make X.mk_Bounds (sim_BoundsU_initU X) (hr.mono (by decide)) hg rfl X.gc_Bounds X.b_BoundsU_initU tk rfl (ca_cons (ce_fld (X.fo_moments w) (ce_var 0)) (ca_cons (ce_fld (X.fo_holders w) (ce_var 0)) ca_nil))))
  (cs_cons (cs_fld (X.fo_last_there w) (ce_var 1) (ce_callTy (c_list) rfl X.n_list (by decide +kernel) (ca_cons (ce_fld (X.fo_last_there w) (ce_var 0)) ca_nil)))
  (cs_cons (cs_fld (X.fo_first_gone w) (ce_var 1) (ce_callTy (c_list) rfl X.n_list (by decide +kernel) (ca_cons (ce_fld (X.fo_first_gone w) (ce_var 0)) ca_nil)))
  (cs_cons (cs_fld (X.fo_why_there w) (ce_var 1) (ce_callTy (c_list) rfl X.n_list (by decide +kernel) (ca_cons (ce_fld (X.fo_why_there w) (ce_var 0)) ca_nil)))
  (cs_cons (cs_fld (X.fo_why_gone w) (ce_var 1) (ce_callTy (c_list) rfl X.n_list (by decide +kernel) (ca_cons (ce_fld (X.fo_why_gone w) (ce_var 0)) ca_nil)))
  (cs_one (cs_ret (ce_var 1))))))))
theorem mo_copied {P : Program} {w : World} {K : PySem.W.Frag} {mg : Str → Option Value} {base : Heap} (X : TX K mg) : ∀ c mf, tab_copied c = some mf → ∀ C, (X.T w).cl[c]? = some C → ∃ (f : Addr) (fd : FuncData) (ps : List Str), Cls (X.T w).K C ∧ Meth (X.T w).K C "copied" f ∧ FnG P w K mg base 3 f fd ps (SpM (X.T w) (0 + 1) mf) ∧ Binds K fd ps [] := by
  intro c mf h C hC
  unfold tab_copied at h
  split at h
  · cases h
    cases hC
    exact ⟨_, _, _, X.cl_Bounds, X.mt_Bounds_copied, (sim_Bounds_copied X).mono (by decide), X.b_Bounds_copied⟩
  · cases h
theorem sc_Bounds_keep_there : FnScope ["self", "cell", "moment", "why", "waiting", "before", "here", "when", "reason", "other", "one"] ["self", "cell", "moment", "why"] (defScope st_Bounds_keep_there) := ⟨rfl, rfl, rfl, by decide +kernel, rfl, by decide +kernel, by decide +kernel⟩
theorem sim_Bounds_keep_there {P : Program} {w : World} {K : PySem.W.Frag} {mg : Str → Option Value} {base : Heap} (X : TX K mg) : FnG P w K mg base 1 X.f_Bounds_keep_there X.d_Bounds_keep_there ["self", "cell", "moment", "why"] (SpM (X.T w) 4 m_Bounds_keep_there) := by
  refine fn_sim (k := 0) (N := ["self", "cell", "moment", "why", "waiting", "before", "here", "when", "reason", "other", "one"]) (T := X.T w) (b := b_Bounds_keep_there) X.F_Bounds_keep_there sc_Bounds_keep_there rfl fun cdv A outer s H E hr hg => ?_
  have tk := takes_of (X := cxOf (L2.CX P w) P w K mg base ["self", "cell", "moment", "why", "waiting", "before", "here", "when", "reason", "other", "one"] "Bounds.keep_there" (defScope st_Bounds_keep_there) X.f_Bounds_keep_there cdv A outer s H E) (E := E) rfl rfl rfl rfl
  unfold b_Bounds_keep_there
  exact (cs_cons (cs_set (i := 4) sc_Bounds_keep_there.nd rfl (by first | exact Or.inl rfl | exact Or.inr rfl) (ce_lst (ca_cons (ce_tup (ca_cons (ce_var 1) (ca_cons (ce_var 2) (ca_cons (ce_var 3) ca_nil)))) ca_nil)))
  (cs_one (cs_while 100000 (passes_of rfl) (ct_cmp (o_ne hr.units) (ce_var 4) (ce_lst ca_nil)) (cs_cons (cs_asg (ce_bm0 (t := .list) PySem.F.plainAttrs_list PySem.F.slot_list_pop PySem.F.type_list_pop m_pop (ce_var 4)) (cg_tup (js := [6, 7, 8]) (pg_tup rfl (pgs_cons (pg_name (i := 6) sc_Bounds_keep_there.nd rfl (by first | exact Or.inl rfl | exact Or.inr rfl)) (pgs_cons (pg_name (i := 7) sc_Bounds_keep_there.nd rfl (by first | exact Or.inl rfl | exact Or.inr rfl)) (pgs_cons (pg_name (i := 8) sc_Bounds_keep_there.nd rfl (by first | exact Or.inl rfl | exact Or.inr rfl)) pgs_nil))))))
  (cs_cons (cs_set (i := 5) sc_Bounds_keep_there.nd rfl (by first | exact Or.inl rfl | exact Or.inr rfl) (ce_ix (o_ix (hu_of hr)) (ce_fld (X.fo_last_there w) (ce_var 0)) (ce_var 6)))
  (cs_one (cs_if (ct_cmp o_gt (ce_var 7) (ce_var 5)) (cs_cons (cs_asg (ce_var 7) (cg_sub (ce_fld (X.fo_last_there w) (ce_var 0)) (ce_var 6) (p_set (hu_of hr)) (pg_sub (ce_fld (X.fo_last_there w) (ce_var 0)) (ce_var 6) (p_set (hu_of hr)))))
  (cs_cons (cs_asg (ce_var 8) (cg_sub (ce_fld (X.fo_why_there w) (ce_var 0)) (ce_var 6) (p_set (hu_of hr)) (pg_sub (ce_fld (X.fo_why_there w) (ce_var 0)) (ce_var 6) (p_set (hu_of hr)))))
  (cs_one (cs_forX (passes_of rfl) rfl (ci_rng2 rfl X.n_range (ca_cons (ce_op o_add (ce_var 5) ce_int) (ca_cons (ce_op o_add (ce_var 7) ce_int) ca_nil))) (cg_name (n := 9) sc_Bounds_keep_there.nd rfl (by first | exact Or.inl rfl | exact Or.inr rfl))
  (cs_one (cs_if (ct_cmp o_lt (ce_var 6) (ce_callB (c_len) rfl X.n_len (by decide +kernel) (ca_cons (ce_ix (o_ix (hu_of hr)) (ce_ix (o_ix (hu_of hr)) (ce_fld (X.fo_moments w) (ce_var 0)) (ce_var 9)) ce_int) ca_nil))) (cs_one (cs_expr (ce_bm (t := .list) PySem.F.plainAttrs_list PySem.F.slot_list_extend PySem.F.type_list_extend m_extend (ce_var 4) (ca_cons (ce_lc (own := [("one", 10)]) 100000 rfl sc_Bounds_keep_there.nd (ci_lst (ce_ix (o_ix (hu_of hr)) (ce_ix (o_ix (hu_of hr)) (ce_ix (o_ix (hu_of hr)) (ce_fld (X.fo_moments w) (ce_var 0)) (ce_var 9)) ce_int) (ce_var 6))) (blkOk_by (by kernel_rfl)) (tg_name (List.mem_cons_self ..)) (fun _ _ _ _ _ => pg_name (i := 10) sc_Bounds_keep_there.nd rfl (Or.inl rfl)) (fun _ _ _ _ _ => cts_nil) (fun _ _ _ _ _ => (ce_tup (ca_cons (ce_var 10) (ca_cons (ce_var 9) (ca_cons (ce_tup (ca_cons ce_str (ca_cons (ce_var 6) ca_nil))) ca_nil)))))) ca_nil)))) cs_nil)))))) cs_nil)))))))
theorem mo_keep_there {P : Program} {w : World} {K : PySem.W.Frag} {mg : Str → Option Value} {base : Heap} (X : TX K mg) : ∀ c mf, tab_keep_there c = some mf → ∀ C, (X.T w).cl[c]? = some C → ∃ (f : Addr) (fd : FuncData) (ps : List Str), Cls (X.T w).K C ∧ Meth (X.T w).K C "keep_there" f ∧ FnG P w K mg base 1 f fd ps (SpM (X.T w) (3 + 1) mf) ∧ Binds K fd ps [] := by
  intro c mf h C hC
  unfold tab_keep_there at h
  split at h
  · cases h
    cases hC
    exact ⟨_, _, _, X.cl_Bounds, X.mt_Bounds_keep_there, (sim_Bounds_keep_there X).mono (by decide), X.b_Bounds_keep_there⟩
  · cases h
theorem sc_Bounds_keep_gone : FnScope ["self", "cell", "moment", "why", "waiting", "before", "here", "when", "reason", "other", "holder"] ["self", "cell", "moment", "why"] (defScope st_Bounds_keep_gone) := ⟨rfl, rfl, rfl, by decide +kernel, rfl, by decide +kernel, by decide +kernel⟩
theorem sim_Bounds_keep_gone {P : Program} {w : World} {K : PySem.W.Frag} {mg : Str → Option Value} {base : Heap} (X : TX K mg) : FnG P w K mg base 1 X.f_Bounds_keep_gone X.d_Bounds_keep_gone ["self", "cell", "moment", "why"] (SpM (X.T w) 4 m_Bounds_keep_gone) := by
  refine fn_sim (k := 0) (N := ["self", "cell", "moment", "why", "waiting", "before", "here", "when", "reason", "other", "holder"]) (T := X.T w) (b := b_Bounds_keep_gone) X.F_Bounds_keep_gone sc_Bounds_keep_gone rfl fun cdv A outer s H E hr hg => ?_
  have tk := takes_of (X := cxOf (L2.CX P w) P w K mg base ["self", "cell", "moment", "why", "waiting", "before", "here", "when", "reason", "other", "holder"] "Bounds.keep_gone" (defScope st_Bounds_keep_gone) X.f_Bounds_keep_gone cdv A outer s H E) (E := E) rfl rfl rfl rfl
  unfold b_Bounds_keep_gone
  exact (cs_cons (cs_set (i := 4) sc_Bounds_keep_gone.nd rfl (by first | exact Or.inl rfl | exact Or.inr rfl) (ce_lst (ca_cons (ce_tup (ca_cons (ce_var 1) (ca_cons (ce_var 2) (ca_cons (ce_var 3) ca_nil)))) ca_nil)))
  (cs_one (cs_while 100000 (passes_of rfl) (ct_cmp (o_ne hr.units) (ce_var 4) (ce_lst ca_nil)) (cs_cons (cs_asg (ce_bm0 (t := .list) PySem.F.plainAttrs_list PySem.F.slot_list_pop PySem.F.type_list_pop m_pop (ce_var 4)) (cg_tup (js := [6, 7, 8]) (pg_tup rfl (pgs_cons (pg_name (i := 6) sc_Bounds_keep_gone.nd rfl (by first | exact Or.inl rfl | exact Or.inr rfl)) (pgs_cons (pg_name (i := 7) sc_Bounds_keep_gone.nd rfl (by first | exact Or.inl rfl | exact Or.inr rfl)) (pgs_cons (pg_name (i := 8) sc_Bounds_keep_gone.nd rfl (by first | exact Or.inl rfl | exact Or.inr rfl)) pgs_nil))))))
  (cs_cons (cs_set (i := 5) sc_Bounds_keep_gone.nd rfl (by first | exact Or.inl rfl | exact Or.inr rfl) (ce_ix (o_ix (hu_of hr)) (ce_fld (X.fo_first_gone w) (ce_var 0)) (ce_var 6)))
  (cs_one (cs_if (ct_cmp o_lt (ce_var 7) (ce_var 5)) (cs_cons (cs_asg (ce_var 7) (cg_sub (ce_fld (X.fo_first_gone w) (ce_var 0)) (ce_var 6) (p_set (hu_of hr)) (pg_sub (ce_fld (X.fo_first_gone w) (ce_var 0)) (ce_var 6) (p_set (hu_of hr)))))
  (cs_cons (cs_asg (ce_var 8) (cg_sub (ce_fld (X.fo_why_gone w) (ce_var 0)) (ce_var 6) (p_set (hu_of hr)) (pg_sub (ce_fld (X.fo_why_gone w) (ce_var 0)) (ce_var 6) (p_set (hu_of hr)))))
  (cs_one (cs_forX (passes_of rfl) rfl (ci_rng2 rfl X.n_range (ca_cons (ce_var 7) (ca_cons (ce_var 5) ca_nil))) (cg_name (n := 9) sc_Bounds_keep_gone.nd rfl (by first | exact Or.inl rfl | exact Or.inr rfl))
  (cs_one (cs_expr (ce_bm (t := .list) PySem.F.plainAttrs_list PySem.F.slot_list_extend PySem.F.type_list_extend m_extend (ce_var 4) (ca_cons (ce_lc (own := [("holder", 10)]) 100000 rfl sc_Bounds_keep_gone.nd (ci_lst (ce_ix (o_ix (hu_of hr)) (ce_ix (o_ix (hu_of hr)) (ce_fld (X.fo_holders w) (ce_var 0)) (ce_var 9)) (ce_var 6))) (blkOk_by (by kernel_rfl)) (tg_name (List.mem_cons_self ..)) (fun _ _ _ _ _ => pg_name (i := 10) sc_Bounds_keep_gone.nd rfl (Or.inl rfl)) (fun _ _ _ _ _ => cts_nil) (fun _ _ _ _ _ => (ce_tup (ca_cons (ce_var 10) (ca_cons (ce_var 9) (ca_cons (ce_tup (ca_cons ce_str (ca_cons (ce_var 6) ca_nil))) ca_nil)))))) ca_nil)))))))) cs_nil)))))))
theorem mo_keep_gone {P : Program} {w : World} {K : PySem.W.Frag} {mg : Str → Option Value} {base : Heap} (X : TX K mg) : ∀ c mf, tab_keep_gone c = some mf → ∀ C, (X.T w).cl[c]? = some C → ∃ (f : Addr) (fd : FuncData) (ps : List Str), Cls (X.T w).K C ∧ Meth (X.T w).K C "keep_gone" f ∧ FnG P w K mg base 1 f fd ps (SpM (X.T w) (3 + 1) mf) ∧ Binds K fd ps [] := by
  intro c mf h C hC
  unfold tab_keep_gone at h
  split at h
  · cases h
    cases hC
    exact ⟨_, _, _, X.cl_Bounds, X.mt_Bounds_keep_gone, (sim_Bounds_keep_gone X).mono (by decide), X.b_Bounds_keep_gone⟩
  · cases h
theorem sc_Bounds_take_reached : FnScope ["self", "moment", "held", "flags", "cell", "truth"] ["self"] (defScope st_Bounds_take_reached) := ⟨rfl, rfl, rfl, by decide +kernel, rfl, by decide +kernel, by decide +kernel⟩
theorem sim_Bounds_take_reached {P : Program} {w : World} {K : PySem.W.Frag} {mg : Str → Option Value} {base : Heap} (X : TX K mg) : FnG P w K mg base 2 X.f_Bounds_take_reached X.d_Bounds_take_reached ["self"] (SpM (X.T w) 1 m_Bounds_take_reached) := by
  refine fn_sim (k := 1) (N := ["self", "moment", "held", "flags", "cell", "truth"]) (T := X.T w) (b := b_Bounds_take_reached) X.F_Bounds_take_reached sc_Bounds_take_reached rfl fun cdv A outer s H E hr hg => ?_
  have tk := takes_of (X := cxOf (L2.CX P w) P w K mg base ["self", "moment", "held", "flags", "cell", "truth"] "Bounds.take_reached" (defScope st_Bounds_take_reached) X.f_Bounds_take_reached cdv A outer s H E) (E := E) rfl rfl rfl rfl
  unfold b_Bounds_take_reached
  exact (cs_one (cs_for 100000 (passes_of rfl) rfl (ci_enm rfl X.n_enumerate (ca_cons (ce_fld (X.fo_moments w) (ce_var 0)) ca_nil)) (cg_tups (cgs_cons (W := WF) (cg_name (n := 1) sc_Bounds_take_reached.nd rfl (by first | exact Or.inl rfl | exact Or.inr rfl)) (cgs_cons (W := WF) (cg_tup (js := [2, 3]) (pg_tup rfl (pgs_cons (pg_name (i := 2) sc_Bounds_take_reached.nd rfl (by first | exact Or.inl rfl | exact Or.inr rfl)) (pgs_cons (pg_name (i := 3) sc_Bounds_take_reached.nd rfl (by first | exact Or.inl rfl | exact Or.inr rfl)) pgs_nil)))) cgs_nil)))
  (cs_one (cs_for 100000 (passes_of rfl) rfl (ci_enm rfl X.n_enumerate (ca_cons (ce_var 3) ca_nil)) (cg_tup (js := [4, 5]) (pg_tup rfl (pgs_cons (pg_name (i := 4) sc_Bounds_take_reached.nd rfl (by first | exact Or.inl rfl | exact Or.inr rfl)) (pgs_cons (pg_name (i := 5) sc_Bounds_take_reached.nd rfl (by first | exact Or.inl rfl | exact Or.inr rfl)) pgs_nil))))
  (cs_one (cs_if (ct_val (ce_var 5)) (cs_one (cs_expr (ce_meth (mo_keep_there X) (hr.mono (by decide)) hg tk (ce_var 0) (ca_cons (ce_var 4) (ca_cons (ce_var 1) (ca_cons (ce_tup (ca_cons ce_str ca_nil)) ca_nil)))))) cs_nil))))))
theorem mo_take_reached {P : Program} {w : World} {K : PySem.W.Frag} {mg : Str → Option Value} {base : Heap} (X : TX K mg) : ∀ c mf, tab_take_reached c = some mf → ∀ C, (X.T w).cl[c]? = some C → ∃ (f : Addr) (fd : FuncData) (ps : List Str), Cls (X.T w).K C ∧ Meth (X.T w).K C "take_reached" f ∧ FnG P w K mg base 2 f fd ps (SpM (X.T w) (0 + 1) mf) ∧ Binds K fd ps [] := by
  intro c mf h C hC
  unfold tab_take_reached at h
  split at h
  · cases h
    cases hC
    exact ⟨_, _, _, X.cl_Bounds, X.mt_Bounds_take_reached, (sim_Bounds_take_reached X).mono (by decide), X.b_Bounds_take_reached⟩
  · cases h
theorem sc_numbered : FnScope ["rows", "first", "found", "at", "cell", "moment", "state", "why"] ["rows", "first"] (defScope st_numbered) := ⟨rfl, rfl, rfl, by decide +kernel, rfl, by decide +kernel, by decide +kernel⟩
theorem sim_numbered {P : Program} {w : World} {K : PySem.W.Frag} {mg : Str → Option Value} {base : Heap} (X : TX K mg) : FnG P w K mg base 1 X.f_numbered X.d_numbered ["rows", "first"] (SpM (X.T w) 2 m_numbered) := by
  refine fn_sim (k := 0) (N := ["rows", "first", "found", "at", "cell", "moment", "state", "why"]) (T := X.T w) (b := b_numbered) X.F_numbered sc_numbered rfl fun cdv A outer s H E hr hg => ?_
  have tk := takes_of (X := cxOf (L2.CX P w) P w K mg base ["rows", "first", "found", "at", "cell", "moment", "state", "why"] "numbered" (defScope st_numbered) X.f_numbered cdv A outer s H E) (E := E) rfl rfl rfl rfl
  unfold b_numbered
  exact (cs_cons (cs_set (i := 2) sc_numbered.nd rfl (by first | exact Or.inl rfl | exact Or.inr rfl) (ce_lst ca_nil))
  (cs_cons (cs_for 100000 (passes_of rfl) rfl (ci_enm rfl X.n_enumerate (ca_cons (ce_var 0) ca_nil)) (cg_tups (cgs_cons (W := WF) (cg_name (n := 3) sc_numbered.nd rfl (by first | exact Or.inl rfl | exact Or.inr rfl)) (cgs_cons (W := WF) (cg_tup (js := [4, 5, 6, 7]) (pg_tup rfl (pgs_cons (pg_name (i := 4) sc_numbered.nd rfl (by first | exact Or.inl rfl | exact Or.inr rfl)) (pgs_cons (pg_name (i := 5) sc_numbered.nd rfl (by first | exact Or.inl rfl | exact Or.inr rfl)) (pgs_cons (pg_name (i := 6) sc_numbered.nd rfl (by first | exact Or.inl rfl | exact Or.inr rfl)) (pgs_cons (pg_name (i := 7) sc_numbered.nd rfl (by first | exact Or.inl rfl | exact Or.inr rfl)) pgs_nil)))))) cgs_nil)))
  (cs_one (cs_expr (ce_bm (t := .list) PySem.F.plainAttrs_list PySem.F.slot_list_append PySem.F.type_list_append m_append (ce_var 2) (ca_cons (ce_tup (ca_cons (ce_var 4) (ca_cons (ce_var 5) (ca_cons (ce_var 6) (ca_cons (ce_if (ct_cmp (o_eq hr.units) (ce_var 3) ce_int) (ce_var 7) (ce_tup (ca_cons (ce_var 7) (ca_cons (ce_op o_sub (ce_op o_add (ce_var 1) (ce_var 3)) ce_int) ca_nil)))) ca_nil))))) ca_nil)))))
  (cs_one (cs_ret (ce_callTy (c_tuple) rfl X.n_tuple (by decide +kernel) (ca_cons (ce_var 2) ca_nil))))))
theorem sc_Bounds_chain : FnScope ["self", "cell", "moment", "state", "first", "found", "is_open", "edge", "why"] ["self", "cell", "moment", "state", "first"] (defScope st_Bounds_chain) := ⟨rfl, rfl, rfl, by decide +kernel, rfl, by decide +kernel, by decide +kernel⟩
theorem sim_Bounds_chain {P : Program} {w : World} {K : PySem.W.Frag} {mg : Str → Option Value} {base : Heap} (X : TX K mg) : FnG P w K mg base 2 X.f_Bounds_chain X.d_Bounds_chain ["self", "cell", "moment", "state", "first"] (SpM (X.T w) 5 m_Bounds_chain) := by
  refine fn_sim (k := 1) (N := ["self", "cell", "moment", "state", "first", "found", "is_open", "edge", "why"]) (T := X.T w) (b := b_Bounds_chain) X.F_Bounds_chain sc_Bounds_chain rfl fun cdv A outer s H E hr hg => ?_
  have tk := takes_of (X := cxOf (L2.CX P w) P w K mg base ["self", "cell", "moment", "state", "first", "found", "is_open", "edge", "why"] "Bounds.chain" (defScope st_Bounds_chain) X.f_Bounds_chain cdv A outer s H E) (E := E) rfl rfl rfl rfl
  unfold b_Bounds_chain
  exact (cs_cons (cs_set (i := 5) sc_Bounds_chain.nd rfl (by first | exact Or.inl rfl | exact Or.inr rfl) (ce_lst ca_nil))
  (cs_cons (cs_set (i := 6) sc_Bounds_chain.nd rfl (by first | exact Or.inl rfl | exact Or.inr rfl) ce_bl)
  (cs_cons (cs_while 100000 (passes_of rfl) (ct_val (ce_var 6)) (cs_cons (cs_set (i := 7) sc_Bounds_chain.nd rfl (by first | exact Or.inl rfl | exact Or.inr rfl) (ce_if (ct_cmp (o_eq hr.units) (ce_var 3) ce_str) (ce_ix (o_ix (hu_of hr)) (ce_fld (X.fo_last_there w) (ce_var 0)) (ce_var 1)) (ce_ix (o_ix (hu_of hr)) (ce_fld (X.fo_first_gone w) (ce_var 0)) (ce_var 1))))
  (cs_cons (cs_set (i := 8) sc_Bounds_chain.nd rfl (by first | exact Or.inl rfl | exact Or.inr rfl) (ce_if (ct_cmp (o_eq hr.units) (ce_var 3) ce_str) (ce_ix (o_ix (hu_of hr)) (ce_fld (X.fo_why_there w) (ce_var 0)) (ce_var 1)) (ce_ix (o_ix (hu_of hr)) (ce_fld (X.fo_why_gone w) (ce_var 0)) (ce_var 1))))
  (cs_one (cs_if (ct_cmp (o_ne hr.units) (ce_var 2) (ce_var 7)) (cs_cons (cs_expr (ce_bm (t := .list) PySem.F.plainAttrs_list PySem.F.slot_list_append PySem.F.type_list_append m_append (ce_var 5) (ca_cons (ce_tup (ca_cons (ce_var 1) (ca_cons (ce_var 2) (ca_cons (ce_var 3) (ca_cons (ce_if (ct_cmp (o_eq hr.units) (ce_var 3) ce_str) ce_str ce_str) ca_nil))))) ca_nil)))
  (cs_one (cs_set (i := 2) sc_Bounds_chain.nd rfl (by first | exact Or.inl rfl | exact Or.inr rfl) (ce_var 7)))) (cs_one (cs_if (ct_cmp (o_in (hu_of hr)) (ce_ix (o_ix (hu_of hr)) (ce_var 8) ce_int) (ce_tup (ca_cons ce_str (ca_cons ce_str ca_nil)))) (cs_cons (cs_expr (ce_bm (t := .list) PySem.F.plainAttrs_list PySem.F.slot_list_append PySem.F.type_list_append m_append (ce_var 5) (ca_cons (ce_tup (ca_cons (ce_var 1) (ca_cons (ce_var 2) (ca_cons (ce_var 3) (ca_cons (ce_ix (o_ix (hu_of hr)) (ce_var 8) ce_int) ca_nil))))) ca_nil)))
  (cs_one (cs_set (i := 1) sc_Bounds_chain.nd rfl (by first | exact Or.inl rfl | exact Or.inr rfl) (ce_ix (o_ix (hu_of hr)) (ce_var 8) ce_int)))) (cs_cons (cs_expr (ce_bm (t := .list) PySem.F.plainAttrs_list PySem.F.slot_list_append PySem.F.type_list_append m_append (ce_var 5) (ca_cons (ce_tup (ca_cons (ce_var 1) (ca_cons (ce_var 2) (ca_cons (ce_var 3) (ca_cons (ce_var 8) ca_nil))))) ca_nil)))
  (cs_one (cs_set (i := 6) sc_Bounds_chain.nd rfl (by first | exact Or.inl rfl | exact Or.inr rfl) ce_bl))))))))))
  (cs_one (cs_ret (ce_call (sim_numbered X) (hr.mono (by decide)) hg rfl X.g_numbered X.F_numbered.kp X.b_numbered tk (ca_cons ce_fail (ca_cons (ce_var 4) ca_nil))))))))
theorem mo_chain {P : Program} {w : World} {K : PySem.W.Frag} {mg : Str → Option Value} {base : Heap} (X : TX K mg) : ∀ c mf, tab_chain c = some mf → ∀ C, (X.T w).cl[c]? = some C → ∃ (f : Addr) (fd : FuncData) (ps : List Str), Cls (X.T w).K C ∧ Meth (X.T w).K C "chain" f ∧ FnG P w K mg base 2 f fd ps (SpM (X.T w) (4 + 1) mf) ∧ Binds K fd ps [] := by
  intro c mf h C hC
  unfold tab_chain at h
  split at h
  · cases h
    cases hC
    exact ⟨_, _, _, X.cl_Bounds, X.mt_Bounds_chain, (sim_Bounds_chain X).mono (by decide), X.b_Bounds_chain⟩
  · cases h
theorem sc_Bounds_clash : FnScope ["self", "cell", "moment", "rows"] ["self"] (defScope st_Bounds_clash) := ⟨rfl, rfl, rfl, by decide +kernel, rfl, by decide +kernel, by decide +kernel⟩
theorem sim_Bounds_clash {P : Program} {w : World} {K : PySem.W.Frag} {mg : Str → Option Value} {base : Heap} (X : TX K mg) : FnG P w K mg base 3 X.f_Bounds_clash X.d_Bounds_clash ["self"] (SpM (X.T w) 1 m_Bounds_clash) := by
  refine fn_sim (k := 2) (N := ["self", "cell", "moment", "rows"]) (T := X.T w) (b := b_Bounds_clash) X.F_Bounds_clash sc_Bounds_clash rfl fun cdv A outer s H E hr hg => ?_
  have tk := takes_of (X := cxOf (L2.CX P w) P w K mg base ["self", "cell", "moment", "rows"] "Bounds.clash" (defScope st_Bounds_clash) X.f_Bounds_clash cdv A outer s H E) (E := E) rfl rfl rfl rfl
  unfold b_Bounds_clash
  exact (cs_cons (cs_for 100000 (passes_of rfl) rfl (ci_enm rfl X.n_enumerate (ca_cons (ce_fld (X.fo_first_gone w) (ce_var 0)) ca_nil)) (cg_tup (js := [1, 2]) (pg_tup rfl (pgs_cons (pg_name (i := 1) sc_Bounds_clash.nd rfl (by first | exact Or.inl rfl | exact Or.inr rfl)) (pgs_cons (pg_name (i := 2) sc_Bounds_clash.nd rfl (by first | exact Or.inl rfl | exact Or.inr rfl)) pgs_nil))))
  (cs_one (cs_if (ct_cmp o_le (ce_var 2) (ce_ix (o_ix (hu_of hr)) (ce_fld (X.fo_last_there w) (ce_var 0)) (ce_var 1))) (cs_cons (cs_set (i := 3) sc_Bounds_clash.nd rfl (by first | exact Or.inl rfl | exact Or.inr rfl) (ce_meth (mo_chain X) (hr.mono (by decide)) hg tk (ce_var 0) (ca_cons (ce_var 1) (ca_cons (ce_var 2) (ca_cons ce_str (ca_cons ce_int ca_nil))))))
  (cs_one (cs_ret (ce_op o_add (ce_var 3) (ce_meth (mo_chain X) (hr.mono (by decide)) hg tk (ce_var 0) (ca_cons (ce_var 1) (ca_cons (ce_var 2) (ca_cons ce_str (ca_cons (ce_callB (c_len) rfl X.n_len (by decide +kernel) (ca_cons (ce_var 3) ca_nil)) ca_nil))))))))) cs_nil)))
  (cs_one (cs_ret ce_non)))
theorem mo_clash {P : Program} {w : World} {K : PySem.W.Frag} {mg : Str → Option Value} {base : Heap} (X : TX K mg) : ∀ c mf, tab_clash c = some mf → ∀ C, (X.T w).cl[c]? = some C → ∃ (f : Addr) (fd : FuncData) (ps : List Str), Cls (X.T w).K C ∧ Meth (X.T w).K C "clash" f ∧ FnG P w K mg base 3 f fd ps (SpM (X.T w) (0 + 1) mf) ∧ Binds K fd ps [] := by
  intro c mf h C hC
  unfold tab_clash at h
  split at h
  · cases h
    cases hC
    exact ⟨_, _, _, X.cl_Bounds, X.mt_Bounds_clash, (sim_Bounds_clash X).mono (by decide), X.b_Bounds_clash⟩
  · cases h
theorem sc_Facts_tell : FnScope ["self", "answer", "number", "bounds", "steps", "moment", "cell"] ["self", "answer"] (defScope st_Facts_tell) := ⟨rfl, rfl, rfl, by decide +kernel, rfl, by decide +kernel, by decide +kernel⟩
theorem sim_Facts_tell {P : Program} {w : World} {K : PySem.W.Frag} {mg : Str → Option Value} {base : Heap} (X : TX K mg) : FnG P w K mg base 4 X.f_Facts_tell X.d_Facts_tell ["self", "answer"] (SpM (X.T w) 2 m_Facts_tell) := by
  refine fn_sim (k := 3) (N := ["self", "answer", "number", "bounds", "steps", "moment", "cell"]) (T := X.T w) (b := b_Facts_tell) X.F_Facts_tell sc_Facts_tell rfl fun cdv A outer s H E hr hg => ?_
  have tk := takes_of (X := cxOf (L2.CX P w) P w K mg base ["self", "answer", "number", "bounds", "steps", "moment", "cell"] "Facts.tell" (defScope st_Facts_tell) X.f_Facts_tell cdv A outer s H E) (E := E) rfl rfl rfl rfl
  unfold b_Facts_tell
  exact (cs_cons (cs_set (i := 2) sc_Facts_tell.nd rfl (by first | exact Or.inl rfl | exact Or.inr rfl) (ce_callB (c_len) rfl X.n_len (by decide +kernel) (ca_cons (ce_fld (X.fo_told w) (ce_var 0)) ca_nil)))
  (cs_cons (cs_if (ct_cmp o_ge (ce_var 2) (ce_callB (c_len) rfl X.n_len (by decide +kernel) (ca_cons (ce_fld (X.fo_asked_pairs w) (ce_var 0)) ca_nil))) (cs_one cs_fail) cs_nil)
  (cs_cons (cs_asg (ce_ix (o_ix (hu_of hr)) (ce_fld (X.fo_asked_pairs w) (ce_var 0)) (ce_var 2)) (cg_tup (js := [5, 6]) (pg_tup rfl (pgs_cons (pg_name (i := 5) sc_Facts_tell.nd rfl (by first | exact Or.inl rfl | exact Or.inr rfl)) (pgs_cons (pg_name (i := 6) sc_Facts_tell.nd rfl (by first | exact Or.inl rfl | exact Or.inr rfl)) pgs_nil)))))
  (cs_cons (cs_set (i := 3) sc_Facts_tell.nd rfl (by first | exact Or.inl rfl | exact Or.inr rfl) (ce_meth0 (mo_copied X) (hr.mono (by decide)) hg tk (ce_fld (X.fo_bounds w) (ce_var 0))))
  (cs_cons (cs_if (ct_cmp (o_eq hr.units) (ce_var 1) ce_int) (cs_one (cs_expr (ce_meth (mo_keep_gone X) (hr.mono (by decide)) hg tk (ce_var 3) (ca_cons (ce_var 6) (ca_cons (ce_var 5) (ca_cons (ce_tup (ca_cons ce_str (ca_cons (ce_var 2) ca_nil))) ca_nil)))))) (cs_one (cs_expr (ce_meth (mo_keep_there X) (hr.mono (by decide)) hg tk (ce_var 3) (ca_cons (ce_var 6) (ca_cons (ce_var 5) (ca_cons (ce_tup (ca_cons ce_str (ca_cons (ce_var 2) ca_nil))) ca_nil)))))))
  (cs_cons (cs_set (i := 4) sc_Facts_tell.nd rfl (by first | exact Or.inl rfl | exact Or.inr rfl) (ce_meth0 (mo_clash X) (hr.mono (by decide)) hg tk (ce_var 3)))
  (cs_cons (cs_if (ct_cmp o_notN (ce_var 4) ce_non) (cs_one cs_fail) cs_nil)
  (cs_cons (cs_fld (X.fo_bounds w) (ce_var 0) (ce_var 3))
  (cs_cons (cs_fld (X.fo_told w) (ce_var 0) (ce_op o_add (ce_fld (X.fo_told w) (ce_var 0)) (ce_tup (ca_cons (ce_var 1) ca_nil))))
  (cs_one (cs_ret (ce_callB (c_len) rfl X.n_len (by decide +kernel) (ca_cons (ce_fld (X.fo_told w) (ce_var 0)) ca_nil)))))))))))))
theorem mo_tell {P : Program} {w : World} {K : PySem.W.Frag} {mg : Str → Option Value} {base : Heap} (X : TX K mg) : ∀ c mf, tab_tell c = some mf → ∀ C, (X.T w).cl[c]? = some C → ∃ (f : Addr) (fd : FuncData) (ps : List Str), Cls (X.T w).K C ∧ Meth (X.T w).K C "tell" f ∧ FnG P w K mg base 4 f fd ps (SpM (X.T w) (1 + 1) mf) ∧ Binds K fd ps [] := by
  intro c mf h C hC
  unfold tab_tell at h
  split at h
  · cases h
    cases hC
    exact ⟨_, _, _, X.cl_Facts, X.mt_Facts_tell, (sim_Facts_tell X).mono (by decide), X.b_Facts_tell⟩
  · cases h
theorem sc_FactsU_initU : FnScope ["self", "story", "answers", "moments", "answer", "held", "flags"] ["self", "story", "answers"] (defScope st_FactsU_initU) := ⟨rfl, rfl, rfl, by decide +kernel, rfl, by decide +kernel, by decide +kernel⟩
theorem sim_FactsU_initU {P : Program} {w : World} {K : PySem.W.Frag} {mg : Str → Option Value} {base : Heap} (X : TX K mg) : FnG P w K mg base 5 X.f_FactsU_initU X.d_FactsU_initU ["self", "story", "answers"] (SpM (X.T w) 3 m_FactsU_initU) := by
  refine fn_simD (k := 4) (N := ["self", "story", "answers", "moments", "answer", "held", "flags"]) (T := X.T w) (b := b_FactsU_initU) X.F_FactsU_initU sc_FactsU_initU rfl fun cdv A outer s H E hr hg => ?_
  have tk := takes_of (X := cxOf (L2.CX P w) P w K mg base ["self", "story", "answers", "moments", "answer", "held", "flags"] "Facts.__init__" (defScope st_FactsU_initU) X.f_FactsU_initU cdv A outer s H E) (E := E) rfl rfl rfl rfl
  unfold b_FactsU_initU
  exact (cs_cons (cs_fld (X.fo_story w) (ce_var 0) (ce_var 1))
  (cs_cons (cs_fld (X.fo_told w) (ce_var 0) (ce_tup ca_nil))
  (cs_cons (cs_fld (X.fo_asked_pairs w) (ce_var 0) (ce_call (sim_questions_of X) (hr.mono (by decide)) hg rfl X.g_questions_of X.F_questions_of.kp X.b_questions_of tk (ca_cons (ce_var 1) ca_nil)))
  (cs_cons (cs_set (i := 3) sc_FactsU_initU.nd rfl (by first | exact Or.inl rfl | exact Or.inr rfl) (ce_call (sim_moments_of X) (hr.mono (by decide)) hg rfl X.g_moments_of X.F_moments_of.kp X.b_moments_of tk (ca_cons (ce_var 1) ca_nil)))
  (cs_cons (cs_fld (X.fo_bounds w) (ce_var 0) (ce_make X.mk_Bounds (sim_BoundsU_initU X) (hr.mono (by decide)) hg rfl X.gc_Bounds X.b_BoundsU_initU tk rfl (ca_cons (ce_var 3) (ca_cons (ce_lc (own := [("held", 5), ("flags", 6)]) 100000 rfl sc_FactsU_initU.nd (ci_lst (ce_var 3)) (blkOk_by (by kernel_rfl)) (tg_tup (js := [5, 6]) (by decide) rfl) (fun _ _ _ _ _ => pg_tup rfl (pgs_cons (pg_name (i := 5) sc_FactsU_initU.nd rfl (Or.inl rfl)) (pgs_cons (pg_name (i := 6) sc_FactsU_initU.nd rfl (Or.inl rfl)) pgs_nil))) (fun _ _ _ _ _ => cts_nil) (fun _ _ _ _ _ => (ce_call (sim_holders_of X) (hr.mono (by decide)) hg rfl X.g_holders_of X.F_holders_of.kp X.b_holders_of takes0 (ca_cons (ce_var 5) ca_nil)))) ca_nil))))
  (cs_cons (cs_expr (ce_meth0 (mo_take_reached X) (hr.mono (by decide)) hg tk (ce_fld (X.fo_bounds w) (ce_var 0))))
  (cs_one (cs_forX (passes_of rfl) rfl (ci_tup (ce_var 2)) (cg_name (n := 4) sc_FactsU_initU.nd rfl (by first | exact Or.inl rfl | exact Or.inr rfl))
  (cs_one (cs_expr (ce_meth (mo_tell X) (hr.mono (by decide)) hg tk (ce_var 0) (ca_cons (ce_var 4) ca_nil))))))))))))
theorem sc_Facts_fate : FnScope ["self", "cell", "moment"] ["self", "cell", "moment"] (defScope st_Facts_fate) := ⟨rfl, rfl, rfl, by decide +kernel, rfl, by decide +kernel, by decide +kernel⟩
theorem sim_Facts_fate {P : Program} {w : World} {K : PySem.W.Frag} {mg : Str → Option Value} {base : Heap} (X : TX K mg) : FnG P w K mg base 1 X.f_Facts_fate X.d_Facts_fate ["self", "cell", "moment"] (SpM (X.T w) 3 m_Facts_fate) := by
  refine fn_sim (k := 0) (N := ["self", "cell", "moment"]) (T := X.T w) (b := b_Facts_fate) X.F_Facts_fate sc_Facts_fate rfl fun cdv A outer s H E hr hg => ?_
  have tk := takes_of (X := cxOf (L2.CX P w) P w K mg base ["self", "cell", "moment"] "Facts.fate" (defScope st_Facts_fate) X.f_Facts_fate cdv A outer s H E) (E := E) rfl rfl rfl rfl
  unfold b_Facts_fate
  exact (cs_cons (cs_if (ct_cmp o_le (ce_var 2) (ce_ix (o_ix (hu_of hr)) (ce_fld (X.fo_last_there w) (ce_fld (X.fo_bounds w) (ce_var 0))) (ce_var 1))) (cs_one (cs_ret ce_str)) cs_nil)
  (cs_one (cs_ret (ce_if (ct_cmp o_ge (ce_var 2) (ce_ix (o_ix (hu_of hr)) (ce_fld (X.fo_first_gone w) (ce_fld (X.fo_bounds w) (ce_var 0))) (ce_var 1))) ce_str ce_str))))
theorem mo_fate {P : Program} {w : World} {K : PySem.W.Frag} {mg : Str → Option Value} {base : Heap} (X : TX K mg) : ∀ c mf, tab_fate c = some mf → ∀ C, (X.T w).cl[c]? = some C → ∃ (f : Addr) (fd : FuncData) (ps : List Str), Cls (X.T w).K C ∧ Meth (X.T w).K C "fate" f ∧ FnG P w K mg base 1 f fd ps (SpM (X.T w) (2 + 1) mf) ∧ Binds K fd ps [] := by
  intro c mf h C hC
  unfold tab_fate at h
  split at h
  · cases h
    cases hC
    exact ⟨_, _, _, X.cl_Facts, X.mt_Facts_fate, (sim_Facts_fate X).mono (by decide), X.b_Facts_fate⟩
  · cases h
theorem sc_Facts_window : FnScope ["self", "cell", "moments", "first", "last"] ["self", "cell"] (defScope st_Facts_window) := ⟨rfl, rfl, rfl, by decide +kernel, rfl, by decide +kernel, by decide +kernel⟩
theorem sim_Facts_window {P : Program} {w : World} {K : PySem.W.Frag} {mg : Str → Option Value} {base : Heap} (X : TX K mg) : FnG P w K mg base 1 X.f_Facts_window X.d_Facts_window ["self", "cell"] (SpM (X.T w) 2 m_Facts_window) := by
  refine fn_sim (k := 0) (N := ["self", "cell", "moments", "first", "last"]) (T := X.T w) (b := b_Facts_window) X.F_Facts_window sc_Facts_window rfl fun cdv A outer s H E hr hg => ?_
  have tk := takes_of (X := cxOf (L2.CX P w) P w K mg base ["self", "cell", "moments", "first", "last"] "Facts.window" (defScope st_Facts_window) X.f_Facts_window cdv A outer s H E) (E := E) rfl rfl rfl rfl
  unfold b_Facts_window
  exact (cs_cons (cs_set (i := 2) sc_Facts_window.nd rfl (by first | exact Or.inl rfl | exact Or.inr rfl) (ce_fld (X.fo_moments w) (ce_fld (X.fo_bounds w) (ce_var 0))))
  (cs_cons (cs_if (PW.pt (cw_or (ct_cmp (o_eq hr.units) (ce_var 2) (ce_lst ca_nil)) (cw_or1 (ct_cmp o_ge (ce_var 1) (ce_callB (c_len) rfl X.n_len (by decide +kernel) (ca_cons (ce_ix (o_ix (hu_of hr)) (ce_ix (o_ix (hu_of hr)) (ce_var 2) (ce_un o_neg ce_int)) ce_int) ca_nil)))))) (cs_one (cs_ret (ce_tup (ca_cons ce_non (ca_cons ce_non ca_nil))))) cs_nil)
  (cs_cons (cs_set (i := 3) sc_Facts_window.nd rfl (by first | exact Or.inl rfl | exact Or.inr rfl) (ce_op o_add (ce_ix (o_ix (hu_of hr)) (ce_fld (X.fo_last_there w) (ce_fld (X.fo_bounds w) (ce_var 0))) (ce_var 1)) ce_int))
  (cs_cons (cs_while 100000 (passes_of rfl) (PW.pt (cw_and (ct_cmp o_lt (ce_var 3) (ce_callB (c_len) rfl X.n_len (by decide +kernel) (ca_cons (ce_var 2) ca_nil))) (cw_and1 (ct_cmp o_ge (ce_var 1) (ce_callB (c_len) rfl X.n_len (by decide +kernel) (ca_cons (ce_ix (o_ix (hu_of hr)) (ce_ix (o_ix (hu_of hr)) (ce_var 2) (ce_var 3)) ce_int) ca_nil)))))) (cs_one (cs_aug (i := 3) sc_Facts_window.nd rfl (by first | exact Or.inl rfl | exact Or.inr rfl) io_add ce_int)))
  (cs_cons (cs_set (i := 4) sc_Facts_window.nd rfl (by first | exact Or.inl rfl | exact Or.inr rfl) (ce_ix (o_ix (hu_of hr)) (ce_fld (X.fo_first_gone w) (ce_fld (X.fo_bounds w) (ce_var 0))) (ce_var 1)))
  (cs_one (cs_ret (ce_tup (ca_cons (ce_if (ct_cmp o_lt (ce_var 3) (ce_callB (c_len) rfl X.n_len (by decide +kernel) (ca_cons (ce_var 2) ca_nil))) (ce_var 3) ce_non) (ca_cons (ce_if (ct_cmp o_lt (ce_var 4) (ce_callB (c_len) rfl X.n_len (by decide +kernel) (ca_cons (ce_var 2) ca_nil))) (ce_var 4) ce_non) ca_nil))))))))))
theorem mo_window {P : Program} {w : World} {K : PySem.W.Frag} {mg : Str → Option Value} {base : Heap} (X : TX K mg) : ∀ c mf, tab_window c = some mf → ∀ C, (X.T w).cl[c]? = some C → ∃ (f : Addr) (fd : FuncData) (ps : List Str), Cls (X.T w).K C ∧ Meth (X.T w).K C "window" f ∧ FnG P w K mg base 1 f fd ps (SpM (X.T w) (1 + 1) mf) ∧ Binds K fd ps [] := by
  intro c mf h C hC
  unfold tab_window at h
  split at h
  · cases h
    cases hC
    exact ⟨_, _, _, X.cl_Facts, X.mt_Facts_window, (sim_Facts_window X).mono (by decide), X.b_Facts_window⟩
  · cases h
theorem sc__law_deck : FnScope ["_law_script", "_law_cell"] ["_law_script"] (defScope st__law_deck) := ⟨rfl, rfl, rfl, by decide +kernel, rfl, by decide +kernel, by decide +kernel⟩
theorem sim__law_deck {P : Program} {w : World} {K : PySem.W.Frag} {mg : Str → Option Value} {base : Heap} (X : TX K mg) : FnG P w K mg base 1 X.f__law_deck X.d__law_deck ["_law_script"] (SpM (X.T w) 1 m__law_deck) := by
  refine fn_sim (k := 0) (N := ["_law_script", "_law_cell"]) (T := X.T w) (b := b__law_deck) X.F__law_deck sc__law_deck rfl fun cdv A outer s H E hr hg => ?_
  have tk := takes_of (X := cxOf (L2.CX P w) P w K mg base ["_law_script", "_law_cell"] "_law_deck" (defScope st__law_deck) X.f__law_deck cdv A outer s H E) (E := E) rfl rfl rfl rfl
  unfold b__law_deck
  exact (cs_one (cs_ret (ce_lst (ca_cons (ce_lc (own := [("_law_cell", 1)]) 100000 rfl sc__law_deck.nd (ci_lst (ce_slice o_sl (ce_var 0) co_none (co_some ce_int))) (blkOk_by (by kernel_rfl)) (tg_name (List.mem_cons_self ..)) (fun _ _ _ _ _ => pg_name (i := 1) sc__law_deck.nd rfl (Or.inl rfl)) (fun _ _ _ _ _ => cts_nil) (fun _ _ _ _ _ => (ce_callB (c_abs) rfl X.n_abs (by decide +kernel) (ca_cons (ce_var 1) ca_nil)))) (ca_cons ce_int ca_nil)))))
theorem sc__law_draw : FnScope ["_law_deck_here", "_law_many", "_law_place", "_law_cell", "_law_mixed"] ["_law_deck_here", "_law_many"] (defScope st__law_draw) := ⟨rfl, rfl, rfl, by decide +kernel, rfl, by decide +kernel, by decide +kernel⟩
theorem sim__law_draw {P : Program} {w : World} {K : PySem.W.Frag} {mg : Str → Option Value} {base : Heap} (X : TX K mg) : FnG P w K mg base 1 X.f__law_draw X.d__law_draw ["_law_deck_here", "_law_many"] (SpM (X.T w) 2 m__law_draw) := by
  refine fn_sim (k := 0) (N := ["_law_deck_here", "_law_many", "_law_place", "_law_cell", "_law_mixed"]) (T := X.T w) (b := b__law_draw) X.F__law_draw sc__law_draw rfl fun cdv A outer s H E hr hg => ?_
  have tk := takes_of (X := cxOf (L2.CX P w) P w K mg base ["_law_deck_here", "_law_many", "_law_place", "_law_cell", "_law_mixed"] "_law_draw" (defScope st__law_draw) X.f__law_draw cdv A outer s H E) (E := E) rfl rfl rfl rfl
  unfold b__law_draw
  exact (cs_cons (cs_asg (ce_op o_add (ce_ix (o_ix (hu_of hr)) (ce_var 0) ce_int) ce_int) (cg_sub (ce_var 0) ce_int (p_set (hu_of hr)) (pg_sub (ce_var 0) ce_int (p_set (hu_of hr)))))
  (cs_cons (cs_set (i := 2) sc__law_draw.nd rfl (by first | exact Or.inl rfl | exact Or.inr rfl) (ce_op o_mod (ce_callTy (c_int) rfl X.n_int (by decide +kernel) (ca_cons (ce_ix (o_ix (hu_of hr)) (ce_var 0) ce_int) ca_nil)) (ce_callB (c_max) rfl X.n_max (by decide +kernel) (ca_cons ce_int (ca_cons (ce_callB (c_len) rfl X.n_len (by decide +kernel) (ca_cons (ce_ix (o_ix (hu_of hr)) (ce_var 0) ce_int) ca_nil)) ca_nil)))))
  (cs_cons (cs_set (i := 3) sc__law_draw.nd rfl (by first | exact Or.inl rfl | exact Or.inr rfl) (ce_ix (o_ix (hu_of hr)) (ce_op o_add (ce_ix (o_ix (hu_of hr)) (ce_var 0) ce_int) (ce_lst (ca_cons ce_int ca_nil))) (ce_var 2)))
  (cs_cons (cs_if (ct_cmp o_ge (ce_var 3) (ce_op o_pow ce_int ce_int)) (cs_cons (cs_asg (ce_op o_fdiv (ce_var 3) (ce_var 1)) (cg_sub (ce_ix (o_ix (hu_of hr)) (ce_var 0) ce_int) (ce_var 2) (p_set (hu_of hr)) (pg_sub (ce_ix (o_ix (hu_of hr)) (ce_var 0) ce_int) (ce_var 2) (p_set (hu_of hr)))))
  (cs_one (cs_ret (ce_op o_mod (ce_callTy (c_int) rfl X.n_int (by decide +kernel) (ca_cons (ce_var 3) ca_nil)) (ce_var 1))))) cs_nil)
  (cs_cons (cs_set (i := 4) sc__law_draw.nd rfl (by first | exact Or.inl rfl | exact Or.inr rfl) (ce_op o_pow (ce_op o_add (ce_op o_add (ce_op o_mod (ce_callTy (c_int) rfl X.n_int (by decide +kernel) (ca_cons (ce_var 3) ca_nil)) ce_int) (ce_op o_mul ce_int (ce_ix (o_ix (hu_of hr)) (ce_var 0) ce_int))) ce_int) ce_int))
  (cs_one (cs_ret (ce_op o_mod (ce_callTy (c_int) rfl X.n_int (by decide +kernel) (ca_cons (ce_op o_mod (ce_callTy (c_int) rfl X.n_int (by decide +kernel) (ca_cons (ce_var 4) ca_nil)) ce_int) ca_nil)) (ce_var 1)))))))))
theorem sc__law_one : FnScope ["_law_deck_here", "_law_items"] ["_law_deck_here", "_law_items"] (defScope st__law_one) := ⟨rfl, rfl, rfl, by decide +kernel, rfl, by decide +kernel, by decide +kernel⟩
theorem sim__law_one {P : Program} {w : World} {K : PySem.W.Frag} {mg : Str → Option Value} {base : Heap} (X : TX K mg) : FnG P w K mg base 2 X.f__law_one X.d__law_one ["_law_deck_here", "_law_items"] (SpM (X.T w) 2 m__law_one) := by
  refine fn_sim (k := 1) (N := ["_law_deck_here", "_law_items"]) (T := X.T w) (b := b__law_one) X.F__law_one sc__law_one rfl fun cdv A outer s H E hr hg => ?_
  have tk := takes_of (X := cxOf (L2.CX P w) P w K mg base ["_law_deck_here", "_law_items"] "_law_one" (defScope st__law_one) X.f__law_one cdv A outer s H E) (E := E) rfl rfl rfl rfl
  unfold b__law_one
  exact (cs_one (cs_ret (ce_ix (o_ix (hu_of hr)) (ce_var 1) (ce_call (sim__law_draw X) (hr.mono (by decide)) hg rfl X.g__law_draw X.F__law_draw.kp X.b__law_draw tk (ca_cons (ce_var 0) (ca_cons (ce_callB (c_len) rfl X.n_len (by decide +kernel) (ca_cons (ce_var 1) ca_nil)) ca_nil))))))
theorem sc__law_event : FnScope ["_law_deck_here", "_law_cells", "_law_kind", "_law_cell"] ["_law_deck_here", "_law_cells"] (defScope st__law_event) := ⟨rfl, rfl, rfl, by decide +kernel, rfl, by decide +kernel, by decide +kernel⟩
theorem sim__law_event {P : Program} {w : World} {K : PySem.W.Frag} {mg : Str → Option Value} {base : Heap} (X : TX K mg) : FnG P w K mg base 3 X.f__law_event X.d__law_event ["_law_deck_here", "_law_cells"] (SpM (X.T w) 2 m__law_event) := by
  refine fn_sim (k := 2) (N := ["_law_deck_here", "_law_cells", "_law_kind", "_law_cell"]) (T := X.T w) (b := b__law_event) X.F__law_event sc__law_event rfl fun cdv A outer s H E hr hg => ?_
  have tk := takes_of (X := cxOf (L2.CX P w) P w K mg base ["_law_deck_here", "_law_cells", "_law_kind", "_law_cell"] "_law_event" (defScope st__law_event) X.f__law_event cdv A outer s H E) (E := E) rfl rfl rfl rfl
  unfold b__law_event
  exact (cs_cons (cs_set (i := 2) sc__law_event.nd rfl (by first | exact Or.inl rfl | exact Or.inr rfl) (ce_call (sim__law_draw X) (hr.mono (by decide)) hg rfl X.g__law_draw X.F__law_draw.kp X.b__law_draw tk (ca_cons (ce_var 0) (ca_cons ce_int ca_nil))))
  (cs_cons (cs_set (i := 3) sc__law_event.nd rfl (by first | exact Or.inl rfl | exact Or.inr rfl) (ce_call (sim__law_one X) (hr.mono (by decide)) hg rfl X.g__law_one X.F__law_one.kp X.b__law_one tk (ca_cons (ce_var 0) (ca_cons (ce_op o_add (ce_lst (ca_cons ce_non ca_nil)) (ce_var 1)) ca_nil))))
  (cs_cons (cs_if (PW.pt (cw_or (ct_cmp o_lt (ce_var 2) ce_int) (cw_or1 (ct_cmp (o_eq hr.units) (ce_var 1) (ce_lst ca_nil))))) (cs_one (cs_ret (ce_tup (ca_cons ce_str (ca_cons (ce_call (sim__law_one X) (hr.mono (by decide)) hg rfl X.g__law_one X.F__law_one.kp X.b__law_one tk (ca_cons (ce_var 0) (ca_cons (ce_lst (ca_cons ce_str (ca_cons ce_str ca_nil))) ca_nil))) (ca_cons (ce_var 3) ca_nil)))))) cs_nil)
  (cs_cons (cs_if (ct_cmp o_lt (ce_var 2) ce_int) (cs_one (cs_ret (ce_tup (ca_cons ce_str (ca_cons (ce_call (sim__law_one X) (hr.mono (by decide)) hg rfl X.g__law_one X.F__law_one.kp X.b__law_one tk (ca_cons (ce_var 0) (ca_cons (ce_var 1) ca_nil))) (ca_cons (ce_call (sim__law_one X) (hr.mono (by decide)) hg rfl X.g__law_one X.F__law_one.kp X.b__law_one tk (ca_cons (ce_var 0) (ca_cons (ce_lst (ca_cons ce_str (ca_cons ce_str ca_nil))) ca_nil))) (ca_cons (ce_var 3) ca_nil))))))) cs_nil)
  (cs_cons (cs_if (PW.pt (cw_and (ct_cmp (o_eq hr.units) (ce_var 2) ce_int) (cw_and1 (ct_cmp (o_eq hr.units) (ce_call (sim__law_draw X) (hr.mono (by decide)) hg rfl X.g__law_draw X.F__law_draw.kp X.b__law_draw tk (ca_cons (ce_var 0) (ca_cons ce_int ca_nil))) ce_int)))) (cs_one (cs_ret (ce_tup (ca_cons ce_str (ca_cons (ce_call (sim__law_one X) (hr.mono (by decide)) hg rfl X.g__law_one X.F__law_one.kp X.b__law_one tk (ca_cons (ce_var 0) (ca_cons (ce_var 1) ca_nil))) ca_nil))))) cs_nil)
  (cs_one (cs_ret (ce_tup (ca_cons ce_str (ca_cons (ce_call (sim__law_one X) (hr.mono (by decide)) hg rfl X.g__law_one X.F__law_one.kp X.b__law_one tk (ca_cons (ce_var 0) (ca_cons (ce_var 1) ca_nil))) ca_nil))))))))))
theorem sc__law_story : FnScope ["_law_deck_here", "_law_most", "_law_items", "_law_moment", "_law_story_here", "_law_cells", "_law_item", "_law_turn"] ["_law_deck_here", "_law_most", "_law_items"] (defScope st__law_story) := ⟨rfl, rfl, rfl, by decide +kernel, rfl, by decide +kernel, by decide +kernel⟩
theorem sim__law_story {P : Program} {w : World} {K : PySem.W.Frag} {mg : Str → Option Value} {base : Heap} (X : TX K mg) : FnG P w K mg base 4 X.f__law_story X.d__law_story ["_law_deck_here", "_law_most", "_law_items"] (SpM (X.T w) 3 m__law_story) := by
  refine fn_sim (k := 3) (N := ["_law_deck_here", "_law_most", "_law_items", "_law_moment", "_law_story_here", "_law_cells", "_law_item", "_law_turn"]) (T := X.T w) (b := b__law_story) X.F__law_story sc__law_story rfl fun cdv A outer s H E hr hg => ?_
  have tk := takes_of (X := cxOf (L2.CX P w) P w K mg base ["_law_deck_here", "_law_most", "_law_items", "_law_moment", "_law_story_here", "_law_cells", "_law_item", "_law_turn"] "_law_story" (defScope st__law_story) X.f__law_story cdv A outer s H E) (E := E) rfl rfl rfl rfl
  unfold b__law_story
  exact (cs_cons (cs_par (i := 4) (j := 5) rfl sc__law_story.nd rfl rfl (by decide) rfl rfl (ca_cons (ce_lst ca_nil) (ca_cons (ce_lst ca_nil) ca_nil)) (by rfl))
  (cs_cons (cs_forX (passes_of rfl) rfl (ci_rng1 rfl X.n_range (ca_cons (ce_var 2) ca_nil)) (cg_name (n := 3) sc__law_story.nd rfl (by first | exact Or.inl rfl | exact Or.inr rfl))
  (cs_cons (cs_set (i := 6) sc__law_story.nd rfl (by first | exact Or.inl rfl | exact Or.inr rfl) (ce_lst ca_nil))
  (cs_cons (cs_forX (passes_of rfl) rfl (ci_rng1 rfl X.n_range (ca_cons (ce_call (sim__law_draw X) (hr.mono (by decide)) hg rfl X.g__law_draw X.F__law_draw.kp X.b__law_draw tk (ca_cons (ce_var 0) (ca_cons ce_int ca_nil))) ca_nil)) (cg_name (n := 7) sc__law_story.nd rfl (by first | exact Or.inl rfl | exact Or.inr rfl))
  (cs_one (cs_expr (ce_bm (t := .list) PySem.F.plainAttrs_list PySem.F.slot_list_append PySem.F.type_list_append m_append (ce_var 6) (ca_cons (ce_call (sim__law_event X) (hr.mono (by decide)) hg rfl X.g__law_event X.F__law_event.kp X.b__law_event tk (ca_cons (ce_var 0) (ca_cons (ce_callTy (c_list) rfl X.n_list (by decide +kernel) (ca_cons (ce_var 5) ca_nil)) ca_nil))) ca_nil)))))
  (cs_cons (cs_if (PW.pt (cw_and (ct_cmp o_lt (ce_callB (c_len) rfl X.n_len (by decide +kernel) (ca_cons (ce_var 5) ca_nil)) (ce_var 1)) (cw_and1 (ct_cmp (o_eq hr.units) (ce_call (sim__law_draw X) (hr.mono (by decide)) hg rfl X.g__law_draw X.F__law_draw.kp X.b__law_draw tk (ca_cons (ce_var 0) (ca_cons ce_int ca_nil))) ce_int)))) (cs_cons (cs_expr (ce_bm (t := .list) PySem.F.plainAttrs_list PySem.F.slot_list_append PySem.F.type_list_append m_append (ce_var 6) (ca_cons (ce_tup (ca_cons ce_str (ca_cons (ce_callB (c_len) rfl X.n_len (by decide +kernel) (ca_cons (ce_var 5) ca_nil)) ca_nil))) ca_nil)))
  (cs_cons (cs_expr (ce_bm (t := .list) PySem.F.plainAttrs_list PySem.F.slot_list_append PySem.F.type_list_append m_append (ce_var 5) (ca_cons (ce_callB (c_len) rfl X.n_len (by decide +kernel) (ca_cons (ce_var 5) ca_nil)) ca_nil)))
  (cs_one (cs_if (ct_cmp o_gt (ce_call (sim__law_draw X) (hr.mono (by decide)) hg rfl X.g__law_draw X.F__law_draw.kp X.b__law_draw tk (ca_cons (ce_var 0) (ca_cons ce_int ca_nil))) ce_int) (cs_one (cs_expr (ce_bm (t := .list) PySem.F.plainAttrs_list PySem.F.slot_list_append PySem.F.type_list_append m_append (ce_var 6) (ca_cons (ce_tup (ca_cons ce_str (ca_cons (ce_call (sim__law_one X) (hr.mono (by decide)) hg rfl X.g__law_one X.F__law_one.kp X.b__law_one tk (ca_cons (ce_var 0) (ca_cons (ce_lst (ca_cons ce_str (ca_cons ce_str ca_nil))) ca_nil))) (ca_cons (ce_ix (o_ix (hu_of hr)) (ce_var 5) (ce_un o_neg ce_int)) ca_nil)))) ca_nil)))) cs_nil)))) cs_nil)
  (cs_one (cs_expr (ce_bm (t := .list) PySem.F.plainAttrs_list PySem.F.slot_list_append PySem.F.type_list_append m_append (ce_var 4) (ca_cons (ce_callTy (c_tuple) rfl X.n_tuple (by decide +kernel) (ca_cons (ce_var 6) ca_nil)) ca_nil))))))))
  (cs_one (cs_ret (ce_callTy (c_tuple) rfl X.n_tuple (by decide +kernel) (ca_cons (ce_var 4) ca_nil))))))
theorem sc__law_heap : FnScope ["_law_story_here", "_law_moment", "_law_item", "_law_held", "_law_fields", "_law_standing", "_law_kept", "_law_event_here", "_law_row", "_law_cell"] ["_law_story_here", "_law_moment"] (defScope st__law_heap) := ⟨rfl, rfl, rfl, by decide +kernel, rfl, by decide +kernel, by decide +kernel⟩
theorem sim__law_heap {P : Program} {w : World} {K : PySem.W.Frag} {mg : Str → Option Value} {base : Heap} (X : TX K mg) : FnG P w K mg base 1 X.f__law_heap X.d__law_heap ["_law_story_here", "_law_moment"] (SpM (X.T w) 2 m__law_heap) := by
  refine fn_sim (k := 0) (N := ["_law_story_here", "_law_moment", "_law_item", "_law_held", "_law_fields", "_law_standing", "_law_kept", "_law_event_here", "_law_row", "_law_cell"]) (T := X.T w) (b := b__law_heap) X.F__law_heap sc__law_heap rfl fun cdv A outer s H E hr hg => ?_
  have tk := takes_of (X := cxOf (L2.CX P w) P w K mg base ["_law_story_here", "_law_moment", "_law_item", "_law_held", "_law_fields", "_law_standing", "_law_kept", "_law_event_here", "_law_row", "_law_cell"] "_law_heap" (defScope st__law_heap) X.f__law_heap cdv A outer s H E) (E := E) rfl rfl rfl rfl
  unfold b__law_heap
  exact (cs_cons (cs_par3 (i := 4) (j := 5) (l := 6) rfl sc__law_heap.nd rfl rfl rfl (by decide) (by decide) (by decide) rfl rfl rfl (ca_cons (ce_lst ca_nil) (ca_cons ce_dict0 (ca_cons (ce_lst ca_nil) ca_nil))) (by rfl))
  (cs_cons (cs_forX (passes_of rfl) rfl (ci_tup (ce_slice o_sl (ce_var 0) co_none (co_some (ce_var 1)))) (cg_name (n := 2) sc__law_heap.nd rfl (by first | exact Or.inl rfl | exact Or.inr rfl))
  (cs_one (cs_forX (passes_of rfl) rfl (ci_tup (ce_var 2)) (cg_name (n := 7) sc__law_heap.nd rfl (by first | exact Or.inl rfl | exact Or.inr rfl))
  (cs_cons (cs_if (ct_cmp (o_eq hr.units) (ce_ix (o_ix (hu_of hr)) (ce_var 7) ce_int) ce_str) (cs_one (cs_expr (ce_bm (t := .list) PySem.F.plainAttrs_list PySem.F.slot_list_append PySem.F.type_list_append m_append (ce_var 4) (ca_cons ce_dict0 ca_nil)))) cs_nil)
  (cs_cons (cs_if (ct_cmp (o_eq hr.units) (ce_ix (o_ix (hu_of hr)) (ce_var 7) ce_int) ce_str) (cs_one (cs_asg (ce_ix (o_ix (hu_of hr)) (ce_var 7) ce_int) (cg_sub (ce_var 5) (ce_ix (o_ix (hu_of hr)) (ce_var 7) ce_int) (p_set (hu_of hr)) (pg_sub (ce_var 5) (ce_ix (o_ix (hu_of hr)) (ce_var 7) ce_int) (p_set (hu_of hr)))))) cs_nil)
  (cs_cons (cs_if (ct_cmp (o_eq hr.units) (ce_ix (o_ix (hu_of hr)) (ce_var 7) ce_int) ce_str) (cs_one (cs_expr (ce_bm (t := .list) PySem.F.plainAttrs_list PySem.F.slot_list_append PySem.F.type_list_append m_append (ce_var 6) (ca_cons (ce_ix (o_ix (hu_of hr)) (ce_var 7) ce_int) ca_nil)))) cs_nil)
  (cs_one (cs_if (ct_cmp (o_eq hr.units) (ce_ix (o_ix (hu_of hr)) (ce_var 7) ce_int) ce_str) (cs_one (cs_asg (ce_ix (o_ix (hu_of hr)) (ce_var 7) ce_int) (cg_sub (ce_ix (o_ix (hu_of hr)) (ce_var 4) (ce_ix (o_ix (hu_of hr)) (ce_var 7) ce_int)) (ce_ix (o_ix (hu_of hr)) (ce_var 7) ce_int) (p_set (hu_of hr)) (pg_sub (ce_ix (o_ix (hu_of hr)) (ce_var 4) (ce_ix (o_ix (hu_of hr)) (ce_var 7) ce_int)) (ce_ix (o_ix (hu_of hr)) (ce_var 7) ce_int) (p_set (hu_of hr)))))) cs_nil))))))))
  (cs_cons (cs_setLc (i := 3) (own := [("_law_row", 8)]) 100000 rfl sc__law_heap.nd rfl rfl (sw_true rfl rfl rfl (by kernel_rfl)) (ci_lst (ce_var 4)) (blkOk_by (by kernel_rfl)) (tg_name (List.mem_cons_self ..)) (fun _ _ _ _ _ => pg_name (i := 8) sc__law_heap.nd rfl (Or.inl rfl)) (fun _ _ _ _ _ => cts_nil) (fun _ _ _ _ _ => (ce_lc (own := [("_law_cell", 9)]) 100000 rfl sc__law_heap.nd (ci_lst (ce_listVals rfl rfl X.n_list (ce_var 8))) (blkOk_by (by kernel_rfl)) (tg_name (List.mem_cons_self ..)) (fun _ _ _ _ _ => pg_name (i := 9) sc__law_heap.nd rfl (Or.inl rfl)) (fun _ _ _ _ _ => (cts_one (ct_cmp o_notN (ce_var 9) ce_non))) (fun _ _ _ _ _ => (ce_var 9)))))
  (cs_one (cs_ret (ce_tup (ca_cons (ce_var 3) (ca_cons (ce_op o_add (ce_var 6) (ce_lc (own := [("_law_cell", 9)]) 100000 rfl sc__law_heap.nd (ci_lst (ce_listVals rfl rfl X.n_list (ce_var 5))) (blkOk_by (by kernel_rfl)) (tg_name (List.mem_cons_self ..)) (fun _ _ _ _ _ => pg_name (i := 9) sc__law_heap.nd rfl (Or.inl rfl)) (fun _ _ _ _ _ => (cts_one (ct_cmp o_notN (ce_var 9) ce_non))) (fun _ _ _ _ _ => (ce_var 9)))) ca_nil))))))))
theorem sc__law_closed : FnScope ["_law_held", "_law_starts", "_law_found", "_law_turn", "_law_more", "_law_cell"] ["_law_held", "_law_starts"] (defScope st__law_closed) := ⟨rfl, rfl, rfl, by decide +kernel, rfl, by decide +kernel, by decide +kernel⟩
theorem sim__law_closed {P : Program} {w : World} {K : PySem.W.Frag} {mg : Str → Option Value} {base : Heap} (X : TX K mg) : FnG P w K mg base 1 X.f__law_closed X.d__law_closed ["_law_held", "_law_starts"] (SpM (X.T w) 2 m__law_closed) := by
  refine fn_sim (k := 0) (N := ["_law_held", "_law_starts", "_law_found", "_law_turn", "_law_more", "_law_cell"]) (T := X.T w) (b := b__law_closed) X.F__law_closed sc__law_closed rfl fun cdv A outer s H E hr hg => ?_
  have tk := takes_of (X := cxOf (L2.CX P w) P w K mg base ["_law_held", "_law_starts", "_law_found", "_law_turn", "_law_more", "_law_cell"] "_law_closed" (defScope st__law_closed) X.f__law_closed cdv A outer s H E) (E := E) rfl rfl rfl rfl
  unfold b__law_closed
  exact (cs_cons (cs_set (i := 2) sc__law_closed.nd rfl (by first | exact Or.inl rfl | exact Or.inr rfl) (ce_callB (c_sortS) rfl X.n_sorted (by decide +kernel) (ca_cons (ce_callTy (c_set) rfl X.n_set (by decide +kernel) (ca_cons (ce_var 1) ca_nil)) ca_nil)))
  (cs_cons (cs_forX (passes_of rfl) rfl (ci_rng1 rfl X.n_range (ca_cons (ce_callB (c_len) rfl X.n_len (by decide +kernel) (ca_cons (ce_var 0) ca_nil)) ca_nil)) (cg_name (n := 3) sc__law_closed.nd rfl (by first | exact Or.inl rfl | exact Or.inr rfl))
  (cs_cons (cs_set (i := 4) sc__law_closed.nd rfl (by first | exact Or.inl rfl | exact Or.inr rfl) (ce_callTy (c_list) rfl X.n_list (by decide +kernel) (ca_cons (ce_var 2) ca_nil)))
  (cs_cons (cs_for 100000 (passes_of rfl) rfl (ci_lst (ce_var 2)) (cg_name (n := 5) sc__law_closed.nd rfl (by first | exact Or.inl rfl | exact Or.inr rfl))
  (cs_one (cs_expr (ce_bm (t := .list) PySem.F.plainAttrs_list PySem.F.slot_list_extend PySem.F.type_list_extend m_extend (ce_var 4) (ca_cons (ce_ix (o_ix (hu_of hr)) (ce_var 0) (ce_var 5)) ca_nil)))))
  (cs_one (cs_set (i := 2) sc__law_closed.nd rfl (by first | exact Or.inl rfl | exact Or.inr rfl) (ce_callB (c_sortS) rfl X.n_sorted (by decide +kernel) (ca_cons (ce_callTy (c_set) rfl X.n_set (by decide +kernel) (ca_cons (ce_var 4) ca_nil)) ca_nil)))))))
  (cs_one (cs_ret (ce_var 2)))))
theorem sc__law_questions : FnScope ["_law_story_here", "_law_found", "_law_moment", "_law_item", "_law_event_here"] ["_law_story_here"] (defScope st__law_questions) := ⟨rfl, rfl, rfl, by decide +kernel, rfl, by decide +kernel, by decide +kernel⟩
theorem sim__law_questions {P : Program} {w : World} {K : PySem.W.Frag} {mg : Str → Option Value} {base : Heap} (X : TX K mg) : FnG P w K mg base 1 X.f__law_questions X.d__law_questions ["_law_story_here"] (SpM (X.T w) 1 m__law_questions) := by
  refine fn_sim (k := 0) (N := ["_law_story_here", "_law_found", "_law_moment", "_law_item", "_law_event_here"]) (T := X.T w) (b := b__law_questions) X.F__law_questions sc__law_questions rfl fun cdv A outer s H E hr hg => ?_
  have tk := takes_of (X := cxOf (L2.CX P w) P w K mg base ["_law_story_here", "_law_found", "_law_moment", "_law_item", "_law_event_here"] "_law_questions" (defScope st__law_questions) X.f__law_questions cdv A outer s H E) (E := E) rfl rfl rfl rfl
  unfold b__law_questions
  exact (cs_cons (cs_set (i := 1) sc__law_questions.nd rfl (by first | exact Or.inl rfl | exact Or.inr rfl) (ce_lst ca_nil))
  (cs_cons (cs_forX (passes_of rfl) rfl (ci_enmT rfl X.n_enumerate (ca_cons (ce_var 0) ca_nil)) (cg_tup (js := [2, 3]) (pg_tup rfl (pgs_cons (pg_name (i := 2) sc__law_questions.nd rfl (by first | exact Or.inl rfl | exact Or.inr rfl)) (pgs_cons (pg_name (i := 3) sc__law_questions.nd rfl (by first | exact Or.inl rfl | exact Or.inr rfl)) pgs_nil))))
  (cs_one (cs_expr (ce_bm (t := .list) PySem.F.plainAttrs_list PySem.F.slot_list_extend PySem.F.type_list_extend m_extend (ce_var 1) (ca_cons (ce_lcX (own := [("_law_event_here", 4)]) rfl sc__law_questions.nd (ci_tup (ce_var 3)) (blkOk_by (by kernel_rfl)) (tg_name (List.mem_cons_self ..)) (fun _ _ _ _ _ => pg_name (i := 4) sc__law_questions.nd rfl (Or.inl rfl)) (fun _ _ _ _ _ => (cts_one (ct_cmp (o_eq hr.units) (ce_ix (o_ix (hu_of hr)) (ce_var 4) ce_int) ce_str))) (fun _ _ _ _ _ => (ce_tup (ca_cons (ce_var 2) (ca_cons (ce_ix (o_ix (hu_of hr)) (ce_var 4) ce_int) ca_nil))))) ca_nil)))))
  (cs_one (cs_ret (ce_var 1)))))
theorem sc__law_is_schedule : FnScope ["_law_heaps", "_law_starts", "_law_moment", "_law_reached", "_law_cell", "_law_held", "_law_roots", "_law_other"] ["_law_heaps", "_law_starts"] (defScope st__law_is_schedule) := ⟨rfl, rfl, rfl, by decide +kernel, rfl, by decide +kernel, by decide +kernel⟩
theorem sim__law_is_schedule {P : Program} {w : World} {K : PySem.W.Frag} {mg : Str → Option Value} {base : Heap} (X : TX K mg) : FnG P w K mg base 2 X.f__law_is_schedule X.d__law_is_schedule ["_law_heaps", "_law_starts"] (SpM (X.T w) 2 m__law_is_schedule) := by
  refine fn_sim (k := 1) (N := ["_law_heaps", "_law_starts", "_law_moment", "_law_reached", "_law_cell", "_law_held", "_law_roots", "_law_other"]) (T := X.T w) (b := b__law_is_schedule) X.F__law_is_schedule sc__law_is_schedule rfl fun cdv A outer s H E hr hg => ?_
  have tk := takes_of (X := cxOf (L2.CX P w) P w K mg base ["_law_heaps", "_law_starts", "_law_moment", "_law_reached", "_law_cell", "_law_held", "_law_roots", "_law_other"] "_law_is_schedule" (defScope st__law_is_schedule) X.f__law_is_schedule cdv A outer s H E) (E := E) rfl rfl rfl rfl
  unfold b__law_is_schedule
  exact (cs_cons (cs_for 100000 (passes_of rfl) rfl (ci_enm rfl X.n_enumerate (ca_cons (ce_var 0) ca_nil)) (cg_tups (cgs_cons (W := WF) (cg_name (n := 2) sc__law_is_schedule.nd rfl (by first | exact Or.inl rfl | exact Or.inr rfl)) (cgs_cons (W := WF) (cg_tup (js := [5, 6]) (pg_tup rfl (pgs_cons (pg_name (i := 5) sc__law_is_schedule.nd rfl (by first | exact Or.inl rfl | exact Or.inr rfl)) (pgs_cons (pg_name (i := 6) sc__law_is_schedule.nd rfl (by first | exact Or.inl rfl | exact Or.inr rfl)) pgs_nil)))) cgs_nil)))
  (cs_cons (cs_set (i := 3) sc__law_is_schedule.nd rfl (by first | exact Or.inl rfl | exact Or.inr rfl) (ce_call (sim__law_closed X) (hr.mono (by decide)) hg rfl X.g__law_closed X.F__law_closed.kp X.b__law_closed tk (ca_cons (ce_var 5) (ca_cons (ce_var 6) ca_nil))))
  (cs_one (cs_forX (passes_of rfl) rfl (ci_rng1 rfl X.n_range (ca_cons (ce_callB (c_len) rfl X.n_len (by decide +kernel) (ca_cons (ce_var 5) ca_nil)) ca_nil)) (cg_name (n := 4) sc__law_is_schedule.nd rfl (by first | exact Or.inl rfl | exact Or.inr rfl))
  (cs_cons (cs_if (PW.pt (cw_and (ct_cmp o_le (ce_ix (o_ix (hu_of hr)) (ce_var 1) (ce_var 4)) (ce_var 2)) (cw_and1 (ct_cmp (o_in (hu_of hr)) (ce_var 4) (ce_var 3))))) (cs_one (cs_ret ce_bl)) cs_nil)
  (cs_one (cs_if (PW.pt (cw_and (ct_cmp o_gt (ce_ix (o_ix (hu_of hr)) (ce_var 1) (ce_var 4)) (ce_var 2)) (cw_and1 (ct_val (ce_callB (c_any) rfl X.n_any (by decide +kernel) (ca_cons (ce_lc (own := [("_law_other", 7)]) 100000 rfl sc__law_is_schedule.nd (ci_lst (ce_ix (o_ix (hu_of hr)) (ce_var 5) (ce_var 4))) (blkOk_by (by kernel_rfl)) (tg_name (List.mem_cons_self ..)) (fun _ _ _ _ _ => pg_name (i := 7) sc__law_is_schedule.nd rfl (Or.inl rfl)) (fun _ _ _ _ _ => cts_nil) (fun _ _ _ _ _ => (ce_cmp o_le (ce_ix (o_ix (hu_of hr)) (ce_var 1) (ce_var 7)) (ce_var 2)))) ca_nil)))))) (cs_one (cs_ret ce_bl)) cs_nil)))))))
  (cs_one (cs_ret ce_bl)))
theorem sc__law_schedules : FnScope ["_law_story_here", "_law_cell", "_law_heaps", "_law_rows", "_law_own", "_law_longer", "_law_row", "_law_moment"] ["_law_story_here"] (defScope st__law_schedules) := ⟨rfl, rfl, rfl, by decide +kernel, rfl, by decide +kernel, by decide +kernel⟩
theorem sim__law_schedules {P : Program} {w : World} {K : PySem.W.Frag} {mg : Str → Option Value} {base : Heap} (X : TX K mg) : FnG P w K mg base 3 X.f__law_schedules X.d__law_schedules ["_law_story_here"] (SpM (X.T w) 1 m__law_schedules) := by
  refine fn_sim (k := 2) (N := ["_law_story_here", "_law_cell", "_law_heaps", "_law_rows", "_law_own", "_law_longer", "_law_row", "_law_moment"]) (T := X.T w) (b := b__law_schedules) X.F__law_schedules sc__law_schedules rfl fun cdv A outer s H E hr hg => ?_
  have tk := takes_of (X := cxOf (L2.CX P w) P w K mg base ["_law_story_here", "_law_cell", "_law_heaps", "_law_rows", "_law_own", "_law_longer", "_law_row", "_law_moment"] "_law_schedules" (defScope st__law_schedules) X.f__law_schedules cdv A outer s H E) (E := E) rfl rfl rfl rfl
  unfold b__law_schedules
  exact (cs_cons (cs_asg (ce_tup (ca_cons (ce_lcX (own := [("_law_moment", 7)]) rfl sc__law_schedules.nd (ci_rng1 rfl X.n_range (ca_cons (ce_callB (c_len) rfl X.n_len (by decide +kernel) (ca_cons (ce_var 0) ca_nil)) ca_nil)) (blkOk_by (by kernel_rfl)) (tg_name (List.mem_cons_self ..)) (fun _ _ _ _ _ => pg_name (i := 7) sc__law_schedules.nd rfl (Or.inl rfl)) (fun _ _ _ _ _ => cts_nil) (fun _ _ _ _ _ => (ce_call (sim__law_heap X) (hr.mono (by decide)) hg rfl X.g__law_heap X.F__law_heap.kp X.b__law_heap takes0 (ca_cons (ce_var 0) (ca_cons (ce_var 7) ca_nil))))) (ca_cons (ce_lst (ca_cons (ce_lst ca_nil) ca_nil)) ca_nil))) (cg_tup (js := [2, 3]) (pg_tup rfl (pgs_cons (pg_name (i := 2) sc__law_schedules.nd rfl (by first | exact Or.inl rfl | exact Or.inr rfl)) (pgs_cons (pg_name (i := 3) sc__law_schedules.nd rfl (by first | exact Or.inl rfl | exact Or.inr rfl)) pgs_nil)))))
  (cs_cons (cs_forX (passes_of rfl) rfl (ci_rng1 rfl X.n_range (ca_cons (ce_callB (c_len) rfl X.n_len (by decide +kernel) (ca_cons (ce_ix (o_ix (hu_of hr)) (ce_call (sim__law_heap X) (hr.mono (by decide)) hg rfl X.g__law_heap X.F__law_heap.kp X.b__law_heap tk (ca_cons (ce_var 0) (ca_cons (ce_callB (c_len) rfl X.n_len (by decide +kernel) (ca_cons (ce_var 0) ca_nil)) ca_nil))) ce_int) ca_nil)) ca_nil)) (cg_name (n := 1) sc__law_schedules.nd rfl (by first | exact Or.inl rfl | exact Or.inr rfl))
  (cs_cons (cs_set (i := 4) sc__law_schedules.nd rfl (by first | exact Or.inl rfl | exact Or.inr rfl) (ce_op o_add (ce_lcX (own := [("_law_moment", 7)]) rfl sc__law_schedules.nd (ci_rng1 rfl X.n_range (ca_cons (ce_callB (c_len) rfl X.n_len (by decide +kernel) (ca_cons (ce_var 0) ca_nil)) ca_nil)) (blkOk_by (by kernel_rfl)) (tg_name (List.mem_cons_self ..)) (fun _ _ _ _ _ => pg_name (i := 7) sc__law_schedules.nd rfl (Or.inl rfl)) (fun _ _ _ _ _ => (cts_one (ct_cmp o_lt (ce_var 1) (ce_callB (c_len) rfl X.n_len (by decide +kernel) (ca_cons (ce_ix (o_ix (hu_of hr)) (ce_ix (o_ix (hu_of hr)) (ce_var 2) (ce_var 7)) ce_int) ca_nil))))) (fun _ _ _ _ _ => (ce_var 7))) (ce_lst (ca_cons (ce_callB (c_len) rfl X.n_len (by decide +kernel) (ca_cons (ce_var 0) ca_nil)) ca_nil))))
  (cs_cons (cs_set (i := 5) sc__law_schedules.nd rfl (by first | exact Or.inl rfl | exact Or.inr rfl) (ce_lst ca_nil))
  (cs_cons (cs_for 100000 (passes_of rfl) rfl (ci_lst (ce_var 3)) (cg_name (n := 6) sc__law_schedules.nd rfl (by first | exact Or.inl rfl | exact Or.inr rfl))
  (cs_one (cs_expr (ce_bm (t := .list) PySem.F.plainAttrs_list PySem.F.slot_list_extend PySem.F.type_list_extend m_extend (ce_var 5) (ca_cons (ce_lc (own := [("_law_moment", 7)]) 100000 rfl sc__law_schedules.nd (ci_lst (ce_var 4)) (blkOk_by (by kernel_rfl)) (tg_name (List.mem_cons_self ..)) (fun _ _ _ _ _ => pg_name (i := 7) sc__law_schedules.nd rfl (Or.inl rfl)) (fun _ _ _ _ _ => cts_nil) (fun _ _ _ _ _ => (ce_op o_add (ce_var 6) (ce_lst (ca_cons (ce_var 7) ca_nil))))) ca_nil)))))
  (cs_one (cs_set (i := 3) sc__law_schedules.nd rfl (by first | exact Or.inl rfl | exact Or.inr rfl) (ce_var 5)))))))
  (cs_one (cs_ret (ce_lc (own := [("_law_row", 6)]) 100000 rfl sc__law_schedules.nd (ci_lst (ce_var 3)) (blkOk_by (by kernel_rfl)) (tg_name (List.mem_cons_self ..)) (fun _ _ _ _ _ => pg_name (i := 6) sc__law_schedules.nd rfl (Or.inl rfl)) (fun _ _ _ _ _ => (cts_one (ct_val (ce_call (sim__law_is_schedule X) (hr.mono (by decide)) hg rfl X.g__law_is_schedule X.F__law_is_schedule.kp X.b__law_is_schedule takes0 (ca_cons (ce_var 2) (ca_cons (ce_var 6) ca_nil)))))) (fun _ _ _ _ _ => (ce_var 6)))))))
theorem sc__law_agreeing : FnScope ["_law_story_here", "_law_rows", "_law_answers", "_law_asked", "_law_number", "_law_answer", "_law_moment", "_law_cell", "_law_row"] ["_law_story_here", "_law_rows", "_law_answers"] (defScope st__law_agreeing) := ⟨rfl, rfl, rfl, by decide +kernel, rfl, by decide +kernel, by decide +kernel⟩
theorem sim__law_agreeing {P : Program} {w : World} {K : PySem.W.Frag} {mg : Str → Option Value} {base : Heap} (X : TX K mg) : FnG P w K mg base 2 X.f__law_agreeing X.d__law_agreeing ["_law_story_here", "_law_rows", "_law_answers"] (SpM (X.T w) 3 m__law_agreeing) := by
  refine fn_sim (k := 1) (N := ["_law_story_here", "_law_rows", "_law_answers", "_law_asked", "_law_number", "_law_answer", "_law_moment", "_law_cell", "_law_row"]) (T := X.T w) (b := b__law_agreeing) X.F__law_agreeing sc__law_agreeing rfl fun cdv A outer s H E hr hg => ?_
  have tk := takes_of (X := cxOf (L2.CX P w) P w K mg base ["_law_story_here", "_law_rows", "_law_answers", "_law_asked", "_law_number", "_law_answer", "_law_moment", "_law_cell", "_law_row"] "_law_agreeing" (defScope st__law_agreeing) X.f__law_agreeing cdv A outer s H E) (E := E) rfl rfl rfl rfl
  unfold b__law_agreeing
  exact (cs_cons (cs_set (i := 3) sc__law_agreeing.nd rfl (by first | exact Or.inl rfl | exact Or.inr rfl) (ce_call (sim__law_questions X) (hr.mono (by decide)) hg rfl X.g__law_questions X.F__law_questions.kp X.b__law_questions tk (ca_cons (ce_var 0) ca_nil)))
  (cs_cons (cs_forX (passes_of rfl) rfl (ci_enmT rfl X.n_enumerate (ca_cons (ce_var 2) ca_nil)) (cg_tup (js := [4, 5]) (pg_tup rfl (pgs_cons (pg_name (i := 4) sc__law_agreeing.nd rfl (by first | exact Or.inl rfl | exact Or.inr rfl)) (pgs_cons (pg_name (i := 5) sc__law_agreeing.nd rfl (by first | exact Or.inl rfl | exact Or.inr rfl)) pgs_nil))))
  (cs_cons (cs_asg (ce_ix (o_ix (hu_of hr)) (ce_var 3) (ce_var 4)) (cg_tup (js := [6, 7]) (pg_tup rfl (pgs_cons (pg_name (i := 6) sc__law_agreeing.nd rfl (by first | exact Or.inl rfl | exact Or.inr rfl)) (pgs_cons (pg_name (i := 7) sc__law_agreeing.nd rfl (by first | exact Or.inl rfl | exact Or.inr rfl)) pgs_nil)))))
  (cs_one (cs_setLc (i := 1) (own := [("_law_row", 8)]) 100000 rfl sc__law_agreeing.nd rfl rfl (sw_true rfl rfl rfl (by kernel_rfl)) (ci_lst (ce_var 1)) (blkOk_by (by kernel_rfl)) (tg_name (List.mem_cons_self ..)) (fun _ _ _ _ _ => pg_name (i := 8) sc__law_agreeing.nd rfl (Or.inl rfl)) (fun _ _ _ _ _ => (cts_one (ct_cmp (o_eq hr.units) (ce_cmp o_le (ce_ix (o_ix (hu_of hr)) (ce_var 8) (ce_var 7)) (ce_var 6)) (ce_cmp (o_eq hr.units) (ce_var 5) ce_int)))) (fun _ _ _ _ _ => (ce_var 8))))))
  (cs_one (cs_ret (ce_var 1)))))
theorem sc__law_fates_right : FnScope ["_law_facts", "_law_story_here", "_law_rows", "_law_many", "_law_cell", "_law_starts", "_law_due", "_law_moment", "_law_gone", "_law_row", "_law_start"] ["_law_facts", "_law_story_here", "_law_rows"] (defScope st__law_fates_right) := ⟨rfl, rfl, rfl, by decide +kernel, rfl, by decide +kernel, by decide +kernel⟩
theorem sim__law_fates_right {P : Program} {w : World} {K : PySem.W.Frag} {mg : Str → Option Value} {base : Heap} (X : TX K mg) : FnG P w K mg base 2 X.f__law_fates_right X.d__law_fates_right ["_law_facts", "_law_story_here", "_law_rows"] (SpM (X.T w) 3 m__law_fates_right) := by
  refine fn_sim (k := 1) (N := ["_law_facts", "_law_story_here", "_law_rows", "_law_many", "_law_cell", "_law_starts", "_law_due", "_law_moment", "_law_gone", "_law_row", "_law_start"]) (T := X.T w) (b := b__law_fates_right) X.F__law_fates_right sc__law_fates_right rfl fun cdv A outer s H E hr hg => ?_
  have tk := takes_of (X := cxOf (L2.CX P w) P w K mg base ["_law_facts", "_law_story_here", "_law_rows", "_law_many", "_law_cell", "_law_starts", "_law_due", "_law_moment", "_law_gone", "_law_row", "_law_start"] "_law_fates_right" (defScope st__law_fates_right) X.f__law_fates_right cdv A outer s H E) (E := E) rfl rfl rfl rfl
  unfold b__law_fates_right
  exact (cs_cons (cs_set (i := 3) sc__law_fates_right.nd rfl (by first | exact Or.inl rfl | exact Or.inr rfl) (ce_callB (c_len) rfl X.n_len (by decide +kernel) (ca_cons (ce_var 1) ca_nil)))
  (cs_cons (cs_forX (passes_of rfl) rfl (ci_rng1 rfl X.n_range (ca_cons (ce_callB (c_len) rfl X.n_len (by decide +kernel) (ca_cons (ce_ix (o_ix (hu_of hr)) (ce_call (sim__law_heap X) (hr.mono (by decide)) hg rfl X.g__law_heap X.F__law_heap.kp X.b__law_heap tk (ca_cons (ce_var 1) (ca_cons (ce_var 3) ca_nil))) ce_int) ca_nil)) ca_nil)) (cg_name (n := 4) sc__law_fates_right.nd rfl (by first | exact Or.inl rfl | exact Or.inr rfl))
  (cs_cons (cs_setLc (i := 5) (own := [("_law_row", 9)]) 100000 rfl sc__law_fates_right.nd rfl rfl (sw_true rfl rfl rfl (by kernel_rfl)) (ci_lst (ce_var 2)) (blkOk_by (by kernel_rfl)) (tg_name (List.mem_cons_self ..)) (fun _ _ _ _ _ => pg_name (i := 9) sc__law_fates_right.nd rfl (Or.inl rfl)) (fun _ _ _ _ _ => cts_nil) (fun _ _ _ _ _ => (ce_ix (o_ix (hu_of hr)) (ce_var 9) (ce_var 4))))
  (cs_cons (cs_set (i := 6) sc__law_fates_right.nd rfl (by first | exact Or.inl rfl | exact Or.inr rfl) (ce_tup (ca_cons (ce_if (ct_cmp o_lt (ce_callB c_minL rfl X.n_min (by decide +kernel) (ca_cons (ce_var 5) ca_nil)) (ce_var 3)) (ce_callB c_minL rfl X.n_min (by decide +kernel) (ca_cons (ce_var 5) ca_nil)) ce_non) (ca_cons (ce_if (ct_cmp o_lt (ce_callB c_maxL rfl X.n_max (by decide +kernel) (ca_cons (ce_var 5) ca_nil)) (ce_var 3)) (ce_callB c_maxL rfl X.n_max (by decide +kernel) (ca_cons (ce_var 5) ca_nil)) ce_non) ca_nil))))
  (cs_cons (cs_if (ct_cmp (o_ne hr.units) (ce_callB (c_repr hg hr.units) rfl X.n_repr (by decide +kernel) (ca_cons (ce_meth (mo_window X) (hr.mono (by decide)) hg tk (ce_var 0) (ca_cons (ce_var 4) ca_nil)) ca_nil)) (ce_callB (c_repr hg hr.units) rfl X.n_repr (by decide +kernel) (ca_cons (ce_var 6) ca_nil))) (cs_one (cs_ret ce_bl)) cs_nil)
  (cs_one (cs_forX (passes_of rfl) rfl (ci_rng1 rfl X.n_range (ca_cons (ce_var 3) ca_nil)) (cg_name (n := 7) sc__law_fates_right.nd rfl (by first | exact Or.inl rfl | exact Or.inr rfl))
  (cs_one (cs_if (ct_cmp o_lt (ce_var 4) (ce_callB (c_len) rfl X.n_len (by decide +kernel) (ca_cons (ce_ix (o_ix (hu_of hr)) (ce_call (sim__law_heap X) (hr.mono (by decide)) hg rfl X.g__law_heap X.F__law_heap.kp X.b__law_heap tk (ca_cons (ce_var 1) (ca_cons (ce_var 7) ca_nil))) ce_int) ca_nil))) (cs_cons (cs_setLc (i := 8) (own := [("_law_start", 10)]) 100000 rfl sc__law_fates_right.nd rfl rfl (sw_true rfl rfl rfl (by kernel_rfl)) (ci_lst (ce_var 5)) (blkOk_by (by kernel_rfl)) (tg_name (List.mem_cons_self ..)) (fun _ _ _ _ _ => pg_name (i := 10) sc__law_fates_right.nd rfl (Or.inl rfl)) (fun _ _ _ _ _ => cts_nil) (fun _ _ _ _ _ => (ce_cmp o_le (ce_var 10) (ce_var 7))))
  (cs_cons (cs_set (i := 6) sc__law_fates_right.nd rfl (by first | exact Or.inl rfl | exact Or.inr rfl) (ce_if (ct_val (ce_callB (c_all) rfl X.n_all (by decide +kernel) (ca_cons (ce_var 8) ca_nil))) ce_str (ce_if (ct_val (ce_callB (c_any) rfl X.n_any (by decide +kernel) (ca_cons (ce_var 8) ca_nil))) ce_str ce_str)))
  (cs_one (cs_if (ct_cmp (o_ne hr.units) (ce_callB (c_repr hg hr.units) rfl X.n_repr (by decide +kernel) (ca_cons (ce_meth (mo_fate X) (hr.mono (by decide)) hg tk (ce_var 0) (ca_cons (ce_var 4) (ca_cons (ce_var 7) ca_nil))) ca_nil)) (ce_callB (c_repr hg hr.units) rfl X.n_repr (by decide +kernel) (ca_cons (ce_var 6) ca_nil))) (cs_one (cs_ret ce_bl)) cs_nil)))) cs_nil))))))))
  (cs_one (cs_ret ce_bl))))
theorem sc__law_right : FnScope ["_law_deck_here", "_law_story_here", "_law_number", "_law_facts", "_law_rows", "_law_answers", "_law_answer"] ["_law_deck_here", "_law_story_here"] (defScope st__law_right) := ⟨rfl, rfl, rfl, by decide +kernel, rfl, by decide +kernel, by decide +kernel⟩
theorem sim__law_right {P : Program} {w : World} {K : PySem.W.Frag} {mg : Str → Option Value} {base : Heap} (X : TX K mg) : FnG P w K mg base 7 X.f__law_right X.d__law_right ["_law_deck_here", "_law_story_here"] (SpM (X.T w) 2 m__law_right) := by
  refine fn_sim (k := 6) (N := ["_law_deck_here", "_law_story_here", "_law_number", "_law_facts", "_law_rows", "_law_answers", "_law_answer"]) (T := X.T w) (b := b__law_right) X.F__law_right sc__law_right rfl fun cdv A outer s H E hr hg => ?_
  have tk := takes_of (X := cxOf (L2.CX P w) P w K mg base ["_law_deck_here", "_law_story_here", "_law_number", "_law_facts", "_law_rows", "_law_answers", "_law_answer"] "_law_right" (defScope st__law_right) X.f__law_right cdv A outer s H E) (E := E) rfl rfl rfl rfl
  unfold b__law_right
  exact (cs_cons (cs_par3 (i := 3) (j := 4) (l := 5) rfl sc__law_right.nd rfl rfl rfl (by decide) (by decide) (by decide) rfl rfl rfl (ca_cons (ce_makeV X.mk_Facts (fnV_dfl (T := X.T w) (das := [(.tup [])]) (sim_FactsU_initU X) X.b_FactsU_initU_0) (hr.mono (by decide)) hg rfl X.gc_Facts tk rfl (ca_cons (ce_var 1) ca_nil)) (ca_cons (ce_call (sim__law_schedules X) (hr.mono (by decide)) hg rfl X.g__law_schedules X.F__law_schedules.kp X.b__law_schedules tk (ca_cons (ce_var 1) ca_nil)) (ca_cons (ce_tup ca_nil) ca_nil))) (by rfl))
  (cs_cons (cs_if (ct_not (ct_val (ce_call (sim__law_fates_right X) (hr.mono (by decide)) hg rfl X.g__law_fates_right X.F__law_fates_right.kp X.b__law_fates_right tk (ca_cons (ce_var 3) (ca_cons (ce_var 1) (ca_cons (ce_var 4) ca_nil)))))) (cs_one (cs_ret ce_bl)) cs_nil)
  (cs_cons (cs_forX (passes_of rfl) rfl (ci_rng1 rfl X.n_range (ca_cons (ce_callB (c_len) rfl X.n_len (by decide +kernel) (ca_cons (ce_call (sim__law_questions X) (hr.mono (by decide)) hg rfl X.g__law_questions X.F__law_questions.kp X.b__law_questions tk (ca_cons (ce_var 1) ca_nil)) ca_nil)) ca_nil)) (cg_name (n := 2) sc__law_right.nd rfl (by first | exact Or.inl rfl | exact Or.inr rfl))
  (cs_cons (cs_set (i := 6) sc__law_right.nd rfl (by first | exact Or.inl rfl | exact Or.inr rfl) (ce_call (sim__law_draw X) (hr.mono (by decide)) hg rfl X.g__law_draw X.F__law_draw.kp X.b__law_draw tk (ca_cons (ce_var 0) (ca_cons ce_int ca_nil))))
  (cs_cons (cs_if (ct_cmp (o_eq hr.units) (ce_call (sim__law_agreeing X) (hr.mono (by decide)) hg rfl X.g__law_agreeing X.F__law_agreeing.kp X.b__law_agreeing tk (ca_cons (ce_var 1) (ca_cons (ce_var 4) (ca_cons (ce_op o_add (ce_var 5) (ce_tup (ca_cons (ce_var 6) ca_nil))) ca_nil)))) (ce_lst ca_nil)) (cs_one (cs_set (i := 6) sc__law_right.nd rfl (by first | exact Or.inl rfl | exact Or.inr rfl) (ce_op o_sub ce_int (ce_var 6)))) cs_nil)
  (cs_cons (cs_set (i := 5) sc__law_right.nd rfl (by first | exact Or.inl rfl | exact Or.inr rfl) (ce_op o_add (ce_var 5) (ce_tup (ca_cons (ce_var 6) ca_nil))))
  (cs_cons (cs_if (PW.pt (cw_or (ct_cmp (o_ne hr.units) (ce_callB (c_repr hg hr.units) rfl X.n_repr (by decide +kernel) (ca_cons (ce_meth (mo_tell X) (hr.mono (by decide)) hg tk (ce_var 3) (ca_cons (ce_var 6) ca_nil)) ca_nil)) (ce_callB (c_repr hg hr.units) rfl X.n_repr (by decide +kernel) (ca_cons (ce_op o_add (ce_var 2) ce_int) ca_nil))) (cw_or1 (ct_cmp (o_ne hr.units) (ce_callB (c_repr hg hr.units) rfl X.n_repr (by decide +kernel) (ca_cons (ce_fld (X.fo_told w) (ce_var 3)) ca_nil)) (ce_callB (c_repr hg hr.units) rfl X.n_repr (by decide +kernel) (ca_cons (ce_var 5) ca_nil)))))) (cs_one (cs_ret ce_bl)) cs_nil)
  (cs_one (cs_if (ct_not (ct_val (ce_call (sim__law_fates_right X) (hr.mono (by decide)) hg rfl X.g__law_fates_right X.F__law_fates_right.kp X.b__law_fates_right tk (ca_cons (ce_var 3) (ca_cons (ce_var 1) (ca_cons (ce_call (sim__law_agreeing X) (hr.mono (by decide)) hg rfl X.g__law_agreeing X.F__law_agreeing.kp X.b__law_agreeing tk (ca_cons (ce_var 1) (ca_cons (ce_var 4) (ca_cons (ce_var 5) ca_nil)))) ca_nil)))))) (cs_one (cs_ret ce_bl)) cs_nil)))))))
  (cs_one (cs_ret (ce_call (sim__law_fates_right X) (hr.mono (by decide)) hg rfl X.g__law_fates_right X.F__law_fates_right.kp X.b__law_fates_right tk (ca_cons (ce_makeV X.mk_Facts (fnV_dfl (T := X.T w) (das := []) (sim_FactsU_initU X) X.b_FactsU_initU_1) (hr.mono (by decide)) hg rfl X.gc_Facts tk rfl (ca_cons (ce_var 1) (ca_cons (ce_var 5) ca_nil))) (ca_cons (ce_var 1) (ca_cons (ce_call (sim__law_agreeing X) (hr.mono (by decide)) hg rfl X.g__law_agreeing X.F__law_agreeing.kp X.b__law_agreeing tk (ca_cons (ce_var 1) (ca_cons (ce_var 4) (ca_cons (ce_var 5) ca_nil)))) ca_nil)))))))))
theorem sc_law : FnScope ["_law_script", "_law_deck_here", "_law_turn"] ["_law_script"] (defScope st_law) := ⟨rfl, rfl, rfl, by decide +kernel, rfl, by decide +kernel, by decide +kernel⟩
theorem sim_law {P : Program} {w : World} {K : PySem.W.Frag} {mg : Str → Option Value} {base : Heap} (X : TX K mg) : FnG P w K mg base 8 X.f_law X.d_law ["_law_script"] (SpM (X.T w) 1 m_law) := by
  refine fn_sim (k := 7) (N := ["_law_script", "_law_deck_here", "_law_turn"]) (T := X.T w) (b := b_law) X.F_law sc_law rfl fun cdv A outer s H E hr hg => ?_
  have tk := takes_of (X := cxOf (L2.CX P w) P w K mg base ["_law_script", "_law_deck_here", "_law_turn"] "law" (defScope st_law) X.f_law cdv A outer s H E) (E := E) rfl rfl rfl rfl
  unfold b_law
  exact (cs_cons (cs_set (i := 1) sc_law.nd rfl (by first | exact Or.inl rfl | exact Or.inr rfl) (ce_call (sim__law_deck X) (hr.mono (by decide)) hg rfl X.g__law_deck X.F__law_deck.kp X.b__law_deck tk (ca_cons (ce_var 0) ca_nil)))
  (cs_cons (cs_forX (passes_of rfl) rfl (ci_rng1 rfl X.n_range (ca_cons ce_int ca_nil)) (cg_name (n := 2) sc_law.nd rfl (by first | exact Or.inl rfl | exact Or.inr rfl))
  (cs_one (cs_if (ct_not (ct_val (ce_call (sim__law_right X) (hr.mono (by decide)) hg rfl X.g__law_right X.F__law_right.kp X.b__law_right tk (ca_cons (ce_var 1) (ca_cons (ce_call (sim__law_story X) (hr.mono (by decide)) hg rfl X.g__law_story X.F__law_story.kp X.b__law_story tk (ca_cons (ce_var 1) (ca_cons (ce_op o_add ce_int (ce_call (sim__law_draw X) (hr.mono (by decide)) hg rfl X.g__law_draw X.F__law_draw.kp X.b__law_draw tk (ca_cons (ce_var 1) (ca_cons ce_int ca_nil)))) (ca_cons (ce_call (sim__law_draw X) (hr.mono (by decide)) hg rfl X.g__law_draw X.F__law_draw.kp X.b__law_draw tk (ca_cons (ce_var 1) (ca_cons ce_int ca_nil))) ca_nil)))) ca_nil))))) (cs_one (cs_ret ce_bl)) cs_nil)))
  (cs_one (cs_ret ce_bl))))
end K32

namespace K32
open PySem PySem.Spec PyProof.Rows L2 Sm
theorem all_mk {l : PySem.W.OpenLaw} {w : World} {K : PySem.W.Frag} {h : Heap} {mg : Str → Option Value} {fa f_HeapU_initU f_Heap_apply f_Heap_held_lists f_Heap_reached_flags f_holders_of f_moments_of f_questions_of f_BoundsU_initU f_Bounds_copied f_Bounds_keep_there f_Bounds_keep_gone f_Bounds_take_reached f_numbered f_Bounds_chain f_Bounds_clash f_Facts_tell f_FactsU_initU f_Facts_fate f_Facts_window f__law_deck f__law_draw f__law_one f__law_event f__law_story f__law_heap f__law_closed f__law_questions f__law_is_schedule f__law_schedules f__law_agreeing f__law_fates_right f__law_right f_law C_Heap C_Bounds C_Facts dT_FactsU_initU e_FactsU_initU_0 : Addr} (X : K.In h) (G : h.Ns mainGlobals mg) (hfa : mg "law" = some (.ref fa))
    {od_HeapU_initU an_HeapU_initU od_Heap_apply an_Heap_apply od_Heap_held_lists an_Heap_held_lists od_Heap_reached_flags an_Heap_reached_flags od_holders_of an_holders_of od_moments_of an_moments_of od_questions_of an_questions_of od_BoundsU_initU an_BoundsU_initU od_Bounds_copied an_Bounds_copied od_Bounds_keep_there an_Bounds_keep_there od_Bounds_keep_gone an_Bounds_keep_gone od_Bounds_take_reached an_Bounds_take_reached od_numbered an_numbered od_Bounds_chain an_Bounds_chain od_Bounds_clash an_Bounds_clash od_Facts_tell an_Facts_tell od_FactsU_initU an_FactsU_initU odT_FactsU_initU odE_FactsU_initU_0 od_Facts_fate an_Facts_fate od_Facts_window an_Facts_window od__law_deck an__law_deck od__law_draw an__law_draw od__law_one an__law_one od__law_event an__law_event od__law_story an__law_story od__law_heap an__law_heap od__law_closed an__law_closed od__law_questions an__law_questions od__law_is_schedule an__law_is_schedule od__law_schedules an__law_schedules od__law_agreeing an__law_agreeing od__law_fates_right an__law_fates_right od__law_right an__law_right od_law an_law : Option Addr} {sl_HeapU_initU sl_Heap_apply sl_Heap_held_lists sl_Heap_reached_flags sl_holders_of sl_moments_of sl_questions_of sl_BoundsU_initU sl_Bounds_copied sl_Bounds_keep_there sl_Bounds_keep_gone sl_Bounds_take_reached sl_numbered sl_Bounds_chain sl_Bounds_clash sl_Facts_tell sl_FactsU_initU slT_FactsU_initU slE_FactsU_initU_0 sl_Facts_fate sl_Facts_window sl__law_deck sl__law_draw sl__law_one sl__law_event sl__law_story sl__law_heap sl__law_closed sl__law_questions sl__law_is_schedule sl__law_schedules sl__law_agreeing sl__law_fates_right sl__law_right sl_law : Array (Option Value)} {oc_HeapU_initU kV_HeapU_initU dc_HeapU_initU pm_HeapU_initU cd_HeapU_initU ct_HeapU_initU oc_Heap_apply kV_Heap_apply dc_Heap_apply pm_Heap_apply cd_Heap_apply ct_Heap_apply oc_Heap_held_lists kV_Heap_held_lists dc_Heap_held_lists pm_Heap_held_lists cd_Heap_held_lists ct_Heap_held_lists oc_Heap_reached_flags kV_Heap_reached_flags dc_Heap_reached_flags pm_Heap_reached_flags cd_Heap_reached_flags ct_Heap_reached_flags oc_holders_of kV_holders_of dc_holders_of pm_holders_of cd_holders_of ct_holders_of oc_moments_of kV_moments_of dc_moments_of pm_moments_of cd_moments_of ct_moments_of oc_questions_of kV_questions_of dc_questions_of pm_questions_of cd_questions_of ct_questions_of oc_BoundsU_initU kV_BoundsU_initU dc_BoundsU_initU pm_BoundsU_initU cd_BoundsU_initU ct_BoundsU_initU oc_Bounds_copied kV_Bounds_copied dc_Bounds_copied pm_Bounds_copied cd_Bounds_copied ct_Bounds_copied oc_Bounds_keep_there kV_Bounds_keep_there dc_Bounds_keep_there pm_Bounds_keep_there cd_Bounds_keep_there ct_Bounds_keep_there oc_Bounds_keep_gone kV_Bounds_keep_gone dc_Bounds_keep_gone pm_Bounds_keep_gone cd_Bounds_keep_gone ct_Bounds_keep_gone oc_Bounds_take_reached kV_Bounds_take_reached dc_Bounds_take_reached pm_Bounds_take_reached cd_Bounds_take_reached ct_Bounds_take_reached oc_numbered kV_numbered dc_numbered pm_numbered cd_numbered ct_numbered oc_Bounds_chain kV_Bounds_chain dc_Bounds_chain pm_Bounds_chain cd_Bounds_chain ct_Bounds_chain oc_Bounds_clash kV_Bounds_clash dc_Bounds_clash pm_Bounds_clash cd_Bounds_clash ct_Bounds_clash oc_Facts_tell kV_Facts_tell dc_Facts_tell pm_Facts_tell cd_Facts_tell ct_Facts_tell oc_FactsU_initU kV_FactsU_initU dc_FactsU_initU pm_FactsU_initU cd_FactsU_initU ct_FactsU_initU ocT_FactsU_initU oc_Facts_fate kV_Facts_fate dc_Facts_fate pm_Facts_fate cd_Facts_fate ct_Facts_fate oc_Facts_window kV_Facts_window dc_Facts_window pm_Facts_window cd_Facts_window ct_Facts_window oc__law_deck kV__law_deck dc__law_deck pm__law_deck cd__law_deck ct__law_deck oc__law_draw kV__law_draw dc__law_draw pm__law_draw cd__law_draw ct__law_draw oc__law_one kV__law_one dc__law_one pm__law_one cd__law_one ct__law_one oc__law_event kV__law_event dc__law_event pm__law_event cd__law_event ct__law_event oc__law_story kV__law_story dc__law_story pm__law_story cd__law_story ct__law_story oc__law_heap kV__law_heap dc__law_heap pm__law_heap cd__law_heap ct__law_heap oc__law_closed kV__law_closed dc__law_closed pm__law_closed cd__law_closed ct__law_closed oc__law_questions kV__law_questions dc__law_questions pm__law_questions cd__law_questions ct__law_questions oc__law_is_schedule kV__law_is_schedule dc__law_is_schedule pm__law_is_schedule cd__law_is_schedule ct__law_is_schedule oc__law_schedules kV__law_schedules dc__law_schedules pm__law_schedules cd__law_schedules ct__law_schedules oc__law_agreeing kV__law_agreeing dc__law_agreeing pm__law_agreeing cd__law_agreeing ct__law_agreeing oc__law_fates_right kV__law_fates_right dc__law_fates_right pm__law_fates_right cd__law_fates_right ct__law_fates_right oc__law_right kV__law_right dc__law_right pm__law_right cd__law_right ct__law_right oc_law kV_law dc_law pm_law cd_law ct_law : Value} {nT_FactsU_initU nE_FactsU_initU_0 : Nat}
    (aC_Heap : PySem.W.nsIn K mainGlobals "Heap" = some (some (.ref C_Heap)))
    (aC_Bounds : PySem.W.nsIn K mainGlobals "Bounds" = some (some (.ref C_Bounds)))
    (aC_Facts : PySem.W.nsIn K mainGlobals "Facts" = some (some (.ref C_Facts)))
    (a_holders_of : PySem.W.nsIn K mainGlobals "holders_of" = some (some (.ref f_holders_of)))
    (a_moments_of : PySem.W.nsIn K mainGlobals "moments_of" = some (some (.ref f_moments_of)))
    (a_questions_of : PySem.W.nsIn K mainGlobals "questions_of" = some (some (.ref f_questions_of)))
    (a_numbered : PySem.W.nsIn K mainGlobals "numbered" = some (some (.ref f_numbered)))
    (a__law_deck : PySem.W.nsIn K mainGlobals "_law_deck" = some (some (.ref f__law_deck)))
    (a__law_draw : PySem.W.nsIn K mainGlobals "_law_draw" = some (some (.ref f__law_draw)))
    (a__law_one : PySem.W.nsIn K mainGlobals "_law_one" = some (some (.ref f__law_one)))
    (a__law_event : PySem.W.nsIn K mainGlobals "_law_event" = some (some (.ref f__law_event)))
    (a__law_story : PySem.W.nsIn K mainGlobals "_law_story" = some (some (.ref f__law_story)))
    (a__law_heap : PySem.W.nsIn K mainGlobals "_law_heap" = some (some (.ref f__law_heap)))
    (a__law_closed : PySem.W.nsIn K mainGlobals "_law_closed" = some (some (.ref f__law_closed)))
    (a__law_questions : PySem.W.nsIn K mainGlobals "_law_questions" = some (some (.ref f__law_questions)))
    (a__law_is_schedule : PySem.W.nsIn K mainGlobals "_law_is_schedule" = some (some (.ref f__law_is_schedule)))
    (a__law_schedules : PySem.W.nsIn K mainGlobals "_law_schedules" = some (some (.ref f__law_schedules)))
    (a__law_agreeing : PySem.W.nsIn K mainGlobals "_law_agreeing" = some (some (.ref f__law_agreeing)))
    (a__law_fates_right : PySem.W.nsIn K mainGlobals "_law_fates_right" = some (some (.ref f__law_fates_right)))
    (a__law_right : PySem.W.nsIn K mainGlobals "_law_right" = some (some (.ref f__law_right)))
    (a_law : PySem.W.nsIn K mainGlobals "law" = some (some (.ref f_law)))
    (in_Heap : PySem.W.findIn K (.ref C_Heap) "__init__" = some (some (.ref f_HeapU_initU)))
    (ma_Heap_apply : PySem.W.findIn K (.ref C_Heap) "apply" = some (some (.ref f_Heap_apply)))
    (ma_Heap_held_lists : PySem.W.findIn K (.ref C_Heap) "held_lists" = some (some (.ref f_Heap_held_lists)))
    (ma_Heap_reached_flags : PySem.W.findIn K (.ref C_Heap) "reached_flags" = some (some (.ref f_Heap_reached_flags)))
    (in_Bounds : PySem.W.findIn K (.ref C_Bounds) "__init__" = some (some (.ref f_BoundsU_initU)))
    (ma_Bounds_chain : PySem.W.findIn K (.ref C_Bounds) "chain" = some (some (.ref f_Bounds_chain)))
    (ma_Bounds_clash : PySem.W.findIn K (.ref C_Bounds) "clash" = some (some (.ref f_Bounds_clash)))
    (ma_Bounds_copied : PySem.W.findIn K (.ref C_Bounds) "copied" = some (some (.ref f_Bounds_copied)))
    (ma_Bounds_keep_gone : PySem.W.findIn K (.ref C_Bounds) "keep_gone" = some (some (.ref f_Bounds_keep_gone)))
    (ma_Bounds_keep_there : PySem.W.findIn K (.ref C_Bounds) "keep_there" = some (some (.ref f_Bounds_keep_there)))
    (ma_Bounds_take_reached : PySem.W.findIn K (.ref C_Bounds) "take_reached" = some (some (.ref f_Bounds_take_reached)))
    (in_Facts : PySem.W.findIn K (.ref C_Facts) "__init__" = some (some (.ref f_FactsU_initU)))
    (ma_Facts_fate : PySem.W.findIn K (.ref C_Facts) "fate" = some (some (.ref f_Facts_fate)))
    (ma_Facts_tell : PySem.W.findIn K (.ref C_Facts) "tell" = some (some (.ref f_Facts_tell)))
    (ma_Facts_window : PySem.W.findIn K (.ref C_Facts) "window" = some (some (.ref f_Facts_window)))
    (l_HeapU_initU : K.lookup f_HeapU_initU = some ⟨oc_HeapU_initU, od_HeapU_initU, .func (PySem.W.fnOf "__init__" "Heap.__init__" (defArgs st_HeapU_initU) (defBody st_HeapU_initU) (defScope st_HeapU_initU) .none kV_HeapU_initU dc_HeapU_initU pm_HeapU_initU an_HeapU_initU cd_HeapU_initU ct_HeapU_initU), sl_HeapU_initU⟩)
    (c_HeapU_initU : PySem.W.codeIn K cd_HeapU_initU "Heap.__init__" = true)
    (k_HeapU_initU : PySem.W.keepIn K (.ref f_HeapU_initU) = true)
    (l_Heap_apply : K.lookup f_Heap_apply = some ⟨oc_Heap_apply, od_Heap_apply, .func (PySem.W.fnOf "apply" "Heap.apply" (defArgs st_Heap_apply) (defBody st_Heap_apply) (defScope st_Heap_apply) .none kV_Heap_apply dc_Heap_apply pm_Heap_apply an_Heap_apply cd_Heap_apply ct_Heap_apply), sl_Heap_apply⟩)
    (c_Heap_apply : PySem.W.codeIn K cd_Heap_apply "Heap.apply" = true)
    (k_Heap_apply : PySem.W.keepIn K (.ref f_Heap_apply) = true)
    (l_Heap_held_lists : K.lookup f_Heap_held_lists = some ⟨oc_Heap_held_lists, od_Heap_held_lists, .func (PySem.W.fnOf "held_lists" "Heap.held_lists" (defArgs st_Heap_held_lists) (defBody st_Heap_held_lists) (defScope st_Heap_held_lists) .none kV_Heap_held_lists dc_Heap_held_lists pm_Heap_held_lists an_Heap_held_lists cd_Heap_held_lists ct_Heap_held_lists), sl_Heap_held_lists⟩)
    (c_Heap_held_lists : PySem.W.codeIn K cd_Heap_held_lists "Heap.held_lists" = true)
    (k_Heap_held_lists : PySem.W.keepIn K (.ref f_Heap_held_lists) = true)
    (l_Heap_reached_flags : K.lookup f_Heap_reached_flags = some ⟨oc_Heap_reached_flags, od_Heap_reached_flags, .func (PySem.W.fnOf "reached_flags" "Heap.reached_flags" (defArgs st_Heap_reached_flags) (defBody st_Heap_reached_flags) (defScope st_Heap_reached_flags) .none kV_Heap_reached_flags dc_Heap_reached_flags pm_Heap_reached_flags an_Heap_reached_flags cd_Heap_reached_flags ct_Heap_reached_flags), sl_Heap_reached_flags⟩)
    (c_Heap_reached_flags : PySem.W.codeIn K cd_Heap_reached_flags "Heap.reached_flags" = true)
    (k_Heap_reached_flags : PySem.W.keepIn K (.ref f_Heap_reached_flags) = true)
    (l_holders_of : K.lookup f_holders_of = some ⟨oc_holders_of, od_holders_of, .func (PySem.W.fnOf "holders_of" "holders_of" (defArgs st_holders_of) (defBody st_holders_of) (defScope st_holders_of) .none kV_holders_of dc_holders_of pm_holders_of an_holders_of cd_holders_of ct_holders_of), sl_holders_of⟩)
    (c_holders_of : PySem.W.codeIn K cd_holders_of "holders_of" = true)
    (k_holders_of : PySem.W.keepIn K (.ref f_holders_of) = true)
    (l_moments_of : K.lookup f_moments_of = some ⟨oc_moments_of, od_moments_of, .func (PySem.W.fnOf "moments_of" "moments_of" (defArgs st_moments_of) (defBody st_moments_of) (defScope st_moments_of) .none kV_moments_of dc_moments_of pm_moments_of an_moments_of cd_moments_of ct_moments_of), sl_moments_of⟩)
    (c_moments_of : PySem.W.codeIn K cd_moments_of "moments_of" = true)
    (k_moments_of : PySem.W.keepIn K (.ref f_moments_of) = true)
    (l_questions_of : K.lookup f_questions_of = some ⟨oc_questions_of, od_questions_of, .func (PySem.W.fnOf "questions_of" "questions_of" (defArgs st_questions_of) (defBody st_questions_of) (defScope st_questions_of) .none kV_questions_of dc_questions_of pm_questions_of an_questions_of cd_questions_of ct_questions_of), sl_questions_of⟩)
    (c_questions_of : PySem.W.codeIn K cd_questions_of "questions_of" = true)
    (k_questions_of : PySem.W.keepIn K (.ref f_questions_of) = true)
    (l_BoundsU_initU : K.lookup f_BoundsU_initU = some ⟨oc_BoundsU_initU, od_BoundsU_initU, .func (PySem.W.fnOf "__init__" "Bounds.__init__" (defArgs st_BoundsU_initU) (defBody st_BoundsU_initU) (defScope st_BoundsU_initU) .none kV_BoundsU_initU dc_BoundsU_initU pm_BoundsU_initU an_BoundsU_initU cd_BoundsU_initU ct_BoundsU_initU), sl_BoundsU_initU⟩)
    (c_BoundsU_initU : PySem.W.codeIn K cd_BoundsU_initU "Bounds.__init__" = true)
    (k_BoundsU_initU : PySem.W.keepIn K (.ref f_BoundsU_initU) = true)
    (l_Bounds_copied : K.lookup f_Bounds_copied = some ⟨oc_Bounds_copied, od_Bounds_copied, .func (PySem.W.fnOf "copied" "Bounds.copied" (defArgs st_Bounds_copied) (defBody st_Bounds_copied) (defScope st_Bounds_copied) .none kV_Bounds_copied dc_Bounds_copied pm_Bounds_copied an_Bounds_copied cd_Bounds_copied ct_Bounds_copied), sl_Bounds_copied⟩)
    (c_Bounds_copied : PySem.W.codeIn K cd_Bounds_copied "Bounds.copied" = true)
    (k_Bounds_copied : PySem.W.keepIn K (.ref f_Bounds_copied) = true)
    (l_Bounds_keep_there : K.lookup f_Bounds_keep_there = some ⟨oc_Bounds_keep_there, od_Bounds_keep_there, .func (PySem.W.fnOf "keep_there" "Bounds.keep_there" (defArgs st_Bounds_keep_there) (defBody st_Bounds_keep_there) (defScope st_Bounds_keep_there) .none kV_Bounds_keep_there dc_Bounds_keep_there pm_Bounds_keep_there an_Bounds_keep_there cd_Bounds_keep_there ct_Bounds_keep_there), sl_Bounds_keep_there⟩)
    (c_Bounds_keep_there : PySem.W.codeIn K cd_Bounds_keep_there "Bounds.keep_there" = true)
    (k_Bounds_keep_there : PySem.W.keepIn K (.ref f_Bounds_keep_there) = true)
    (l_Bounds_keep_gone : K.lookup f_Bounds_keep_gone = some ⟨oc_Bounds_keep_gone, od_Bounds_keep_gone, .func (PySem.W.fnOf "keep_gone" "Bounds.keep_gone" (defArgs st_Bounds_keep_gone) (defBody st_Bounds_keep_gone) (defScope st_Bounds_keep_gone) .none kV_Bounds_keep_gone dc_Bounds_keep_gone pm_Bounds_keep_gone an_Bounds_keep_gone cd_Bounds_keep_gone ct_Bounds_keep_gone), sl_Bounds_keep_gone⟩)
    (c_Bounds_keep_gone : PySem.W.codeIn K cd_Bounds_keep_gone "Bounds.keep_gone" = true)
    (k_Bounds_keep_gone : PySem.W.keepIn K (.ref f_Bounds_keep_gone) = true)
    (l_Bounds_take_reached : K.lookup f_Bounds_take_reached = some ⟨oc_Bounds_take_reached, od_Bounds_take_reached, .func (PySem.W.fnOf "take_reached" "Bounds.take_reached" (defArgs st_Bounds_take_reached) (defBody st_Bounds_take_reached) (defScope st_Bounds_take_reached) .none kV_Bounds_take_reached dc_Bounds_take_reached pm_Bounds_take_reached an_Bounds_take_reached cd_Bounds_take_reached ct_Bounds_take_reached), sl_Bounds_take_reached⟩)
    (c_Bounds_take_reached : PySem.W.codeIn K cd_Bounds_take_reached "Bounds.take_reached" = true)
    (k_Bounds_take_reached : PySem.W.keepIn K (.ref f_Bounds_take_reached) = true)
    (l_numbered : K.lookup f_numbered = some ⟨oc_numbered, od_numbered, .func (PySem.W.fnOf "numbered" "numbered" (defArgs st_numbered) (defBody st_numbered) (defScope st_numbered) .none kV_numbered dc_numbered pm_numbered an_numbered cd_numbered ct_numbered), sl_numbered⟩)
    (c_numbered : PySem.W.codeIn K cd_numbered "numbered" = true)
    (k_numbered : PySem.W.keepIn K (.ref f_numbered) = true)
    (l_Bounds_chain : K.lookup f_Bounds_chain = some ⟨oc_Bounds_chain, od_Bounds_chain, .func (PySem.W.fnOf "chain" "Bounds.chain" (defArgs st_Bounds_chain) (defBody st_Bounds_chain) (defScope st_Bounds_chain) .none kV_Bounds_chain dc_Bounds_chain pm_Bounds_chain an_Bounds_chain cd_Bounds_chain ct_Bounds_chain), sl_Bounds_chain⟩)
    (c_Bounds_chain : PySem.W.codeIn K cd_Bounds_chain "Bounds.chain" = true)
    (k_Bounds_chain : PySem.W.keepIn K (.ref f_Bounds_chain) = true)
    (l_Bounds_clash : K.lookup f_Bounds_clash = some ⟨oc_Bounds_clash, od_Bounds_clash, .func (PySem.W.fnOf "clash" "Bounds.clash" (defArgs st_Bounds_clash) (defBody st_Bounds_clash) (defScope st_Bounds_clash) .none kV_Bounds_clash dc_Bounds_clash pm_Bounds_clash an_Bounds_clash cd_Bounds_clash ct_Bounds_clash), sl_Bounds_clash⟩)
    (c_Bounds_clash : PySem.W.codeIn K cd_Bounds_clash "Bounds.clash" = true)
    (k_Bounds_clash : PySem.W.keepIn K (.ref f_Bounds_clash) = true)
    (l_Facts_tell : K.lookup f_Facts_tell = some ⟨oc_Facts_tell, od_Facts_tell, .func (PySem.W.fnOf "tell" "Facts.tell" (defArgs st_Facts_tell) (defBody st_Facts_tell) (defScope st_Facts_tell) .none kV_Facts_tell dc_Facts_tell pm_Facts_tell an_Facts_tell cd_Facts_tell ct_Facts_tell), sl_Facts_tell⟩)
    (c_Facts_tell : PySem.W.codeIn K cd_Facts_tell "Facts.tell" = true)
    (k_Facts_tell : PySem.W.keepIn K (.ref f_Facts_tell) = true)
    (l_FactsU_initU : K.lookup f_FactsU_initU = some ⟨oc_FactsU_initU, od_FactsU_initU, .func (PySem.W.fnOf "__init__" "Facts.__init__" (defArgs st_FactsU_initU) (defBody st_FactsU_initU) (defScope st_FactsU_initU) (.ref dT_FactsU_initU) kV_FactsU_initU dc_FactsU_initU pm_FactsU_initU an_FactsU_initU cd_FactsU_initU ct_FactsU_initU), sl_FactsU_initU⟩)
    (lT_FactsU_initU : K.lookup dT_FactsU_initU = some ⟨ocT_FactsU_initU, odT_FactsU_initU, .seq #[.ref e_FactsU_initU_0] nT_FactsU_initU, slT_FactsU_initU⟩)
    (lE_FactsU_initU_0 : K.lookup e_FactsU_initU_0 = some ⟨.type "tuple", odE_FactsU_initU_0, .seq #[] nE_FactsU_initU_0, slE_FactsU_initU_0⟩)
    (c_FactsU_initU : PySem.W.codeIn K cd_FactsU_initU "Facts.__init__" = true)
    (k_FactsU_initU : PySem.W.keepIn K (.ref f_FactsU_initU) = true)
    (l_Facts_fate : K.lookup f_Facts_fate = some ⟨oc_Facts_fate, od_Facts_fate, .func (PySem.W.fnOf "fate" "Facts.fate" (defArgs st_Facts_fate) (defBody st_Facts_fate) (defScope st_Facts_fate) .none kV_Facts_fate dc_Facts_fate pm_Facts_fate an_Facts_fate cd_Facts_fate ct_Facts_fate), sl_Facts_fate⟩)
    (c_Facts_fate : PySem.W.codeIn K cd_Facts_fate "Facts.fate" = true)
    (k_Facts_fate : PySem.W.keepIn K (.ref f_Facts_fate) = true)
    (l_Facts_window : K.lookup f_Facts_window = some ⟨oc_Facts_window, od_Facts_window, .func (PySem.W.fnOf "window" "Facts.window" (defArgs st_Facts_window) (defBody st_Facts_window) (defScope st_Facts_window) .none kV_Facts_window dc_Facts_window pm_Facts_window an_Facts_window cd_Facts_window ct_Facts_window), sl_Facts_window⟩)
    (c_Facts_window : PySem.W.codeIn K cd_Facts_window "Facts.window" = true)
    (k_Facts_window : PySem.W.keepIn K (.ref f_Facts_window) = true)
    (l__law_deck : K.lookup f__law_deck = some ⟨oc__law_deck, od__law_deck, .func (PySem.W.fnOf "_law_deck" "_law_deck" (defArgs st__law_deck) (defBody st__law_deck) (defScope st__law_deck) .none kV__law_deck dc__law_deck pm__law_deck an__law_deck cd__law_deck ct__law_deck), sl__law_deck⟩)
    (c__law_deck : PySem.W.codeIn K cd__law_deck "_law_deck" = true)
    (k__law_deck : PySem.W.keepIn K (.ref f__law_deck) = true)
    (l__law_draw : K.lookup f__law_draw = some ⟨oc__law_draw, od__law_draw, .func (PySem.W.fnOf "_law_draw" "_law_draw" (defArgs st__law_draw) (defBody st__law_draw) (defScope st__law_draw) .none kV__law_draw dc__law_draw pm__law_draw an__law_draw cd__law_draw ct__law_draw), sl__law_draw⟩)
    (c__law_draw : PySem.W.codeIn K cd__law_draw "_law_draw" = true)
    (k__law_draw : PySem.W.keepIn K (.ref f__law_draw) = true)
    (l__law_one : K.lookup f__law_one = some ⟨oc__law_one, od__law_one, .func (PySem.W.fnOf "_law_one" "_law_one" (defArgs st__law_one) (defBody st__law_one) (defScope st__law_one) .none kV__law_one dc__law_one pm__law_one an__law_one cd__law_one ct__law_one), sl__law_one⟩)
    (c__law_one : PySem.W.codeIn K cd__law_one "_law_one" = true)
    (k__law_one : PySem.W.keepIn K (.ref f__law_one) = true)
    (l__law_event : K.lookup f__law_event = some ⟨oc__law_event, od__law_event, .func (PySem.W.fnOf "_law_event" "_law_event" (defArgs st__law_event) (defBody st__law_event) (defScope st__law_event) .none kV__law_event dc__law_event pm__law_event an__law_event cd__law_event ct__law_event), sl__law_event⟩)
    (c__law_event : PySem.W.codeIn K cd__law_event "_law_event" = true)
    (k__law_event : PySem.W.keepIn K (.ref f__law_event) = true)
    (l__law_story : K.lookup f__law_story = some ⟨oc__law_story, od__law_story, .func (PySem.W.fnOf "_law_story" "_law_story" (defArgs st__law_story) (defBody st__law_story) (defScope st__law_story) .none kV__law_story dc__law_story pm__law_story an__law_story cd__law_story ct__law_story), sl__law_story⟩)
    (c__law_story : PySem.W.codeIn K cd__law_story "_law_story" = true)
    (k__law_story : PySem.W.keepIn K (.ref f__law_story) = true)
    (l__law_heap : K.lookup f__law_heap = some ⟨oc__law_heap, od__law_heap, .func (PySem.W.fnOf "_law_heap" "_law_heap" (defArgs st__law_heap) (defBody st__law_heap) (defScope st__law_heap) .none kV__law_heap dc__law_heap pm__law_heap an__law_heap cd__law_heap ct__law_heap), sl__law_heap⟩)
    (c__law_heap : PySem.W.codeIn K cd__law_heap "_law_heap" = true)
    (k__law_heap : PySem.W.keepIn K (.ref f__law_heap) = true)
    (l__law_closed : K.lookup f__law_closed = some ⟨oc__law_closed, od__law_closed, .func (PySem.W.fnOf "_law_closed" "_law_closed" (defArgs st__law_closed) (defBody st__law_closed) (defScope st__law_closed) .none kV__law_closed dc__law_closed pm__law_closed an__law_closed cd__law_closed ct__law_closed), sl__law_closed⟩)
    (c__law_closed : PySem.W.codeIn K cd__law_closed "_law_closed" = true)
    (k__law_closed : PySem.W.keepIn K (.ref f__law_closed) = true)
    (l__law_questions : K.lookup f__law_questions = some ⟨oc__law_questions, od__law_questions, .func (PySem.W.fnOf "_law_questions" "_law_questions" (defArgs st__law_questions) (defBody st__law_questions) (defScope st__law_questions) .none kV__law_questions dc__law_questions pm__law_questions an__law_questions cd__law_questions ct__law_questions), sl__law_questions⟩)
    (c__law_questions : PySem.W.codeIn K cd__law_questions "_law_questions" = true)
    (k__law_questions : PySem.W.keepIn K (.ref f__law_questions) = true)
    (l__law_is_schedule : K.lookup f__law_is_schedule = some ⟨oc__law_is_schedule, od__law_is_schedule, .func (PySem.W.fnOf "_law_is_schedule" "_law_is_schedule" (defArgs st__law_is_schedule) (defBody st__law_is_schedule) (defScope st__law_is_schedule) .none kV__law_is_schedule dc__law_is_schedule pm__law_is_schedule an__law_is_schedule cd__law_is_schedule ct__law_is_schedule), sl__law_is_schedule⟩)
    (c__law_is_schedule : PySem.W.codeIn K cd__law_is_schedule "_law_is_schedule" = true)
    (k__law_is_schedule : PySem.W.keepIn K (.ref f__law_is_schedule) = true)
    (l__law_schedules : K.lookup f__law_schedules = some ⟨oc__law_schedules, od__law_schedules, .func (PySem.W.fnOf "_law_schedules" "_law_schedules" (defArgs st__law_schedules) (defBody st__law_schedules) (defScope st__law_schedules) .none kV__law_schedules dc__law_schedules pm__law_schedules an__law_schedules cd__law_schedules ct__law_schedules), sl__law_schedules⟩)
    (c__law_schedules : PySem.W.codeIn K cd__law_schedules "_law_schedules" = true)
    (k__law_schedules : PySem.W.keepIn K (.ref f__law_schedules) = true)
    (l__law_agreeing : K.lookup f__law_agreeing = some ⟨oc__law_agreeing, od__law_agreeing, .func (PySem.W.fnOf "_law_agreeing" "_law_agreeing" (defArgs st__law_agreeing) (defBody st__law_agreeing) (defScope st__law_agreeing) .none kV__law_agreeing dc__law_agreeing pm__law_agreeing an__law_agreeing cd__law_agreeing ct__law_agreeing), sl__law_agreeing⟩)
    (c__law_agreeing : PySem.W.codeIn K cd__law_agreeing "_law_agreeing" = true)
    (k__law_agreeing : PySem.W.keepIn K (.ref f__law_agreeing) = true)
    (l__law_fates_right : K.lookup f__law_fates_right = some ⟨oc__law_fates_right, od__law_fates_right, .func (PySem.W.fnOf "_law_fates_right" "_law_fates_right" (defArgs st__law_fates_right) (defBody st__law_fates_right) (defScope st__law_fates_right) .none kV__law_fates_right dc__law_fates_right pm__law_fates_right an__law_fates_right cd__law_fates_right ct__law_fates_right), sl__law_fates_right⟩)
    (c__law_fates_right : PySem.W.codeIn K cd__law_fates_right "_law_fates_right" = true)
    (k__law_fates_right : PySem.W.keepIn K (.ref f__law_fates_right) = true)
    (l__law_right : K.lookup f__law_right = some ⟨oc__law_right, od__law_right, .func (PySem.W.fnOf "_law_right" "_law_right" (defArgs st__law_right) (defBody st__law_right) (defScope st__law_right) .none kV__law_right dc__law_right pm__law_right an__law_right cd__law_right ct__law_right), sl__law_right⟩)
    (c__law_right : PySem.W.codeIn K cd__law_right "_law_right" = true)
    (k__law_right : PySem.W.keepIn K (.ref f__law_right) = true)
    (l_law : K.lookup f_law = some ⟨oc_law, od_law, .func (PySem.W.fnOf "law" "law" (defArgs st_law) (defBody st_law) (defScope st_law) .none kV_law dc_law pm_law an_law cd_law ct_law), sl_law⟩)
    (c_law : PySem.W.codeIn K cd_law "law" = true)
    (k_law : PySem.W.keepIn K (.ref f_law) = true)
    (pg_Heap : PySem.W.plainGet K C_Heap Str.empty = true)
    (hd_Heap : PySem.W.hasDictIn K C_Heap = true)
    (po_Heap : PySem.W.plainOver K C_Heap = true)
    (sa_Heap : PySem.W.findIn K (.ref C_Heap) "__setattr__" = some (some (.builtin "object.__setattr__")))
    (mm_Heap : PySem.W.makesIn K C_Heap = true)
    (kc_Heap : PySem.W.keepIn K (.ref C_Heap) = true)
    (ii_Heap : PySem.W.isFn K (.ref f_HeapU_initU) = true)
    (na_Heap_asked_pairs : PySem.W.findIn K (.ref C_Heap) "asked_pairs" = some none)
    (na_Heap_bounds : PySem.W.findIn K (.ref C_Heap) "bounds" = some none)
    (na_Heap_first_gone : PySem.W.findIn K (.ref C_Heap) "first_gone" = some none)
    (na_Heap_holders : PySem.W.findIn K (.ref C_Heap) "holders" = some none)
    (na_Heap_kept_cells : PySem.W.findIn K (.ref C_Heap) "kept_cells" = some none)
    (na_Heap_last_there : PySem.W.findIn K (.ref C_Heap) "last_there" = some none)
    (na_Heap_moments : PySem.W.findIn K (.ref C_Heap) "moments" = some none)
    (na_Heap_standing : PySem.W.findIn K (.ref C_Heap) "standing" = some none)
    (na_Heap_story : PySem.W.findIn K (.ref C_Heap) "story" = some none)
    (na_Heap_strong : PySem.W.findIn K (.ref C_Heap) "strong" = some none)
    (na_Heap_told : PySem.W.findIn K (.ref C_Heap) "told" = some none)
    (na_Heap_why_gone : PySem.W.findIn K (.ref C_Heap) "why_gone" = some none)
    (na_Heap_why_there : PySem.W.findIn K (.ref C_Heap) "why_there" = some none)
    (mi_Heap_apply : PySem.W.isFn K (.ref f_Heap_apply) = true)
    (mi_Heap_held_lists : PySem.W.isFn K (.ref f_Heap_held_lists) = true)
    (mi_Heap_reached_flags : PySem.W.isFn K (.ref f_Heap_reached_flags) = true)
    (pg_Bounds : PySem.W.plainGet K C_Bounds Str.empty = true)
    (hd_Bounds : PySem.W.hasDictIn K C_Bounds = true)
    (po_Bounds : PySem.W.plainOver K C_Bounds = true)
    (sa_Bounds : PySem.W.findIn K (.ref C_Bounds) "__setattr__" = some (some (.builtin "object.__setattr__")))
    (mm_Bounds : PySem.W.makesIn K C_Bounds = true)
    (kc_Bounds : PySem.W.keepIn K (.ref C_Bounds) = true)
    (ii_Bounds : PySem.W.isFn K (.ref f_BoundsU_initU) = true)
    (na_Bounds_asked_pairs : PySem.W.findIn K (.ref C_Bounds) "asked_pairs" = some none)
    (na_Bounds_bounds : PySem.W.findIn K (.ref C_Bounds) "bounds" = some none)
    (na_Bounds_first_gone : PySem.W.findIn K (.ref C_Bounds) "first_gone" = some none)
    (na_Bounds_holders : PySem.W.findIn K (.ref C_Bounds) "holders" = some none)
    (na_Bounds_kept_cells : PySem.W.findIn K (.ref C_Bounds) "kept_cells" = some none)
    (na_Bounds_last_there : PySem.W.findIn K (.ref C_Bounds) "last_there" = some none)
    (na_Bounds_moments : PySem.W.findIn K (.ref C_Bounds) "moments" = some none)
    (na_Bounds_standing : PySem.W.findIn K (.ref C_Bounds) "standing" = some none)
    (na_Bounds_story : PySem.W.findIn K (.ref C_Bounds) "story" = some none)
    (na_Bounds_strong : PySem.W.findIn K (.ref C_Bounds) "strong" = some none)
    (na_Bounds_told : PySem.W.findIn K (.ref C_Bounds) "told" = some none)
    (na_Bounds_why_gone : PySem.W.findIn K (.ref C_Bounds) "why_gone" = some none)
    (na_Bounds_why_there : PySem.W.findIn K (.ref C_Bounds) "why_there" = some none)
    (mi_Bounds_chain : PySem.W.isFn K (.ref f_Bounds_chain) = true)
    (mi_Bounds_clash : PySem.W.isFn K (.ref f_Bounds_clash) = true)
    (mi_Bounds_copied : PySem.W.isFn K (.ref f_Bounds_copied) = true)
    (mi_Bounds_keep_gone : PySem.W.isFn K (.ref f_Bounds_keep_gone) = true)
    (mi_Bounds_keep_there : PySem.W.isFn K (.ref f_Bounds_keep_there) = true)
    (mi_Bounds_take_reached : PySem.W.isFn K (.ref f_Bounds_take_reached) = true)
    (pg_Facts : PySem.W.plainGet K C_Facts Str.empty = true)
    (hd_Facts : PySem.W.hasDictIn K C_Facts = true)
    (po_Facts : PySem.W.plainOver K C_Facts = true)
    (sa_Facts : PySem.W.findIn K (.ref C_Facts) "__setattr__" = some (some (.builtin "object.__setattr__")))
    (mm_Facts : PySem.W.makesIn K C_Facts = true)
    (kc_Facts : PySem.W.keepIn K (.ref C_Facts) = true)
    (ii_Facts : PySem.W.isFn K (.ref f_FactsU_initU) = true)
    (na_Facts_asked_pairs : PySem.W.findIn K (.ref C_Facts) "asked_pairs" = some none)
    (na_Facts_bounds : PySem.W.findIn K (.ref C_Facts) "bounds" = some none)
    (na_Facts_first_gone : PySem.W.findIn K (.ref C_Facts) "first_gone" = some none)
    (na_Facts_holders : PySem.W.findIn K (.ref C_Facts) "holders" = some none)
    (na_Facts_kept_cells : PySem.W.findIn K (.ref C_Facts) "kept_cells" = some none)
    (na_Facts_last_there : PySem.W.findIn K (.ref C_Facts) "last_there" = some none)
    (na_Facts_moments : PySem.W.findIn K (.ref C_Facts) "moments" = some none)
    (na_Facts_standing : PySem.W.findIn K (.ref C_Facts) "standing" = some none)
    (na_Facts_story : PySem.W.findIn K (.ref C_Facts) "story" = some none)
    (na_Facts_strong : PySem.W.findIn K (.ref C_Facts) "strong" = some none)
    (na_Facts_told : PySem.W.findIn K (.ref C_Facts) "told" = some none)
    (na_Facts_why_gone : PySem.W.findIn K (.ref C_Facts) "why_gone" = some none)
    (na_Facts_why_there : PySem.W.findIn K (.ref C_Facts) "why_there" = some none)
    (mi_Facts_fate : PySem.W.isFn K (.ref f_Facts_fate) = true)
    (mi_Facts_tell : PySem.W.isFn K (.ref f_Facts_tell) = true)
    (mi_Facts_window : PySem.W.isFn K (.ref f_Facts_window) = true)
    (z_abs : PySem.W.nsIn K mainGlobals "abs" = some none)
    (z_all : PySem.W.nsIn K mainGlobals "all" = some none)
    (z_any : PySem.W.nsIn K mainGlobals "any" = some none)
    (z_enumerate : PySem.W.nsIn K mainGlobals "enumerate" = some none)
    (z_int : PySem.W.nsIn K mainGlobals "int" = some none)
    (z_len : PySem.W.nsIn K mainGlobals "len" = some none)
    (z_list : PySem.W.nsIn K mainGlobals "list" = some none)
    (z_max : PySem.W.nsIn K mainGlobals "max" = some none)
    (z_min : PySem.W.nsIn K mainGlobals "min" = some none)
    (z_range : PySem.W.nsIn K mainGlobals "range" = some none)
    (z_repr : PySem.W.nsIn K mainGlobals "repr" = some none)
    (z_set : PySem.W.nsIn K mainGlobals "set" = some none)
    (z_sorted : PySem.W.nsIn K mainGlobals "sorted" = some none)
    (z_tuple : PySem.W.nsIn K mainGlobals "tuple" = some none) :
    ∃ (T : Tb) (fd : FuncData), T.K = K ∧ (∀ (s : Shared) (u : Value), BindsTo s fd ⟨[u], []⟩ [("_law_script", u)]) ∧ ∀ base : Heap, T.K.In base → base.Ns mainGlobals mg → FnG l.prog w T.K mg base 8 fa fd ["_law_script"] (SpM T 1 m_law) := by
  have e := hfa.symm.trans (PySem.W.mg_of X G a_law)
  cases e
  have F_HeapU_initU := fun_mk (st := st_HeapU_initU) l_HeapU_initU c_HeapU_initU k_HeapU_initU
  have b_HeapU_initU := F_HeapU_initU.binds (ps := ["self"]) fun _ _ _ _ _ _ us hl => match us, hl with | [_], _ => rfl
  have F_Heap_apply := fun_mk (st := st_Heap_apply) l_Heap_apply c_Heap_apply k_Heap_apply
  have b_Heap_apply := F_Heap_apply.binds (ps := ["self", "item"]) fun _ _ _ _ _ _ us hl => match us, hl with | [_, _], _ => rfl
  have F_Heap_held_lists := fun_mk (st := st_Heap_held_lists) l_Heap_held_lists c_Heap_held_lists k_Heap_held_lists
  have b_Heap_held_lists := F_Heap_held_lists.binds (ps := ["self"]) fun _ _ _ _ _ _ us hl => match us, hl with | [_], _ => rfl
  have F_Heap_reached_flags := fun_mk (st := st_Heap_reached_flags) l_Heap_reached_flags c_Heap_reached_flags k_Heap_reached_flags
  have b_Heap_reached_flags := F_Heap_reached_flags.binds (ps := ["self", "held"]) fun _ _ _ _ _ _ us hl => match us, hl with | [_, _], _ => rfl
  have F_holders_of := fun_mk (st := st_holders_of) l_holders_of c_holders_of k_holders_of
  have b_holders_of := F_holders_of.binds (ps := ["held"]) fun _ _ _ _ _ _ us hl => match us, hl with | [_], _ => rfl
  have F_moments_of := fun_mk (st := st_moments_of) l_moments_of c_moments_of k_moments_of
  have b_moments_of := F_moments_of.binds (ps := ["story"]) fun _ _ _ _ _ _ us hl => match us, hl with | [_], _ => rfl
  have F_questions_of := fun_mk (st := st_questions_of) l_questions_of c_questions_of k_questions_of
  have b_questions_of := F_questions_of.binds (ps := ["story"]) fun _ _ _ _ _ _ us hl => match us, hl with | [_], _ => rfl
  have F_BoundsU_initU := fun_mk (st := st_BoundsU_initU) l_BoundsU_initU c_BoundsU_initU k_BoundsU_initU
  have b_BoundsU_initU := F_BoundsU_initU.binds (ps := ["self", "moments", "holders"]) fun _ _ _ _ _ _ us hl => match us, hl with | [_, _, _], _ => rfl
  have F_Bounds_copied := fun_mk (st := st_Bounds_copied) l_Bounds_copied c_Bounds_copied k_Bounds_copied
  have b_Bounds_copied := F_Bounds_copied.binds (ps := ["self"]) fun _ _ _ _ _ _ us hl => match us, hl with | [_], _ => rfl
  have F_Bounds_keep_there := fun_mk (st := st_Bounds_keep_there) l_Bounds_keep_there c_Bounds_keep_there k_Bounds_keep_there
  have b_Bounds_keep_there := F_Bounds_keep_there.binds (ps := ["self", "cell", "moment", "why"]) fun _ _ _ _ _ _ us hl => match us, hl with | [_, _, _, _], _ => rfl
  have F_Bounds_keep_gone := fun_mk (st := st_Bounds_keep_gone) l_Bounds_keep_gone c_Bounds_keep_gone k_Bounds_keep_gone
  have b_Bounds_keep_gone := F_Bounds_keep_gone.binds (ps := ["self", "cell", "moment", "why"]) fun _ _ _ _ _ _ us hl => match us, hl with | [_, _, _, _], _ => rfl
  have F_Bounds_take_reached := fun_mk (st := st_Bounds_take_reached) l_Bounds_take_reached c_Bounds_take_reached k_Bounds_take_reached
  have b_Bounds_take_reached := F_Bounds_take_reached.binds (ps := ["self"]) fun _ _ _ _ _ _ us hl => match us, hl with | [_], _ => rfl
  have F_numbered := fun_mk (st := st_numbered) l_numbered c_numbered k_numbered
  have b_numbered := F_numbered.binds (ps := ["rows", "first"]) fun _ _ _ _ _ _ us hl => match us, hl with | [_, _], _ => rfl
  have F_Bounds_chain := fun_mk (st := st_Bounds_chain) l_Bounds_chain c_Bounds_chain k_Bounds_chain
  have b_Bounds_chain := F_Bounds_chain.binds (ps := ["self", "cell", "moment", "state", "first"]) fun _ _ _ _ _ _ us hl => match us, hl with | [_, _, _, _, _], _ => rfl
  have F_Bounds_clash := fun_mk (st := st_Bounds_clash) l_Bounds_clash c_Bounds_clash k_Bounds_clash
  have b_Bounds_clash := F_Bounds_clash.binds (ps := ["self"]) fun _ _ _ _ _ _ us hl => match us, hl with | [_], _ => rfl
  have F_Facts_tell := fun_mk (st := st_Facts_tell) l_Facts_tell c_Facts_tell k_Facts_tell
  have b_Facts_tell := F_Facts_tell.binds (ps := ["self", "answer"]) fun _ _ _ _ _ _ us hl => match us, hl with | [_, _], _ => rfl
  have F_FactsU_initU : FunD K "__init__" "Facts.__init__" (defArgs st_FactsU_initU) (defBody st_FactsU_initU) (defScope st_FactsU_initU) [V.ref e_FactsU_initU_0] [] f_FactsU_initU _ := ⟨⟨_, _, _, _, _, _, _, _, _, _, rfl, l_FactsU_initU, c_FactsU_initU, .inr ⟨by simp, _, _, [.ref e_FactsU_initU_0], _, rfl, lT_FactsU_initU, rfl, (.cons rfl .nil)⟩, .inl rfl⟩, k_FactsU_initU⟩
  have b_FactsU_initU_0 := bindD_of (das := [(.tup [])]) (F_FactsU_initU.binds1 (ps := ["self", "story", "answers"]) 2 0 (by simp) (by rfl) fun _ _ _ _ _ _ _ us its hl hi => match us, its, hl, hi with | [_, _], [_], _, _ => ⟨_, rfl, rfl⟩) fun T ρ H e => (.cons (empty_rv (by rw [e]; exact lE_FactsU_initU_0)) .nil)
  have b_FactsU_initU_1 := bindD_of (das := []) (F_FactsU_initU.binds1 (ps := ["self", "story", "answers"]) 3 1 (by simp) (by rfl) fun _ _ _ _ _ _ _ us its hl hi => match us, its, hl, hi with | [_, _, _], [_], _, _ => ⟨_, rfl, rfl⟩) fun T ρ H e => .nil
  have F_Facts_fate := fun_mk (st := st_Facts_fate) l_Facts_fate c_Facts_fate k_Facts_fate
  have b_Facts_fate := F_Facts_fate.binds (ps := ["self", "cell", "moment"]) fun _ _ _ _ _ _ us hl => match us, hl with | [_, _, _], _ => rfl
  have F_Facts_window := fun_mk (st := st_Facts_window) l_Facts_window c_Facts_window k_Facts_window
  have b_Facts_window := F_Facts_window.binds (ps := ["self", "cell"]) fun _ _ _ _ _ _ us hl => match us, hl with | [_, _], _ => rfl
  have F__law_deck := fun_mk (st := st__law_deck) l__law_deck c__law_deck k__law_deck
  have b__law_deck := F__law_deck.binds (ps := ["_law_script"]) fun _ _ _ _ _ _ us hl => match us, hl with | [_], _ => rfl
  have F__law_draw := fun_mk (st := st__law_draw) l__law_draw c__law_draw k__law_draw
  have b__law_draw := F__law_draw.binds (ps := ["_law_deck_here", "_law_many"]) fun _ _ _ _ _ _ us hl => match us, hl with | [_, _], _ => rfl
  have F__law_one := fun_mk (st := st__law_one) l__law_one c__law_one k__law_one
  have b__law_one := F__law_one.binds (ps := ["_law_deck_here", "_law_items"]) fun _ _ _ _ _ _ us hl => match us, hl with | [_, _], _ => rfl
  have F__law_event := fun_mk (st := st__law_event) l__law_event c__law_event k__law_event
  have b__law_event := F__law_event.binds (ps := ["_law_deck_here", "_law_cells"]) fun _ _ _ _ _ _ us hl => match us, hl with | [_, _], _ => rfl
  have F__law_story := fun_mk (st := st__law_story) l__law_story c__law_story k__law_story
  have b__law_story := F__law_story.binds (ps := ["_law_deck_here", "_law_most", "_law_items"]) fun _ _ _ _ _ _ us hl => match us, hl with | [_, _, _], _ => rfl
  have F__law_heap := fun_mk (st := st__law_heap) l__law_heap c__law_heap k__law_heap
  have b__law_heap := F__law_heap.binds (ps := ["_law_story_here", "_law_moment"]) fun _ _ _ _ _ _ us hl => match us, hl with | [_, _], _ => rfl
  have F__law_closed := fun_mk (st := st__law_closed) l__law_closed c__law_closed k__law_closed
  have b__law_closed := F__law_closed.binds (ps := ["_law_held", "_law_starts"]) fun _ _ _ _ _ _ us hl => match us, hl with | [_, _], _ => rfl
  have F__law_questions := fun_mk (st := st__law_questions) l__law_questions c__law_questions k__law_questions
  have b__law_questions := F__law_questions.binds (ps := ["_law_story_here"]) fun _ _ _ _ _ _ us hl => match us, hl with | [_], _ => rfl
  have F__law_is_schedule := fun_mk (st := st__law_is_schedule) l__law_is_schedule c__law_is_schedule k__law_is_schedule
  have b__law_is_schedule := F__law_is_schedule.binds (ps := ["_law_heaps", "_law_starts"]) fun _ _ _ _ _ _ us hl => match us, hl with | [_, _], _ => rfl
  have F__law_schedules := fun_mk (st := st__law_schedules) l__law_schedules c__law_schedules k__law_schedules
  have b__law_schedules := F__law_schedules.binds (ps := ["_law_story_here"]) fun _ _ _ _ _ _ us hl => match us, hl with | [_], _ => rfl
  have F__law_agreeing := fun_mk (st := st__law_agreeing) l__law_agreeing c__law_agreeing k__law_agreeing
  have b__law_agreeing := F__law_agreeing.binds (ps := ["_law_story_here", "_law_rows", "_law_answers"]) fun _ _ _ _ _ _ us hl => match us, hl with | [_, _, _], _ => rfl
  have F__law_fates_right := fun_mk (st := st__law_fates_right) l__law_fates_right c__law_fates_right k__law_fates_right
  have b__law_fates_right := F__law_fates_right.binds (ps := ["_law_facts", "_law_story_here", "_law_rows"]) fun _ _ _ _ _ _ us hl => match us, hl with | [_, _, _], _ => rfl
  have F__law_right := fun_mk (st := st__law_right) l__law_right c__law_right k__law_right
  have b__law_right := F__law_right.binds (ps := ["_law_deck_here", "_law_story_here"]) fun _ _ _ _ _ _ us hl => match us, hl with | [_, _], _ => rfl
  have F_law := fun_mk (st := st_law) l_law c_law k_law
  have b_law := F_law.binds (ps := ["_law_script"]) fun _ _ _ _ _ _ us hl => match us, hl with | [_], _ => rfl
  let Z : TX K mg := { f_HeapU_initU := _, d_HeapU_initU := _, F_HeapU_initU := F_HeapU_initU, b_HeapU_initU := b_HeapU_initU, f_Heap_apply := _, d_Heap_apply := _, F_Heap_apply := F_Heap_apply, b_Heap_apply := b_Heap_apply, f_Heap_held_lists := _, d_Heap_held_lists := _, F_Heap_held_lists := F_Heap_held_lists, b_Heap_held_lists := b_Heap_held_lists, f_Heap_reached_flags := _, d_Heap_reached_flags := _, F_Heap_reached_flags := F_Heap_reached_flags, b_Heap_reached_flags := b_Heap_reached_flags, f_holders_of := _, d_holders_of := _, F_holders_of := F_holders_of, b_holders_of := b_holders_of, g_holders_of := PySem.W.mg_of X G a_holders_of, f_moments_of := _, d_moments_of := _, F_moments_of := F_moments_of, b_moments_of := b_moments_of, g_moments_of := PySem.W.mg_of X G a_moments_of, f_questions_of := _, d_questions_of := _, F_questions_of := F_questions_of, b_questions_of := b_questions_of, g_questions_of := PySem.W.mg_of X G a_questions_of, f_BoundsU_initU := _, d_BoundsU_initU := _, F_BoundsU_initU := F_BoundsU_initU, b_BoundsU_initU := b_BoundsU_initU, f_Bounds_copied := _, d_Bounds_copied := _, F_Bounds_copied := F_Bounds_copied, b_Bounds_copied := b_Bounds_copied, f_Bounds_keep_there := _, d_Bounds_keep_there := _, F_Bounds_keep_there := F_Bounds_keep_there, b_Bounds_keep_there := b_Bounds_keep_there, f_Bounds_keep_gone := _, d_Bounds_keep_gone := _, F_Bounds_keep_gone := F_Bounds_keep_gone, b_Bounds_keep_gone := b_Bounds_keep_gone, f_Bounds_take_reached := _, d_Bounds_take_reached := _, F_Bounds_take_reached := F_Bounds_take_reached, b_Bounds_take_reached := b_Bounds_take_reached, f_numbered := _, d_numbered := _, F_numbered := F_numbered, b_numbered := b_numbered, g_numbered := PySem.W.mg_of X G a_numbered, f_Bounds_chain := _, d_Bounds_chain := _, F_Bounds_chain := F_Bounds_chain, b_Bounds_chain := b_Bounds_chain, f_Bounds_clash := _, d_Bounds_clash := _, F_Bounds_clash := F_Bounds_clash, b_Bounds_clash := b_Bounds_clash, f_Facts_tell := _, d_Facts_tell := _, F_Facts_tell := F_Facts_tell, b_Facts_tell := b_Facts_tell, f_FactsU_initU := _, d_FactsU_initU := _, F_FactsU_initU := F_FactsU_initU, e_FactsU_initU_0 := _, b_FactsU_initU_0 := b_FactsU_initU_0, b_FactsU_initU_1 := b_FactsU_initU_1, f_Facts_fate := _, d_Facts_fate := _, F_Facts_fate := F_Facts_fate, b_Facts_fate := b_Facts_fate, f_Facts_window := _, d_Facts_window := _, F_Facts_window := F_Facts_window, b_Facts_window := b_Facts_window, f__law_deck := _, d__law_deck := _, F__law_deck := F__law_deck, b__law_deck := b__law_deck, g__law_deck := PySem.W.mg_of X G a__law_deck, f__law_draw := _, d__law_draw := _, F__law_draw := F__law_draw, b__law_draw := b__law_draw, g__law_draw := PySem.W.mg_of X G a__law_draw, f__law_one := _, d__law_one := _, F__law_one := F__law_one, b__law_one := b__law_one, g__law_one := PySem.W.mg_of X G a__law_one, f__law_event := _, d__law_event := _, F__law_event := F__law_event, b__law_event := b__law_event, g__law_event := PySem.W.mg_of X G a__law_event, f__law_story := _, d__law_story := _, F__law_story := F__law_story, b__law_story := b__law_story, g__law_story := PySem.W.mg_of X G a__law_story, f__law_heap := _, d__law_heap := _, F__law_heap := F__law_heap, b__law_heap := b__law_heap, g__law_heap := PySem.W.mg_of X G a__law_heap, f__law_closed := _, d__law_closed := _, F__law_closed := F__law_closed, b__law_closed := b__law_closed, g__law_closed := PySem.W.mg_of X G a__law_closed, f__law_questions := _, d__law_questions := _, F__law_questions := F__law_questions, b__law_questions := b__law_questions, g__law_questions := PySem.W.mg_of X G a__law_questions, f__law_is_schedule := _, d__law_is_schedule := _, F__law_is_schedule := F__law_is_schedule, b__law_is_schedule := b__law_is_schedule, g__law_is_schedule := PySem.W.mg_of X G a__law_is_schedule, f__law_schedules := _, d__law_schedules := _, F__law_schedules := F__law_schedules, b__law_schedules := b__law_schedules, g__law_schedules := PySem.W.mg_of X G a__law_schedules, f__law_agreeing := _, d__law_agreeing := _, F__law_agreeing := F__law_agreeing, b__law_agreeing := b__law_agreeing, g__law_agreeing := PySem.W.mg_of X G a__law_agreeing, f__law_fates_right := _, d__law_fates_right := _, F__law_fates_right := F__law_fates_right, b__law_fates_right := b__law_fates_right, g__law_fates_right := PySem.W.mg_of X G a__law_fates_right, f__law_right := _, d__law_right := _, F__law_right := F__law_right, b__law_right := b__law_right, g__law_right := PySem.W.mg_of X G a__law_right, f_law := _, d_law := _, F_law := F_law, b_law := b_law, g_law := PySem.W.mg_of X G a_law, C_Heap := C_Heap, cl_Heap := ⟨pg_Heap, hd_Heap, po_Heap, sa_Heap⟩, gc_Heap := PySem.W.mg_of X G aC_Heap, mk_Heap := ⟨mm_Heap, in_Heap, ii_Heap, kc_Heap⟩, na_Heap_asked_pairs := na_Heap_asked_pairs, na_Heap_bounds := na_Heap_bounds, na_Heap_first_gone := na_Heap_first_gone, na_Heap_holders := na_Heap_holders, na_Heap_kept_cells := na_Heap_kept_cells, na_Heap_last_there := na_Heap_last_there, na_Heap_moments := na_Heap_moments, na_Heap_standing := na_Heap_standing, na_Heap_story := na_Heap_story, na_Heap_strong := na_Heap_strong, na_Heap_told := na_Heap_told, na_Heap_why_gone := na_Heap_why_gone, na_Heap_why_there := na_Heap_why_there, mt_Heap_apply := ⟨ma_Heap_apply, mi_Heap_apply, k_Heap_apply⟩, mt_Heap_held_lists := ⟨ma_Heap_held_lists, mi_Heap_held_lists, k_Heap_held_lists⟩, mt_Heap_reached_flags := ⟨ma_Heap_reached_flags, mi_Heap_reached_flags, k_Heap_reached_flags⟩, C_Bounds := C_Bounds, cl_Bounds := ⟨pg_Bounds, hd_Bounds, po_Bounds, sa_Bounds⟩, gc_Bounds := PySem.W.mg_of X G aC_Bounds, mk_Bounds := ⟨mm_Bounds, in_Bounds, ii_Bounds, kc_Bounds⟩, na_Bounds_asked_pairs := na_Bounds_asked_pairs, na_Bounds_bounds := na_Bounds_bounds, na_Bounds_first_gone := na_Bounds_first_gone, na_Bounds_holders := na_Bounds_holders, na_Bounds_kept_cells := na_Bounds_kept_cells, na_Bounds_last_there := na_Bounds_last_there, na_Bounds_moments := na_Bounds_moments, na_Bounds_standing := na_Bounds_standing, na_Bounds_story := na_Bounds_story, na_Bounds_strong := na_Bounds_strong, na_Bounds_told := na_Bounds_told, na_Bounds_why_gone := na_Bounds_why_gone, na_Bounds_why_there := na_Bounds_why_there, mt_Bounds_chain := ⟨ma_Bounds_chain, mi_Bounds_chain, k_Bounds_chain⟩, mt_Bounds_clash := ⟨ma_Bounds_clash, mi_Bounds_clash, k_Bounds_clash⟩, mt_Bounds_copied := ⟨ma_Bounds_copied, mi_Bounds_copied, k_Bounds_copied⟩, mt_Bounds_keep_gone := ⟨ma_Bounds_keep_gone, mi_Bounds_keep_gone, k_Bounds_keep_gone⟩, mt_Bounds_keep_there := ⟨ma_Bounds_keep_there, mi_Bounds_keep_there, k_Bounds_keep_there⟩, mt_Bounds_take_reached := ⟨ma_Bounds_take_reached, mi_Bounds_take_reached, k_Bounds_take_reached⟩, C_Facts := C_Facts, cl_Facts := ⟨pg_Facts, hd_Facts, po_Facts, sa_Facts⟩, gc_Facts := PySem.W.mg_of X G aC_Facts, mk_Facts := ⟨mm_Facts, in_Facts, ii_Facts, kc_Facts⟩, na_Facts_asked_pairs := na_Facts_asked_pairs, na_Facts_bounds := na_Facts_bounds, na_Facts_first_gone := na_Facts_first_gone, na_Facts_holders := na_Facts_holders, na_Facts_kept_cells := na_Facts_kept_cells, na_Facts_last_there := na_Facts_last_there, na_Facts_moments := na_Facts_moments, na_Facts_standing := na_Facts_standing, na_Facts_story := na_Facts_story, na_Facts_strong := na_Facts_strong, na_Facts_told := na_Facts_told, na_Facts_why_gone := na_Facts_why_gone, na_Facts_why_there := na_Facts_why_there, mt_Facts_fate := ⟨ma_Facts_fate, mi_Facts_fate, k_Facts_fate⟩, mt_Facts_tell := ⟨ma_Facts_tell, mi_Facts_tell, k_Facts_tell⟩, mt_Facts_window := ⟨ma_Facts_window, mi_Facts_window, k_Facts_window⟩, n_abs := PySem.W.mg_none_of X G z_abs, n_all := PySem.W.mg_none_of X G z_all, n_any := PySem.W.mg_none_of X G z_any, n_enumerate := PySem.W.mg_none_of X G z_enumerate, n_int := PySem.W.mg_none_of X G z_int, n_len := PySem.W.mg_none_of X G z_len, n_list := PySem.W.mg_none_of X G z_list, n_max := PySem.W.mg_none_of X G z_max, n_min := PySem.W.mg_none_of X G z_min, n_range := PySem.W.mg_none_of X G z_range, n_repr := PySem.W.mg_none_of X G z_repr, n_set := PySem.W.mg_none_of X G z_set, n_sorted := PySem.W.mg_none_of X G z_sorted, n_tuple := PySem.W.mg_none_of X G z_tuple }
  exact ⟨Z.T w, Z.d_law, rfl, fun s u => .of_eq rfl, fun base _ _ => sim_law Z⟩
end K32

/-! S13: how pure programs are computed: weakest preconditions -/
namespace Sm
open PySem L2
/-- a mark that keeps simp from what it speaks of -/
inductive Tg {α : Type} (x : α) : Type where
  | a | b
/-- behind an expression: the value and the store (Q), or an exception (E) -/
def WE0 {α : Type} (m : M α) (s : Sto) (Q : α → Sto → Prop) (E : Ex → Sto → Prop) : Prop := match m s with
  | .ok a s' => Q a s'
  | .exc e s' => E e s'
  | .fail => False
structure WE {α : Type} (m : M α) (s : Sto) (Q : α → Sto → Prop) (E : Ex → Sto → Prop) (_ : Tg (Q, E) := .a) : Prop where
  h : WE0 m s Q E
theorem WE_eq {α : Type} {m : M α} {s : Sto} {Q : α → Sto → Prop} {E : Ex → Sto → Prop} : WE m s Q E = WE0 m s Q E := propext ⟨fun x => x.h, fun x => ⟨x⟩⟩
/-- behind a statement -/
structure RK where
  nx : Lo → Sto → Prop
  rt : Vl → Sto → Prop
  bk : Lo → Sto → Prop
  ct : Lo → Sto → Prop
  ex : Ex → Lo → Sto → Prop
def WS0 (b : SM) (lo : Lo) (s : Sto) (K : RK) : Prop := match b lo s with
  | .nx lo s => K.nx lo s
  | .rt v s => K.rt v s
  | .bk lo s => K.bk lo s
  | .ct lo s => K.ct lo s
  | .exc e lo s => K.ex e lo s
  | .fail => False
structure WS (b : SM) (lo : Lo) (s : Sto) (K : RK) (_ : Tg K := .a) : Prop where
  h : WS0 b lo s K
theorem WS_eq {b : SM} {lo : Lo} {s : Sto} {K : RK} : WS b lo s K = WS0 b lo s K := propext ⟨fun x => x.h, fun x => ⟨x⟩⟩
def WO0 {α : Type} (o : Option (α × Sto)) (Q : α → Sto → Prop) : Prop := match o with
  | some (a, s) => Q a s
  | none => False
structure WO {α : Type} (o : Option (α × Sto)) (Q : α → Sto → Prop) (_ : Tg Q := .a) : Prop where
  h : WO0 o Q
theorem WO_eq {α : Type} {o : Option (α × Sto)} {Q : α → Sto → Prop} : WO o Q = WO0 o Q := propext ⟨fun x => x.h, fun x => ⟨x⟩⟩
theorem WE_ext {α : Type} {m : M α} {s : Sto} {Q Q' : α → Sto → Prop} {E : Ex → Sto → Prop} (h : ∀ a s, Q a s = Q' a s) : WE m s Q E = WE m s Q' E := by
  have : Q = Q' := funext fun a => funext fun s => h a s
  subst this
  rfl
abbrev NoX : Ex → Sto → Prop := fun _ _ => False
theorem WE.mono {α : Type} {m : M α} {s : Sto} {Q Q' : α → Sto → Prop} {E E' : Ex → Sto → Prop} (h : WE m s Q E) (k : ∀ a s', Q a s' → Q' a s') (kx : ∀ e s', E e s' → E' e s') : WE m s Q' E' := by
  simp only [WE_eq] at h ⊢
  unfold WE0 at h ⊢
  cases e : m s with
  | ok a s' => rw [e] at h; exact k a s' h
  | exc x s' => rw [e] at h; exact kx x s' h
  | fail => rw [e] at h; exact h
/-- what is known of a call, used -/
theorem WE.use {α : Type} {m : M α} {s : Sto} {Q Q' : α → Sto → Prop} {E' : Ex → Sto → Prop} (h : WE m s Q NoX) (k : ∀ a s', Q a s' → Q' a s') : WE m s Q' E' := h.mono k fun _ _ z => z.elim
theorem WE.ok {α : Type} {m : M α} {s s' : Sto} {a : α} {Q : α → Sto → Prop} {E : Ex → Sto → Prop} (h : m s = .ok a s') (k : Q a s') : WE m s Q E := by
  simp only [WE_eq]
  unfold WE0; rw [h]; exact k
theorem WE.get {α : Type} {m : M α} {s : Sto} {Q : α → Sto → Prop} (h : WE m s Q NoX) : ∃ a s', m s = .ok a s' ∧ Q a s' := by
  simp only [WE_eq] at h
  unfold WE0 at h
  cases e : m s with
  | ok a s' => rw [e] at h; exact ⟨a, s', rfl, h⟩
  | exc x s' => rw [e] at h; exact h.elim
  | fail => rw [e] at h; exact h.elim
theorem WS.mono {b : SM} {lo : Lo} {s : Sto} {K K' : RK} (h : WS b lo s K) (k1 : ∀ lo s, K.nx lo s → K'.nx lo s) (k2 : ∀ v s, K.rt v s → K'.rt v s) (k3 : ∀ lo s, K.bk lo s → K'.bk lo s) (k4 : ∀ lo s, K.ct lo s → K'.ct lo s) (k5 : ∀ e lo s, K.ex e lo s → K'.ex e lo s) : WS b lo s K' := by
  simp only [WS_eq] at h ⊢
  unfold WS0 at h ⊢
  cases e : b lo s with
  | nx lo s => rw [e] at h; exact k1 lo s h
  | rt v s => rw [e] at h; exact k2 v s h
  | bk lo s => rw [e] at h; exact k3 lo s h
  | ct lo s => rw [e] at h; exact k4 lo s h
  | exc x lo s => rw [e] at h; exact k5 x lo s h
  | fail => rw [e] at h; exact h
section
variable {α β : Type} {m : M α} {s : Sto} {lo : Lo} {Q : α → Sto → Prop} {QV : Vl → Sto → Prop} {QB : Bool → Sto → Prop} {QA : List Vl → Sto → Prop} {Q' : β → Sto → Prop} {E : Ex → Sto → Prop} {K : RK}
@[simp ↓] theorem WO_some {a : α} : WO (some (a, s)) Q = Q a s := by simp only [WO_eq]; rfl
@[simp ↓] theorem WO_none : WO (none : Option (α × Sto)) Q = False := by simp only [WO_eq]; rfl
@[simp ↓] theorem WE_bnd {f : α → M β} : WE (bnd m f) s Q' E = WE m s (fun a s => WE (f a) s Q' E) E := by
  simp only [WE_eq]
  unfold WE0 bnd
  cases m s <;> rfl
@[simp ↓] theorem WE_ret {a : α} : WE (ret a) s Q E = Q a s := by simp only [WE_eq]; rfl
@[simp ↓] theorem WE_fail : WE (failM : M α) s Q E = False := by simp only [WE_eq]; rfl
@[simp ↓] theorem WE_lift {f : Sto → Option (α × Sto)} : WE (lift f) s Q E = WO (f s) Q := by
  simp only [WE_eq, WO_eq]
  unfold WE0 lift WO0
  cases f s with
  | none => rfl
  | some p => obtain ⟨a, s'⟩ := p; rfl
theorem WE_eVar {i : Nat} {v : Vl} (h : lo[i]? = some (some v)) : WE (eVar i lo) s QV E = QV v s := by
  simp only [WE_eq]
  unfold WE0 eVar; rw [h]
@[simp ↓] theorem WE_eVar' {i : Nat} : WE (eVar i lo) s QV E = (match lo[i]? with | some (some v) => QV v s | _ => False) := by
  simp only [WE_eq]
  unfold WE0 eVar
  cases lo[i]? with
  | none => rfl
  | some o => cases o <;> rfl
@[simp ↓] theorem WE_eC {v : Vl} : WE (eC v lo) s QV E = QV v s := by simp only [WE_eq]; rfl
@[simp ↓] theorem WE_eOp1 {f : O1} {a : EM} : WE (eOp1 f a lo) s QV E = WE (a lo) s (fun x s => WO (f x s) QV) E := by
  unfold eOp1
  rw [WE_bnd]
  exact WE_ext fun x s => WE_lift
@[simp ↓] theorem WE_eOp {f : O2} {a b : EM} : WE (eOp f a b lo) s QV E = WE (a lo) s (fun x s => WE (b lo) s (fun y s => WO (f x y s) QV) E) E := by
  unfold eOp
  rw [WE_bnd]
  refine WE_ext fun x s => ?_
  rw [WE_bnd]
  exact WE_ext fun y s => WE_lift
@[simp ↓] theorem WE_aNil : WE (aNil lo) s QA E = QA [] s := by simp only [WE_eq]; rfl
@[simp ↓] theorem WE_aCons {a : EM} {r : AM} : WE (aCons a r lo) s QA E = WE (a lo) s (fun x s => WE (r lo) s (fun xs s => QA (x :: xs) s) E) E := by
  unfold aCons
  rw [WE_bnd]
  refine WE_ext fun x s => ?_
  rw [WE_bnd]
  exact WE_ext fun xs s => WE_ret
@[simp ↓] theorem WE_eCB {f : OC} {a : AM} : WE (eCB f a lo) s QV E = WE (a lo) s (fun xs s => WO (f xs s) QV) E := by
  unfold eCB
  rw [WE_bnd]
  exact WE_ext fun x s => WE_lift
@[simp ↓] theorem WE_eCall {mf : List Vl → M Vl} {a : AM} : WE (eCall mf a lo) s QV E = WE (a lo) s (fun as s => WE (mf as) s QV E) E := by unfold eCall; rw [WE_bnd]
@[simp ↓] theorem WE_arg {n : Nat} {mf : List Vl → M Vl} {as : List Vl} : WE (arg n mf as) s QV E = (if as.length = n then WE (mf as) s QV E else False) := by
  by_cases h : as.length = n <;> simp [WE_eq, WE0, arg, h]
@[simp ↓] theorem WE_argI {n : Nat} {mf : List Vl → M Vl} {as : List Vl} : WE (argI n mf as) s QV E = (if as.length = n + 1 then WE (mf as) s QV E else False) := by
  by_cases h : as.length = n + 1 <;> simp [WE_eq, WE0, argI, h]
@[simp ↓] theorem WE_tVal {a : EM} : WE (tVal a lo) s QB E = WE (a lo) s (fun x s => match x with | .bl b => QB b s | _ => False) E := by
  unfold tVal
  rw [WE_bnd]
  refine WE_ext fun x s => ?_
  cases x <;> (simp only [WE_eq]; rfl)
@[simp ↓] theorem WE_tAndM {a b : TM} : WE (tAndM a b lo) s QB E = WE (a lo) s (fun x s => if x = true then WE (b lo) s QB E else QB false s) E := by
  unfold tAndM
  rw [WE_bnd]
  refine WE_ext fun x s => ?_
  cases x <;> simp
@[simp ↓] theorem WE_tOrM {a b : TM} : WE (tOrM a b lo) s QB E = WE (a lo) s (fun x s => if x = true then QB true s else WE (b lo) s QB E) E := by
  unfold tOrM
  rw [WE_bnd]
  refine WE_ext fun x s => ?_
  cases x <;> simp
@[simp ↓] theorem WE_tNotM {a : TM} : WE (tNotM a lo) s QB E = WE (a lo) s (fun x s => QB (!x) s) E := by unfold tNotM; rw [WE_bnd]; exact WE_ext fun x s => WE_ret
@[simp ↓] theorem WE_eAndM {a b : EM} : WE (eAndM a b lo) s QV E = WE (a lo) s (fun x s => match x with | .bl true => WE (b lo) s QV E | .bl false => QV (.bl false) s | _ => False) E := by
  unfold eAndM
  rw [WE_bnd]
  refine WE_ext fun x s => ?_
  cases x <;> try (simp only [WE_eq]; rfl)
  rename_i k
  cases k <;> simp only [WE_eq] <;> rfl
@[simp ↓] theorem WE_eOrM {a b : EM} : WE (eOrM a b lo) s QV E = WE (a lo) s (fun x s => match x with | .bl false => WE (b lo) s QV E | .bl true => QV (.bl true) s | _ => False) E := by
  unfold eOrM
  rw [WE_bnd]
  refine WE_ext fun x s => ?_
  cases x <;> try (simp only [WE_eq]; rfl)
  rename_i k
  cases k <;> simp only [WE_eq] <;> rfl
@[simp ↓] theorem WE_eNotM {a : EM} : WE (eNotM a lo) s QV E = WE (a lo) s (fun x s => match x with | .bl b => QV (.bl (!b)) s | _ => False) E := by
  unfold eNotM
  rw [WE_bnd]
  refine WE_ext fun x s => ?_
  cases x <;> (simp only [WE_eq]; rfl)
@[simp ↓] theorem WE_eIfM {t : TM} {a b : EM} : WE (eIfM t a b lo) s QV E = WE (t lo) s (fun x s => if x = true then WE (a lo) s QV E else WE (b lo) s QV E) E := by
  unfold eIfM
  rw [WE_bnd]
  refine WE_ext fun x s => ?_
  cases x <;> simp
@[simp ↓] theorem WE_eBm {t : Kd} {f : OMt} {o : EM} {a : AM} : WE (eBm t f o a lo) s QV E = WE (o lo) s (fun x s => if kd t x s = true then WE (a lo) s (fun xs s => WO (f x xs s) QV) E else False) E := by
  unfold eBm
  rw [WE_bnd]
  refine WE_ext fun x s => ?_
  show WE (fun s => match kd t x s with | true => bnd (a lo) (fun xs => lift (f x xs)) s | false => .fail) s QV E = _
  cases h : kd t x s with
  | true =>
    rw [if_pos rfl]
    have : WE (bnd (a lo) (fun xs => lift (f x xs))) s QV E = WE (a lo) s (fun xs s => WO (f x xs s) QV) E := by
      rw [WE_bnd]
      exact WE_ext fun xs s => WE_lift
    rw [← this]
    simp only [WE_eq]
    unfold WE0
    simp only [h]
  | false =>
    rw [if_neg (by decide)]
    simp only [WE_eq]
    unfold WE0
    simp only [h]
@[simp ↓] theorem WE_eBm0 {t : Kd} {f : OMt} {o : EM} : WE (eBm0 t f o lo) s QV E = WE (o lo) s (fun x s => if kd t x s = true then WO (f x [] s) QV else False) E := by
  unfold eBm0
  rw [WE_bnd]
  refine WE_ext fun x s => ?_
  show WE (fun s => match kd t x s with | true => lift (f x []) s | false => .fail) s QV E = _
  cases h : kd t x s with
  | true =>
    rw [if_pos rfl, ← WE_lift (E := E)]
    simp only [WE_eq]
    unfold WE0
    simp only [h]
  | false =>
    rw [if_neg (by decide)]
    simp only [WE_eq]
    unfold WE0
    simp only [h]
def fldW (cs : List Nat) (f : Str) (x : Vl) (s : Sto) (QV : Vl → Sto → Prop) : Prop := match x with
  | .ref j => match s[j]? with
    | some (.ins c fs) => c ∈ cs ∧ match getS fs f with
        | some v => QV v s
        | none => False
    | _ => False
  | _ => False
@[simp ↓] theorem WE_eFld {cs : List Nat} {f : Str} {o : EM} : WE (eFld cs f o lo) s QV E = WE (o lo) s (fun x s => fldW cs f x s QV) E := by
  unfold eFld
  rw [WE_bnd]
  refine WE_ext fun x s => ?_
  simp only [WE_eq]
  unfold WE0 fldW
  cases x <;> try rfl
  rename_i j
  simp only
  cases h : s[j]? with
  | none => simp only [h]
  | some o =>
    cases o <;> simp only [h]
    rename_i c fs
    by_cases hc : c ∈ cs
    · simp only [hc, if_true, true_and]
      cases getS fs f <;> rfl
    · simp [hc]
@[simp ↓] theorem WE_fnM {n : Nat} {b : SM} {as : List Vl} : WE (fnM n b as) s QV E = WS b (as.map some ++ List.replicate (n - as.length) none) s ⟨fun _ s => QV .non s, QV, fun _ _ => False, fun _ _ => False, fun e _ s => E e s⟩ := by
  simp only [WE_eq, WS_eq]
  unfold WE0 WS0 fnM
  cases b (as.map some ++ List.replicate (n - as.length) none) s <;> rfl
@[simp ↓] theorem WE_eSl {f : OSl} {a : EM} {l h : Option EM} : WE (eSl f a l h lo) s QV E = WE (a lo) s (fun x s => WE (oPart l lo) s (fun i s => WE (oPart h lo) s (fun j s => WO (f x i j s) QV) E) E) E := by
  unfold eSl
  rw [WE_bnd]
  refine WE_ext fun x s => ?_
  rw [WE_bnd]
  refine WE_ext fun i s => ?_
  rw [WE_bnd]
  exact WE_ext fun j s => WE_lift
@[simp ↓] theorem WE_oPartN {QO : Option Int → Sto → Prop} : WE (oPart none lo) s QO E = QO none s := by simp only [WE_eq]; rfl
@[simp ↓] theorem WE_oPartS {QO : Option Int → Sto → Prop} {a : EM} : WE (oPart (some a) lo) s QO E = WE (a lo) s (fun x s => match x with | .int i => QO (some i) s | _ => False) E := by
  show WE (bnd (a lo) _) s QO E = _
  rw [WE_bnd]
  refine WE_ext fun x s => ?_
  cases x <;> (simp only [WE_eq]; rfl)
@[simp ↓] theorem WE_eDict0 : WE (eDict0 lo) s QV E = QV (.ref s.length) (s ++ [.dic []]) := by simp only [WE_eq]; rfl
/-! statements -/
@[simp ↓] theorem WS_sNil : WS sNil lo s K = K.nx lo s := by simp only [WS_eq]; rfl
@[simp ↓] theorem WS_sBreak : WS sBreak lo s K = K.bk lo s := by simp only [WS_eq]; rfl
@[simp ↓] theorem WS_sCont : WS sCont lo s K = K.ct lo s := by simp only [WS_eq]; rfl
@[simp ↓] theorem WS_sRetN : WS sRetN lo s K = K.rt .non s := by simp only [WS_eq]; rfl
@[simp ↓] theorem WS_sSeq {a b : SM} : WS (sSeq a b) lo s K = WS a lo s ⟨fun lo s => WS b lo s K, K.rt, K.bk, K.ct, K.ex⟩ := by
  simp only [WS_eq]
  unfold WS0 sSeq
  cases a lo s <;> rfl
theorem WS_bndS {m : Lo → M α} {f : Lo → α → Sto → RS} : WS (bndS m f) lo s K = WE (m lo) s (fun a s => match f lo a s with | .nx lo s => K.nx lo s | .rt v s => K.rt v s | .bk lo s => K.bk lo s | .ct lo s => K.ct lo s | .exc e lo s => K.ex e lo s | .fail => False) (fun e s => K.ex e lo s) := by
  simp only [WS_eq, WE_eq]
  unfold WS0 WE0 bndS
  cases m lo s <;> rfl
@[simp ↓] theorem WS_sExpr {e : EM} : WS (sExpr e) lo s K = WE (e lo) s (fun _ s => K.nx lo s) (fun x s => K.ex x lo s) := by unfold sExpr; rw [WS_bndS]
@[simp ↓] theorem WS_sRet {e : EM} : WS (sRet e) lo s K = WE (e lo) s K.rt (fun x s => K.ex x lo s) := by unfold sRet; rw [WS_bndS]
@[simp ↓] theorem WS_sSet {i : Nat} {e : EM} : WS (sSet i e) lo s K = WE (e lo) s (fun v s => K.nx (lo.set i (some v)) s) (fun x s => K.ex x lo s) := by unfold sSet; rw [WS_bndS]
@[simp ↓] theorem WS_sIf {t : TM} {a b : SM} : WS (sIf t a b) lo s K = WE (t lo) s (fun c s => if c = true then WS a lo s K else WS b lo s K) (fun x s => K.ex x lo s) := by
  unfold sIf
  rw [WS_bndS]
  refine WE_ext fun c s => ?_
  cases c <;> simp [WS_eq, WS0]
@[simp ↓] theorem WS_sPar {i j : Nat} {a : AM} : WS (sPar i j a) lo s K = WE (a lo) s (fun vs s => match vs with | [v, w] => K.nx ((lo.set i (some v)).set j (some w)) s | _ => False) (fun x s => K.ex x lo s) := by
  unfold sPar
  rw [WS_bndS]
  refine WE_ext fun vs s => ?_
  match vs with
  | [] => rfl
  | [_] => rfl
  | [_, _] => rfl
  | _ :: _ :: _ :: _ => rfl
@[simp ↓] theorem WS_sPar3 {i j l : Nat} {a : AM} : WS (sPar3 i j l a) lo s K = WE (a lo) s (fun vs s => match vs with | [v, w, x] => K.nx (((lo.set i (some v)).set j (some w)).set l (some x)) s | _ => False) (fun x s => K.ex x lo s) := by
  unfold sPar3
  rw [WS_bndS]
  refine WE_ext fun vs s => ?_
  match vs with
  | [] => rfl
  | [_] => rfl
  | [_, _] => rfl
  | [_, _, _] => rfl
  | _ :: _ :: _ :: _ :: _ => rfl
/-- targets -/
structure WG (g : GM) (v : Vl) (lo : Lo) (s : Sto) (N : Lo → Sto → Prop) (E : Ex → Sto → Prop) (_ : Tg (N, E) := .a) : Prop where
  h : WE (g v lo) s N E
theorem WG_eq {g : GM} {v : Vl} {lo : Lo} {s : Sto} {N : Lo → Sto → Prop} {E : Ex → Sto → Prop} : WG g v lo s N E = WE (g v lo) s N E := propext ⟨fun x => x.h, fun x => ⟨x⟩⟩
@[simp ↓] theorem WG_gNm {i : Nat} {v : Vl} {N : Lo → Sto → Prop} : WG (gNm i) v lo s N E = N (lo.set i (some v)) s := by simp only [WG_eq, WE_eq]; rfl
@[simp ↓] theorem WG_gTp {js : List Nat} {xs : List Vl} {N : Lo → Sto → Prop} : WG (gTp js) (.tup xs) lo s N E = (match gNms js xs lo with | some lo' => N lo' s | none => False) := by
  simp only [WG_eq, WE_eq]
  unfold WE0 gTp
  simp only
  cases gNms js xs lo <;> rfl
@[simp] theorem gNms_nil {lo : Lo} : gNms [] [] lo = some lo := rfl
@[simp] theorem gNms_cons {j : Nat} {js : List Nat} {v : Vl} {vs : List Vl} {lo : Lo} : gNms (j :: js) (v :: vs) lo = gNms js vs (lo.set j (some v)) := rfl
@[simp ↓] theorem WG_gSb {f : OSet} {o i : EM} {v : Vl} {N : Lo → Sto → Prop} : WG (gSb f o i) v lo s N E = WE (o lo) s (fun x s => WE (i lo) s (fun y s => match f x y v s with | some s' => N lo s' | none => False) E) E := by
  simp only [WG_eq]
  unfold gSb
  rw [WE_bnd]
  refine WE_ext fun x s => ?_
  rw [WE_bnd]
  refine WE_ext fun y s => ?_
  simp only [WE_eq]
  unfold WE0 liftU
  cases f x y v s <;> rfl
@[simp ↓] theorem WS_sAsg {g : GM} {e : EM} : WS (sAsg g e) lo s K = WE (e lo) s (fun v s => WG g v lo s K.nx (fun x s => K.ex x lo s)) (fun x s => K.ex x lo s) := by
  unfold sAsg
  rw [WS_bndS]
  refine WE_ext fun v s => ?_
  simp only [WG_eq, WE_eq]
  unfold WE0
  cases g v lo s <;> rfl
@[simp ↓] theorem WS_sFldM {cs : List Nat} {f : Str} {o e : EM} : WS (sFldM cs f o e) lo s K = WE (e lo) s (fun v s => WE (o lo) s (fun x s => match setFld cs f x v s with | some s' => K.nx lo s' | none => False) (fun x s => K.ex x lo s)) (fun x s => K.ex x lo s) := by
  unfold sFldM
  rw [WS_bndS]
  refine WE_ext fun v s => ?_
  refine Eq.trans (b := WS (bndS o fun lo x s => match setFld cs f x v s with | some s' => .nx lo s' | none => .fail) lo s K) (by simp only [WS_eq]; rfl) ?_
  rw [WS_bndS]
  refine WE_ext fun x s => ?_
  cases setFld cs f x v s <;> rfl
/-! methods, making -/
def methW (m : Str) (tab : MTab) (x : Vl) (s : Sto) (P : (List Vl → M Vl) → Prop) : Prop := match x with
  | .ref j => match s[j]? with
    | some (.ins c fs) => match tab c, getS fs m with
      | some mf, none => P mf
      | _, _ => False
    | _ => False
  | _ => False
theorem WE_eMeth {m : Str} {tab : MTab} {o : EM} {a : AM} : WE (eMeth m tab o a lo) s QV E = WE (o lo) s (fun x s => methW m tab x s fun mf => WE (a lo) s (fun as s => WE (mf (x :: as)) s QV E) E) E := by
  unfold eMeth
  rw [WE_bnd]
  refine WE_ext fun x s => ?_
  cases x <;> try (simp only [WE_eq]; rfl)
  rename_i j
  unfold methW
  show WE (fun s => match s[j]? with | some (.ins c fs) => (match tab c, getS fs m with | some mf, none => bnd (a lo) (fun as => mf (.ref j :: as)) s | _, _ => .fail) | _ => .fail) s QV E = _
  have key : ∀ mf : List Vl → M Vl, WE (a lo) s (fun as s => WE (mf (.ref j :: as)) s QV E) E = WE (bnd (a lo) (fun as => mf (.ref j :: as))) s QV E := fun mf => by rw [WE_bnd]
  simp only [key]
  simp only [WE_eq]
  unfold WE0
  simp only
  cases h : s[j]? with
  | none => rfl
  | some o =>
    cases o <;> try rfl
    rename_i c fs
    simp only
    cases h1 : tab c with
    | none => rfl
    | some mf => cases h2 : getS fs m <;> rfl
theorem WE_eMake {c : Nat} {mi : List Vl → M Vl} {a : AM} : WE (eMake c mi a lo) s QV E = WE (a lo) s (fun as s => WE (mi (.ref s.length :: as)) (s ++ [.ins c []]) (fun v s' => match v with | .non => QV (.ref s.length) s' | _ => False) E) E := by
  unfold eMake
  rw [WE_bnd]
  refine WE_ext fun as s => ?_
  simp only [WE_eq]
  unfold WE0
  simp only
  cases h : mi (.ref s.length :: as) (s ++ [.ins c []]) with
  | ok v s' => cases v <;> rfl
  | exc e s' => rfl
  | fail => rfl
end
end Sm

/-! S14: loops and comprehensions of pure programs -/
namespace Sm
open PySem L2
section
variable {α : Type} {s : Sto} {lo : Lo} {QV : Vl → Sto → Prop} {QA : List Vl → Sto → Prop} {QN : NX → Sto → Prop} {E : Ex → Sto → Prop} {K : RK}
@[simp ↓] theorem WE_aTup {e : EM} : WE (aTup e lo) s QA E = WE (e lo) s (fun x s => match x with | .tup xs => QA xs s | _ => False) E := by
  unfold aTup
  rw [WE_bnd]
  refine WE_ext fun x s => ?_
  cases x <;> simp only [WE_eq] <;> rfl
def rngW (xs : List Vl) (s : Sto) (QA : List Vl → Sto → Prop) : Prop := match xs with
  | [.int n] => (-(2 ^ 62) ≤ n ∧ n < 2 ^ 62) ∧ QA (rng 0 n.toNat) s
  | _ => False
theorem rngW_one {n : Int} : rngW [.int n] s QA = ((-(2 ^ 62) ≤ n ∧ n < 2 ^ 62) ∧ QA (rng 0 n.toNat) s) := rfl
@[simp ↓] theorem WE_aRng {a : AM} : WE (aRng a lo) s QA E = WE (a lo) s (fun xs s => rngW xs s QA) E := by
  unfold aRng
  rw [WE_bnd]
  refine WE_ext fun xs s => ?_
  match xs with
  | [] => simp only [WE_eq]; rfl
  | [.int n] =>
    simp only [rngW]
    by_cases h : -(2 ^ 62) ≤ n ∧ n < 2 ^ 62
    · rw [if_pos h]; simp only [h, and_self, true_and, WE_ret]
    · rw [if_neg h, WE_fail]
      exact (propext ⟨fun z => z.elim, fun z => absurd z.1 h⟩)
  | .non :: _ => simp only [WE_eq]; rfl
  | .bl _ :: _ => simp only [WE_eq]; rfl
  | .str _ :: _ => simp only [WE_eq]; rfl
  | .tup _ :: _ => simp only [WE_eq]; rfl
  | .ref _ :: _ => simp only [WE_eq]; rfl
  | .scr _ :: _ => simp only [WE_eq]; rfl
  | .ty _ :: _ => simp only [WE_eq]; rfl
  | .fn _ :: _ => simp only [WE_eq]; rfl
  | .int _ :: _ :: _ => simp only [WE_eq]; rfl
def lstW (x : Vl) (s : Sto) (P : Nat → List Vl → Prop) : Prop := match x with
  | .ref j => match s[j]? with
    | some (.lst xs) => P j xs
    | _ => False
  | _ => False
@[simp] theorem lstW_ref {j : Nat} {P : Nat → List Vl → Prop} : lstW (.ref j) s P = (match s[j]? with | some (.lst xs) => P j xs | _ => False) := rfl
@[simp ↓] theorem WE_iLst {e : EM} : WE (iLst e lo) s QN E = WE (e lo) s (fun x s => lstW x s fun j _ => QN (nxLst j) s) E := by
  unfold iLst
  rw [WE_bnd]
  refine WE_ext fun x s => ?_
  cases x <;> try (simp only [WE_eq]; rfl)
  rename_i j
  simp only [WE_eq]
  unfold WE0 lstW
  simp only
  cases h : s[j]? with
  | none => rfl
  | some o => cases o <;> rfl
def lst1W (xs : List Vl) (s : Sto) (P : Nat → List Vl → Prop) : Prop := match xs with
  | [x] => lstW x s P
  | _ => False
@[simp] theorem lst1W_one {x : Vl} {P : Nat → List Vl → Prop} : lst1W [x] s P = lstW x s P := rfl
@[simp ↓] theorem WE_iEnm {a : AM} : WE (iEnm a lo) s QN E = WE (a lo) s (fun xs s => lst1W xs s fun j _ => QN (nxEnum j) s) E := by
  unfold iEnm
  rw [WE_bnd]
  refine WE_ext fun xs s => ?_
  match xs with
  | [] => simp only [WE_eq]; rfl
  | [.ref j] =>
    simp only [WE_eq]
    unfold WE0 lst1W lstW
    simp only
    cases h : s[j]? with
    | none => rfl
    | some o => cases o <;> rfl
  | .non :: _ => cases ‹List Vl› <;> simp only [WE_eq] <;> rfl
  | .bl _ :: _ => cases ‹List Vl› <;> simp only [WE_eq] <;> rfl
  | .int _ :: _ => cases ‹List Vl› <;> simp only [WE_eq] <;> rfl
  | .str _ :: _ => cases ‹List Vl› <;> simp only [WE_eq] <;> rfl
  | .tup _ :: _ => cases ‹List Vl› <;> simp only [WE_eq] <;> rfl
  | .scr _ :: _ => cases ‹List Vl› <;> simp only [WE_eq] <;> rfl
  | .ty _ :: _ => cases ‹List Vl› <;> simp only [WE_eq] <;> rfl
  | .fn _ :: _ => cases ‹List Vl› <;> simp only [WE_eq] <;> rfl
  | .ref _ :: _ :: _ => simp only [WE_eq]; rfl
@[simp ↓] theorem WS_sForX {ma : AM} {g : GM} {b : SM} : WS (sForX ma g b) lo s K = WE (ma lo) s (fun xs s => WS (loopX g b xs) lo s K) (fun e s => K.ex e lo s) := by
  unfold sForX
  rw [WS_bndS]
  refine WE_ext fun xs s => ?_
  simp only [WS_eq]
  rfl
@[simp ↓] theorem WS_sFor {n : Nat} {m : IM} {g : GM} {b : SM} : WS (sFor n m g b) lo s K = WE (m lo) s (fun nx s => WS (loopN nx g b n 0) lo s K) (fun e s => K.ex e lo s) := by
  unfold sFor
  rw [WS_bndS]
  refine WE_ext fun xs s => ?_
  simp only [WS_eq]
  rfl
/-- a for by its invariant -/
theorem loopX_inv {g : GM} {b : SM} {xs : List Vl} (I : Nat → Lo → Sto → Prop) (h0 : I 0 lo s)
    (hs : ∀ i v lo s, xs[i]? = some v → I i lo s → WG g v lo s (fun lo s => WS b lo s ⟨I (i + 1), K.rt, K.nx, I (i + 1), K.ex⟩) (fun e s => K.ex e lo s)) (hd : ∀ lo s, I xs.length lo s → K.nx lo s) : WS (loopX g b xs) lo s K := by
  have key : ∀ (ys : List Vl) (i : Nat) (lo : Lo) (s : Sto), xs.drop i = ys → i ≤ xs.length → I i lo s → WS (loopX g b ys) lo s K := by
    intro ys
    induction ys with
    | nil =>
      intro i lo s e hi h
      have : i = xs.length := Nat.le_antisymm hi (List.drop_eq_nil_iff.mp e)
      subst this
      exact ⟨hd lo s h⟩
    | cons y ys ih =>
      intro i lo s e hi h
      have hi' : i < xs.length := by
        rcases Nat.lt_or_ge i xs.length with q | q
        · exact q
        · rw [List.drop_eq_nil_of_le q] at e; cases e
      rw [List.drop_eq_getElem_cons hi'] at e
      obtain ⟨e1, e2⟩ := List.cons.inj e
      have st := hs i y lo s (by rw [List.getElem?_eq_getElem hi', e1]) h
      simp only [WS_eq]
      unfold WS0 loopX
      simp only [WG_eq, WE_eq] at st
      unfold WE0 at st
      cases q : g y lo s with
      | fail => simp only [q] at st
      | exc z s' => simp only [q] at st ⊢; exact st
      | ok lo' s' =>
        simp only [q] at st ⊢
        simp only [WS_eq] at st
        unfold WS0 at st
        cases q2 : b lo' s' with
        | nx lo2 s2 => simp only [q2] at st ⊢; exact (ih (i + 1) lo2 s2 e2 hi' st).h
        | ct lo2 s2 => simp only [q2] at st ⊢; exact (ih (i + 1) lo2 s2 e2 hi' st).h
        | bk lo2 s2 => simp only [q2] at st ⊢; exact st
        | rt v s2 => simp only [q2] at st ⊢; exact st
        | exc z lo2 s2 => simp only [q2] at st ⊢; exact st
        | fail => simp only [q2] at st
  exact key xs 0 lo s (by simp) (Nat.zero_le _) h0
/-- the same over what nx tells: n items, at each turn the i-th one is f i -/
theorem loopN_inv {nx : NX} {g : GM} {b : SM} {n fuel : Nat} (I : Nat → Lo → Sto → Prop) (f : Nat → Vl) (hf : n < fuel) (h0 : I 0 lo s) (hn : ∀ i lo s, i < n → I i lo s → nx i s = some (some (f i))) (he : ∀ lo s, I n lo s → nx n s = some none)
    (hs : ∀ i lo s, i < n → I i lo s → WG g (f i) lo s (fun lo s => WS b lo s ⟨I (i + 1), K.rt, K.nx, I (i + 1), K.ex⟩) (fun e s => K.ex e lo s)) (hd : ∀ lo s, I n lo s → K.nx lo s) : WS (loopN nx g b fuel 0) lo s K := by
  have key : ∀ (k i : Nat) (lo : Lo) (s : Sto), n - i < k → i ≤ n → I i lo s → WS (loopN nx g b k i) lo s K := by
    intro k
    induction k with
    | zero => intro i lo s h; omega
    | succ k ih =>
      intro i lo s hk hi h
      simp only [WS_eq]
      unfold WS0 loopN
      rcases Nat.lt_or_ge i n with q | q
      · simp only [hn i lo s q h]
        have st := hs i lo s q h
        simp only [WG_eq, WE_eq] at st
        unfold WE0 at st
        cases q1 : g (f i) lo s with
        | fail => simp only [q1] at st
        | exc z s' => simp only [q1] at st ⊢; exact st
        | ok lo' s' =>
          simp only [q1] at st ⊢
          simp only [WS_eq] at st
          unfold WS0 at st
          cases q2 : b lo' s' with
          | nx lo2 s2 => simp only [q2] at st ⊢; exact (ih (i + 1) lo2 s2 (by omega) q st).h
          | ct lo2 s2 => simp only [q2] at st ⊢; exact (ih (i + 1) lo2 s2 (by omega) q st).h
          | bk lo2 s2 => simp only [q2] at st ⊢; exact st
          | rt v s2 => simp only [q2] at st ⊢; exact st
          | exc z lo2 s2 => simp only [q2] at st ⊢; exact st
          | fail => simp only [q2] at st
      · have : i = n := Nat.le_antisymm hi q
        subst this
        simp only [he lo s h]
        exact hd lo s h
  exact key fuel 0 lo s (by omega) (Nat.zero_le _) h0
/-- over a list that the loop leaves as it is -/
theorem loopL_inv {j : Nat} {xs : List Vl} {g : GM} {b : SM} {fuel : Nat} (I : Nat → Lo → Sto → Prop) (hf : xs.length < fuel) (h0 : I 0 lo s) (hl : ∀ i lo s, I i lo s → s[j]? = some (.lst xs))
    (hs : ∀ i v lo s, xs[i]? = some v → I i lo s → WG g v lo s (fun lo s => WS b lo s ⟨I (i + 1), K.rt, K.nx, I (i + 1), K.ex⟩) (fun e s => K.ex e lo s)) (hd : ∀ lo s, I xs.length lo s → K.nx lo s) : WS (loopN (nxLst j) g b fuel 0) lo s K :=
  loopN_inv I (fun i => (xs[i]?).getD .non) hf h0 (fun i lo s hi h => by simp only [nxLst, hl i lo s h, List.getElem?_eq_getElem hi, Option.getD]) (fun lo s h => by simp only [nxLst, hl _ lo s h]; rw [List.getElem?_eq_none (Nat.le_refl _)])
    (fun i lo s hi h => by
      have := hs i xs[i] lo s (List.getElem?_eq_getElem hi) h
      simpa only [List.getElem?_eq_getElem hi, Option.getD] using this) hd
/-- enumerate -/
theorem loopE_inv {j : Nat} {xs : List Vl} {g : GM} {b : SM} {fuel : Nat} (I : Nat → Lo → Sto → Prop) (hf : xs.length < fuel) (h0 : I 0 lo s) (hl : ∀ i lo s, I i lo s → s[j]? = some (.lst xs))
    (hs : ∀ i v lo s, xs[i]? = some v → I i lo s → WG g (.tup [.int (i : Nat), v]) lo s (fun lo s => WS b lo s ⟨I (i + 1), K.rt, K.nx, I (i + 1), K.ex⟩) (fun e s => K.ex e lo s)) (hd : ∀ lo s, I xs.length lo s → K.nx lo s) : WS (loopN (nxEnum j) g b fuel 0) lo s K :=
  loopN_inv I (fun i => .tup [.int (i : Nat), (xs[i]?).getD .non]) hf h0 (fun i lo s hi h => by simp only [nxEnum, hl i lo s h, List.getElem?_eq_getElem hi, Option.getD]) (fun lo s h => by simp only [nxEnum, hl _ lo s h]; rw [List.getElem?_eq_none (Nat.le_refl _)])
    (fun i lo s hi h => by
      have := hs i xs[i] lo s (List.getElem?_eq_getElem hi) h
      simpa only [List.getElem?_eq_getElem hi, Option.getD] using this) hd
/-- while, by an invariant with a number that falls -/
theorem loopW_inv {t : TM} {b : SM} {n : Nat} (I : Nat → Lo → Sto → Prop) (m0 : Nat) (hm : m0 < n) (h0 : I m0 lo s)
    (hs : ∀ m lo s, I m lo s → WE (t lo) s (fun c s' => if c = true then WS b lo s' ⟨fun lo s => ∃ m', m' < m ∧ I m' lo s, K.rt, K.nx, fun lo s => ∃ m', m' < m ∧ I m' lo s, K.ex⟩ else K.nx lo s') (fun e s => K.ex e lo s)) : WS (loopW t b n) lo s K := by
  have key : ∀ (k m : Nat) (lo : Lo) (s : Sto), m < k → I m lo s → WS (loopW t b k) lo s K := by
    intro k
    induction k with
    | zero => intro m lo s h; omega
    | succ k ih =>
      intro m lo s hk h
      have st := hs m lo s h
      simp only [WS_eq]
      unfold WS0 loopW
      simp only [WE_eq] at st
      unfold WE0 at st
      cases q : t lo s with
      | fail => simp only [q] at st
      | exc z s' => simp only [q] at st ⊢; exact st
      | ok c s' =>
        cases c with
        | false => simp only [q] at st ⊢; exact (by simpa using st)
        | true =>
          simp only [q, if_true] at st ⊢
          simp only [WS_eq] at st
          unfold WS0 at st
          cases q2 : b lo s' with
          | nx lo2 s2 => simp only [q2] at st ⊢; obtain ⟨m', h1, h2⟩ := st; exact (ih m' lo2 s2 (by omega) h2).h
          | ct lo2 s2 => simp only [q2] at st ⊢; obtain ⟨m', h1, h2⟩ := st; exact (ih m' lo2 s2 (by omega) h2).h
          | bk lo2 s2 => simp only [q2] at st ⊢; exact st
          | rt v s2 => simp only [q2] at st ⊢; exact st
          | exc z lo2 s2 => simp only [q2] at st ⊢; exact st
          | fail => simp only [q2] at st
  exact key n m0 lo s hm h0
/-! ### comprehensions -/
def WL0 (o : Option Sto) (Q : Sto → Prop) : Prop := match o with
  | some s => Q s
  | none => False
structure WL (o : Option Sto) (Q : Sto → Prop) (_ : Tg Q := .a) : Prop where
  h : WL0 o Q
theorem WL_eq {o : Option Sto} {Q : Sto → Prop} : WL o Q = WL0 o Q := propext ⟨fun x => x.h, fun x => ⟨x⟩⟩
@[simp ↓] theorem WE_eLc {n : Nat} {m : IM} {g : GL} {t : TM} {e : EM} {vs : List Nat} : WE (eLc n m g t e vs lo) s QV E = WE (m lo) s (fun nx s => WL (lcN nx g t e s.length (wipeL lo vs) n 0 (s ++ [.lst []])) fun s' => QV (.ref s.length) s') E := by
  unfold eLc
  rw [WE_bnd]
  refine WE_ext fun nx s => ?_
  simp only [WE_eq, WL_eq]
  unfold WE0 WL0
  simp only
  cases lcN nx g t e s.length (wipeL lo vs) n 0 (s ++ [.lst []]) <;> rfl
@[simp ↓] theorem WE_eLcX {m : AM} {g : GL} {t : TM} {e : EM} {vs : List Nat} : WE (eLcX m g t e vs lo) s QV E = WE (m lo) s (fun xs s => WL (lcX g t e s.length (wipeL lo vs) xs (s ++ [.lst []])) fun s' => QV (.ref s.length) s') E := by
  unfold eLcX
  rw [WE_bnd]
  refine WE_ext fun xs s => ?_
  simp only [WE_eq, WL_eq]
  unfold WE0 WL0
  simp only
  cases lcX g t e s.length (wipeL lo vs) xs (s ++ [.lst []]) <;> rfl
/-- one turn -/
def LcT (t : TM) (e : EM) (d : Nat) (lo : Lo) (s : Sto) (Q : Sto → Prop) : Prop :=
  WE (t lo) s (fun c s => if c = true then WE (e lo) s (fun y s => match s[d]? with | some (.lst acc) => acc.length < LIM ∧ Q (s.set d (.lst (acc ++ [y]))) | _ => False) NoX else Q s) NoX
theorem lcStep_of {t : TM} {e : EM} {d : Nat} {lo : Lo} {s : Sto} {Q : Sto → Prop} (h : LcT t e d lo s Q) : ∃ s', lcStep t e d lo s = some s' ∧ Q s' := by
  unfold LcT at h
  simp only [WE_eq] at h
  unfold WE0 at h
  unfold lcStep
  cases q : t lo s with
  | fail => simp only [q] at h
  | exc z s1 => simp only [q] at h; exact h.elim
  | ok c s1 =>
    cases c with
    | false => simp only [q] at h ⊢; exact ⟨s1, rfl, by simpa using h⟩
    | true =>
      simp only [q, if_true] at h ⊢
      cases q2 : e lo s1 with
      | fail => simp only [q2] at h
      | exc z s2 => simp only [q2] at h; exact h.elim
      | ok y s2 =>
        simp only [q2] at h ⊢
        split at h
        · rename_i acc hacc
          simp only [hacc, if_pos h.1]
          exact ⟨_, rfl, h.2⟩
        · exact h.elim
theorem lcX_inv {g : GL} {t : TM} {e : EM} {d : Nat} {xs : List Vl} {s : Sto} {Q : Sto → Prop} (I : Nat → Sto → Prop) (h0 : I 0 s) (hs : ∀ i v s, xs[i]? = some v → I i s → ∃ lo', g v lo = some lo' ∧ LcT t e d lo' s (I (i + 1))) (hd : ∀ s, I xs.length s → Q s) :
    WL (lcX g t e d lo xs s) Q := by
  have key : ∀ (ys : List Vl) (i : Nat) (s : Sto), xs.drop i = ys → i ≤ xs.length → I i s → WL (lcX g t e d lo ys s) Q := by
    intro ys
    induction ys with
    | nil =>
      intro i s e hi h
      have : i = xs.length := Nat.le_antisymm hi (List.drop_eq_nil_iff.mp e)
      subst this
      exact ⟨hd s h⟩
    | cons y ys ih =>
      intro i s e hi h
      have hi' : i < xs.length := by
        rcases Nat.lt_or_ge i xs.length with q | q
        · exact q
        · rw [List.drop_eq_nil_of_le q] at e; cases e
      rw [List.drop_eq_getElem_cons hi'] at e
      obtain ⟨e1, e2⟩ := List.cons.inj e
      obtain ⟨lo', g1, g2⟩ := hs i y s (by rw [List.getElem?_eq_getElem hi', e1]) h
      obtain ⟨s', k1, k2⟩ := lcStep_of g2
      unfold lcX
      simp only [g1, k1]
      exact ih (i + 1) s' e2 hi' k2
  exact key xs 0 s (by simp) (Nat.zero_le _) h0
theorem lcN_inv {nx : NX} {g : GL} {t : TM} {e : EM} {d n fuel : Nat} {s : Sto} {Q : Sto → Prop} (I : Nat → Sto → Prop) (f : Nat → Vl) (hf : n < fuel) (h0 : I 0 s) (hn : ∀ i s, i < n → I i s → nx i s = some (some (f i))) (he : ∀ s, I n s → nx n s = some none)
    (hs : ∀ i s, i < n → I i s → ∃ lo', g (f i) lo = some lo' ∧ LcT t e d lo' s (I (i + 1))) (hd : ∀ s, I n s → Q s) : WL (lcN nx g t e d lo fuel 0 s) Q := by
  have key : ∀ (k i : Nat) (s : Sto), n - i < k → i ≤ n → I i s → WL (lcN nx g t e d lo k i s) Q := by
    intro k
    induction k with
    | zero => intro i s h; omega
    | succ k ih =>
      intro i s hk hi h
      unfold lcN
      rcases Nat.lt_or_ge i n with q | q
      · simp only [hn i s q h]
        obtain ⟨lo', g1, g2⟩ := hs i s q h
        obtain ⟨s', k1, k2⟩ := lcStep_of g2
        simp only [g1, k1]
        exact ih (i + 1) s' (by omega) q k2
      · have : i = n := Nat.le_antisymm hi q
        subst this
        simp only [he s h]
        exact ⟨hd s h⟩
  exact key fuel 0 s (by omega) (Nat.zero_le _) h0
theorem lcL_inv {j : Nat} {xs : List Vl} {g : GL} {t : TM} {e : EM} {d fuel : Nat} {s : Sto} {Q : Sto → Prop} (I : Nat → Sto → Prop) (hf : xs.length < fuel) (h0 : I 0 s) (hl : ∀ i s, I i s → s[j]? = some (.lst xs))
    (hs : ∀ i v s, xs[i]? = some v → I i s → ∃ lo', g v lo = some lo' ∧ LcT t e d lo' s (I (i + 1))) (hd : ∀ s, I xs.length s → Q s) : WL (lcN (nxLst j) g t e d lo fuel 0 s) Q :=
  lcN_inv I (fun i => (xs[i]?).getD .non) hf h0 (fun i s hi h => by simp only [nxLst, hl i s h, List.getElem?_eq_getElem hi, Option.getD]) (fun s h => by simp only [nxLst, hl _ s h]; rw [List.getElem?_eq_none (Nat.le_refl _)])
    (fun i s hi h => by
      have := hs i xs[i] s (List.getElem?_eq_getElem hi) h
      simpa only [List.getElem?_eq_getElem hi, Option.getD] using this) hd
theorem lcE_inv {j : Nat} {xs : List Vl} {g : GL} {t : TM} {e : EM} {d fuel : Nat} {s : Sto} {Q : Sto → Prop} (I : Nat → Sto → Prop) (hf : xs.length < fuel) (h0 : I 0 s) (hl : ∀ i s, I i s → s[j]? = some (.lst xs))
    (hs : ∀ i v s, xs[i]? = some v → I i s → ∃ lo', g (.tup [.int (i : Nat), v]) lo = some lo' ∧ LcT t e d lo' s (I (i + 1))) (hd : ∀ s, I xs.length s → Q s) : WL (lcN (nxEnum j) g t e d lo fuel 0 s) Q :=
  lcN_inv I (fun i => .tup [.int (i : Nat), (xs[i]?).getD .non]) hf h0 (fun i s hi h => by simp only [nxEnum, hl i s h, List.getElem?_eq_getElem hi, Option.getD]) (fun s h => by simp only [nxEnum, hl _ s h]; rw [List.getElem?_eq_none (Nat.le_refl _)])
    (fun i s hi h => by
      have := hs i xs[i] s (List.getElem?_eq_getElem hi) h
      simpa only [List.getElem?_eq_getElem hi, Option.getD] using this) hd
theorem lcV_inv {j : Nat} {kvs : List (Key × Vl)} {g : GL} {t : TM} {e : EM} {d fuel : Nat} {s : Sto} {Q : Sto → Prop} (I : Nat → Sto → Prop) (hf : kvs.length < fuel) (h0 : I 0 s) (hl : ∀ i s, I i s → s[j]? = some (.fdic kvs))
    (hs : ∀ i v s, (kvs.map (·.2))[i]? = some v → I i s → ∃ lo', g v lo = some lo' ∧ LcT t e d lo' s (I (i + 1))) (hd : ∀ s, I kvs.length s → Q s) : WL (lcN (nxVals j) g t e d lo fuel 0 s) Q :=
  lcN_inv I (fun i => ((kvs.map (·.2))[i]?).getD .non) hf h0 (fun i s hi h => by simp only [nxVals, hl i s h, List.getElem?_eq_getElem hi, List.getElem?_map, Option.map, Option.getD]) (fun s h => by simp only [nxVals, hl _ s h]; rw [List.getElem?_eq_none (Nat.le_refl _)])
    (fun i s hi h => by
      have hi' : i < (kvs.map (·.2)).length := by rw [List.length_map]; exact hi
      have := hs i (kvs.map (·.2))[i] s (List.getElem?_eq_getElem hi') h
      simpa only [List.getElem?_eq_getElem hi', Option.getD] using this) hd
/-- where neither test nor element changes the store: kept items by f -/
def LcP (g : GL) (t : TM) (e : EM) (lo : Lo) (s : Sto) (x : Vl) (r : Option Vl) : Prop := ∀ acc, ∃ lo', g x lo = some lo' ∧ WE (t lo') (s ++ [.lst acc]) (fun c s' => s' = s ++ [.lst acc] ∧ if c = true then WE (e lo') s' (fun y s'' => s'' = s ++ [.lst acc] ∧ r = some y) NoX else r = none) NoX
theorem LcP.turn {g : GL} {t : TM} {e : EM} {s : Sto} {x : Vl} {r : Option Vl} {acc : List Vl} (h : LcP g t e lo s x r) (hl : acc.length < LIM) : ∃ lo', g x lo = some lo' ∧ LcT t e s.length lo' (s ++ [.lst acc]) fun s' => s' = s ++ [.lst (acc ++ r.toList)] := by
  obtain ⟨lo', h1, h2⟩ := h acc
  refine ⟨lo', h1, WE.mono h2 (fun c s' hc => ?_) fun _ _ z => z⟩
  obtain ⟨rfl, h3⟩ := hc
  cases c with
  | false =>
    simp only [if_false, Bool.false_eq_true] at h3 ⊢
    subst h3
    simp
  | true =>
    simp only [if_true] at h3 ⊢
    refine WE.mono h3 (fun y s'' hy => ?_) fun _ _ z => z
    obtain ⟨rfl, rfl⟩ := hy
    simp [hl]
theorem lcX_pure {g : GL} {t : TM} {e : EM} {xs : List Vl} {s : Sto} {Q : Sto → Prop} (f : Vl → Option Vl) (hl : xs.length < LIM) (hx : ∀ x ∈ xs, LcP g t e lo s x (f x)) (hd : Q (s ++ [.lst (xs.filterMap f)])) : WL (lcX g t e s.length lo xs (s ++ [.lst []])) Q := by
  refine lcX_inv (fun i s' => s' = s ++ [.lst ((xs.take i).filterMap f)]) (by simp) (fun i v s' hv e => ?_) (fun s' e => by rw [e, List.take_length]; exact hd)
  subst e
  obtain ⟨hi, ev⟩ := List.getElem?_eq_some_iff.mp hv
  have hlen : ((xs.take i).filterMap f).length < LIM := Nat.lt_of_le_of_lt (Nat.le_trans (List.length_filterMap_le ..) (by rw [List.length_take]; exact Nat.min_le_right ..)) hl
  obtain ⟨lo', h1, h2⟩ := (hx v (List.mem_of_getElem? hv)).turn hlen
  refine ⟨lo', h1, ?_⟩
  have : (xs.take (i + 1)).filterMap f = (xs.take i).filterMap f ++ (f v).toList := by
    rw [List.take_add_one, hv, Option.toList, List.filterMap_append]
    cases h : f v <;> simp [List.filterMap_cons, h]
  rw [this]
  exact h2
theorem lcL_pure {j fuel : Nat} {g : GL} {t : TM} {e : EM} {xs : List Vl} {s : Sto} {Q : Sto → Prop} (f : Vl → Option Vl) (hj : s[j]? = some (.lst xs)) (hl : xs.length < LIM) (hf : xs.length < fuel) (hx : ∀ x ∈ xs, LcP g t e lo s x (f x)) (hd : Q (s ++ [.lst (xs.filterMap f)])) :
    WL (lcN (nxLst j) g t e s.length lo fuel 0 (s ++ [.lst []])) Q := by
  have hjl : j < s.length := (List.getElem?_eq_some_iff.mp hj).1
  refine lcL_inv (xs := xs) (fun i s' => s' = s ++ [.lst ((xs.take i).filterMap f)]) hf (by simp) (fun i s' e => by rw [e, List.getElem?_append_left hjl]; exact hj) (fun i v s' hv e => ?_) (fun s' e => by rw [e, List.take_length]; exact hd)
  subst e
  have hlen : ((xs.take i).filterMap f).length < LIM := Nat.lt_of_le_of_lt (Nat.le_trans (List.length_filterMap_le ..) (by rw [List.length_take]; exact Nat.min_le_right ..)) hl
  obtain ⟨lo', h1, h2⟩ := (hx v (List.mem_of_getElem? hv)).turn hlen
  refine ⟨lo', h1, ?_⟩
  have : (xs.take (i + 1)).filterMap f = (xs.take i).filterMap f ++ (f v).toList := by
    rw [List.take_add_one, hv, Option.toList, List.filterMap_append]
    cases h : f v <;> simp [List.filterMap_cons, h]
  rw [this]
  exact h2
end
end Sm

/-! S15: frames of stores; locked dicts; decks of numbers -/
namespace Sm
open PySem L2
/-- all that stood in s stands in s' but for the numbers X -/
structure Fr (X : List Nat) (s s' : Sto) : Prop where
  le : s.length ≤ s'.length
  get : ∀ i, i < s.length → i ∉ X → s'[i]? = s[i]?
section
variable {X Y : List Nat} {s s1 s2 : Sto}
theorem Fr.refl : Fr X s s := ⟨Nat.le_refl _, fun _ _ _ => rfl⟩
theorem Fr.trans (a : Fr X s s1) (b : Fr X s1 s2) : Fr X s s2 := ⟨Nat.le_trans a.le b.le, fun i hi hx => (b.get i (Nat.lt_of_lt_of_le hi a.le) hx).trans (a.get i hi hx)⟩
theorem Fr.mono (a : Fr X s s1) (h : ∀ i ∈ X, i ∈ Y) : Fr Y s s1 := ⟨a.le, fun i hi hx => a.get i hi fun z => hx (h i z)⟩
/-- what is changed in s1 may be new since s -/
theorem Fr.trans' (a : Fr X s s1) (b : Fr Y s1 s2) (h : ∀ i ∈ Y, i ∈ X ∨ s.length ≤ i) : Fr X s s2 := ⟨Nat.le_trans a.le b.le, fun i hi hx => (b.get i (Nat.lt_of_lt_of_le hi a.le) fun z => (h i z).elim hx fun q => absurd hi (Nat.not_lt.mpr q)).trans (a.get i hi hx)⟩
theorem Fr.at (a : Fr X s s1) {i : Nat} {o : Ob} (h : s[i]? = some o) (hx : i ∉ X) : s1[i]? = some o := (a.get i (List.getElem?_eq_some_iff.mp h).1 hx).trans h
theorem Fr.push (a : Fr X s s1) (o : Ob) : Fr X s (s1 ++ [o]) := ⟨by rw [List.length_append]; exact Nat.le_trans a.le (Nat.le_add_right ..), fun i hi hx => by rw [List.getElem?_append_left (Nat.lt_of_lt_of_le hi a.le)]; exact a.get i hi hx⟩
theorem Fr.app (a : Fr X s s1) (t : Sto) : Fr X s (s1 ++ t) := ⟨by rw [List.length_append]; exact Nat.le_trans a.le (Nat.le_add_right ..), fun i hi hx => by rw [List.getElem?_append_left (Nat.lt_of_lt_of_le hi a.le)]; exact a.get i hi hx⟩
theorem Fr.set (a : Fr X s s1) {i : Nat} {o : Ob} (h : i ∈ X ∨ s.length ≤ i) : Fr X s (s1.set i o) := ⟨by rw [List.length_set]; exact a.le, fun j hj hx => by
  rw [List.getElem?_set_ne (fun z => by subst z; exact h.elim hx fun q => absurd hj (Nat.not_lt.mpr q))]
  exact a.get j hj hx⟩
end
@[simp] theorem get_set_self {s : Sto} {i : Nat} {o o' : Ob} (h : s[i]? = some o) : (s.set i o')[i]? = some o' := List.getElem?_set_self (List.getElem?_eq_some_iff.mp h).1
theorem get_set_ne {s : Sto} {i j : Nat} {o' : Ob} (h : i ≠ j) : (s.set i o')[j]? = s[j]? := List.getElem?_set_ne h
theorem get_push {s : Sto} {i : Nat} {o o' : Ob} (h : s[i]? = some o) : (s ++ [o'])[i]? = some o := by rw [List.getElem?_append_left (List.getElem?_eq_some_iff.mp h).1]; exact h
theorem get_app {s t : Sto} {i : Nat} {o : Ob} (h : s[i]? = some o) : (s ++ t)[i]? = some o := by rw [List.getElem?_append_left (List.getElem?_eq_some_iff.mp h).1]; exact h
@[simp] theorem get_last {s : Sto} {o : Ob} : (s ++ [o])[s.length]? = some o := by simp
theorem lt_of_get {s : Sto} {i : Nat} {o : Ob} (h : s[i]? = some o) : i < s.length := (List.getElem?_eq_some_iff.mp h).1
theorem ne_of_get {s : Sto} {i j : Nat} {o o' : Ob} (h : s[i]? = some o) (h' : s[j]? = some o') (n : o ≠ o') : i ≠ j := fun e => by subst e; rw [h] at h'; cases h'; exact n rfl
section
variable {s : Sto} {lo : Lo} {QV : Vl → Sto → Prop} {E : Ex → Sto → Prop}
theorem WE_eLock {e c : EM} {j : Nat} {kvs : List (Key × Vl)} (he : WE (e lo) s (fun v _ => v = .ref j) NoX) (hj : s[j]? = some (.dic kvs)) (hc : WE (c lo) (s.set j (.fdic kvs)) (fun v s' => (∃ kvs', s'[j]? = some (.fdic kvs')) ∧ QV v (s'.set j (.dic kvs))) NoX) : WE (eLock e c lo) s QV E := by
  obtain ⟨v, s', e1, e2⟩ := he.get
  subst e2
  obtain ⟨w, s2, e3, ⟨k', e4⟩, e5⟩ := hc.get
  simp only [WE_eq]
  unfold WE0 eLock
  simp only [e1, hj, e3, e4]
  exact e5
@[simp ↓] theorem WE_iVal {e : EM} {QN : NX → Sto → Prop} : WE (iVal e lo) s QN E = WE (e lo) s (fun x s => match x with | .ref j => (match s[j]? with | some (.fdic _) => QN (nxVals j) s | _ => False) | _ => False) E := by
  unfold iVal
  rw [WE_bnd]
  refine WE_ext fun x s => ?_
  cases x <;> try (simp only [WE_eq]; rfl)
  rename_i j
  simp only [WE_eq]
  unfold WE0
  simp only
  cases h : s[j]? with
  | none => rfl
  | some o => cases o <;> rfl
@[simp ↓] theorem WE_eListVals {e : EM} : WE (eListVals e lo) s QV E = WE (e lo) s (fun x s => match x with | .ref j => (match s[j]? with | some (.dic kvs) => QV (.ref s.length) (s ++ [.lst (kvs.map (·.2))]) | _ => False) | _ => False) E := by
  unfold eListVals
  rw [WE_bnd]
  refine WE_ext fun x s => ?_
  cases x <;> try (simp only [WE_eq]; rfl)
  rename_i j
  simp only [WE_eq]
  unfold WE0
  simp only
  cases h : s[j]? with
  | none => rfl
  | some o => cases o <;> rfl
/-- {k: v} of plain parts -/
theorem WE_eDict1 {k v : EM} {x y : Vl} {key : Key} (hk : ∀ s, WE (k lo) s (fun z s' => z = x ∧ s' = s) NoX) (hv : ∀ s, WE (v lo) s (fun z s' => z = y ∧ s' = s) NoX) (hx : keyOf x = some key) (h : QV (.ref s.length) (s ++ [.dic [(key, y)]])) : WE (eDict [(k, v)] lo) s QV E := by
  obtain ⟨a, s1, e1, rfl, rfl⟩ := (hk (s ++ [.dic []])).get
  obtain ⟨b, s2, e2, rfl, rfl⟩ := (hv (s ++ [.dic []])).get
  simp only [WE_eq]
  unfold WE0 eDict
  have : dpM [(k, v)] lo (s ++ [.dic []]) = .ok [(a, b)] (s ++ [.dic []]) := by
    simp only [dpM, bnd, e1, e2, ret]
  simp only [this, get_last]
  simp [mapO, keyP, hx, mergeP, put]
  exact h
end
/-- a deck: the cells at l and the count c, at d -/
structure Deck (s : Sto) (d l c : Nat) (cells : List Int) : Prop where
  top : s[d]? = some (.lst [.ref l, .int c])
  cel : s[l]? = some (.lst (cells.map Vl.int))
  nn : ∀ x ∈ cells, 0 ≤ x
  ne : l ≠ d
theorem Deck.fr {X : List Nat} {s s' : Sto} {d l c : Nat} {cells : List Int} (D : Deck s d l c cells) (f : Fr X s s') (h1 : d ∉ X) (h2 : l ∉ X) : Deck s' d l c cells := ⟨f.at D.top h1, f.at D.cel h2, D.nn, D.ne⟩
/-- some deck with at most c draws -/
def DeckLe (s : Sto) (d l c : Nat) : Prop := ∃ k cells, k ≤ c ∧ Deck s d l k cells
end Sm

/-! S16: operations on values that are known, as rewriting rules -/
namespace Sm
open PySem L2
section
variable {α : Type} {s : Sto} {lo : Lo} {i j : Int} {a b : Nat} {xs ys : List Vl} {x y : Str} {v w : Vl} {kvs : List (Key × Vl)} {k : Bool}
@[simp] theorem opAdd_int : opAdd (.int i) (.int j) s = some (.int (i + j), s) := rfl
@[simp] theorem opSub_int : opSub (.int i) (.int j) s = some (.int (i - j), s) := rfl
@[simp] theorem opNeg_int : opNeg (.int i) s = some (.int (-i), s) := rfl
@[simp] theorem opAdd_tup (h : xs.length + ys.length ≤ LIM) : opAdd (.tup xs) (.tup ys) s = some (.tup (xs ++ ys), s) := by simp only [opAdd, if_pos h]
@[simp] theorem opAdd_str (h : x.length + y.length ≤ LIM) : opAdd (.str x) (.str y) s = some (.str (x ++ y), s) := by simp only [opAdd, if_pos h]
@[simp] theorem opAdd_lst (h1 : s[a]? = some (.lst xs)) (h2 : s[b]? = some (.lst ys)) (h : xs.length + ys.length ≤ LIM) : opAdd (.ref a) (.ref b) s = some (.ref s.length, s ++ [.lst (xs ++ ys)]) := by simp only [opAdd, h1, h2, if_pos h]
@[simp] theorem opMul_int (h : (-(2 ^ 64) < i ∧ i < 2 ^ 64) ∨ (-(2 ^ 64) < j ∧ j < 2 ^ 64)) : opMul (.int i) (.int j) s = some (.int (i * j), s) := by simp only [opMul, if_pos h]
@[simp] theorem opMul_lst (h1 : s[a]? = some (.lst xs)) (h : 0 ≤ i ∧ i < 2 ^ 60 ∧ xs.length * i.toNat ≤ LIM) : opMul (.ref a) (.int i) s = some (.ref s.length, s ++ [.lst (List.replicate i.toNat xs).flatten]) := by simp only [opMul, h1, if_pos h]
@[simp] theorem opFdiv_int (h : 0 < j ∧ j < 1073741824) : opFdiv (.int i) (.int j) s = some (.int (i / j), s) := by simp only [opFdiv, if_pos h]
@[simp] theorem opMod_int (h : 0 < j) : opMod (.int i) (.int j) s = some (.int (i % j), s) := by simp only [opMod, if_pos h]
@[simp] theorem opPow_int (h : 0 ≤ j ∧ j ≤ 1000000 ∧ i.natAbs < 2 ^ 64) : opPow (.int i) (.int j) s = some (.int (i ^ j.toNat), s) := by simp only [opPow, if_pos h]
@[simp] theorem opLt_int : opLt (.int i) (.int j) s = some (.bl (decide (i < j)), s) := rfl
@[simp] theorem opLe_int : opLe (.int i) (.int j) s = some (.bl (decide (i ≤ j)), s) := rfl
@[simp] theorem opGt_int : opGt (.int i) (.int j) s = some (.bl (decide (j < i)), s) := rfl
@[simp] theorem opGe_int : opGe (.int i) (.int j) s = some (.bl (decide (j ≤ i)), s) := rfl
@[simp] theorem opIsN_non : opIsN v .non s = some (.bl (isNon v), s) := by cases v <;> rfl
@[simp] theorem opNotN_non : opNotN v .non s = some (.bl (!isNon v), s) := by cases v <;> rfl
@[simp] theorem isNon_non : isNon .non = true := rfl
@[simp] theorem isNon_int : isNon (.int i) = false := rfl
@[simp] theorem isNon_str : isNon (.str x) = false := rfl
@[simp] theorem isNon_tup : isNon (.tup xs) = false := rfl
@[simp] theorem isNon_ref : isNon (.ref a) = false := rfl
@[simp] theorem isNon_bl : isNon (.bl k) = false := rfl
@[simp] theorem opEq_int : opEq (.int i) (.int j) s = some (.bl (i == j), s) := rfl
@[simp] theorem opNe_int : opNe (.int i) (.int j) s = some (.bl (!(i == j)), s) := rfl
@[simp] theorem opEq_str : opEq (.str x) (.str y) s = some (.bl (x == y), s) := rfl
@[simp] theorem opNe_str : opNe (.str x) (.str y) s = some (.bl (!(x == y)), s) := rfl
@[simp] theorem opIx_tup : opIx (.tup xs) (.int i) s = (atI xs i).map fun v => (v, s) := rfl
@[simp] theorem opIx_lst (h : s[a]? = some (.lst xs)) : opIx (.ref a) (.int i) s = (atI xs i).map fun v => (v, s) := by simp only [opIx, h]
@[simp] theorem opIx_dicI (h : s[a]? = some (.dic kvs)) : opIx (.ref a) (.int i) s = (look kvs (.inl i)).map fun v => (v, s) := by simp only [opIx, h, keyOf]
@[simp] theorem opIx_dicS (h : s[a]? = some (.dic kvs)) : opIx (.ref a) (.str x) s = (look kvs (.inr x)).map fun v => (v, s) := by simp only [opIx, h, keyOf]
@[simp] theorem opSet_lst (h : s[a]? = some (.lst xs)) : opSet (.ref a) (.int i) v s = (ixN xs.length i).map fun n => s.set a (.lst (xs.set n v)) := by
  simp only [opSet, h]
  cases ixN xs.length i <;> rfl
@[simp] theorem opSet_dicI (h : s[a]? = some (.dic kvs)) (hl : kvs.length < LIM) : opSet (.ref a) (.int i) v s = some (s.set a (.dic (put kvs (.inl i) v))) := by simp only [opSet, h, keyOf, if_pos hl]
@[simp] theorem opSet_dicS (h : s[a]? = some (.dic kvs)) (hl : kvs.length < LIM) : opSet (.ref a) (.str x) v s = some (s.set a (.dic (put kvs (.inr x) v))) := by simp only [opSet, h, keyOf, if_pos hl]
@[simp] theorem oLen_lst (h : s[a]? = some (.lst xs)) : oLen [.ref a] s = some (.int xs.length, s) := by simp [oLen, lenM, h]
@[simp] theorem oLen_dic (h : s[a]? = some (.dic kvs)) : oLen [.ref a] s = some (.int kvs.length, s) := by simp [oLen, lenM, h]
@[simp] theorem oLen_tup : oLen [.tup xs] s = some (.int xs.length, s) := rfl
@[simp] theorem oAbs_int : oAbs [.int i] s = some (.int (if i < 0 then -i else i), s) := rfl
@[simp] theorem oInt_int : oInt [.int i] s = some (.int i, s) := rfl
@[simp] theorem oInt_bl : oInt [.bl k] s = some (.int (if k then 1 else 0), s) := rfl
@[simp] theorem oMax_int : oMax [.int i, .int j] s = some (.int (if j > i then j else i), s) := rfl
@[simp] theorem oMin_int : oMin [.int i, .int j] s = some (.int (if j < i then j else i), s) := rfl
@[simp] theorem oTup_ok (h : xs.length ≤ LIM) : oTup xs s = some (.tup xs, s) := by simp only [oTup, if_pos h]
@[simp] theorem oLst_ok (h : xs.length ≤ LIM) : oLst xs s = some (.ref s.length, s ++ [.lst xs]) := by simp only [oLst, if_pos h]
@[simp] theorem oTuple_lst (h : s[a]? = some (.lst xs)) : oTuple [.ref a] s = some (.tup xs, s) := by simp only [oTuple, h]
@[simp] theorem oTuple_tup : oTuple [.tup xs] s = some (.tup xs, s) := rfl
@[simp] theorem oList_lst (h : s[a]? = some (.lst xs)) : oList [.ref a] s = some (.ref s.length, s ++ [.lst xs]) := by simp only [oList, h]
@[simp] theorem oList_tup : oList [.tup xs] s = some (.ref s.length, s ++ [.lst xs]) := rfl
@[simp] theorem oList_dic (h : s[a]? = some (.dic kvs)) : oList [.ref a] s = some (.ref s.length, s ++ [.lst (kvs.map fun kv => keyVl kv.1)]) := by simp only [oList, h]
@[simp] theorem oAppend_lst (h : s[a]? = some (.lst xs)) (hl : xs.length < LIM) : oAppend (.ref a) [v] s = some (.non, s.set a (.lst (xs ++ [v]))) := by simp only [oAppend, h, if_pos hl]
@[simp] theorem oExtend_lst (h : s[a]? = some (.lst xs)) (h2 : s[b]? = some (.lst ys)) (hl : xs.length + ys.length ≤ LIM) : oExtend (.ref a) [.ref b] s = some (.non, s.set a (.lst (xs ++ ys))) := by simp only [oExtend, h, h2, if_pos hl]
@[simp] theorem oPop_lst (h : s[a]? = some (.lst (xs ++ [v]))) : oPop (.ref a) [] s = some (v, s.set a (.lst xs)) := by
  simp only [oPop, h]
  simp
@[simp] theorem kd_lst (h : s[a]? = some (.lst xs)) : kd .list (.ref a) s = true := by simp only [kd, h]
@[simp] theorem kd_dic (h : s[a]? = some (.dic kvs)) : kd .dict (.ref a) s = true := by simp only [kd, h]
@[simp] theorem kd_str : kd .str (.str x) s = true := rfl
@[simp] theorem opSl_tup {lo hi : Option Int} : opSl (.tup xs) lo hi s = some (.tup (cutL xs lo hi), s) := rfl
@[simp] theorem opSl_lst {lo hi : Option Int} (h : s[a]? = some (.lst xs)) : opSl (.ref a) lo hi s = some (.ref s.length, s ++ [.lst (cutL xs lo hi)]) := by simp only [opSl, h]
@[simp] theorem opSl_scr {lo hi : Option Int} {ns : List Int} : opSl (.scr ns) lo hi s = some (.ref s.length, s ++ [.lst ((cutL ns lo hi).map Vl.int)]) := rfl
@[simp] theorem opIn_lst (h : s[a]? = some (.lst xs)) (hf : flat v = true) (ha : xs.all flat = true) : opIn v (.ref a) s = some (.bl (inF v xs), s) := by simp only [opIn, inM, h, hf, ha, Bool.and_self, if_true]
@[simp] theorem opNotIn_lst (h : s[a]? = some (.lst xs)) (hf : flat v = true) (ha : xs.all flat = true) : opNotIn v (.ref a) s = some (.bl (!inF v xs), s) := by simp only [opNotIn, inM, h, hf, ha, Bool.and_self, if_true]
@[simp] theorem opIn_tup (hf : flat v = true) (ha : xs.all flat = true) : opIn v (.tup xs) s = some (.bl (inF v xs), s) := by simp only [opIn, inM, hf, ha, Bool.and_self, if_true]
@[simp] theorem opNotIn_tup (hf : flat v = true) (ha : xs.all flat = true) : opNotIn v (.tup xs) s = some (.bl (!inF v xs), s) := by simp only [opNotIn, inM, hf, ha, Bool.and_self, if_true]
@[simp] theorem opIn_dicI (h : s[a]? = some (.dic kvs)) : opIn (.int i) (.ref a) s = some (.bl (hasK kvs (.inl i)), s) := by simp only [opIn, inM, h, keyOf]
@[simp] theorem opNotIn_dicI (h : s[a]? = some (.dic kvs)) : opNotIn (.int i) (.ref a) s = some (.bl (!hasK kvs (.inl i)), s) := by simp only [opNotIn, inM, h, keyOf]
@[simp] theorem opIn_dicS (h : s[a]? = some (.dic kvs)) : opIn (.str x) (.ref a) s = some (.bl (hasK kvs (.inr x)), s) := by simp only [opIn, inM, h, keyOf]
@[simp] theorem opNotIn_dicS (h : s[a]? = some (.dic kvs)) : opNotIn (.str x) (.ref a) s = some (.bl (!hasK kvs (.inr x)), s) := by simp only [opNotIn, inM, h, keyOf]
@[simp] theorem flat_int : flat (.int i) = true := rfl
@[simp] theorem flat_str : flat (.str x) = true := rfl
@[simp] theorem flat_bl : flat (.bl k) = true := rfl
@[simp] theorem flat_non : flat .non = true := rfl
@[simp] theorem oSortS_ints {ns : List Int} (h : s[a]? = some (.lst (ns.map Vl.int))) : oSortS [.ref a] s = some (.ref s.length, s ++ [.lst ((srt ns).map Vl.int)]) := by simp [oSortS, h, mapO_ints]
@[simp] theorem oSortS_set {ns : List Int} (h : s[a]? = some (.set ns)) (hl : ns.length < 64) : oSortS [.ref a] s = some (.ref s.length, s ++ [.lst ((srt ns).map Vl.int)]) := by simp [oSortS, h, hl]
@[simp] theorem oSet_ints {ns : List Int} (h : s[a]? = some (.lst (ns.map Vl.int))) (hl : ns.length < 4000) : oSet [.ref a] s = some (.ref s.length, s ++ [.set (ddup ns)]) := by simp [oSet, lstOf, h, mapO_ints, hl]
@[simp] theorem oAll_bls {bs : List Bool} (h : s[a]? = some (.lst (bs.map Vl.bl))) : oAll [.ref a] s = some (.bl (bs.all id), s) := by simp [oAll, lstOf, h, mapO_bls]
@[simp] theorem oAny_bls {bs : List Bool} (h : s[a]? = some (.lst (bs.map Vl.bl))) : oAny [.ref a] s = some (.bl (bs.any id), s) := by simp [oAny, lstOf, h, mapO_bls]
@[simp] theorem oSum_ints {ns : List Int} (h : s[a]? = some (.lst (ns.map Vl.int))) : oSum [.ref a] s = some (.int ns.sum, s) := by simp [oSum, lstOf, h, mapO_ints]
theorem fldW_ins {cs : List Nat} {f : Str} {c : Nat} {fs : List (Str × Vl)} {QV : Vl → Sto → Prop} (h : s[a]? = some (.ins c fs)) : fldW cs f (.ref a) s QV = (c ∈ cs ∧ match getS fs f with | some v => QV v s | none => False) := by
  simp only [fldW, h] <;> rfl
theorem setFld_ins {cs : List Nat} {f : Str} {c : Nat} {fs : List (Str × Vl)} (h : s[a]? = some (.ins c fs)) (hc : c ∈ cs ∧ fs.length < 1000) : setFld cs f (.ref a) v s = some (s.set a (.ins c (putS f v fs))) := by simp only [setFld, h, if_pos hc]
theorem methW_ins {m : Str} {tab : MTab} {c : Nat} {fs : List (Str × Vl)} {mf : List Vl → M Vl} {P : (List Vl → M Vl) → Prop} (h : s[a]? = some (.ins c fs)) (ht : tab c = some mf) (hg : getS fs m = none) : methW m tab (.ref a) s P = P mf := by simp only [methW, h, ht, hg]
@[simp] theorem lim0 : (0 ≤ LIM) = True := eq_true (by decide)
@[simp] theorem lim1 : (1 ≤ LIM) = True := eq_true (by decide)
@[simp] theorem lim2 : (2 ≤ LIM) = True := eq_true (by decide)
@[simp] theorem lim3 : (3 ≤ LIM) = True := eq_true (by decide)
@[simp] theorem lim4 : (4 ≤ LIM) = True := eq_true (by decide)
@[simp] theorem lim5 : (5 ≤ LIM) = True := eq_true (by decide)
@[simp] theorem lim6 : (6 ≤ LIM) = True := eq_true (by decide)
@[simp] theorem limz : (0 < LIM) = True := eq_true (by decide)
theorem limB {n : Nat} (h : n ≤ 1000000) : n ≤ LIM := Nat.le_trans h (by decide)
theorem limC {n : Nat} (h : n < 1000000) : n < LIM := Nat.lt_of_lt_of_le h (by decide)
end
theorem ixN_nat {n m : Nat} (h : n < m) : ixN m (n : Int) = some n := by
  simp [ixN, h]
theorem atN {α : Type} {xs : List α} {n : Nat} : atI xs (n : Int) = xs[n]? := by
  by_cases h : n < xs.length
  · simp [atI, ixN_nat h]
  · simp [atI, ixN, h, List.getElem?_eq_none (Nat.le_of_not_lt h)]
@[simp] theorem atI_0 {α : Type} {xs : List α} : atI xs 0 = xs[0]? := atN (n := 0)
@[simp] theorem atI_1 {α : Type} {xs : List α} : atI xs 1 = xs[1]? := atN (n := 1)
@[simp] theorem atI_2 {α : Type} {xs : List α} : atI xs 2 = xs[2]? := atN (n := 2)
@[simp] theorem atI_3 {α : Type} {xs : List α} : atI xs 3 = xs[3]? := atN (n := 3)
@[simp] theorem atLast {α : Type} {xs : List α} {v : α} : atI (xs ++ [v]) (-1) = some v := by
  have : ixN (xs ++ [v]).length (-1) = some xs.length := by
    simp [ixN]
    omega
  unfold atI
  rw [this]
  simp
theorem mapO_none {α β : Type} {f : α → Option β} : ∀ {xs : List α}, (∀ x ∈ xs, (f x).isSome = true) → ∃ ys, mapO f xs = some ys ∧ ys.length = xs.length
  | [], _ => ⟨[], rfl, rfl⟩
  | x :: xs, h => by
    obtain ⟨y, hy⟩ := Option.isSome_iff_exists.mp (h x (List.mem_cons_self ..))
    obtain ⟨ys, e, l⟩ := mapO_none fun z hz => h z (List.mem_cons_of_mem _ hz)
    exact ⟨y :: ys, by simp only [mapO, hy, e], by simp [l]⟩
@[simp] theorem cutL_nat {α : Type} {xs : List α} {n : Nat} : cutL xs none (some (n : Int)) = xs.take n := by
  unfold cutL
  rw [HT.sIx_none, HT.sIx_nat]
  simp [List.take_eq_take_iff]
theorem lcX_p {g : GL} {t : TM} {e : EM} {lo : Lo} {d : Nat} {xs : List Vl} {s0 : Sto} {Q : Sto → Prop} (s : Sto) (f : Vl → Option Vl) (h1 : d = s.length) (h2 : s0 = s ++ [.lst []]) (hl : xs.length < 1000000) (hx : ∀ x ∈ xs, LcP g t e lo s x (f x)) (hd : Q (s ++ [.lst (xs.filterMap f)])) : WL (lcX g t e d lo xs s0) Q := by
  subst h1 h2
  exact lcX_pure f (limC hl) hx hd
theorem lcL_p {j : Nat} {g : GL} {t : TM} {e : EM} {lo : Lo} {d : Nat} {xs : List Vl} {s0 : Sto} {Q : Sto → Prop} (s : Sto) (f : Vl → Option Vl) (h1 : d = s.length) (h2 : s0 = s ++ [.lst []]) (hj : s[j]? = some (.lst xs)) (hf : xs.length < 100000) (hx : ∀ x ∈ xs, LcP g t e lo s x (f x)) (hd : Q (s ++ [.lst (xs.filterMap f)])) :
    WL (lcN (nxLst j) g t e d lo 100000 0 s0) Q := by
  subst h1 h2
  exact lcL_pure f hj (limC (by omega)) hf hx hd
theorem lcV_p {j : Nat} {g : GL} {t : TM} {e : EM} {lo : Lo} {d : Nat} {kvs : List (Key × Vl)} {s0 : Sto} {Q : Sto → Prop} (s : Sto) (f : Vl → Option Vl) (h1 : d = s.length) (h2 : s0 = s ++ [.lst []]) (hj : s[j]? = some (.fdic kvs)) (hf : kvs.length < 100000) (hx : ∀ x ∈ kvs.map (·.2), LcP g t e lo s x (f x)) (hd : Q (s ++ [.lst ((kvs.map (·.2)).filterMap f)])) :
    WL (lcN (nxVals j) g t e d lo 100000 0 s0) Q := by
  subst h1 h2
  have hjl : j < s.length := (List.getElem?_eq_some_iff.mp hj).1
  generalize hxs : kvs.map (·.2) = xs at hx hd
  have hxl : xs.length = kvs.length := by rw [← hxs, List.length_map]
  refine lcV_inv (kvs := kvs) (fun i s' => s' = s ++ [.lst ((xs.take i).filterMap f)]) hf (by simp) (fun i s' e => by rw [e, List.getElem?_append_left hjl]; exact hj) (fun i v s' hv e => ?_) (fun s' e => by rw [e, ← hxl, List.take_length]; exact hd)
  subst e
  rw [hxs] at hv
  have hlen : ((xs.take i).filterMap f).length < LIM := Nat.lt_of_le_of_lt (Nat.le_trans (List.length_filterMap_le ..) (by rw [List.length_take]; exact Nat.min_le_right ..)) (limC (by omega))
  obtain ⟨lo', h1, h2⟩ := (hx v (List.mem_of_getElem? hv)).turn hlen
  refine ⟨lo', h1, ?_⟩
  have : (xs.take (i + 1)).filterMap f = (xs.take i).filterMap f ++ (f v).toList := by
    rw [List.take_add_one, hv, Option.toList, List.filterMap_append]
    cases h : f v <;> simp [List.filterMap_cons, h]
  rw [this]
  exact h2
/-- enumerate, both names read -/
theorem lcE_p {j : Nat} {g : GL} {t : TM} {e : EM} {lo : Lo} {d : Nat} {xs : List Vl} {s0 : Sto} {Q : Sto → Prop} (s : Sto) (f : Nat → Vl → Option Vl) (h1 : d = s.length) (h2 : s0 = s ++ [.lst []]) (hj : s[j]? = some (.lst xs)) (hf : xs.length < 100000) (hx : ∀ i x, xs[i]? = some x → LcP g t e lo s (.tup [.int (i : Nat), x]) (f i x)) (hd : Q (s ++ [.lst ((xs.zipIdx).filterMap fun p => f p.2 p.1)])) :
    WL (lcN (nxEnum j) g t e d lo 100000 0 s0) Q := by
  subst h1 h2
  have hjl : j < s.length := (List.getElem?_eq_some_iff.mp hj).1
  refine lcE_inv (xs := xs) (fun i s' => s' = s ++ [.lst (((xs.take i).zipIdx).filterMap fun p => f p.2 p.1)]) hf (by simp) (fun i s' e => by rw [e, List.getElem?_append_left hjl]; exact hj) (fun i v s' hv e => ?_) (fun s' e => by rw [e, List.take_length]; exact hd)
  subst e
  obtain ⟨hi, ev⟩ := List.getElem?_eq_some_iff.mp hv
  have hlen : (((xs.take i).zipIdx).filterMap fun p => f p.2 p.1).length < LIM := Nat.lt_of_le_of_lt (Nat.le_trans (List.length_filterMap_le ..) (by rw [List.length_zipIdx, List.length_take]; exact Nat.min_le_right ..)) (limC (by omega))
  obtain ⟨lo', h1, h2⟩ := (hx i v hv).turn hlen
  refine ⟨lo', h1, ?_⟩
  have : ((xs.take (i + 1)).zipIdx).filterMap (fun p => f p.2 p.1) = ((xs.take i).zipIdx).filterMap (fun p => f p.2 p.1) ++ (f i v).toList := by
    rw [List.take_add_one, hv, Option.toList, List.zipIdx_append, List.filterMap_append]
    have : 0 + (xs.take i).length = i := by rw [List.length_take]; omega
    rw [this]
    cases h : f i v <;> simp [List.filterMap_cons, h]
  rw [this]
  exact h2
end Sm

/-! PD: the deck of numbers (the texts _law_deck, _law_draw, _law_one) -/
namespace K32
open PySem L2 Sm
theorem map_int_get {cells : List Int} {p : Nat} (h : p < (cells ++ [0]).length) : ∃ x, ((cells ++ [(0 : Int)]).map Vl.int)[p]? = some (.int x) ∧ (cells ++ [0])[p]? = some x := by
  refine ⟨(cells ++ [0])[p], ?_, ?_⟩
  · rw [List.getElem?_map, List.getElem?_eq_getElem h]; rfl
  · exact List.getElem?_eq_getElem h
theorem draw_spec {s : Sto} {d l c : Nat} {cells : List Int} {many : Int} (D : Deck s d l c cells) (hl : cells.length ≤ 63) (hm : 0 < many) (hm2 : many < 1073741824) (hc : c < 1000000) :
    WE (m__law_draw [.ref d, .int many]) s (fun v s' => ∃ (r : Int) (cells' : List Int), v = .int r ∧ 0 ≤ r ∧ r < many ∧ Deck s' d l (c + 1) cells' ∧ cells'.length = cells.length ∧ Fr [d, l] s s') NoX := by
  have h1 := D.top
  have h2 := D.cel
  have hne := D.ne
  have hld := lt_of_get h1
  unfold m__law_draw b__law_draw
  simp [h1, h2, ixN, atI, List.replicate, get_set_self h1, get_set_ne hne.symm]
  obtain ⟨M, hM, hM1, hM2⟩ : ∃ M : Int, M = (if 1 < (cells.length : Int) then (cells.length : Int) else 1) ∧ 0 < M ∧ M ≤ cells.length + 1 := ⟨_, rfl, by split <;> omega, by split <;> omega⟩
  rw [← hM]
  have hp0 := Int.emod_nonneg ((c : Int) + 1) (Int.ne_of_gt hM1)
  have hp1 := Int.emod_lt_of_pos ((c : Int) + 1) hM1
  obtain ⟨p, hp⟩ : ∃ p : Nat, ((c : Int) + 1) % M = p := ⟨_, (Int.toNat_of_nonneg hp0).symm⟩
  have hpl : p < (cells ++ [(0 : Int)]).length := by simp; omega
  obtain ⟨x, hx, hx'⟩ := map_int_get hpl
  have hx0 : 0 ≤ x := by
    have := List.mem_of_getElem? hx'
    simp at this
    rcases this with h | h
    · exact D.nn x h
    · omega
  generalize hs1 : s.set d (Ob.lst [Vl.ref l, Vl.int (↑c + 1)]) = s1
  have e1 : s1[d]? = some (.lst [.ref l, .int (c + 1)]) := by rw [← hs1]; exact get_set_self h1
  have e2 : s1[l]? = some (.lst (cells.map Vl.int)) := by rw [← hs1, get_set_ne hne.symm]; exact h2
  have f1 : Fr [d, l] s s1 := hs1 ▸ Fr.refl.set (Or.inl (List.mem_cons_self ..))
  have g1 : ∀ {o : Ob}, (s1 ++ [o])[d]? = some (.lst [.ref l, .int (c + 1)]) := get_push e1
  have g2 : ∀ {o : Ob}, (s1 ++ [o])[l]? = some (.lst (cells.map Vl.int)) := get_push e2
  have g3 : ∀ {t : Sto}, (s1 ++ t)[d]? = some (.lst [.ref l, .int (c + 1)]) := get_app e1
  have g4 : ∀ {t : Sto}, (s1 ++ t)[l]? = some (.lst (cells.map Vl.int)) := get_app e2
  rw [opMod_int hM1, hp]
  have hll : cells.length + 1 ≤ LIM := limB (by omega)
  simp only [List.map_append, List.map_cons, List.map_nil] at hx
  have hlt : p < cells.length + 1 := by simpa using hpl
  simp [e1, e2, g1, g2, g3, g4, atN, opAdd_lst g2 get_last, hll, hx]
  generalize hs2 : s1 ++ [Ob.lst [Vl.int 0], Ob.lst (List.map Vl.int cells ++ [Vl.int 0])] = s2
  have k1 : s2[d]? = some (.lst [.ref l, .int (c + 1)]) := by rw [← hs2]; exact g3
  have k2 : s2[l]? = some (.lst (cells.map Vl.int)) := by rw [← hs2]; exact g4
  have f2 : Fr [d, l] s s2 := hs2 ▸ f1.app _
  by_cases hbig : 1000000000000000000 ≤ x
  · have hpc : p < cells.length := by
      rcases Nat.lt_or_ge p cells.length with h | h
      · exact h
      · have : p = cells.length := by omega
        subst this
        simp at hx'
        omega
    have hq : 0 ≤ x / many := Int.ediv_nonneg hx0 (by omega)
    have i2 := ixN_nat hpc
    simp [hbig, k1, k2, hm, hm2, i2]
    refine ⟨Int.emod_nonneg x (by omega), Int.emod_lt_of_pos x hm, cells.set p (x / many), ⟨?_, ?_, ?_, hne⟩, by simp, f2.set (by simp)⟩
    · rw [get_set_ne hne]; exact k1
    · rw [get_set_self k2, List.map_set]
    · intro y hy
      rcases List.mem_or_eq_of_mem_set hy with h | h
      · exact D.nn y h
      · omega
  · have hq0 : 0 ≤ x % 2147483587 := Int.emod_nonneg x (by omega)
    have hq1 : x % 2147483587 < 2147483587 := Int.emod_lt_of_pos x (by omega)
    generalize x % 2147483587 = q at hq0 hq1
    have hb : (q + 7919 * ((c : Int) + 1) + 1).natAbs < 2 ^ 64 := by omega
    simp [hbig, k1, k2, hm, hm2, hb]
    exact ⟨Int.emod_nonneg _ (by omega), Int.emod_lt_of_pos _ hm, cells, ⟨k1, k2, D.nn, hne⟩, rfl, f2⟩
/-- a deck of at most 63 numbers, at most c of them drawn -/
def Dk (s : Sto) (d l c : Nat) : Prop := ∃ k cells, k ≤ c ∧ cells.length ≤ 63 ∧ Deck s d l k cells
theorem Dk.fr {X : List Nat} {s s' : Sto} {d l c : Nat} (D : Dk s d l c) (f : Fr X s s') (h1 : d ∉ X) (h2 : l ∉ X) : Dk s' d l c := by
  obtain ⟨k, cells, a, b, D⟩ := D
  exact ⟨k, cells, a, b, D.fr f h1 h2⟩
theorem Dk.mono {s : Sto} {d l c c' : Nat} (D : Dk s d l c) (h : c ≤ c') : Dk s d l c' := by
  obtain ⟨k, cells, a, b, D⟩ := D
  exact ⟨k, cells, Nat.le_trans a h, b, D⟩
theorem Dk.lt {s : Sto} {d l c : Nat} (D : Dk s d l c) : d < s.length ∧ l < s.length := by
  obtain ⟨k, cells, a, b, D⟩ := D
  exact ⟨lt_of_get D.top, lt_of_get D.cel⟩
theorem draw {s : Sto} {d l c : Nat} {many : Int} (D : Dk s d l c) (hm : 0 < many) (hm2 : many < 1073741824) (hc : c < 1000000) :
    WE (m__law_draw [.ref d, .int many]) s (fun v s' => ∃ (r : Nat), v = .int r ∧ (r : Int) < many ∧ Dk s' d l (c + 1) ∧ Fr [d, l] s s') NoX := by
  obtain ⟨k, cells, a, b, D⟩ := D
  refine (draw_spec D b hm hm2 (by omega)).use ?_
  rintro v s' ⟨r, cells', rfl, h0, h1, h2, h3, h4⟩
  exact ⟨r.toNat, by rw [Int.toNat_of_nonneg h0], by omega, ⟨k + 1, cells', by omega, by omega, h2⟩, h4⟩
theorem one {s : Sto} {d l c a : Nat} {xs : List Vl} (D : Dk s d l c) (ha : s[a]? = some (.lst xs)) (hd : a ∉ [d, l]) (h0 : 0 < xs.length) (h1 : xs.length < 1073741824) (hc : c < 1000000) :
    WE (m__law_one [.ref d, .ref a]) s (fun v s' => v ∈ xs ∧ Dk s' d l (c + 1) ∧ Fr [d, l] s s') NoX := by
  unfold m__law_one b__law_one
  simp [ha]
  refine (draw D (by omega) (by omega) hc).use ?_
  rintro v s' ⟨r, rfl, h2, h3, h4⟩
  have h5 := h4.at ha hd
  have h6 : r < xs.length := by omega
  simp [opIx_lst h5, atN, h6, h3, h4]
theorem deck {s : Sto} {ns : List Int} (h : ns.length ≤ 63) : WE (m__law_deck [.scr ns]) s (fun v s' => ∃ d l, v = .ref d ∧ Dk s' d l 0 ∧ Fr [] s s') NoX := by
  unfold m__law_deck b__law_deck
  have e63 : cutL ns none (some 63) = ns.take 63 := cutL_nat (n := 63)
  simp
  rw [e63]
  refine lcL_p (xs := (ns.take 63).map Vl.int) (s ++ [.lst ((ns.take 63).map Vl.int)]) (fun v => match v with | .int i => some (.int (if i < 0 then -i else i)) | _ => none) (by simp) (by simp) get_last (by simp; omega) ?_ ?_
  · intro x hx acc
    obtain ⟨i, _, rfl⟩ := List.mem_map.mp hx
    refine ⟨_, rfl, ?_⟩
    simp [tTrue, wipeL]
  · have e : ((ns.take 63).map Vl.int).filterMap (fun v => match v with | .int i => some (.int (if i < 0 then -i else i)) | _ => none) = ((ns.take 63).map fun i : Int => if i < 0 then -i else i).map Vl.int := by
      rw [List.filterMap_map, List.map_map, ← List.filterMap_eq_map]
      rfl
    rw [e]
    have hcl : ((ns.take 63).map fun i : Int => if i < 0 then -i else i).length ≤ 63 := by simp; omega
    have hcn : ∀ x ∈ ((ns.take 63).map fun i : Int => if i < 0 then -i else i), 0 ≤ x := by
      intro x hx
      obtain ⟨a, _, rfl⟩ := List.mem_map.mp hx
      split <;> omega
    generalize ((ns.take 63).map fun i : Int => if i < 0 then -i else i) = cs at hcl hcn
    generalize (ns.take 63).map Vl.int = o1
    simp
    refine ⟨⟨s.length + 1, 0, cs, Nat.le_refl _, hcl, ⟨?_, ?_, hcn, ?_⟩⟩, Fr.refl.app _⟩
    · rw [List.getElem?_append_right (by omega)]
      simp
    · rw [List.getElem?_append_right (by omega)]
      simp
    · omega
end K32

/-! S17: texts of plain values; == with an empty list -/
namespace Sm
open PySem L2
/-- a plain value, at most n deep, at most w wide -/
def Pn (n w : Nat) (v : Vl) : Prop := ∃ d : PyData, (∀ s m, n ≤ m → toD m s v = some d) ∧ d.leavesShort 13 = true ∧ d.showable = true ∧ d.weight ≤ w
theorem Pn.mono {n m w z : Nat} {v : Vl} (h : Pn n w v) (h1 : n ≤ m) (h2 : w ≤ z) : Pn m z v := by
  obtain ⟨d, a, b, c, e⟩ := h
  exact ⟨d, fun s k hk => a s k (Nat.le_trans h1 hk), b, c, Nat.le_trans e h2⟩
theorem Pn.non : Pn 1 64 .non := by
  refine ⟨.none, fun s m hm => ?_, rfl, rfl, by simp [PyData.weight]⟩
  obtain ⟨m, rfl⟩ : ∃ k, m = k + 1 := ⟨m - 1, by omega⟩
  rfl
theorem Pn.int {i : Int} (h : i.natAbs < 10 ^ 12) : Pn 1 64 (.int i) := by
  refine ⟨.int i, fun s m hm => ?_, ?_, ?_, ?_⟩
  · obtain ⟨m, rfl⟩ : ∃ k, m = k + 1 := ⟨m - 1, by omega⟩
    rfl
  · have := int_text_length_le10 (a := i) (k := 12) (by omega) h
    simp only [PyData.leavesShort, PyData.shown]
    refine decide_eq_true ?_
    have e : (Str.ofString (toString i)).length = (toString i).length := ofString_length _
    omega
  · simp only [PyData.showable, decide_eq_true_eq]
    rcases Nat.eq_zero_or_pos i.natAbs with z | z
    · rw [z]; decide
    · have : i.natAbs.log2 < 40 := by
        rw [Nat.log2_lt (by omega)]
        exact Nat.lt_of_lt_of_le h (by decide)
      omega
  · simp only [PyData.weight]
    split
    · omega
    · rename_i z
      have z : i.natAbs ≠ 0 := by simp at z; omega
      have : i.natAbs.log2 < 40 := by
        rw [Nat.log2_lt z]
        exact Nat.lt_of_lt_of_le h (by decide)
      omega
theorem Pn.str {x : Str} (h : (x.cps.toList.all fun c => decide (c < 16 ^ 8)) = true) (hl : x.length ≤ 64) : Pn 1 64 (.str x) := by
  refine ⟨.str x, fun s m hm => ?_, ?_, rfl, ?_⟩
  · obtain ⟨m, rfl⟩ : ∃ k, m = k + 1 := ⟨m - 1, by omega⟩
    rfl
  · exact h
  · exact hl
theorem Pn.all {n w : Nat} : ∀ {xs : List Vl}, (∀ x ∈ xs, Pn n w x) → ∃ ds : List PyData, (∀ s m, n ≤ m → mapO (toD m s) xs = some ds) ∧ PyData.leavesShortAll 13 ds = true ∧ PyData.showableAll ds = true ∧ PyData.weightAll ds ≤ xs.length * (w + 1)
  | [], _ => ⟨[], fun _ _ _ => rfl, rfl, rfl, by simp [PyData.weightAll]⟩
  | x :: xs, h => by
    obtain ⟨d, a, b, c, e⟩ := h x (List.mem_cons_self ..)
    obtain ⟨ds, a', b', c', e'⟩ := Pn.all fun y hy => h y (List.mem_cons_of_mem _ hy)
    refine ⟨d :: ds, fun s m hm => ?_, ?_, ?_, ?_⟩
    · simp only [mapO, a s m hm, a' s m hm]
    · simp only [PyData.leavesShortAll, b, b', Bool.and_self]
    · simp only [PyData.showableAll, c, c', Bool.and_self]
    · simp only [PyData.weightAll, List.length_cons, Nat.add_mul, Nat.one_mul]
      omega
theorem Pn.tup {n w : Nat} {xs : List Vl} (h : ∀ x ∈ xs, Pn n w x) : Pn (n + 1) (xs.length * (w + 1)) (.tup xs) := by
  obtain ⟨ds, a, b, c, e⟩ := Pn.all h
  refine ⟨.tuple ds, fun s m hm => ?_, ?_, ?_, ?_⟩
  · obtain ⟨m, rfl⟩ : ∃ k, m = k + 1 := ⟨m - 1, by omega⟩
    simp only [toD, a s m (by omega), Option.map]
  · simpa only [PyData.leavesShort] using b
  · simpa only [PyData.showable] using c
  · simpa only [PyData.weight] using e
theorem Pn.repr {n w : Nat} {v : Vl} (h : Pn n w v) (hn : n ≤ 40) (hw : w ≤ 2 ^ 20) : ∃ x, ∀ s, oRepr [v] s = some (.str x, s) := by
  obtain ⟨d, a, b, c, e⟩ := h
  refine ⟨d.shown, fun s => ?_⟩
  have : d.shown.length ≤ LIM := by
    rw [← lim_eq]
    exact PyData.shown_fits (by omega) (by omega) b (by omega)
  simp only [oRepr, a s 40 hn, c, this, decide_true, Bool.and_self, if_true]
theorem canLay_ints : ∀ ns : List Int, PyData.canLayAll0 (ns.map PyData.int) = true
  | [] => rfl
  | n :: ns => by simp only [List.map_cons, PyData.canLayAll0, PyData.canLay0, canLay_ints ns, Bool.and_self]
theorem toD_ints {s : Sto} {m : Nat} : ∀ ns : List Int, mapO (toD (m + 1) s) (ns.map Vl.int) = some (ns.map PyData.int)
  | [] => rfl
  | n :: ns => by
    have e : toD (m + 1) s (.int n) = some (.int n) := rfl
    simp only [List.map_cons, mapO, e, toD_ints ns]
theorem toD_lst {s : Sto} {m a : Nat} {xs : List Vl} (h : s[a]? = some (.lst xs)) : toD (m + 1) s (.ref a) = (mapO (toD m s) xs).map .list := by
  unfold toD
  simp only [h]
theorem eqM_nil {s : Sto} {a b : Nat} {ns : List Int} (h1 : s[a]? = some (.lst (ns.map Vl.int))) (h2 : s[b]? = some (.lst [])) : eqM (.ref a) (.ref b) s = some ns.isEmpty := by
  have e1 : toD 40 s (.ref a) = some (.list (ns.map PyData.int)) := by
    rw [toD_lst (m := 39) h1, toD_ints (m := 38)]
    rfl
  have e2 : toD 40 s (.ref b) = some (.list []) := by
    rw [toD_lst (m := 39) h2]
    rfl
  have e3 : PyData.canLay0 (.list (ns.map PyData.int)) = true := by simpa only [PyData.canLay0] using canLay_ints ns
  have e4 : PyData.canLay0 (.list []) = true := rfl
  simp only [eqM, eqS, e1, e2, e3, e4, Bool.and_self, if_true, PyData.eqv]
  cases ns <;> simp [PyData.eqvAll]
theorem opEq_nil {s : Sto} {a b : Nat} {ns : List Int} (h1 : s[a]? = some (.lst (ns.map Vl.int))) (h2 : s[b]? = some (.lst [])) : opEq (.ref a) (.ref b) s = some (.bl ns.isEmpty, s) := by
  simp only [opEq, eqM_nil h1 h2]
theorem opNe_nil {s : Sto} {a b : Nat} {ns : List Int} (h1 : s[a]? = some (.lst (ns.map Vl.int))) (h2 : s[b]? = some (.lst [])) : opNe (.ref a) (.ref b) s = some (.bl (!ns.isEmpty), s) := by
  simp only [opNe, eqM_nil h1 h2]
section
variable {mf : List Vl → M Vl} {s : Sto} {QV : Vl → Sto → Prop} {E : Ex → Sto → Prop} {x y z : Vl}
theorem WE_arg1 : WE (arg 1 mf [x]) s QV E = WE (mf [x]) s QV E := by rw [WE_arg]; exact if_pos rfl
theorem WE_arg2 : WE (arg 2 mf [x, y]) s QV E = WE (mf [x, y]) s QV E := by rw [WE_arg]; exact if_pos rfl
theorem WE_arg3 : WE (arg 3 mf [x, y, z]) s QV E = WE (mf [x, y, z]) s QV E := by rw [WE_arg]; exact if_pos rfl
end
@[simp] theorem rngW_nat {n : Nat} {s : Sto} {QA : List Vl → Sto → Prop} (h : n < 1000000) : rngW [.int (n : Int)] s QA = QA (rng 0 n) s := by
  rw [rngW_one]
  have h1 : -(2 ^ 62) ≤ (n : Int) := by omega
  have h2 : (n : Int) < 2 ^ 62 := by omega
  have e : (n : Int).toNat = n := Int.toNat_natCast n
  rw [e]
  exact propext ⟨fun z => z.2, fun z => ⟨⟨h1, h2⟩, z⟩⟩
theorem rng_get {n i : Nat} {v : Vl} (h : (rng 0 n)[i]? = some v) : i < n ∧ v = .int (i : Nat) := by
  have h1 := (List.getElem?_eq_some_iff.mp h).1
  have h2 : i < n := by simpa [rng] using h1
  refine ⟨h2, ?_⟩
  simp [rng, h2] at h
  exact h.symm
@[simp] theorem rng_len {n : Nat} : (rng 0 n).length = n := by simp [rng]
end Sm

/-! PE: events and stories that the law draws -/
namespace K32
open PySem L2 Sm
def oN : Option Nat → Vl
  | none => .non
  | some c => .int c
inductive Ev where
  | make (n : Nat) | stand (x : Str) (c : Option Nat) | hold (h : Nat) (f : Str) (c : Option Nat) | keep (c : Nat) | ask (c : Nat)
def Ev.vl : Ev → Vl
  | .make n => .tup [.str "make", .int n]
  | .stand x c => .tup [.str "stand", .str x, oN c]
  | .hold h f c => .tup [.str "hold", .int h, .str f, oN c]
  | .keep c => .tup [.str "keep", .int c]
  | .ask c => .tup [.str "ask", .int c]
def oLt (n : Nat) : Option Nat → Prop
  | none => True
  | some c => c < n
def Ev.ok (n : Nat) : Ev → Prop
  | .make k => False
  | .stand x c => (x = "x" ∨ x = "y") ∧ oLt n c
  | .hold h f c => h < n ∧ (f = "f" ∨ f = "g") ∧ oLt n c
  | .keep c => c < n
  | .ask c => c < n
/-- events that go well from n cells to m -/
def okL : Nat → List Ev → Nat → Prop
  | n, [], m => n = m
  | n, .make k :: r, m => k = n ∧ okL (n + 1) r m
  | n, e :: r, m => e.ok n ∧ okL n r m
theorem okL_app : ∀ {es fs : List Ev} {n m k : Nat}, okL n es m → okL m fs k → okL n (es ++ fs) k
  | [], fs, n, m, k, h1, h2 => by
    have : n = m := h1
    subst this
    exact h2
  | .make j :: r, fs, n, m, k, h1, h2 => ⟨h1.1, okL_app h1.2 h2⟩
  | .stand .. :: r, fs, n, m, k, h1, h2 => ⟨h1.1, okL_app h1.2 h2⟩
  | .hold .. :: r, fs, n, m, k, h1, h2 => ⟨h1.1, okL_app h1.2 h2⟩
  | .keep _ :: r, fs, n, m, k, h1, h2 => ⟨h1.1, okL_app h1.2 h2⟩
  | .ask _ :: r, fs, n, m, k, h1, h2 => ⟨h1.1, okL_app h1.2 h2⟩
theorem okL_one {e : Ev} {n : Nat} (h : e.ok n) : okL n [e] n := by
  cases e <;> first | exact h.elim | exact ⟨h, rfl⟩
abbrev upTo (n : Nat) : List Vl := (List.range n).map fun i => Vl.int (i : Nat)
theorem mem_upTo {n : Nat} {v : Vl} (h : v ∈ upTo n) : ∃ i : Nat, i < n ∧ v = .int i := by
  obtain ⟨i, h1, rfl⟩ := List.mem_map.mp h
  exact ⟨i, List.mem_range.mp h1, rfl⟩
theorem upTo_eq {n : Nat} : upTo n = ((List.range n).map fun i => ((i : Nat) : Int)).map Vl.int := by simp [upTo]
theorem oneNew {s : Sto} {d l c : Nat} {xs : List Vl} (D : Dk s d l c) (h0 : 0 < xs.length) (h1 : xs.length < 1073741824) (hc : c < 1000000) :
    WE (m__law_one [.ref d, .ref s.length]) (s ++ [.lst xs]) (fun v s' => v ∈ xs ∧ Dk s' d l (c + 1) ∧ Fr [d, l] s s') NoX := by
  have hlt := D.lt
  refine (one (D.fr (Fr.refl.push (X := []) _) (by simp) (by simp)) get_last (by simp; omega) h0 h1 hc).use ?_
  rintro v s' ⟨a, b, f⟩
  exact ⟨a, b, (Fr.refl.push _).trans f⟩
theorem event {s : Sto} {d l c a n : Nat} (D : Dk s d l c) (ha : s[a]? = some (.lst (upTo n))) (hd : a ∉ [d, l]) (hn : n ≤ 100) (hc : c + 10 < 1000000) :
    WE (m__law_event [.ref d, .ref a]) s (fun v s' => ∃ e : Ev, v = e.vl ∧ e.ok n ∧ Dk s' d l (c + 5) ∧ Fr [d, l] s s') NoX := by
  unfold m__law_event b__law_event
  simp
  refine (draw D (by omega) (by omega) (by omega)).use ?_
  rintro v s1 ⟨r, rfl, hr, D1, f1⟩
  have ha1 := f1.at ha hd
  have hal : a < s1.length := lt_of_get ha1
  have hul : (upTo n).length = n := by simp [upTo]
  simp [ha1]
  rw [opAdd_lst get_last (get_push ha1) (limB (by simp; omega)), WO_some, WE_aNil, WE_arg2]
  refine (oneNew (D1.fr (Fr.refl.push (X := []) _) (by simp) (by simp)) (by simp) (by simp; omega) (by omega)).use ?_
  rintro v s2 ⟨hv, D2, f2⟩
  obtain ⟨o, rfl, ho⟩ : ∃ o, v = oN o ∧ oLt n o := by
    simp only [List.cons_append, List.nil_append, List.mem_cons] at hv
    rcases hv with rfl | hv
    · exact ⟨none, rfl, trivial⟩
    · obtain ⟨i, hi, rfl⟩ := mem_upTo hv
      exact ⟨some i, rfl, hi⟩
  have f02 : Fr [d, l] s s2 := f1.trans ((Fr.refl.push _).trans f2)
  have ha2 := f02.at ha hd
  have hStand : ∀ s3, Fr [d, l] s s3 → Dk s3 d l (c + 2) → WE (m__law_one [.ref d, .ref s3.length]) (s3 ++ [.lst [.str "x", .str "y"]]) (fun x s' => ∃ e : Ev, Vl.tup [.str "stand", x, oN o] = e.vl ∧ e.ok n ∧ Dk s' d l (c + 5) ∧ Fr [d, l] s s') NoX := by
    intro s3 f3 D3
    refine (oneNew D3 (by simp) (by simp) (by omega)).use ?_
    rintro v s4 ⟨hv, D4, f4⟩
    simp only [List.mem_cons, List.not_mem_nil, or_false] at hv
    rcases hv with rfl | rfl
    · exact ⟨.stand "x" o, rfl, ⟨.inl rfl, ho⟩, D4.mono (by omega), f3.trans f4⟩
    · exact ⟨.stand "y" o, rfl, ⟨.inr rfl, ho⟩, D4.mono (by omega), f3.trans f4⟩
  simp
  split
  · refine (hStand s2 f02 D2).use ?_
    rintro x s' h
    simp
    exact h
  rename_i h2
  rw [upTo_eq] at ha2
  rw [opEq_nil (get_push ha2) get_last, WO_some]
  have ha2' := ha2
  rw [← upTo_eq] at ha2'
  have f03 : Fr [d, l] s (s2 ++ [.lst []]) := f02.push _
  have D3 := D2.fr (Fr.refl.push (X := []) (.lst [])) (by simp) (by simp)
  by_cases hz : n = 0
  · subst hz
    simp
    have := hStand _ f03 D3
    simp at this
    refine this.use ?_
    rintro x s' h
    simp
    exact h
  have e0 : ((List.range n).map fun i => ((i : Nat) : Int)).isEmpty = false := by
    cases n with
    | zero => exact absurd rfl hz
    | succ n => simp
  have ha3 : (s2 ++ [Ob.lst []])[a]? = some (.lst (upTo n)) := get_push ha2'
  generalize s2 ++ [Ob.lst []] = s3 at f03 D3 ha3
  rw [e0]
  have hOne : ∀ {k : Nat} {s4 : Sto}, Fr [d, l] s s4 → Dk s4 d l k → k < 1000000 → WE (m__law_one [.ref d, .ref a]) s4 (fun v s' => (∃ i : Nat, i < n ∧ v = .int i) ∧ Dk s' d l (k + 1) ∧ Fr [d, l] s s') NoX := by
    intro k s4 f4 D4 hk
    refine (one D4 (f4.at ha hd) hd (by omega) (by omega) hk).use ?_
    rintro v s' ⟨h1, h2, h3⟩
    exact ⟨mem_upTo h1, h2, f4.trans h3⟩
  by_cases h4 : r < 4
  · have h4' : (r : Int) < 4 := by omega
    simp [h4']
    refine (hOne f03 D3 (by omega)).use ?_
    rintro v s4 ⟨⟨i, hi, rfl⟩, D4, f4⟩
    simp
    refine (oneNew D4 (by simp) (by simp) (by omega)).use ?_
    rintro v s5 ⟨hv, D5, f5⟩
    simp
    simp only [List.mem_cons, List.not_mem_nil, or_false] at hv
    rcases hv with rfl | rfl
    · exact ⟨.hold i "f" o, rfl, ⟨hi, .inl rfl, ho⟩, D5.mono (by omega), f4.trans f5⟩
    · exact ⟨.hold i "g" o, rfl, ⟨hi, .inr rfl, ho⟩, D5.mono (by omega), f4.trans f5⟩
  have h4' : ¬ (r : Int) < 4 := by omega
  by_cases h5 : r = 4
  · subst h5
    simp
    refine (draw D3 (by omega) (by omega) (by omega)).use ?_
    rintro v s4 ⟨q, rfl, hq, D4, f4⟩
    simp
    split
    · refine (hOne (f03.trans f4) D4 (by omega)).use ?_
      rintro v s5 ⟨⟨i, hi, rfl⟩, D5, f5⟩
      simp
      exact ⟨.keep i, rfl, hi, D5.mono (by omega), f5⟩
    · refine (hOne (f03.trans f4) D4 (by omega)).use ?_
      rintro v s5 ⟨⟨i, hi, rfl⟩, D5, f5⟩
      simp
      exact ⟨.ask i, rfl, hi, D5.mono (by omega), f5⟩
  · have h5' : ¬ ((r : Int) = 4) := by omega
    simp [h4', h5']
    refine (hOne f03 D3 (by omega)).use ?_
    rintro v s5 ⟨⟨i, hi, rfl⟩, D5, f5⟩
    simp
    exact ⟨.ask i, rfl, hi, D5.mono (by omega), f5⟩
end K32

/-! PF: the story that the law draws -/
namespace K32
open PySem L2 Sm
def itV (it : List Ev) : Vl := .tup (it.map Ev.vl)
def stV (its : List (List Ev)) : Vl := .tup (its.map itV)
theorem okL_ask {c : Nat} : ∀ {es : List Ev} {n m : Nat}, okL n es m → Ev.ask c ∈ es → c < m
  | [], n, m, _, h => by simp at h
  | .make k :: r, n, m, h1, h => okL_ask h1.2 (by simpa using h)
  | .stand .. :: r, n, m, h1, h => okL_ask h1.2 (by simpa using h)
  | .hold .. :: r, n, m, h1, h => okL_ask h1.2 (by simpa using h)
  | .keep _ :: r, n, m, h1, h => okL_ask h1.2 (by simpa using h)
  | .ask d :: r, n, m, h1, h => by
    simp at h
    rcases h with rfl | h
    · have h2 : c < n := h1.1
      have : ∀ {es : List Ev} {n m : Nat}, okL n es m → n ≤ m := by
        intro es
        induction es with
        | nil => intro n m h; exact Nat.le_of_eq h
        | cons e es ih =>
          intro n m h
          cases e with
          | make k => have := ih h.2; omega
          | stand x c => exact ih h.2
          | hold i f c => exact ih h.2
          | keep c => exact ih h.2
          | ask c => exact ih h.2
      have := this h1.2
      omega
    · exact okL_ask h1.2 h
/-- what is asked about is there when its item begins -/
def AskOk (its : List (List Ev)) : Prop := ∀ (i : Nat) (it : List Ev) (c : Nat), its[i]? = some it → Ev.ask c ∈ it → ∃ k, okL 0 (its.take i).flatten k ∧ c < k
structure Sto1 (s : Sto) (d l c p4 p5 : Nat) (its : List (List Ev)) (m most : Nat) (s0 : Sto) : Prop where
  dk : Dk s d l c
  g4 : s[p4]? = some (.lst (its.map itV))
  g5 : s[p5]? = some (.lst (upTo m))
  ok : okL 0 its.flatten m
  le : m ≤ most
  sm : (∀ it ∈ its, it.length ≤ 4) ∧ AskOk its
  fr : Fr [d, l] s0 s
theorem story {s : Sto} {d l c most items : Nat} (D : Dk s d l c) (h1 : 1 ≤ most) (h2 : most ≤ 6) (h3 : items ≤ 14) (hc : c + 1000 < 1000000) :
    WE (m__law_story [.ref d, .int most, .int items]) s (fun v s' => ∃ (its : List (List Ev)) (m : Nat), v = stV its ∧ okL 0 its.flatten m ∧ m ≤ most ∧ its.length = items ∧ ((∀ it ∈ its, it.length ≤ 4) ∧ AskOk its) ∧ Dk s' d l (c + 20 * items) ∧ Fr [d, l] s s') NoX := by
  have hdl := D.lt
  unfold m__law_story b__law_story
  have hi6 : items < 1000000 := by omega
  simp [hi6]
  refine loopX_inv (fun i lo s' => ∃ its m x3 x6 x7, lo = [some (.ref d), some (.int most), some (.int items), x3, some (.ref s.length), some (.ref (s.length + 1)), x6, x7] ∧ its.length = i ∧ Sto1 s' d l (c + 20 * i) s.length (s.length + 1) its m most s) ?_ ?_ ?_
  · refine ⟨[], 0, none, none, none, rfl, rfl, D.fr (Fr.refl.app (X := []) _) (by simp) (by simp), ?_, ?_, rfl, by omega, ⟨by simp, fun i it c h => by simp at h⟩, Fr.refl.app _⟩
    · simp
    · rw [List.getElem?_append_right (by omega)]
      simp [upTo]
  · rintro i v lo s1 hv ⟨its, m, x3, x6, x7, rfl, hi, S1⟩
    obtain ⟨hi2, rfl⟩ := rng_get hv
    simp
    refine (draw (S1.dk.fr (Fr.refl.push (X := []) _) (by simp) (by simp)) (by omega) (by omega) (by omega)).use ?_
    rintro v2 s2 ⟨r, rfl, hr, D2, f2⟩
    have hr6 : r < 1000000 := by omega
    have hp : s1[s.length]? ≠ none := by rw [S1.g4]; simp
    have hlt5 : s.length + 1 < s1.length := lt_of_get S1.g5
    have nd4 : s.length ∉ [d, l] := by simp; omega
    have nd5 : s.length + 1 ∉ [d, l] := by simp; omega
    have nd6 : s1.length ∉ [d, l] := by have := S1.fr.le; simp; omega
    simp [hr6]
    refine loopX_inv (fun j lo s' => ∃ it x7, lo = [some (.ref d), some (.int most), some (.int items), some (.int i), some (.ref s.length), some (.ref (s.length + 1)), some (.ref s1.length), x7] ∧ it.length = j ∧ okL m it m ∧ s'[s1.length]? = some (.lst (it.map Ev.vl)) ∧ Sto1 s' d l (c + 20 * i + 1 + 5 * j) s.length (s.length + 1) its m most s) ?_ ?_ ?_
    · refine ⟨[], x7, rfl, rfl, rfl, f2.at get_last nd6, D2, f2.at (get_push S1.g4) nd4, f2.at (get_push S1.g5) nd5, S1.ok, S1.le, S1.sm, (S1.fr.push _).trans f2⟩
    · rintro j v lo s3 hv ⟨it, x7, rfl, hj, oki, g6, S3⟩
      obtain ⟨hj2, rfl⟩ := rng_get hv
      have hit : it.length < LIM := limC (by omega)
      simp [S3.g5, g6]
      have hmm : m ≤ 100 := by have := S3.le; omega
      have hs3 : s3.length ∉ [d, l] := by have := S3.dk.lt; simp; omega
      refine (event (S3.dk.fr (Fr.refl.push (X := []) _) (by simp) (by simp)) get_last hs3 hmm (by omega)).use ?_
      rintro v s4 ⟨e, rfl, eok, D4, f4⟩
      have g6' := f4.at (get_push g6) nd6
      have l1 := lt_of_get g6
      simp [g6', hit]
      have fr4 : Fr [d, l] s s4 := (S3.fr.push _).trans f4
      refine ⟨it ++ [e], by simp [hj], okL_app oki (okL_one eok), ?_, ?_⟩
      · simp
      · refine ⟨?_, ?_, ?_, S3.ok, S3.le, S3.sm, fr4.set (Or.inr (by omega))⟩
        · exact (D4.fr (Fr.refl.set (X := [s1.length]) (by simp)) (by simp at nd6 ⊢; omega) (by simp at nd6 ⊢; omega)).mono (by omega)
        · rw [get_set_ne (by omega)]
          exact f4.at (get_push S3.g4) nd4
        · rw [get_set_ne (by omega)]
          exact f4.at (get_push S3.g5) nd5
    · rintro lo s3 ⟨it, x7, rfl, hj, oki, g6, S3⟩
      rw [rng_len] at hj S3
      have hil : its.length < LIM := limC (by omega)
      have hfin : ∀ (s5 : Sto) (it' : List Ev) (m' : Nat), okL m it' m' → (∀ c, Ev.ask c ∈ it' → c < m) → m' ≤ most → it'.length ≤ 4 → Dk s5 d l (c + 20 * i + 20) → s5[s.length]? = some (.lst (its.map itV)) → s5[s.length + 1]? = some (.lst (upTo m')) → Fr [d, l] s s5 →
          ∃ its2, its2.length = i + 1 ∧ ∃ m, Sto1 (s5.set s.length (.lst (its.map itV ++ [.tup (it'.map Ev.vl)]))) d l (c + 20 * (i + 1)) s.length (s.length + 1) its2 m most s := by
        intro s5 it' m' ok' ha' le' len' D5 g4 g5 f5
        refine ⟨its ++ [it'], by simp [hi], m', ?_, ?_, ?_, ?_, le', ?_, f5.set (Or.inr (Nat.le_refl _))⟩
        · exact (D5.fr (Fr.refl.set (X := [s.length]) (by simp)) (by simp at nd4 ⊢; omega) (by simp at nd4 ⊢; omega)).mono (by omega)
        · rw [get_set_self g4]
          simp [itV]
        · rw [get_set_ne (by omega)]
          exact g5
        · rw [List.flatten_append]
          exact okL_app S3.ok (by simpa using ok')
        · refine ⟨fun y hy => ?_, fun i' it2 c' q1 q2 => ?_⟩
          · rcases List.mem_append.mp hy with h | h
            · exact S3.sm.1 y h
            · simp at h; subst h; exact len'
          · rcases getElem?_snoc q1 with z | ⟨z1, z2⟩
            · have hl := (List.getElem?_eq_some_iff.mp z).1
              rw [List.take_append_of_le_length (by omega)]
              exact S3.sm.2 i' it2 c' z q2
            · subst z1 z2
              rw [List.take_append_of_le_length (Nat.le_refl _), List.take_length]
              exact ⟨m, S3.ok, ha' c' q2⟩
      have hmL : (upTo m).length = m := by simp [upTo]
      have hitL : it.length < LIM := limC (by omega)
      have hit1 : it.length + 1 < LIM := limC (by omega)
      have l1 : s1.length < s3.length := lt_of_get g6
      have n64 : s1.length ≠ s.length := by omega
      have n65 : s1.length ≠ s.length + 1 := by omega
      simp [S3.g5, hmL]
      by_cases hm : m < most
      · simp [hm]
        refine (draw S3.dk (by omega) (by omega) (by omega)).use ?_
        rintro v s4 ⟨q, rfl, hq, D4, f4⟩
        have a4 := f4.at S3.g4 nd4
        have a5 := f4.at S3.g5 nd5
        have a6 := f4.at g6 nd6
        have F4 := S3.fr.trans f4
        simp
        split
        · have hmm : m < LIM := limC (by omega)
          simp [a4, a5, a6, hmL, hitL, get_set_ne n65, hmm]
          have eup : upTo m ++ [Vl.int m] = upTo (m + 1) := by simp [upTo, List.range_succ]
          have eit : it.map Ev.vl ++ [Vl.tup [Vl.str "make", Vl.int m]] = (it ++ [Ev.make m]).map Ev.vl := by simp [Ev.vl]
          have b5' : (s4.set s1.length (Ob.lst (it.map Ev.vl ++ [Vl.tup [Vl.str "make", Vl.int m]])))[s.length + 1]? = some (.lst (upTo m)) := by rw [get_set_ne n65]; exact a5
          have b6 : ((s4.set s1.length (Ob.lst (it.map Ev.vl ++ [Vl.tup [Vl.str "make", Vl.int m]]))).set (s.length + 1) (Ob.lst (upTo m ++ [Vl.int m])))[s1.length]? = some (.lst ((it ++ [Ev.make m]).map Ev.vl)) := by
            rw [get_set_ne n65.symm, get_set_self a6, eit]
          have b5 : ((s4.set s1.length (Ob.lst (it.map Ev.vl ++ [Vl.tup [Vl.str "make", Vl.int m]]))).set (s.length + 1) (Ob.lst (upTo m ++ [Vl.int m])))[s.length + 1]? = some (.lst (upTo (m + 1))) := by
            rw [get_set_self b5', eup]
          have b4 : ((s4.set s1.length (Ob.lst (it.map Ev.vl ++ [Vl.tup [Vl.str "make", Vl.int m]]))).set (s.length + 1) (Ob.lst (upTo m ++ [Vl.int m])))[s.length]? = some (.lst (its.map itV)) := by
            rw [get_set_ne (by omega), get_set_ne n64]; exact a4
          have F5 : Fr [d, l] s ((s4.set s1.length (Ob.lst (it.map Ev.vl ++ [Vl.tup [Vl.str "make", Vl.int m]]))).set (s.length + 1) (Ob.lst (upTo m ++ [Vl.int m]))) := (F4.set (Or.inr (by omega))).set (Or.inr (by omega))
          have D5 : Dk ((s4.set s1.length (Ob.lst (it.map Ev.vl ++ [Vl.tup [Vl.str "make", Vl.int m]]))).set (s.length + 1) (Ob.lst (upTo m ++ [Vl.int m]))) d l (c + 20 * i + 12) :=
            (D4.fr ((Fr.refl.set (X := [s1.length, s.length + 1]) (by simp)).set (by simp)) (by simp at nd6 nd5 ⊢; omega) (by simp at nd6 nd5 ⊢; omega)).mono (by omega)
          generalize (s4.set s1.length (Ob.lst (it.map Ev.vl ++ [Vl.tup [Vl.str "make", Vl.int m]]))).set (s.length + 1) (Ob.lst (upTo m ++ [Vl.int m])) = s5 at b4 b5 b6 F5 D5
          have okm : okL m (it ++ [Ev.make m]) (m + 1) := okL_app oki ⟨rfl, rfl⟩
          refine (draw D5 (by omega) (by omega) (by omega)).use ?_
          rintro v s6 ⟨q2, rfl, hq2, D6, f6⟩
          have c4 := f6.at b4 nd4
          have c5 := f6.at b5 nd5
          have c6 := f6.at b6 nd6
          have F6 := F5.trans f6
          simp
          split
          · have k6 : kd .list (.ref s1.length) s6 = true := kd_lst c6
            simp [k6]
            refine (oneNew D6 (by simp) (by simp) (by omega)).use ?_
            rintro v s7 ⟨hv, D7, f7⟩
            have F7 := F6.trans f7
            have e4 := f7.at c4 nd4
            have e5 := f7.at c5 nd5
            have e6 := f7.at c6 nd6
            have elast : atI (upTo (m + 1)) (-1) = some (.int m) := by rw [← eup]; exact atLast
            have hl2 : ((it ++ [Ev.make m]).map Ev.vl).length < LIM := limC (by simp; omega)
            obtain ⟨nm, rfl, hnm⟩ : ∃ nm : Str, v = .str nm ∧ (nm = "x" ∨ nm = "y") := by
              simp only [List.mem_cons, List.not_mem_nil, or_false] at hv
              rcases hv with rfl | rfl
              · exact ⟨_, rfl, .inl rfl⟩
              · exact ⟨_, rfl, .inr rfl⟩
            simp [opIx_lst e5, elast, oAppend_lst e6 hl2]
            have eit2 : it.map Ev.vl ++ [(Ev.make m).vl, Vl.tup [Vl.str "stand", Vl.str nm, Vl.int m]] = (it ++ [Ev.make m, Ev.stand nm (some m)]).map Ev.vl := by simp [Ev.vl, oN]
            rw [eit2]
            have w6 : (s7.set s1.length (Ob.lst ((it ++ [Ev.make m, Ev.stand nm (some m)]).map Ev.vl)))[s1.length]? = some (.lst ((it ++ [Ev.make m, Ev.stand nm (some m)]).map Ev.vl)) := get_set_self e6
            have w4 : (s7.set s1.length (Ob.lst ((it ++ [Ev.make m, Ev.stand nm (some m)]).map Ev.vl)))[s.length]? = some (.lst (its.map itV)) := by rw [get_set_ne n64]; exact e4
            have w5 : (s7.set s1.length (Ob.lst ((it ++ [Ev.make m, Ev.stand nm (some m)]).map Ev.vl)))[s.length + 1]? = some (.lst (upTo (m + 1))) := by rw [get_set_ne n65]; exact e5
            have F8 : Fr [d, l] s (s7.set s1.length (Ob.lst ((it ++ [Ev.make m, Ev.stand nm (some m)]).map Ev.vl))) := F7.set (Or.inr (by omega))
            have D8 : Dk (s7.set s1.length (Ob.lst ((it ++ [Ev.make m, Ev.stand nm (some m)]).map Ev.vl))) d l (c + 20 * i + 20) :=
              (D7.fr (Fr.refl.set (X := [s1.length]) (by simp)) (by simp at nd6 ⊢; omega) (by simp at nd6 ⊢; omega)).mono (by omega)
            have oks : okL m (it ++ [Ev.make m, Ev.stand nm (some m)]) (m + 1) := okL_app oki ⟨rfl, ⟨hnm, Nat.lt_succ_self m⟩, rfl⟩
            have lens : (it ++ [Ev.make m, Ev.stand nm (some m)]).length ≤ 4 := by simp; omega
            have has9 : ∀ c, Ev.ask c ∈ it ++ [Ev.make m, Ev.stand nm (some m)] → c < m := fun c hc => okL_ask oki (by simpa using hc)
            generalize it ++ [Ev.make m, Ev.stand nm (some m)] = it9 at w6 w4 w5 F8 D8 oks lens has9
            generalize s7.set s1.length (Ob.lst (it9.map Ev.vl)) = s8 at w6 w4 w5 F8 D8
            simp [w4, w6, hil]
            exact hfin s8 it9 (m + 1) oks has9 (by omega) lens D8 w4 w5 F8
          · simp [c4, c6, hil]
            have := hfin s6 _ (m + 1) okm (fun c hc => okL_ask oki (by simpa using hc)) (by omega) (by simp; omega) (D6.mono (by omega)) c4 c5 F6
            simpa using this
        · simp [a4, a6, hil]
          exact hfin s4 it m oki (fun c hc => okL_ask oki hc) (by omega) (by omega) (D4.mono (by omega)) a4 a5 F4
      · simp [hm, S3.g4, g6, hil]
        exact hfin s3 it m oki (fun c hc => okL_ask oki hc) S3.le (by omega) (S3.dk.mono (by omega)) S3.g4 S3.g5 S3.fr
  · rintro lo s3 ⟨its, m, x3, x6, x7, rfl, hi, S3⟩
    simp [S3.g4]
    rw [rng_len] at hi S3
    exact ⟨its, rfl, m, S3.ok, S3.le, hi, S3.sm, S3.dk, S3.fr⟩
end K32

/-! PG: what events leave, as a pure state, and how it stands in a store -/
namespace K32
open PySem L2 Sm
structure Hs where
  rows : List (List (Key × Vl))
  stand : List (Key × Vl)
  kept : List Int
def Hs.step (h : Hs) : Ev → Hs
  | .make _ => { h with rows := h.rows ++ [[]] }
  | .stand x c => { h with stand := put h.stand (.inr x) (oN c) }
  | .hold i f c => match h.rows[i]? with
    | some r => { h with rows := h.rows.set i (put r (.inr f) (oN c)) }
    | none => h
  | .keep c => { h with kept := h.kept ++ [(c : Int)] }
  | .ask _ => h
abbrev Hs0 : Hs := ⟨[], [], []⟩
def vOk (n : Nat) (v : Vl) : Prop := v = .non ∨ ∃ c : Nat, c < n ∧ v = .int c
structure HsOk (n B : Nat) (h : Hs) : Prop where
  len : h.rows.length = n
  row : ∀ r ∈ h.rows, r.length ≤ B ∧ ∀ kv ∈ r, vOk n kv.2
  std : h.stand.length ≤ B ∧ ∀ kv ∈ h.stand, vOk n kv.2
  kpt : h.kept.length ≤ B ∧ ∀ c ∈ h.kept, 0 ≤ c ∧ c < n
theorem put_len {kvs : List (Key × Vl)} {k : Key} {v : Vl} : (put kvs k v).length ≤ kvs.length + 1 := by
  induction kvs with
  | nil => simp [put]
  | cons p r ih =>
    unfold put
    split
    · simp
    · simp; omega
theorem put_mem {kvs : List (Key × Vl)} {k : Key} {v : Vl} {kv : Key × Vl} (h : kv ∈ put kvs k v) : kv ∈ kvs ∨ kv.2 = v := by
  induction kvs with
  | nil => simp [put] at h; right; rw [h]
  | cons p r ih =>
    unfold put at h
    split at h
    · rcases List.mem_cons.mp h with z | z
      · right; rw [z]
      · left; exact List.mem_cons_of_mem _ z
    · rcases List.mem_cons.mp h with z | z
      · left; rw [z]; exact List.mem_cons_self ..
      · rcases ih z with q | q
        · left; exact List.mem_cons_of_mem _ q
        · right; exact q
theorem vOk.mono {n m : Nat} {v : Vl} (h : vOk n v) (k : n ≤ m) : vOk m v := by
  rcases h with h | ⟨c, a, b⟩
  · exact .inl h
  · exact .inr ⟨c, by omega, b⟩
theorem vOk_oN {n : Nat} {c : Option Nat} (h : oLt n c) : vOk n (oN c) := by
  cases c with
  | none => exact .inl rfl
  | some c => exact .inr ⟨c, h, rfl⟩
theorem HsOk.mono {n B B' : Nat} {h : Hs} (k : HsOk n B h) (hb : B ≤ B') : HsOk n B' h :=
  ⟨k.len, fun r hr => ⟨by have := (k.row r hr).1; omega, (k.row r hr).2⟩, ⟨by have := k.std.1; omega, k.std.2⟩, ⟨by have := k.kpt.1; omega, k.kpt.2⟩⟩
theorem HsOk.step {n B m : Nat} {h : Hs} {e : Ev} {es : List Ev} (k : HsOk n B h) (o : okL n (e :: es) m) : ∃ n', HsOk n' (B + 1) (h.step e) ∧ okL n' es m ∧ n ≤ n' := by
  cases e with
  | make j =>
    refine ⟨n + 1, ⟨?_, ?_, ?_, ?_⟩, o.2, by omega⟩
    · simp [Hs.step, k.len]
    · intro r hr
      simp only [Hs.step, List.mem_append, List.mem_singleton] at hr
      rcases hr with hr | rfl
      · exact ⟨by have := (k.row r hr).1; omega, fun kv hkv => ((k.row r hr).2 kv hkv).mono (by omega)⟩
      · simp
    · exact ⟨by have := k.std.1; simp [Hs.step]; omega, fun kv hkv => (k.std.2 kv hkv).mono (by omega)⟩
    · exact ⟨by have := k.kpt.1; simp [Hs.step]; omega, fun c hc => by have := k.kpt.2 c hc; omega⟩
  | stand x c =>
    refine ⟨n, ⟨k.len, (k.mono (by omega)).row, ⟨?_, ?_⟩, (k.mono (by omega)).kpt⟩, o.2, by omega⟩
    · have := k.std.1
      have := put_len (kvs := h.stand) (k := .inr x) (v := oN c)
      simp only [Hs.step]
      omega
    · intro kv hkv
      rcases put_mem hkv with z | z
      · exact k.std.2 kv z
      · rw [z]; exact vOk_oN o.1.2
  | hold i f c =>
    obtain ⟨⟨hi, _, hc⟩, o2⟩ := o
    have hi' : i < h.rows.length := by rw [k.len]; exact hi
    have e : h.rows[i]? = some h.rows[i] := List.getElem?_eq_getElem hi'
    refine ⟨n, ⟨?_, ?_, ?_, ?_⟩, o2, by omega⟩
    · simp only [Hs.step, e, List.length_set, k.len]
    · simp only [Hs.step, e]
      intro r hr
      have hm : h.rows[i] ∈ h.rows := List.getElem_mem _
      rcases List.mem_or_eq_of_mem_set hr with z | rfl
      · exact (k.mono (by omega)).row r z
      · have := (k.row _ hm).1
        have := put_len (kvs := h.rows[i]) (k := .inr f) (v := oN c)
        refine ⟨by omega, fun kv hkv => ?_⟩
        rcases put_mem hkv with z | z
        · exact (k.row _ hm).2 kv z
        · rw [z]; exact vOk_oN hc
    · simp only [Hs.step, e]; exact (k.mono (by omega)).std
    · simp only [Hs.step, e]; exact (k.mono (by omega)).kpt
  | keep c =>
    refine ⟨n, ⟨k.len, (k.mono (by omega)).row, (k.mono (by omega)).std, ⟨?_, ?_⟩⟩, o.2, by omega⟩
    · have := k.kpt.1
      simp [Hs.step]; omega
    · intro z hz
      simp only [Hs.step, List.mem_append, List.mem_singleton] at hz
      rcases hz with hz | rfl
      · exact k.kpt.2 z hz
      · have := o.1
        simp [Ev.ok] at this
        omega
  | ask c => exact ⟨n, k.mono (by omega), o.2, by omega⟩
theorem HsOk.steps {n B m : Nat} {h : Hs} : ∀ {es : List Ev}, HsOk n B h → okL n es m → HsOk m (B + es.length) (es.foldl Hs.step h)
  | [], k, o => by have : n = m := o
                   subst this
                   exact k
  | e :: es, k, o => by
    obtain ⟨n', k', o', _⟩ := k.step o
    have := HsOk.steps k' o'
    exact this.mono (by simp; omega)
theorem Hs0_ok : HsOk 0 0 Hs0 := ⟨rfl, fun r hr => by simp at hr, ⟨Nat.le_refl _, fun r hr => by simp at hr⟩, ⟨Nat.le_refl _, fun r hr => by simp at hr⟩⟩
/-- the state stands in the store -/
structure Hp0 (s0 : Sto) (fx : List (Nat × Ob)) (ko : List Int → Ob) (b3 b1 k : Nat) (rs : List Nat) (h : Hs) (s : Sto) : Prop where
  sg : s[b3]? = some (.lst (rs.map Vl.ref))
  st : s[b1]? = some (.dic h.stand)
  kp : s[k]? = some (ko h.kept)
  len : rs.length = h.rows.length
  rw : ∀ (i r : Nat), rs[i]? = some r → ∃ row, h.rows[i]? = some row ∧ s[r]? = some (.dic row)
  nd : (b3 :: b1 :: k :: rs).Nodup
  new : ∀ x ∈ b3 :: b1 :: k :: rs, s0.length ≤ x
  fxd : ∀ x o, (x, o) ∈ fx → s[x]? = some o ∧ x ∉ b3 :: b1 :: k :: rs
  fr : Fr [] s0 s
section
variable {s0 s : Sto} {fx : List (Nat × Ob)} {ko : List Int → Ob} {b3 b1 k : Nat} {rs : List Nat} {h : Hs}
theorem ne_mem {a b : Nat} {rs : List Nat} (h : a ∉ rs) (hb : b ∈ rs) : a ≠ b := by
  rintro rfl
  exact h hb
theorem Hp0.fram {s' : Sto} (P : Hp0 s0 fx ko b3 b1 k rs h s) (f : Fr [] s s') : Hp0 s0 fx ko b3 b1 k rs h s' :=
  ⟨f.at P.sg (by simp), f.at P.st (by simp), f.at P.kp (by simp), P.len, fun i r hr => by
    obtain ⟨row, a, b⟩ := P.rw i r hr
    exact ⟨row, a, f.at b (by simp)⟩, P.nd, P.new, fun x o hx => ⟨f.at (P.fxd x o hx).1 (by simp), (P.fxd x o hx).2⟩, P.fr.trans f⟩
theorem Hp0.make (P : Hp0 s0 fx ko b3 b1 k rs h s) (j : Nat) : Hp0 s0 fx ko b3 b1 k (rs ++ [s.length]) (h.step (.make j)) ((s ++ [Ob.dic []]).set b3 (Ob.lst (rs.map Vl.ref ++ [Vl.ref s.length]))) := by
  have l3 := lt_of_get P.sg
  have l1 := lt_of_get P.st
  have lk := lt_of_get P.kp
  have lr : ∀ r ∈ rs, r < s.length := by
    intro r hr
    obtain ⟨i, hi⟩ := List.mem_iff_getElem?.mp hr
    obtain ⟨row, _, q⟩ := P.rw i r hi
    exact lt_of_get q
  have nd := P.nd
  simp only [List.nodup_cons, List.mem_cons, not_or] at nd
  obtain ⟨⟨n1, n2, n3⟩, ⟨n4, n5⟩, n6, n7⟩ := nd
  refine ⟨?_, ?_, ?_, ?_, ?_, ?_, ?_, ?_, ?_⟩
  · rw [get_set_self (get_push P.sg)]; simp
  · rw [get_set_ne n1]; exact get_push P.st
  · rw [get_set_ne n2]; exact get_push P.kp
  · simp [Hs.step, P.len]
  · intro i r hr
    rcases Nat.lt_or_ge i rs.length with z | z
    · rw [List.getElem?_append_left z] at hr
      obtain ⟨row, a, b⟩ := P.rw i r hr
      refine ⟨row, ?_, ?_⟩
      · simp only [Hs.step]
        rw [List.getElem?_append_left (by rw [← P.len]; exact z)]
        exact a
      · rw [get_set_ne (ne_mem n3 (List.mem_of_getElem? hr))]
        exact get_push b
    · rw [List.getElem?_append_right z] at hr
      have : i - rs.length = 0 := by
        rcases Nat.eq_zero_or_pos (i - rs.length) with q | q
        · exact q
        · rw [List.getElem?_eq_none (by simp; omega)] at hr; cases hr
      rw [this] at hr
      simp at hr
      subst hr
      refine ⟨[], ?_, ?_⟩
      · simp only [Hs.step]
        rw [List.getElem?_append_right (by rw [← P.len]; exact z), ← P.len, this]
        rfl
      · rw [get_set_ne (by omega)]; exact get_last
  · simp only [List.nodup_cons, List.mem_cons, List.mem_append, List.nodup_append, not_or, List.mem_singleton]
    refine ⟨⟨n1, n2, n3, by omega, by simp⟩, ⟨n4, n5, by omega, by simp⟩, ⟨n6, by omega, by simp⟩, n7, by simp, ?_⟩
    intro a ha b hb
    simp at hb
    have := lr a ha
    omega
  · intro x hx
    have hs := P.fr.le
    simp only [List.mem_cons, List.mem_append, List.not_mem_nil, or_false] at hx
    rcases hx with hx | hx | hx | hx | hx
    · exact P.new x (by simp [hx])
    · exact P.new x (by simp [hx])
    · exact P.new x (by simp [hx])
    · exact P.new x (by simp [hx])
    · omega
  · intro x o hx
    obtain ⟨a, b⟩ := P.fxd x o hx
    have := lt_of_get a
    simp only [List.mem_cons, List.mem_append, List.not_mem_nil, or_false, not_or] at b ⊢
    exact ⟨by rw [get_set_ne (Ne.symm b.1)]; exact get_push a, b.1, b.2.1, b.2.2.1, b.2.2.2, by omega⟩
  · exact (P.fr.push _).set (Or.inr (P.new b3 (by simp)))
theorem Hp0.setSt (P : Hp0 s0 fx ko b3 b1 k rs h s) {st : List (Key × Vl)} : Hp0 s0 fx ko b3 b1 k rs { h with stand := st } (s.set b1 (Ob.dic st)) := by
  have nd := P.nd
  simp only [List.nodup_cons, List.mem_cons, not_or] at nd
  obtain ⟨⟨n1, n2, n3⟩, ⟨n4, n5⟩, n6, n7⟩ := nd
  refine ⟨?_, ?_, ?_, P.len, ?_, P.nd, P.new, ?_, P.fr.set (Or.inr (P.new b1 (by simp)))⟩
  · rw [get_set_ne (Ne.symm n1)]; exact P.sg
  · rw [get_set_self P.st]
  · rw [get_set_ne n4]; exact P.kp
  · intro i r hr
    obtain ⟨row, a, b⟩ := P.rw i r hr
    exact ⟨row, a, by rw [get_set_ne (ne_mem n5 (List.mem_of_getElem? hr))]; exact b⟩
  · intro x o hx
    obtain ⟨a, b⟩ := P.fxd x o hx
    exact ⟨by rw [get_set_ne (show _ ≠ x from fun q => b (by simp [q]))]; exact a, b⟩
theorem Hp0.setKp (P : Hp0 s0 fx ko b3 b1 k rs h s) {kp : List Int} : Hp0 s0 fx ko b3 b1 k rs { h with kept := kp } (s.set k (ko kp)) := by
  have nd := P.nd
  simp only [List.nodup_cons, List.mem_cons, not_or] at nd
  obtain ⟨⟨n1, n2, n3⟩, ⟨n4, n5⟩, n6, n7⟩ := nd
  refine ⟨?_, ?_, ?_, P.len, ?_, P.nd, P.new, ?_, P.fr.set (Or.inr (P.new k (by simp)))⟩
  · rw [get_set_ne (Ne.symm n2)]; exact P.sg
  · rw [get_set_ne (Ne.symm n4)]; exact P.st
  · rw [get_set_self P.kp]
  · intro i r hr
    obtain ⟨row, a, b⟩ := P.rw i r hr
    exact ⟨row, a, by rw [get_set_ne (ne_mem n6 (List.mem_of_getElem? hr))]; exact b⟩
  · intro x o hx
    obtain ⟨a, b⟩ := P.fxd x o hx
    exact ⟨by rw [get_set_ne (show _ ≠ x from fun q => b (by simp [q]))]; exact a, b⟩
theorem Hp0.setRow (P : Hp0 s0 fx ko b3 b1 k rs h s) {i r : Nat} {row : List (Key × Vl)} (hi : rs[i]? = some r) : Hp0 s0 fx ko b3 b1 k rs { h with rows := h.rows.set i row } (s.set r (Ob.dic row)) := by
  have nd := P.nd
  simp only [List.nodup_cons, List.mem_cons, not_or] at nd
  obtain ⟨⟨n1, n2, n3⟩, ⟨n4, n5⟩, n6, n7⟩ := nd
  have hr := List.mem_of_getElem? hi
  obtain ⟨row0, a0, b0⟩ := P.rw i r hi
  refine ⟨?_, ?_, ?_, by simp [P.len], ?_, P.nd, P.new, ?_, P.fr.set (Or.inr (P.new r (by simp [hr])))⟩
  · rw [get_set_ne (ne_mem n3 hr).symm]; exact P.sg
  · rw [get_set_ne (ne_mem n5 hr).symm]; exact P.st
  · rw [get_set_ne (ne_mem n6 hr).symm]; exact P.kp
  · intro j r' hj
    by_cases e : j = i
    · subst e
      rw [hi] at hj
      cases hj
      refine ⟨row, ?_, get_set_self b0⟩
      rw [List.getElem?_set_self (List.getElem?_eq_some_iff.mp a0).1]
    · obtain ⟨row', a, b⟩ := P.rw j r' hj
      have : r ≠ r' := by
        intro q
        subst q
        obtain ⟨l1, e1⟩ := List.getElem?_eq_some_iff.mp hi
        obtain ⟨l2, e2⟩ := List.getElem?_eq_some_iff.mp hj
        exact e ((List.getElem_inj n7).mp (e2.trans e1.symm))
      exact ⟨row', by rw [List.getElem?_set_ne (Ne.symm e)]; exact a, by rw [get_set_ne this]; exact b⟩
  · intro x o hx
    obtain ⟨a, b⟩ := P.fxd x o hx
    exact ⟨by rw [get_set_ne (show r ≠ x from fun q => b (by simp [← q, hr]))]; exact a, b⟩
end
end K32

/-! PH: the heap of the package and the heap of the law -/
namespace K32
open PySem L2 Sm
abbrev topO (a1 a2 a3 : Nat) : Ob := .ins 3 [("standing", .ref a1), ("kept_cells", .ref a2), ("strong", .ref a3)]
def kdL (ks : List Int) : List (Key × Vl) := ks.foldl (fun acc c => put acc (.inl c) (.bl true)) []
def kdO (ks : List Int) : Ob := .dic (kdL ks)
def klO (ks : List Int) : Ob := .lst (ks.map Vl.int)
theorem kdL_len {ks : List Int} : (kdL ks).length ≤ ks.length := by
  have : ∀ (ks : List Int) (acc : List (Key × Vl)), (ks.foldl (fun acc c => put acc (.inl c) (.bl true)) acc).length ≤ acc.length + ks.length := by
    intro ks
    induction ks with
    | nil => intro acc; simp
    | cons k ks ih =>
      intro acc
      have h1 := ih (put acc (.inl k) (.bl true))
      have h2 := put_len (kvs := acc) (k := .inl k) (v := .bl true)
      simp only [List.foldl_cons, List.length_cons]
      omega
  have := this ks []
  simp only [List.length_nil, Nat.zero_add] at this
  exact this
theorem kdL_app {ks : List Int} {c : Int} : kdL (ks ++ [c]) = put (kdL ks) (.inl c) (.bl true) := by simp [kdL]
@[simp] theorem ne_make_stand : (Str.ofString "make" = Str.ofString "stand") = False := eq_false (by decide)
@[simp] theorem ne_make_hold : (Str.ofString "make" = Str.ofString "hold") = False := eq_false (by decide)
@[simp] theorem ne_make_keep : (Str.ofString "make" = Str.ofString "keep") = False := eq_false (by decide)
@[simp] theorem ne_make_ask : (Str.ofString "make" = Str.ofString "ask") = False := eq_false (by decide)
@[simp] theorem ne_stand_make : (Str.ofString "stand" = Str.ofString "make") = False := eq_false (by decide)
@[simp] theorem ne_stand_hold : (Str.ofString "stand" = Str.ofString "hold") = False := eq_false (by decide)
@[simp] theorem ne_stand_keep : (Str.ofString "stand" = Str.ofString "keep") = False := eq_false (by decide)
@[simp] theorem ne_stand_ask : (Str.ofString "stand" = Str.ofString "ask") = False := eq_false (by decide)
@[simp] theorem ne_hold_make : (Str.ofString "hold" = Str.ofString "make") = False := eq_false (by decide)
@[simp] theorem ne_hold_stand : (Str.ofString "hold" = Str.ofString "stand") = False := eq_false (by decide)
@[simp] theorem ne_hold_keep : (Str.ofString "hold" = Str.ofString "keep") = False := eq_false (by decide)
@[simp] theorem ne_hold_ask : (Str.ofString "hold" = Str.ofString "ask") = False := eq_false (by decide)
@[simp] theorem ne_keep_make : (Str.ofString "keep" = Str.ofString "make") = False := eq_false (by decide)
@[simp] theorem ne_keep_stand : (Str.ofString "keep" = Str.ofString "stand") = False := eq_false (by decide)
@[simp] theorem ne_keep_hold : (Str.ofString "keep" = Str.ofString "hold") = False := eq_false (by decide)
@[simp] theorem ne_keep_ask : (Str.ofString "keep" = Str.ofString "ask") = False := eq_false (by decide)
@[simp] theorem ne_ask_make : (Str.ofString "ask" = Str.ofString "make") = False := eq_false (by decide)
@[simp] theorem ne_ask_stand : (Str.ofString "ask" = Str.ofString "stand") = False := eq_false (by decide)
@[simp] theorem ne_ask_hold : (Str.ofString "ask" = Str.ofString "hold") = False := eq_false (by decide)
@[simp] theorem ne_ask_keep : (Str.ofString "ask" = Str.ofString "keep") = False := eq_false (by decide)
theorem okL_le : ∀ {es : List Ev} {n m : Nat}, okL n es m → n ≤ m
  | [], n, m, h => Nat.le_of_eq h
  | .make j :: r, n, m, h => by have := okL_le h.2; omega
  | .stand .. :: r, n, m, h => okL_le h.2
  | .hold .. :: r, n, m, h => okL_le h.2
  | .keep _ :: r, n, m, h => okL_le h.2
  | .ask _ :: r, n, m, h => okL_le h.2
section
variable {s : Sto} {a a1 a2 a3 : Nat} {Q : Vl → Sto → Prop}
theorem fw1 (top : s[a]? = some (topO a1 a2 a3)) : fldW cs_standing "standing" (.ref a) s Q = Q (.ref a1) s := by
  rw [fldW_ins top]
  exact propext ⟨fun h => h.2, fun h => ⟨by simp, h⟩⟩
theorem fw2 (top : s[a]? = some (topO a1 a2 a3)) : fldW cs_kept_cells "kept_cells" (.ref a) s Q = Q (.ref a2) s := by
  rw [fldW_ins top]
  exact propext ⟨fun h => h.2, fun h => ⟨by simp, h⟩⟩
theorem fw3 (top : s[a]? = some (topO a1 a2 a3)) : fldW cs_strong "strong" (.ref a) s Q = Q (.ref a3) s := by
  rw [fldW_ins top]
  exact propext ⟨fun h => h.2, fun h => ⟨by simp, h⟩⟩
end
theorem applyS {s0 s : Sto} {a a1 a2 a3 n B m : Nat} {rs : List Nat} {h : Hs} {es : List Ev} (P : Hp0 s0 [(a, topO a1 a2 a3)] kdO a3 a1 a2 rs h s) (O : HsOk n B h) (o : okL n es m) (hb : B + es.length < 1000) (hn : m < 1000) :
    WE (m_Heap_apply [.ref a, itV es]) s (fun v s' => v = .non ∧ ∃ rs', Hp0 s0 [(a, topO a1 a2 a3)] kdO a3 a1 a2 rs' (es.foldl Hs.step h) s') NoX := by
  unfold m_Heap_apply b_Heap_apply
  simp [itV]
  refine loopX_inv (fun i lo s' => ∃ rs n' x2, lo = [some (.ref a), some (itV es), x2] ∧ Hp0 s0 [(a, topO a1 a2 a3)] kdO a3 a1 a2 rs ((es.take i).foldl Hs.step h) s' ∧ HsOk n' (B + i) ((es.take i).foldl Hs.step h) ∧ okL n' (es.drop i) m) ?_ ?_ ?_
  · exact ⟨rs, n, none, rfl, P, O, o⟩
  · rintro i v lo s1 hv ⟨rs, n', x2, rfl, P1, O1, o1⟩
    rw [List.getElem?_map] at hv
    obtain ⟨e, he, rfl⟩ : ∃ e, es[i]? = some e ∧ v = e.vl := by
      cases q : es[i]? with
      | none => rw [q] at hv; cases hv
      | some e => rw [q] at hv; exact ⟨e, rfl, by simpa using hv.symm⟩
    obtain ⟨hi, ee⟩ := List.getElem?_eq_some_iff.mp he
    have ed : es.drop i = e :: es.drop (i + 1) := by rw [List.drop_eq_getElem_cons hi, ee]
    rw [ed] at o1
    have et : (es.take (i + 1)).foldl Hs.step h = ((es.take i).foldl Hs.step h).step e := by
      rw [List.take_add_one, he]
      simp
    rw [et]
    generalize (es.take i).foldl Hs.step h = h1 at P1 O1
    obtain ⟨n2, O2, o2, hn2⟩ := O1.step o1
    have top := (P1.fxd a _ (List.mem_singleton.mpr rfl)).1
    have hm2 := okL_le o2
    have hrl : rs.length < LIM := by rw [P1.len, O1.len]; exact limC (by omega)
    have hrl' : h1.rows.length < LIM := by rw [O1.len]; exact limC (by omega)
    have hsl : h1.stand.length < LIM := limC (by have := O1.std.1; omega)
    have hkl : (kdL h1.kept).length < LIM := limC (by have := O1.kpt.1; have := kdL_len (ks := h1.kept); omega)
    simp
    cases e with
    | make j =>
      simp [Ev.vl, fw3 top, P1.sg, oAppend_lst (get_push P1.sg) (by simpa using hrl)]
      exact ⟨⟨_, P1.make j⟩, n2, O2, o2⟩
    | stand x c =>
      simp [Ev.vl, fw1 top, P1.st, hsl]
      exact ⟨⟨_, P1.setSt⟩, n2, O2, o2⟩
    | hold j f c =>
      obtain ⟨⟨hj, _, _⟩, _⟩ := o1
      have hj' : j < rs.length := by rw [P1.len, O1.len]; exact hj
      have hjr : rs[j]? = some rs[j] := List.getElem?_eq_getElem hj'
      obtain ⟨row, hr, hs⟩ := P1.rw j _ hjr
      have hrow := (O1.row row (List.mem_of_getElem? hr)).1
      have hrw : row.length < LIM := limC (by omega)
      have hat : atI (rs.map Vl.ref) (j : Int) = some (.ref rs[j]) := by rw [atN, List.getElem?_map, hjr]; rfl
      simp [Ev.vl, fw3 top, P1.sg, hat, hs, hrw]
      refine ⟨⟨rs, ?_⟩, n2, O2, o2⟩
      have := P1.setRow (row := put row (.inr f) (oN c)) hjr
      simp only [Hs.step, hr]
      exact this
    | keep c =>
      simp [Ev.vl, fw2 top, P1.kp, kdO, hkl]
      refine ⟨⟨rs, ?_⟩, n2, O2, o2⟩
      have := P1.setKp (kp := h1.kept ++ [(c : Int)])
      rw [kdO, kdL_app] at this
      exact this
    | ask c =>
      simp [Ev.vl]
      exact ⟨⟨rs, P1⟩, n2, O2, o2⟩
  · rintro lo s1 ⟨rs, n', x2, rfl, P1, O1, o1⟩
    simp at P1
    exact ⟨rfl, rs, P1⟩
theorem okL_pre : ∀ {es fs : List Ev} {n m : Nat}, okL n (es ++ fs) m → ∃ k, okL n es k ∧ okL k fs m
  | [], fs, n, m, h => ⟨n, rfl, h⟩
  | .make j :: r, fs, n, m, h => by obtain ⟨k, a, b⟩ := okL_pre h.2; exact ⟨k, ⟨h.1, a⟩, b⟩
  | .stand .. :: r, fs, n, m, h => by obtain ⟨k, a, b⟩ := okL_pre h.2; exact ⟨k, ⟨h.1, a⟩, b⟩
  | .hold .. :: r, fs, n, m, h => by obtain ⟨k, a, b⟩ := okL_pre h.2; exact ⟨k, ⟨h.1, a⟩, b⟩
  | .keep _ :: r, fs, n, m, h => by obtain ⟨k, a, b⟩ := okL_pre h.2; exact ⟨k, ⟨h.1, a⟩, b⟩
  | .ask _ :: r, fs, n, m, h => by obtain ⟨k, a, b⟩ := okL_pre h.2; exact ⟨k, ⟨h.1, a⟩, b⟩
/-- a story, small and well-formed -/
structure StOk (its : List (List Ev)) : Prop where
  ok : ∃ m, okL 0 its.flatten m ∧ m ≤ 6
  sm : ∀ it ∈ its, it.length ≤ 4
  len : its.length ≤ 14
def stAt (its : List (List Ev)) (i : Nat) : Hs := (its.take i).flatten.foldl Hs.step Hs0
theorem StOk.flen {its : List (List Ev)} (S : StOk its) {i : Nat} : (its.take i).flatten.length ≤ 4 * i := by
  have : ∀ xs : List (List Ev), (∀ x ∈ xs, x.length ≤ 4) → xs.flatten.length ≤ 4 * xs.length := by
    intro xs
    induction xs with
    | nil => intro _; simp
    | cons x xs ih =>
      intro h
      have h1 := h x (List.mem_cons_self ..)
      have h2 := ih fun y hy => h y (List.mem_cons_of_mem _ hy)
      simp only [List.flatten_cons, List.length_append, List.length_cons]
      omega
  have h := this (its.take i) fun x hx => S.sm x (List.mem_of_mem_take hx)
  have : (its.take i).length ≤ i := by simp; omega
  omega
theorem StOk.at {its : List (List Ev)} (S : StOk its) {i : Nat} (hi : i ≤ its.length) : ∃ n, n ≤ 6 ∧ okL 0 (its.take i).flatten n ∧ HsOk n (4 * i) (stAt its i) := by
  obtain ⟨m, o, hm⟩ := S.ok
  have e : its.flatten = (its.take i).flatten ++ (its.drop i).flatten := by rw [← List.flatten_append, List.take_append_drop]
  rw [e] at o
  obtain ⟨k, a, b⟩ := okL_pre o
  have := okL_le b
  exact ⟨k, by omega, a, (Hs0_ok.steps a).mono (by have := S.flen (i := i); omega)⟩
theorem StOk.at1 {its : List (List Ev)} (S : StOk its) {i : Nat} {it : List Ev} (hi : its[i]? = some it) : ∃ n m, m ≤ 6 ∧ HsOk n (4 * i) (stAt its i) ∧ okL n it m ∧ stAt its (i + 1) = it.foldl Hs.step (stAt its i) := by
  have hl := (List.getElem?_eq_some_iff.mp hi).1
  obtain ⟨m, hm, o, _⟩ := S.at (i := i + 1) hl
  have e : (its.take (i + 1)).flatten = (its.take i).flatten ++ it := by
    rw [List.take_add_one, hi, List.flatten_append]
    simp
  rw [e] at o
  obtain ⟨k, a, b⟩ := okL_pre o
  refine ⟨k, m, hm, (Hs0_ok.steps a).mono (by have := S.flen (i := i); omega), b, ?_⟩
  unfold stAt
  rw [e, List.foldl_append]
theorem initS {s0 : Sto} : WE (m_HeapU_initU [.ref s0.length]) (s0 ++ [Ob.ins 3 []]) (fun v s' => v = .non ∧ Hp0 s0 [(s0.length, topO (s0.length + 1) (s0.length + 2) (s0.length + 3))] kdO (s0.length + 3) (s0.length + 1) (s0.length + 2) [] Hs0 s') NoX := by
  obtain ⟨s, hs⟩ : ∃ s, s = s0 ++ [Ob.ins 3 []] := ⟨_, rfl⟩
  rw [← hs]
  have hl : s.length = s0.length + 1 := by rw [hs]; simp
  have h : s[s0.length]? = some (.ins 3 []) := by rw [hs]; exact get_last
  have fs : Fr [] s0 s := by rw [hs]; exact Fr.refl.push _
  obtain ⟨a, ha⟩ : ∃ a, a = s0.length := ⟨_, rfl⟩
  rw [← ha] at h hl ⊢
  have e1 : setFld cs_standing "standing" (.ref a) (.ref s.length) (s ++ [Ob.dic []]) = some ((s ++ [Ob.dic []]).set a (.ins 3 [("standing", .ref s.length)])) := setFld_ins (get_push h) ⟨by simp, by simp⟩
  obtain ⟨s1, h1⟩ : ∃ s1, s1 = (s ++ [Ob.dic []]).set a (.ins 3 [("standing", .ref s.length)]) := ⟨_, rfl⟩
  rw [← h1] at e1
  have g1 : s1[a]? = some (.ins 3 [("standing", .ref s.length)]) := by rw [h1]; exact get_set_self (get_push h)
  have l1 : s1.length = a + 2 := by rw [h1]; simp [hl]
  have d1 : s1[a + 1]? = some (.dic []) := by rw [h1, get_set_ne (by omega), ← hl]; exact get_last
  have f1 : Fr [] s0 s1 := by rw [h1]; exact (fs.push _).set (Or.inr (by omega))
  have e2 : setFld cs_kept_cells "kept_cells" (.ref a) (.ref s1.length) (s1 ++ [Ob.dic []]) = some ((s1 ++ [Ob.dic []]).set a (.ins 3 [("standing", .ref s.length), ("kept_cells", .ref s1.length)])) := setFld_ins (get_push g1) ⟨by simp, by simp⟩
  obtain ⟨s2, h2⟩ : ∃ s2, s2 = (s1 ++ [Ob.dic []]).set a (.ins 3 [("standing", .ref s.length), ("kept_cells", .ref s1.length)]) := ⟨_, rfl⟩
  rw [← h2] at e2
  have g2 : s2[a]? = some (.ins 3 [("standing", .ref s.length), ("kept_cells", .ref s1.length)]) := by rw [h2]; exact get_set_self (get_push g1)
  have l2 : s2.length = a + 3 := by rw [h2]; simp [l1]
  have d2 : s2[a + 2]? = some (.dic []) := by rw [h2, get_set_ne (by omega), ← l1]; exact get_last
  have d2' : s2[a + 1]? = some (.dic []) := by rw [h2, get_set_ne (by omega)]; exact get_push d1
  have f2 : Fr [] s0 s2 := by rw [h2]; exact (f1.push _).set (Or.inr (by omega))
  have e3 : setFld cs_strong "strong" (.ref a) (.ref s2.length) (s2 ++ [Ob.lst []]) = some ((s2 ++ [Ob.lst []]).set a (.ins 3 [("standing", .ref s.length), ("kept_cells", .ref s1.length), ("strong", .ref s2.length)])) := setFld_ins (get_push g2) ⟨by simp, by simp⟩
  obtain ⟨s3, h3⟩ : ∃ s3, s3 = (s2 ++ [Ob.lst []]).set a (.ins 3 [("standing", .ref s.length), ("kept_cells", .ref s1.length), ("strong", .ref s2.length)]) := ⟨_, rfl⟩
  rw [← h3] at e3
  have g3 : s3[a]? = some (.ins 3 [("standing", .ref s.length), ("kept_cells", .ref s1.length), ("strong", .ref s2.length)]) := by rw [h3]; exact get_set_self (get_push g2)
  have d3 : s3[a + 3]? = some (.lst []) := by rw [h3, get_set_ne (by omega), ← l2]; exact get_last
  have d3' : s3[a + 2]? = some (.dic []) := by rw [h3, get_set_ne (by omega)]; exact get_push d2
  have d3'' : s3[a + 1]? = some (.dic []) := by rw [h3, get_set_ne (by omega)]; exact get_push d2'
  have f3 : Fr [] s0 s3 := by rw [h3]; exact (f2.push _).set (Or.inr (by omega))
  unfold m_HeapU_initU b_HeapU_initU
  simp [e1, e2, e3]
  rw [hl, l1, l2] at g3
  refine ⟨d3, d3'', d3', rfl, ?_, ?_, ?_, ?_, f3⟩
  · intro i r hr; simp at hr
  · simp
  · intro x hx; simp at hx; omega
  · intro x o hx
    simp at hx
    obtain ⟨rfl, rfl⟩ := hx
    exact ⟨g3, by simp⟩
end K32

/-! PI: held lists -/
namespace K32
open PySem L2 Sm
def vInt : Vl → Option Int
  | .int c => some c
  | _ => none
def heldR (row : List (Key × Vl)) : List Int := row.filterMap fun kv => vInt kv.2
def Hs.held (h : Hs) : List (List Int) := h.rows.map heldR
def Hs.starts (h : Hs) : List Int := h.kept ++ heldR h.stand
def nonF (v : Vl) : Option Vl := if Sm.isNon v = true then none else some v
theorem heldR_eq {n : Nat} : ∀ {row : List (Key × Vl)}, (∀ kv ∈ row, vOk n kv.2) → (row.map (·.2)).filterMap nonF = (heldR row).map Vl.int
  | [], _ => rfl
  | kv :: row, h => by
    have ih := heldR_eq (row := row) fun x hx => h x (List.mem_cons_of_mem _ hx)
    unfold heldR at ih ⊢
    rcases h kv (List.mem_cons_self ..) with e | ⟨c, hc, e⟩
    · have e1 : nonF kv.2 = none := by rw [e]; rfl
      have e2 : vInt kv.2 = none := by rw [e]; rfl
      simp only [List.map_cons, List.filterMap_cons, e1, e2, ih]
    · have e1 : nonF kv.2 = some (.int c) := by rw [e]; rfl
      have e2 : vInt kv.2 = some (c : Int) := by rw [e]; rfl
      simp only [List.map_cons, List.filterMap_cons, e1, e2, ih]
structure HeldAt (s : Sto) (j : Nat) (held : List (List Int)) : Prop where
  ex : ∃ hs : List Nat, s[j]? = some (.lst (hs.map Vl.ref)) ∧ hs.length = held.length ∧ ∀ (i x : Nat), hs[i]? = some x → j < x ∧ ∃ row, held[i]? = some row ∧ s[x]? = some (Ob.lst (row.map Vl.int))
theorem HeldAt.fr {s s' : Sto} {j : Nat} {held : List (List Int)} (H : HeldAt s j held) (f : Fr [] s s') : HeldAt s' j held := by
  obtain ⟨hs, a, b, c⟩ := H.ex
  exact ⟨hs, f.at a (by simp), b, fun i x hx => by
    obtain ⟨lx, row, p, q⟩ := c i x hx
    exact ⟨lx, row, p, f.at q (by simp)⟩⟩
/-- the outer walk, for any inner one -/
theorem heldWalk {s : Sto} {j : Nat} {rs : List Nat} {rows : List (List (Key × Vl))} {lo : Lo} {e : EM} {v8 : Nat} {Q : Sto → Prop} (hj : s[j]? = some (.lst (rs.map Vl.ref))) (hl : rs.length = rows.length) (hr : ∀ (i r : Nat), rs[i]? = some r → ∃ row, rows[i]? = some row ∧ s[r]? = some (Ob.dic row)) (hlen : rs.length < 1000)
    (he : ∀ (s' : Sto) (r : Nat) (row : List (Key × Vl)), row ∈ rows → s'[r]? = some (.dic row) → Fr [] s s' → r < s.length → WE (e (lo.set v8 (some (.ref r)))) s' (fun y s'' => y = .ref (s''.length - 1) ∧ s'.length < s''.length ∧ s''[(s''.length - 1)]? = some (.lst ((heldR row).map Vl.int)) ∧ Fr [] s' s'') NoX)
    (hd : ∀ s', Fr [] s s' → HeldAt s' s.length (rows.map heldR) → Q s') : WL (lcN (nxLst j) (glN v8) tTrue e s.length lo 100000 0 (s ++ [.lst []])) Q := by
  have hjl := lt_of_get hj
  refine lcL_inv (xs := rs.map Vl.ref) (fun i s' => Fr [] s s' ∧ s.length < s'.length ∧ ∃ hs : List Nat, s'[s.length]? = some (.lst (hs.map Vl.ref)) ∧ hs.length = i ∧ ∀ (p x : Nat), hs[p]? = some x → s.length < x ∧ ∃ row, rows[p]? = some row ∧ s'[x]? = some (.lst ((heldR row).map Vl.int))) (by simp; omega) ?_ ?_ ?_ ?_
  · exact ⟨Fr.refl.push _, by simp, [], get_last, rfl, fun p x hx => by simp at hx⟩
  · rintro i s' ⟨f, _⟩
    exact f.at hj (by simp)
  · rintro i v s' hv ⟨f, hlt, hs, g, hi, hrow⟩
    refine ⟨_, rfl, ?_⟩
    rw [List.getElem?_map] at hv
    obtain ⟨r, he', rfl⟩ : ∃ r, rs[i]? = some r ∧ v = .ref r := by
      cases q : rs[i]? with
      | none => rw [q] at hv; cases hv
      | some e => rw [q] at hv; exact ⟨e, rfl, by simpa using hv.symm⟩
    obtain ⟨row, hr1, hr2⟩ := hr i r he'
    unfold LcT tTrue
    rw [WE_ret, if_pos rfl]
    refine (he s' r row (List.mem_of_getElem? hr1) (f.at hr2 (by simp)) f (lt_of_get hr2)).use ?_
    rintro y s2 ⟨rfl, hl2, g2, f2⟩
    have g3 := f2.at g (by simp)
    have hil : i < rs.length := (List.getElem?_eq_some_iff.mp he').1
    simp only [g3]
    have hne : s.length < (s2.length - 1) := by have := f2.le; omega
    refine ⟨limC (by simp; omega), (f.trans f2).set (Or.inr (Nat.le_refl _)), by simp; omega, hs ++ [(s2.length - 1)], ?_, by simp [hi], ?_⟩
    · rw [get_set_self g3]; simp
    · intro p x hx
      rcases Nat.lt_or_ge p hs.length with z | z
      · rw [List.getElem?_append_left z] at hx
        obtain ⟨a, row, b, c⟩ := hrow p x hx
        exact ⟨a, row, b, by rw [get_set_ne (by omega)]; exact f2.at c (by simp)⟩
      · rw [List.getElem?_append_right z] at hx
        have : p - hs.length = 0 := by
          rcases Nat.eq_zero_or_pos (p - hs.length) with q | q
          · exact q
          · rw [List.getElem?_eq_none (by simp; omega)] at hx; cases hx
        rw [this] at hx
        simp only [List.getElem?_cons_zero, Option.some.injEq] at hx
        subst hx
        have : p = i := by omega
        subst this
        exact ⟨hne, row, hr1, by rw [get_set_ne (by omega)]; exact g2⟩
  · rintro s' ⟨f, hlt, hs, g, hi, hrow⟩
    refine hd s' f ⟨hs, g, by rw [hi]; simp [hl], ?_⟩
    intro i x hx
    obtain ⟨lx, row, a, b⟩ := hrow i x hx
    exact ⟨lx, heldR row, by rw [List.getElem?_map, a]; rfl, b⟩
/-- the inner walk of the law -/
theorem innerL {s : Sto} {r n : Nat} {row : List (Key × Vl)} {lo : Lo} (hr : s[r]? = some (.dic row)) (hv : ∀ kv ∈ row, vOk n kv.2) (hl : row.length < 1000) (h8 : lo[8]? = some (some (.ref r))) (h9 : lo.length = 10) :
    WE (eLc 100000 (iLst (eListVals (eVar 8))) (glN 9) (tVal (eOp opNotN (eVar 9) (eC .non))) (eVar 9) [9] lo) s (fun y s'' => y = .ref (s''.length - 1) ∧ s.length < s''.length ∧ s''[(s''.length - 1)]? = some (.lst ((heldR row).map Vl.int)) ∧ Fr [] s s'') NoX := by
  simp [h8, hr]
  refine lcL_p (xs := row.map (·.2)) (s ++ [.lst (row.map (·.2))]) nonF (by simp) (by simp) get_last (by simp; omega) ?_ ?_
  · intro x hx acc
    refine ⟨_, rfl, ?_⟩
    simp [wipeL, h9]
    unfold nonF
    by_cases q : Sm.isNon x = true <;> simp [q]
  · rw [heldR_eq hv]
    simp
    exact Fr.refl.app _
/-- the same over a dict in its lock -/
theorem innerV {s : Sto} {r n : Nat} {row : List (Key × Vl)} {lo : Lo} (hr : s[r]? = some (.dic row)) (hv : ∀ kv ∈ row, vOk n kv.2) (hl : row.length < 1000) (h1 : lo[1]? = some (some (.ref r))) (h3 : lo.length = 3) :
    WE (eLock (eVar 1) (eLc 100000 (iVal (eVar 1)) (glN 2) (tVal (eOp opNotN (eVar 2) (eC .non))) (eVar 2) [2]) lo) s (fun y s'' => y = .ref (s''.length - 1) ∧ s.length < s''.length ∧ s''[(s''.length - 1)]? = some (.lst ((heldR row).map Vl.int)) ∧ Fr [] s s'') NoX := by
  refine WE_eLock (j := r) (by simp [h1]) hr ?_
  have hf : (s.set r (Ob.fdic row))[r]? = some (.fdic row) := get_set_self hr
  have hrl := lt_of_get hr
  simp [h1, hf]
  refine lcV_p (kvs := row) (s.set r (.fdic row)) nonF (by simp) (by simp) hf (by omega) ?_ ?_
  · intro x hx acc
    refine ⟨_, rfl, ?_⟩
    simp [wipeL, h3]
    unfold nonF
    by_cases q : Sm.isNon x = true <;> simp [q]
  · rw [heldR_eq hv]
    refine ⟨⟨row, get_push hf⟩, ?_⟩
    have hlen : ((s.set r (.fdic row) ++ [Ob.lst ((heldR row).map Vl.int)]).set r (Ob.dic row)).length = s.length + 1 := by simp
    rw [hlen]
    refine ⟨by simp, by simp, ?_, ?_⟩
    · rw [get_set_ne (by omega)]
      simp
    · refine ⟨by simp, fun i hi _ => ?_⟩
      by_cases e : i = r
      · subst e
        rw [get_set_self (get_push hf), hr]
      · rw [get_set_ne (Ne.symm e), List.getElem?_append_left (by simpa using hi), get_set_ne (Ne.symm e)]
end K32

/-! PJ: held_lists, _law_heap, cells_at -/
namespace K32
open PySem L2 Sm
theorem heldLists {s0 s : Sto} {a a1 a2 a3 n B : Nat} {rs : List Nat} {h : Hs} (P : Hp0 s0 [(a, topO a1 a2 a3)] kdO a3 a1 a2 rs h s) (O : HsOk n B h) (hB : B < 1000) (hn : n < 1000) :
    WE (m_Heap_held_lists [.ref a]) s (fun v s' => v = .ref s.length ∧ HeldAt s' s.length h.held ∧ Fr [] s s') NoX := by
  have top := (P.fxd a _ (List.mem_singleton.mpr rfl)).1
  unfold m_Heap_held_lists b_Heap_held_lists
  simp [fw3 top, P.sg]
  refine heldWalk P.sg P.len P.rw (by rw [P.len, O.len]; exact hn) ?_ ?_
  · intro s' r row hrow hs' f hr
    exact innerV hs' (O.row row hrow).2 (by have := (O.row row hrow).1; omega) (by simp [wipeL]) (by simp [wipeL])
  · intro s' f H
    exact ⟨rfl, H, f⟩
theorem lawHeap {s0 : Sto} {its : List (List Ev)} {i : Nat} (S : StOk its) (hi : i ≤ its.length) :
    WE (m__law_heap [stV its, .int i]) s0 (fun v s' => ∃ j k, v = .tup [.ref j, .ref k] ∧ (s0.length ≤ j ∧ s0.length ≤ k) ∧ HeldAt s' j (stAt its i).held ∧ s'[k]? = some (.lst ((stAt its i).starts.map Vl.int)) ∧ Fr [] s0 s') NoX := by
  unfold m__law_heap b__law_heap
  simp [stV]
  obtain ⟨n, hn6, _, OK⟩ := S.at hi
  have hlen := S.len
  refine loopX_inv (fun j lo s' => ∃ x2 x7 rs, lo = [some (stV its), some (.int i), x2, none, some (.ref s0.length), some (.ref (s0.length + 1)), some (.ref (s0.length + 2)), x7, none, none] ∧ Hp0 s0 [] klO s0.length (s0.length + 1) (s0.length + 2) rs (stAt its j) s') ?_ ?_ ?_
  · refine ⟨none, none, [], rfl, ?_, ?_, ?_, rfl, ?_, ?_, ?_, ?_, Fr.refl.app _⟩
    · simp
    · simp
      rfl
    · simp [klO]
      rfl
    · intro i r hr; simp at hr
    · simp
    · intro x hx; simp at hx; omega
    · intro x o hx; simp at hx
  · rintro j v lo s2 hv ⟨x2, x7, rs, rfl, P2⟩
    have hj : j < i := by
      have := (List.getElem?_eq_some_iff.mp hv).1
      simp at this
      omega
    rw [List.getElem?_take_of_lt hj, List.getElem?_map] at hv
    obtain ⟨it, he, rfl⟩ : ∃ it, its[j]? = some it ∧ v = itV it := by
      cases q : its[j]? with
      | none => rw [q] at hv; cases hv
      | some e => rw [q] at hv; exact ⟨e, rfl, by simpa using hv.symm⟩
    obtain ⟨n, m, hm, O, o, ee⟩ := S.at1 he
    have hsm := S.sm it (List.mem_of_getElem? he)
    simp [itV]
    rw [ee]
    generalize stAt its j = h at P2 O
    refine loopX_inv (fun p lo s' => ∃ rs n' x7, lo = [some (stV its), some (.int i), some (itV it), none, some (.ref s0.length), some (.ref (s0.length + 1)), some (.ref (s0.length + 2)), x7, none, none] ∧ Hp0 s0 [] klO s0.length (s0.length + 1) (s0.length + 2) rs ((it.take p).foldl Hs.step h) s' ∧ HsOk n' (4 * j + p) ((it.take p).foldl Hs.step h) ∧ okL n' (it.drop p) m) ?_ ?_ ?_
    · exact ⟨rs, n, x7, rfl, P2, O, o⟩
    · rintro p v lo s3 hv ⟨rs, n', x7, rfl, P1, O1, o1⟩
      rw [List.getElem?_map] at hv
      obtain ⟨e, he, rfl⟩ : ∃ e, it[p]? = some e ∧ v = e.vl := by
        cases q : it[p]? with
        | none => rw [q] at hv; cases hv
        | some e => rw [q] at hv; exact ⟨e, rfl, by simpa using hv.symm⟩
      obtain ⟨hi, ee⟩ := List.getElem?_eq_some_iff.mp he
      have ed : it.drop p = e :: it.drop (p + 1) := by rw [List.drop_eq_getElem_cons hi, ee]
      rw [ed] at o1
      have et : (it.take (p + 1)).foldl Hs.step h = ((it.take p).foldl Hs.step h).step e := by
        rw [List.take_add_one, he]
        simp
      rw [et]
      generalize (it.take p).foldl Hs.step h = h1 at P1 O1
      obtain ⟨n2, O2, o2, hn2⟩ := O1.step o1
      have hm2 := okL_le o2
      have hrl : rs.length < LIM := by rw [P1.len, O1.len]; exact limC (by omega)
      have hsl : h1.stand.length < LIM := limC (by have := O1.std.1; omega)
      have hkl : h1.kept.length < LIM := limC (by have := O1.kpt.1; omega)
      have kp := P1.kp
      unfold klO at kp
      cases e with
      | make j =>
        simp [Ev.vl, P1.sg, oAppend_lst (get_push P1.sg) (by simpa using hrl)]
        exact ⟨⟨_, P1.make j⟩, n2, O2, o2⟩
      | stand x c =>
        simp [Ev.vl, P1.st, hsl]
        exact ⟨⟨_, P1.setSt⟩, n2, O2, o2⟩
      | hold j f c =>
        obtain ⟨⟨hj, _, _⟩, _⟩ := o1
        have hj' : j < rs.length := by rw [P1.len, O1.len]; exact hj
        have hjr : rs[j]? = some rs[j] := List.getElem?_eq_getElem hj'
        obtain ⟨row, hr, hs⟩ := P1.rw j _ hjr
        have hrow := (O1.row row (List.mem_of_getElem? hr)).1
        have hrw : row.length < LIM := limC (by omega)
        have hat : atI (rs.map Vl.ref) (j : Int) = some (.ref rs[j]) := by rw [atN, List.getElem?_map, hjr]; rfl
        simp [Ev.vl, P1.sg, hat, hs, hrw]
        refine ⟨⟨rs, ?_⟩, n2, O2, o2⟩
        have := P1.setRow (row := put row (.inr f) (oN c)) hjr
        simp only [Hs.step, hr]
        exact this
      | keep c =>
        simp [Ev.vl, kp, hkl]
        refine ⟨⟨rs, ?_⟩, n2, O2, o2⟩
        have := P1.setKp (kp := h1.kept ++ [(c : Int)])
        unfold klO at this
        rw [List.map_append] at this
        exact this
      | ask c =>
        simp [Ev.vl]
        exact ⟨⟨rs, P1⟩, n2, O2, o2⟩
    · rintro lo s1 ⟨rs, n', x2, rfl, P1, O1, o1⟩
      simp at P1
      exact ⟨_, _, rs, rfl, P1⟩
  · rintro lo s2 ⟨x2, x7, rs, rfl, P2⟩
    have : (List.take i (List.map itV its)).length = i := by simp; omega
    rw [this] at P2
    simp [P2.sg]
    generalize stAt its i = h at P2 OK
    refine heldWalk P2.sg P2.len P2.rw (by rw [P2.len, OK.len]; omega) ?_ ?_
    · intro s' r row hrow hs' f hr
      exact innerL hs' (OK.row row hrow).2 (by have := (OK.row row hrow).1; omega) (by simp [wipeL]) (by simp [wipeL])
    · intro s3 f3 H3
      have st3 := f3.at P2.st (by simp)
      have kp3 := f3.at P2.kp (by simp)
      unfold klO at kp3
      simp [st3]
      refine lcL_p (xs := h.stand.map (·.2)) (s3 ++ [.lst (h.stand.map (·.2))]) nonF (by simp) (by simp) get_last (by have := OK.std.1; simp; omega) ?_ ?_
      · intro x hx acc
        refine ⟨_, rfl, ?_⟩
        simp [wipeL]
        unfold nonF
        by_cases q : Sm.isNon x = true <;> simp [q]
      · rw [heldR_eq OK.std.2]
        have kp4 : (s3 ++ [Ob.lst (h.stand.map (·.2))] ++ [Ob.lst ((heldR h.stand).map Vl.int)])[s0.length + 2]? = some (.lst (h.kept.map Vl.int)) := get_push (get_push kp3)
        have hhl : (heldR h.stand).length ≤ h.stand.length := List.length_filterMap_le ..
        rw [opAdd_lst kp4 get_last (limB (by have := OK.std.1; have := OK.kpt.1; simp; omega))]
        simp
        refine ⟨_, _, ⟨rfl, rfl⟩, ⟨P2.fr.le, by have := P2.fr.le; have := f3.le; omega⟩, H3.fr (Fr.refl.app _), ?_, P2.fr.trans (f3.app _)⟩
        rw [List.getElem?_append_right (by omega)]
        simp [Hs.starts]
end K32

/-! PK: reach in a graph, plainly -/
namespace K32
open PySem L2 Sm
def rowOf (held : List (List Int)) (x : Int) : List Int := (held[x.toNat]?).getD []
inductive Rch (held : List (List Int)) (S : Int → Prop) : Int → Prop
  | base {x : Int} : S x → Rch held S x
  | step {x y : Int} : Rch held S x → y ∈ rowOf held x → Rch held S y
structure GOk (held : List (List Int)) (n : Nat) : Prop where
  len : held.length = n
  rng : ∀ row ∈ held, ∀ y ∈ row, 0 ≤ y ∧ y < n
theorem rowOf_rng {held : List (List Int)} {n : Nat} (G : GOk held n) {x y : Int} (h : y ∈ rowOf held x) : 0 ≤ y ∧ y < n := by
  unfold rowOf at h
  cases e : held[x.toNat]? with
  | none => rw [e] at h; simp at h
  | some row => rw [e] at h; exact G.rng row (List.mem_of_getElem? e) y h
theorem Rch.rng {held : List (List Int)} {n : Nat} (G : GOk held n) {S : Int → Prop} (hS : ∀ x, S x → 0 ≤ x ∧ x < n) {x : Int} (h : Rch held S x) : 0 ≤ x ∧ x < n := by
  cases h with
  | base a => exact hS _ a
  | step a b => exact rowOf_rng G b
theorem nodup_sub : ∀ {A B : List Int}, A.Nodup → (∀ x ∈ A, x ∈ B) → A.length ≤ B.length
  | [], B, _, _ => Nat.zero_le _
  | a :: A, B, nd, h => by
    have ha := h a (List.mem_cons_self ..)
    simp only [List.nodup_cons] at nd
    have ih := nodup_sub (B := B.erase a) nd.2 fun x hx => (List.mem_erase_of_ne (show x ≠ a from fun e => nd.1 (e ▸ hx))).mpr (h x (List.mem_cons_of_mem _ hx))
    rw [List.length_erase_of_mem ha] at ih
    have := List.length_pos_of_mem ha
    simp only [List.length_cons]
    omega
def iota (n : Nat) : List Int := (List.range n).map fun i => ((i : Nat) : Int)
theorem mem_iota {n : Nat} {x : Int} : x ∈ iota n ↔ 0 ≤ x ∧ x < n := by
  unfold iota
  constructor
  · intro h
    obtain ⟨i, hi, rfl⟩ := List.mem_map.mp h
    have := List.mem_range.mp hi
    omega
  · intro h
    exact List.mem_map.mpr ⟨x.toNat, List.mem_range.mpr (by omega), by omega⟩
theorem nodup_rng {A : List Int} {n : Nat} (nd : A.Nodup) (h : ∀ x ∈ A, 0 ≤ x ∧ x < n) : A.length ≤ n := by
  have := nodup_sub (B := iota n) nd fun x hx => mem_iota.mpr (h x hx)
  simpa [iota] using this
/-- as many as there are: all of them -/
theorem full {A : List Int} {n : Nat} (nd : A.Nodup) (h : ∀ x ∈ A, 0 ≤ x ∧ x < n) (hl : n ≤ A.length) {y : Int} (hy : 0 ≤ y ∧ y < n) : y ∈ A := by
  by_cases q : y ∈ A
  · exact q
  · exfalso
    have : (y :: A).length ≤ n := nodup_rng (List.nodup_cons.mpr ⟨q, nd⟩) fun x hx => by
      rcases List.mem_cons.mp hx with rfl | z
      · exact hy
      · exact h x z
    simp at this
    omega
abbrev Inc (A : List Int) : Prop := A.Pairwise (· < ·)
theorem Inc.nodup {A : List Int} (h : Inc A) : A.Nodup := h.imp fun a => by omega
theorem inc_ext : ∀ {A B : List Int}, Inc A → Inc B → (∀ x, x ∈ A ↔ x ∈ B) → A = B
  | [], [], _, _, _ => rfl
  | [], b :: B, _, _, h => by have := (h b).mpr (List.mem_cons_self ..); simp at this
  | a :: A, [], _, _, h => by have := (h a).mp (List.mem_cons_self ..); simp at this
  | a :: A, b :: B, ia, ib, h => by
    have ia' := List.pairwise_cons.mp ia
    have ib' := List.pairwise_cons.mp ib
    have hab : a = b := by
      rcases List.mem_cons.mp ((h a).mp (List.mem_cons_self ..)) with z | z
      · exact z
      · rcases List.mem_cons.mp ((h b).mpr (List.mem_cons_self ..)) with y | y
        · exact y.symm
        · have := ib'.1 a z
          have := ia'.1 b y
          omega
    subst hab
    congr 1
    refine inc_ext ia'.2 ib'.2 fun x => ⟨fun hx => ?_, fun hx => ?_⟩
    · rcases List.mem_cons.mp ((h x).mp (List.mem_cons_of_mem _ hx)) with z | z
      · have := ia'.1 x hx
        omega
      · exact z
    · rcases List.mem_cons.mp ((h x).mpr (List.mem_cons_of_mem _ hx)) with z | z
      · have := ib'.1 x hx
        omega
      · exact z
theorem srt_inc {A : List Int} (nd : A.Nodup) : Inc (srt A) := by
  have h1 := srt_sorted A
  have h2 : (srt A).Nodup := (srt_perm A).nodup_iff.mpr nd
  exact (h1.and h2).imp fun h => by omega
theorem mem_srt {A : List Int} {x : Int} : x ∈ srt A ↔ x ∈ A := (srt_perm A).mem_iff
end K32

/-! PL: _law_closed -/
namespace K32
open PySem L2 Sm
structure GOk2 (held : List (List Int)) (n : Nat) : Prop extends GOk held n where
  n6 : n ≤ 6
  rl : ∀ row ∈ held, row.length < 100
theorem HeldAt.row {s : Sto} {j : Nat} {held : List (List Int)} {n : Nat} (H : HeldAt s j held) (G : GOk held n) {x : Int} (h : 0 ≤ x ∧ x < n) : ∃ (xs : List Vl) (r : Nat), s[j]? = some (.lst xs) ∧ xs.length = n ∧ atI xs x = some (.ref r) ∧ s[r]? = some (.lst ((rowOf held x).map Vl.int)) := by
  obtain ⟨hs, a, b, c⟩ := H.ex
  have hx : x.toNat < hs.length := by rw [b, G.len]; omega
  have e : hs[x.toNat]? = some hs[x.toNat] := List.getElem?_eq_getElem hx
  obtain ⟨_, row, p, q⟩ := c _ _ e
  refine ⟨_, hs[x.toNat], a, by simp [b, G.len], ?_, ?_⟩
  · have this : ((x.toNat : Nat) : Int) = x := by omega
    have z : atI (hs.map Vl.ref) ((x.toNat : Nat) : Int) = some (.ref hs[x.toNat]) := by rw [atN, List.getElem?_map, e]; rfl
    rw [this] at z
    exact z
  · rw [rowOf, p]; exact q
theorem rowOf_len {held : List (List Int)} {n : Nat} (G : GOk2 held n) {x : Int} : (rowOf held x).length < 100 := by
  unfold rowOf
  cases e : held[x.toNat]? with
  | none => simp
  | some row => exact G.rl row (List.mem_of_getElem? e)
theorem flat_len {held : List (List Int)} {n : Nat} (G : GOk2 held n) : ∀ xs : List Int, (xs.flatMap (rowOf held)).length ≤ 100 * xs.length
  | [] => by simp
  | x :: xs => by
    have h1 := flat_len G xs
    have h2 := rowOf_len G (x := x)
    simp only [List.flatMap_cons, List.length_append, List.length_cons]
    omega
theorem closedS {s : Sto} {j k n : Nat} {held : List (List Int)} {starts : List Int} (H : HeldAt s j held) (G : GOk2 held n) (hk : s[k]? = some (.lst (starts.map Vl.int))) (hr : ∀ x ∈ starts, 0 ≤ x ∧ x < n) (hl : starts.length < 1000) :
    WE (m__law_closed [.ref j, .ref k]) s (fun v s' => ∃ p C, v = .ref p ∧ s'[p]? = some (.lst (C.map Vl.int)) ∧ Inc C ∧ (∀ y, y ∈ C ↔ Rch held (· ∈ starts) y) ∧ Fr [] s s') NoX := by
  have hn6 := G.n6
  obtain ⟨hs, hj, hsl, hrows⟩ := H.ex
  have hsn : hs.length = n := hsl.trans G.len
  have hlen : (hs.map Vl.ref).length = n := by simp [hsn]
  have dl : (ddup starts).length ≤ n := nodup_rng (ddup_nodup _) fun x hx => hr x (mem_ddup.mp hx)
  have h64 : (ddup starts).length < 64 := by omega
  have h4 : starts.length < 4000 := by omega
  have hj2 : ∀ t : Sto, (s ++ t)[j]? = some (.lst (hs.map Vl.ref)) := fun t => get_app hj
  have hn1 : n < 1000000 := by omega
  unfold m__law_closed b__law_closed
  simp [oSet_ints hk h4, oSortS_set get_last h64, hj2, hsn, hn1]
  refine loopX_inv (fun t lo s' => ∃ p F x3 x4 x5, lo = [some (.ref j), some (.ref k), some (.ref p), x3, x4, x5] ∧ s'[p]? = some (.lst (F.map Vl.int)) ∧ Fr [] s s' ∧ Inc F ∧ (∀ x ∈ starts, x ∈ F) ∧ (∀ x ∈ F, Rch held (· ∈ starts) x) ∧ ((∀ x ∈ F, ∀ y ∈ rowOf held x, y ∈ F) ∨ t ≤ F.length)) ?_ ?_ ?_
  · refine ⟨s.length + 1, srt (ddup starts), none, none, none, rfl, ?_, Fr.refl.app _, srt_inc (ddup_nodup _), ?_, ?_, Or.inr (Nat.zero_le _)⟩
    · rw [List.getElem?_append_right (by omega)]; simp
    · intro x hx; exact mem_srt.mpr (mem_ddup.mpr hx)
    · intro x hx; exact .base (mem_ddup.mp (mem_srt.mp hx))
  · rintro t v lo s1 hv ⟨p, F, x3, x4, x5, rfl, hp, f1, inc, sub, rch, cl⟩
    obtain ⟨ht, rfl⟩ := rng_get hv
    have Frng : ∀ x ∈ F, 0 ≤ x ∧ x < n := fun x hx => (rch x hx).rng G.toGOk hr
    have Flen : F.length ≤ n := nodup_rng inc.nodup Frng
    have hpl := lt_of_get hp
    simp [hp, get_push hp]
    have hpq : p ≠ s1.length := by omega
    refine loopL_inv (xs := F.map Vl.int) (fun i lo s' => ∃ x5, lo = [some (.ref j), some (.ref k), some (.ref p), some (.int t), some (.ref s1.length), x5] ∧ s'[s1.length]? = some (.lst ((F ++ (F.take i).flatMap (rowOf held)).map Vl.int)) ∧ s'[p]? = some (.lst (F.map Vl.int)) ∧ Fr [] s s') (by simp; omega) ?_ ?_ ?_ ?_
    · exact ⟨x5, rfl, by simp, get_push hp, f1.push _⟩
    · rintro i lo s' ⟨x5, rfl, _, h, _⟩
      exact h
    · rintro i v lo s2 hv ⟨x5, rfl, gq, gp, f2⟩
      rw [List.getElem?_map] at hv
      obtain ⟨x, hx, rfl⟩ : ∃ x, F[i]? = some x ∧ v = .int x := by
        cases q : F[i]? with
        | none => rw [q] at hv; cases hv
        | some e => rw [q] at hv; exact ⟨e, rfl, by simpa using hv.symm⟩
      obtain ⟨xs, r, a1, a2, a3, a4⟩ := (H.fr f2).row G.toGOk (Frng x (List.mem_of_getElem? hx))
      have hil := (List.getElem?_eq_some_iff.mp hx).1
      have b1 := flat_len G (F.take i)
      have b2 := rowOf_len G (x := x)
      have hb : ((F ++ (F.take i).flatMap (rowOf held)).map Vl.int).length + ((rowOf held x).map Vl.int).length ≤ LIM := limB (by simp at b1 ⊢; omega)
      simp only [WG_gNm, WS_sExpr, WE_eBm]
      simp [kd_lst gq, opIx_lst a1, a3, oExtend_lst gq a4 hb]
      refine ⟨?_, ?_, f2.set (Or.inr (by have := f1.le; omega))⟩
      · rw [get_set_self gq, List.take_add_one, hx]
        simp
      · rw [get_set_ne (Ne.symm hpq)]; exact gp
    · rintro lo s2 ⟨x5, rfl, gq, gp, f2⟩
      simp only [List.length_map, List.take_length] at gq
      have b1 := flat_len G F
      have hm4 : (F ++ F.flatMap (rowOf held)).length < 4000 := by rw [List.length_append]; omega
      have Mrng : ∀ x ∈ F ++ F.flatMap (rowOf held), Rch held (· ∈ starts) x := by
        intro x hx
        rcases List.mem_append.mp hx with h | h
        · exact rch x h
        · obtain ⟨y, hy, hxy⟩ := List.mem_flatMap.mp h
          exact .step (rch y hy) hxy
      have dl2 : (ddup (F ++ F.flatMap (rowOf held))).length ≤ n := nodup_rng (ddup_nodup _) fun x hx => (Mrng x (mem_ddup.mp hx)).rng G.toGOk hr
      have h642 : (ddup (F ++ F.flatMap (rowOf held))).length < 64 := by omega
      simp only [WS_sSet, WE_eCB]
      simp [oSet_ints gq hm4, oSortS_set get_last h642]
      generalize hM : F ++ F.flatMap (rowOf held) = M at *
      have memM : ∀ x, x ∈ srt (ddup M) ↔ x ∈ M := fun x => mem_srt.trans mem_ddup
      refine ⟨srt (ddup M), ?_, f2.app _, srt_inc (ddup_nodup _), ?_, ?_, ?_⟩
      · rfl
      · intro x hx; exact (memM x).mpr (hM ▸ List.mem_append_left _ (sub x hx))
      · intro x hx; exact Mrng x ((memM x).mp hx)
      · have FM : ∀ x ∈ F, x ∈ M := fun x hx => hM ▸ List.mem_append_left _ hx
        have RM : ∀ x ∈ F, ∀ y ∈ rowOf held x, y ∈ M := fun x hx y hy => hM ▸ List.mem_append_right _ (List.mem_flatMap.mpr ⟨x, hx, hy⟩)
        by_cases q : ∀ x ∈ M, x ∈ F
        · left
          intro x hx y hy
          exact (memM y).mpr (RM x (q x ((memM x).mp hx)) y hy)
        · have hcl : t ≤ F.length := by
            rcases cl with c | c
            · exfalso
              apply q
              intro x hx
              rw [← hM] at hx
              rcases List.mem_append.mp hx with h | h
              · exact h
              · obtain ⟨y, hy, hxy⟩ := List.mem_flatMap.mp h
                exact c y hy x hxy
            · exact c
          right
          obtain ⟨z, hz⟩ := Classical.not_forall.mp q
          have hzM : z ∈ M := Classical.byContradiction fun w => hz fun v => absurd v w
          have hzF : z ∉ F := fun w => hz fun _ => w
          have : (z :: F).length ≤ (srt (ddup M)).length := nodup_sub (List.nodup_cons.mpr ⟨hzF, inc.nodup⟩) fun x hx => by
            rcases List.mem_cons.mp hx with rfl | w
            · exact (memM _).mpr hzM
            · exact (memM x).mpr (FM x w)
          simp at this
          omega
  · rintro lo s1 ⟨p, F, x3, x4, x5, rfl, hp, f1, inc, sub, rch, cl⟩
    rw [rng_len] at cl
    have Frng : ∀ x ∈ F, 0 ≤ x ∧ x < n := fun x hx => (rch x hx).rng G.toGOk hr
    have cl2 : ∀ x ∈ F, ∀ y ∈ rowOf held x, y ∈ F := by
      rcases cl with c | c
      · exact c
      · intro x hx y hy
        exact full inc.nodup Frng c (rowOf_rng G.toGOk hy)
    simp
    refine ⟨F, hp, inc, fun y => ⟨rch y, fun h => ?_⟩, f1⟩
    induction h with
    | base a => exact sub _ a
    | step a b ih => exact cl2 _ ih _ b
end K32

/-! PM: reached_flags -/
namespace K32
open PySem L2 Sm
theorem put_keys {acc : List (Key × Vl)} {c : Int} {v : Vl} : ∀ {K : List Int}, acc.map (·.1) = K.map Sum.inl → ∃ K' : List Int, (put acc (.inl c) v).map (·.1) = K'.map Sum.inl ∧ (∀ x, x ∈ K' ↔ x ∈ K ∨ x = c) := by
  induction acc with
  | nil =>
    intro K h
    cases K with
    | nil => exact ⟨[c], rfl, fun x => by simp⟩
    | cons k K => simp at h
  | cons p r ih =>
    intro K h
    cases K with
    | nil => simp at h
    | cons k K =>
      simp only [List.map_cons, List.cons.injEq] at h
      obtain ⟨h1, h2⟩ := h
      unfold put
      by_cases q : p.1 = .inl c
      · rw [if_pos q]
        have : k = c := by rw [q] at h1; cases h1; rfl
        subst this
        exact ⟨k :: K, by simp [h2], fun x => by simp; intro e; exact Or.inl e⟩
      · rw [if_neg q]
        obtain ⟨K', e1, e2⟩ := ih h2
        exact ⟨k :: K', by simp [h1, e1], fun x => by simp [e2, or_assoc]⟩
theorem kdL_keys (ks : List Int) : ∃ K : List Int, (kdL ks).map (·.1) = K.map Sum.inl ∧ ∀ x, x ∈ K ↔ x ∈ ks := by
  have : ∀ (ks : List Int) (acc : List (Key × Vl)) (K : List Int), acc.map (·.1) = K.map Sum.inl → ∃ K' : List Int, (ks.foldl (fun acc c => put acc (.inl c) (.bl true)) acc).map (·.1) = K'.map Sum.inl ∧ ∀ x, x ∈ K' ↔ x ∈ K ∨ x ∈ ks := by
    intro ks
    induction ks with
    | nil => intro acc K h; exact ⟨K, h, fun x => by simp⟩
    | cons k ks ih =>
      intro acc K h
      obtain ⟨K1, a1, a2⟩ := put_keys (c := k) (v := .bl true) h
      obtain ⟨K2, b1, b2⟩ := ih _ K1 a1
      exact ⟨K2, b1, fun x => by rw [b2, a2]; simp [or_assoc]⟩
  obtain ⟨K, a, b⟩ := this ks [] [] rfl
  exact ⟨K, a, fun x => by rw [b]; simp⟩
def pot : List (List Int) → List Bool → Nat
  | r :: rs, b :: bs => (if b then 0 else r.length) + pot rs bs
  | _, _ => 0
theorem pot_set : ∀ {held : List (List Int)} {fl : List Bool} {i : Nat} {row : List Int}, held[i]? = some row → fl[i]? = some false → pot held (fl.set i true) + row.length = pot held fl
  | [], fl, i, row, h, _ => by simp at h
  | r :: rs, [], i, row, _, h => by simp at h
  | r :: rs, b :: bs, 0, row, h1, h2 => by
    simp at h1 h2
    subst h1 h2
    simp [pot]
    omega
  | r :: rs, b :: bs, i + 1, row, h1, h2 => by
    simp at h1 h2
    have := pot_set h1 h2
    simp only [List.set_cons_succ, pot]
    omega
theorem pot_le {n : Nat} : ∀ {held : List (List Int)} {fl : List Bool}, (∀ row ∈ held, row.length < 100) → pot held fl ≤ 100 * held.length
  | [], fl, _ => by simp [pot]
  | r :: rs, [], _ => by simp [pot]
  | r :: rs, b :: bs, h => by
    have h1 := h r (List.mem_cons_self ..)
    have h2 := pot_le (n := n) (fl := bs) fun x hx => h x (List.mem_cons_of_mem _ hx)
    simp only [pot, List.length_cons]
    split <;> omega
abbrev on (fl : List Bool) (x : Int) : Prop := 0 ≤ x ∧ fl[x.toNat]? = some true
theorem on_set {fl : List Bool} {x y : Int} (hx : 0 ≤ x) (hl : x.toNat < fl.length) : on (fl.set x.toNat true) y ↔ on fl y ∨ y = x := by
  unfold on
  by_cases e : y = x
  · subst e
    simp [List.getElem?_set_self hl, hx]
  · constructor
    · rintro ⟨a, b⟩
      rw [List.getElem?_set_ne (by omega)] at b
      exact .inl ⟨a, b⟩
    · rintro (⟨a, b⟩ | b)
      · exact ⟨a, by rw [List.getElem?_set_ne (by omega)]; exact b⟩
      · exact absurd b e
theorem rowOf_get {held : List (List Int)} {x : Int} (hl : x.toNat < held.length) : held[x.toNat]? = some (rowOf held x) := by
  unfold rowOf
  rw [List.getElem?_eq_getElem hl]
  rfl
theorem standV {s0 s : Sto} {a a1 a2 a3 n B : Nat} {rs : List Nat} {h : Hs} {lo : Lo} (P : Hp0 s0 [(a, topO a1 a2 a3)] kdO a3 a1 a2 rs h s) (O : HsOk n B h) (hB : B < 100) (h0 : lo[0]? = some (some (.ref a))) (h5 : lo.length = 5) :
    WE (eLock (eFld cs_standing "standing" (eVar 0)) (eLc 100000 (iVal (eFld cs_standing "standing" (eVar 0))) (glN 4) (tVal (eOp opNotN (eVar 4) (eC .non))) (eVar 4) [4]) lo) s (fun y s'' => y = .ref (s''.length - 1) ∧ s.length < s''.length ∧ s''[(s''.length - 1)]? = some (.lst ((heldR h.stand).map Vl.int)) ∧ Fr [] s s'') NoX := by
  have top := (P.fxd a _ (List.mem_singleton.mpr rfl)).1
  have hna := (P.fxd a _ (List.mem_singleton.mpr rfl)).2
  have hr := P.st
  have hne : a1 ≠ a := fun e => hna (by simp [e])
  have hl := O.std.1
  refine WE_eLock (j := a1) (by simp [h0, fw1 top]) hr ?_
  have hf : (s.set a1 (Ob.fdic h.stand))[a1]? = some (.fdic h.stand) := get_set_self hr
  have top' : (s.set a1 (Ob.fdic h.stand))[a]? = some (topO a1 a2 a3) := by rw [get_set_ne hne]; exact top
  have hrl := lt_of_get hr
  simp [h0, fw1 top', hf]
  refine lcV_p (kvs := h.stand) (s.set a1 (.fdic h.stand)) nonF (by simp) (by simp) hf (by omega) ?_ ?_
  · intro x hx acc
    refine ⟨_, rfl, ?_⟩
    simp [wipeL, h5]
    unfold nonF
    by_cases q : Sm.isNon x = true <;> simp [q]
  · rw [heldR_eq O.std.2]
    refine ⟨⟨h.stand, get_push hf⟩, ?_⟩
    have hlen : ((s.set a1 (.fdic h.stand) ++ [Ob.lst ((heldR h.stand).map Vl.int)]).set a1 (Ob.dic h.stand)).length = s.length + 1 := by simp
    rw [hlen]
    refine ⟨by simp, by simp, ?_, ?_⟩
    · rw [get_set_ne (by omega)]
      simp
    · refine ⟨by simp, fun i hi _ => ?_⟩
      by_cases e : i = a1
      · subst e
        rw [get_set_self (get_push hf), hr]
      · rw [get_set_ne (Ne.symm e), List.getElem?_append_left (by simpa using hi), get_set_ne (Ne.symm e)]
theorem flagsS {s0 s : Sto} {a a1 a2 a3 j n B : Nat} {rs : List Nat} {h : Hs} (P : Hp0 s0 [(a, topO a1 a2 a3)] kdO a3 a1 a2 rs h s) (O : HsOk n B h) (hB : B < 100) (H : HeldAt s j h.held) (G : GOk2 h.held n) :
    WE (m_Heap_reached_flags [.ref a, .ref j]) s (fun v s' => ∃ q fl, v = .ref q ∧ s.length < q ∧ s'[q]? = some (.lst (fl.map Vl.bl)) ∧ fl.length = n ∧ (∀ x, on fl x ↔ Rch h.held (· ∈ h.starts) x) ∧ Fr [] s s') NoX := by
  have hn6 := G.n6
  have top := (P.fxd a _ (List.mem_singleton.mpr rfl)).1
  have hna := (P.fxd a _ (List.mem_singleton.mpr rfl)).2
  obtain ⟨hs, hj, hsl, hrows⟩ := H.ex
  have hsn : hs.length = n := hsl.trans G.len
  have hj2 : ∀ t : Sto, (s ++ t)[j]? = some (.lst (hs.map Vl.ref)) := fun t => get_app hj
  have hc : (0 : Int) ≤ n ∧ (n : Int) < 2 ^ 60 ∧ [Vl.bl false].length * (n : Int).toNat ≤ LIM := ⟨by omega, by omega, by simp; exact limB (by omega)⟩
  unfold m_Heap_reached_flags b_Heap_reached_flags
  simp [hj2, hsn, opMul_lst (get_last (s := s)) hc]
  obtain ⟨s1, hs1⟩ : ∃ s1, s1 = s ++ [Ob.lst [Vl.bl false], Ob.lst (List.replicate n (Vl.bl false))] := ⟨_, rfl⟩
  rw [← hs1]
  have fs1 : Fr [] s s1 := hs1 ▸ Fr.refl.app _
  have l1 : s1.length = s.length + 2 := by rw [hs1]; simp
  have g1 : s1[s.length + 1]? = some (.lst ((List.replicate n false).map Vl.bl)) := by
    rw [hs1, List.getElem?_append_right (by omega)]
    simp
  have P1 := P.fram fs1
  refine (standV P1 O hB rfl rfl).use ?_
  rintro y s2 ⟨rfl, l2, g2, f2⟩
  have P2 := P1.fram f2
  have top2 := (P2.fxd a _ (List.mem_singleton.mpr rfl)).1
  have kp2 := P2.kp
  unfold kdO at kp2
  obtain ⟨K, ek, mk⟩ := kdL_keys h.kept
  have ek2 : (kdL h.kept).map (fun kv => keyVl kv.1) = K.map Vl.int := by
    have : (kdL h.kept).map (fun kv => keyVl kv.1) = ((kdL h.kept).map (·.1)).map keyVl := by simp
    rw [this, ek, List.map_map]
    rfl
  have Klen : K.length ≤ B := by
    have e1 : K.length = (kdL h.kept).length := by
      have := congrArg List.length ek
      simp at this
      exact this.symm
    have := kdL_len (ks := h.kept)
    have := O.kpt.1
    omega
  have hhl : (heldR h.stand).length ≤ B := Nat.le_trans (List.length_filterMap_le ..) O.std.1
  simp [fw2 top2, oList_dic kp2]
  rw [ek2, opAdd_lst (get_push g2) get_last (limB (by simp; omega))]
  simp
  obtain ⟨W0, hW0⟩ : ∃ W0, W0 = heldR h.stand ++ K := ⟨_, rfl⟩
  have mW0 : ∀ x, x ∈ W0 ↔ x ∈ h.starts := by
    intro x
    rw [hW0]
    simp [Hs.starts, mk]
    exact Or.comm
  obtain ⟨s3, hs3⟩ : ∃ s3, s3 = s2 ++ [Ob.lst (List.map Vl.int K), Ob.lst (List.map Vl.int (heldR h.stand) ++ List.map Vl.int K)] := ⟨_, rfl⟩
  rw [← hs3]
  have f3 : Fr [] s s3 := fs1.trans (f2.trans (hs3 ▸ Fr.refl.app _))
  have g3 : s3[s2.length + 1]? = some (.lst (W0.map Vl.int)) := by
    rw [hs3, hW0, List.getElem?_append_right (by omega)]
    simp
  have q3 : s3[s.length + 1]? = some (.lst ((List.replicate n false).map Vl.bl)) := by
    rw [hs3]
    exact get_app (f2.at g1 (by simp))
  have stR : ∀ x, x ∈ h.starts → 0 ≤ x ∧ x < n := by
    intro x hx
    unfold Hs.starts at hx
    rcases List.mem_append.mp hx with z | z
    · exact O.kpt.2 x z
    · obtain ⟨kv, hkv, e⟩ := List.mem_filterMap.mp z
      rcases O.std.2 kv hkv with q | ⟨c, q1, q2⟩
      · rw [q] at e; simp [vInt] at e
      · rw [q2] at e; simp [vInt] at e; omega
  have hneW : s.length + 1 ≠ s2.length + 1 := by omega
  refine loopW_inv (fun m lo s' => ∃ (W : List Int) (fl : List Bool) (x4 : Option Vl), lo = [some (.ref a), some (.ref j), some (.ref (s.length + 1)), some (.ref (s2.length + 1)), x4] ∧ s'[s.length + 1]? = some (.lst (fl.map Vl.bl)) ∧ s'[s2.length + 1]? = some (.lst (W.map Vl.int)) ∧ fl.length = n ∧ Fr [] s s' ∧ (∀ x ∈ W, Rch h.held (· ∈ h.starts) x) ∧ (∀ x, on fl x → Rch h.held (· ∈ h.starts) x) ∧ (∀ x ∈ h.starts, x ∈ W ∨ on fl x) ∧ (∀ x, on fl x → ∀ y ∈ rowOf h.held x, y ∈ W ∨ on fl y) ∧ m = W.length + pot h.held fl ∧ m ≤ 1000) (W0.length + pot h.held (List.replicate n false)) ?_ ?_ ?_
  · have := pot_le (n := n) (fl := List.replicate n false) G.rl
    rw [G.len] at this
    have : W0.length ≤ B + B := by rw [hW0]; simp; omega
    omega
  · refine ⟨W0, List.replicate n false, none, rfl, q3, g3, by simp, f3, fun x hx => .base ((mW0 x).mp hx), ?_, fun x hx => .inl ((mW0 x).mpr hx), ?_, rfl, ?_⟩
    · rintro x ⟨_, hx⟩
      rw [List.getElem?_replicate] at hx
      split at hx <;> simp at hx
    · rintro x ⟨_, hx⟩
      rw [List.getElem?_replicate] at hx
      split at hx <;> simp at hx
    · have := pot_le (n := n) (fl := List.replicate n false) G.rl
      rw [G.len] at this
      have : W0.length ≤ B + B := by rw [hW0]; simp; omega
      omega
  · rintro m lo s4 ⟨W, fl, x4, rfl, gq, gw, hfl, f4, hW, hon, hst, hcl, hm, hm1⟩
    simp [opNe_nil (get_push gw) get_last]
    rcases List.eq_nil_or_concat W with rfl | ⟨W', x, rfl⟩
    · simp [get_push gq]
      refine ⟨fl, rfl, hfl, fun x => ⟨hon x, fun hx => ?_⟩, f4.push _⟩
      induction hx with
      | base b => exact (hst _ b).resolve_left (by simp)
      | step b c ih => exact (hcl _ ih _ c).resolve_left (by simp)
    · rw [List.concat_eq_append] at *
      have hxr := (hW x (by simp)).rng G.toGOk stR
      have gw' : (s4 ++ [Ob.lst []])[s2.length + 1]? = some (.lst (W'.map Vl.int ++ [.int x])) := by
        have := get_push (o' := Ob.lst []) gw
        simpa using this
      have lw := lt_of_get gw'
      have gq' : ((s4 ++ [Ob.lst []]).set (s2.length + 1) (.lst (W'.map Vl.int)))[s.length + 1]? = some (.lst (fl.map Vl.bl)) := by
        rw [get_set_ne (by omega)]; exact get_push gq
      have gw5 : ((s4 ++ [Ob.lst []]).set (s2.length + 1) (.lst (W'.map Vl.int)))[s2.length + 1]? = some (.lst (W'.map Vl.int)) := get_set_self gw'
      have f5 : Fr [] s ((s4 ++ [Ob.lst []]).set (s2.length + 1) (.lst (W'.map Vl.int))) := (f4.push _).set (Or.inr (by omega))
      have hxl : x.toNat < fl.length := by omega
      have hxe : ((x.toNat : Nat) : Int) = x := by omega
      obtain ⟨b, hb⟩ : ∃ b, fl[x.toNat]? = some b := ⟨_, List.getElem?_eq_getElem hxl⟩
      have hat : atI (fl.map Vl.bl) x = some (.bl b) := by
        have : atI (fl.map Vl.bl) ((x.toNat : Nat) : Int) = some (.bl b) := by rw [atN, List.getElem?_map, hb]; rfl
        rwa [hxe] at this
      simp [oPop_lst gw', kd_lst gw']
      generalize (s4 ++ [Ob.lst []]).set (s2.length + 1) (.lst (W'.map Vl.int)) = s5 at gq' gw5 f5
      have hpush : ∀ y, y ∈ W' ++ [x] → y ∈ W' ∨ y = x := fun y hy => by simpa using hy
      have hmm : m = W'.length + 1 + pot h.held fl := by rw [hm]; simp
      cases b with
      | true =>
        have hox : on fl x := ⟨hxr.1, hb⟩
        simp [opIx_lst gq', hat]
        refine ⟨W'.length + pot h.held fl, by omega, W', fl, gq', gw5, hfl, f5, fun y hy => hW y (by simp [hy]), fun y h1 h2 => hon y ⟨h1, h2⟩, ?_, ?_, rfl, by omega⟩
        · intro y hy
          rcases hst y hy with z | z
          · rcases hpush y z with w | rfl
            · exact .inl w
            · exact .inr hox
          · exact .inr z
        · intro z h1 h2 y hy
          rcases hcl z ⟨h1, h2⟩ y hy with w | w
          · rcases hpush y w with v | rfl
            · exact .inl v
            · exact .inr hox
          · exact .inr w
      | false =>
        have hrow : x.toNat < h.held.length := by rw [G.len]; omega
        have hpot := pot_set (rowOf_get hrow) hb
        have hix : ixN fl.length x = some x.toNat := by
          have := ixN_nat (n := x.toNat) (m := fl.length) hxl
          rwa [hxe] at this
        have eset : (fl.map Vl.bl).set x.toNat (.bl true) = (fl.set x.toNat true).map Vl.bl := by rw [List.map_set]
        have gq6 : (s5.set (s.length + 1) (Ob.lst ((fl.set x.toNat true).map Vl.bl)))[s.length + 1]? = some (.lst ((fl.set x.toNat true).map Vl.bl)) := get_set_self gq'
        have gw6 : (s5.set (s.length + 1) (Ob.lst ((fl.set x.toNat true).map Vl.bl)))[s2.length + 1]? = some (.lst (W'.map Vl.int)) := by rw [get_set_ne hneW]; exact gw5
        have f6 : Fr [] s (s5.set (s.length + 1) (Ob.lst ((fl.set x.toNat true).map Vl.bl))) := f5.set (Or.inr (by omega))
        obtain ⟨xs, r, a1', a2', a3', a4'⟩ := (H.fr f6).row G.toGOk hxr
        have b2 := rowOf_len G (x := x)
        have hb2 : (W'.map Vl.int).length + ((rowOf h.held x).map Vl.int).length ≤ LIM := limB (by simp; omega)
        simp [opIx_lst gq', hat, opSet_lst gq', hix]
        rw [eset]
        generalize s5.set (s.length + 1) (Ob.lst ((fl.set x.toNat true).map Vl.bl)) = s6 at gq6 gw6 f6 a1' a4'
        simp [kd_lst gw6, opIx_lst a1', a3', oExtend_lst gw6 a4' hb2]
        have hsw : ∀ {y : Int}, on (fl.set x.toNat true) y ↔ on fl y ∨ y = x := on_set hxr.1 hxl
        refine ⟨W'.length + (rowOf h.held x).length + pot h.held (fl.set x.toNat true), by omega, W' ++ rowOf h.held x, fl.set x.toNat true, ?_, ?_, by simp [hfl], f6.set (Or.inr (by omega)), ?_, ?_, ?_, ?_, by simp, by omega⟩
        · rw [get_set_ne (Ne.symm hneW)]; exact gq6
        · rw [get_set_self gw6]; simp
        · intro y hy
          rcases List.mem_append.mp hy with z | z
          · exact hW y (by simp [z])
          · exact .step (hW x (by simp)) z
        · intro y h1 h2
          rcases hsw.mp ⟨h1, h2⟩ with z | rfl
          · exact hon y z
          · exact hW y (by simp)
        · intro y hy
          rcases hst y hy with z | z
          · rcases hpush y z with w | rfl
            · exact .inl (List.mem_append_left _ w)
            · exact .inr (hsw.mpr (.inr rfl))
          · exact .inr (hsw.mpr (.inl z))
        · intro z h1 h2 y hy
          rcases hsw.mp ⟨h1, h2⟩ with hz | rfl
          · rcases hcl z hz y hy with w | w
            · rcases hpush y w with v | rfl
              · exact .inl (List.mem_append_left _ v)
              · exact .inr (hsw.mpr (.inr rfl))
            · exact .inr (hsw.mpr (.inl w))
          · exact .inl (List.mem_append_right _ hy)
end K32

/-! S23: dicts, lists of ints, new rules of the pure programs; plain lemmas -/
namespace Sm
open PySem L2
section
variable {s : Sto} {lo : Lo} {QV : Vl → Sto → Prop} {E : Ex → Sto → Prop}
@[simp ↓] theorem WE_eMakeB {c : Nat} : WE (eMakeB c lo) s QV E = QV (.ref s.length) (s ++ [.ins c []]) := by simp only [WE_eq]; rfl
@[simp ↓] theorem WE_starM {n : Nat} {mf : List Vl → M Vl} {as : List Vl} : WE (starM n mf as) s QV E = (if n ≤ as.length ∧ as.length ≤ LIM then WE (mf (as.take n ++ [.tup (as.drop n)])) s QV E else False) := by
  by_cases h : n ≤ as.length ∧ as.length ≤ LIM
  · simp only [WE_eq, WE0, starM, if_pos h]
  · simp only [WE_eq, WE0, starM, if_neg h]
def callW (tab : MTab) (j : Nat) (s : Sto) (P : (List Vl → M Vl) → Prop) : Prop := match s[j]? with
  | some (.ins c _) => match tab c with
    | some mf => P mf
    | none => False
  | _ => False
theorem callW_ins {tab : MTab} {c j : Nat} {fs : List (Str × Vl)} {mf : List Vl → M Vl} {P : (List Vl → M Vl) → Prop} (h : s[j]? = some (.ins c fs)) (ht : tab c = some mf) : callW tab j s P = P mf := by simp only [callW, h, ht]
theorem WE_eCallO {tab : MTab} {o : EM} {a : AM} : WE (eCallO tab o a lo) s QV E = WE (o lo) s (fun x s => match x with | .ref j => WE (a lo) s (fun as s => callW tab j s fun mf => WE (mf (.ref j :: as)) s QV E) E | _ => False) E := by
  unfold eCallO
  rw [WE_bnd]
  refine WE_ext fun x s => ?_
  cases x <;> try (simp only [WE_eq]; rfl)
  rename_i j
  show WE (bnd (a lo) _) s QV E = _
  rw [WE_bnd]
  refine WE_ext fun as s => ?_
  simp only [WE_eq]
  unfold WE0 callW
  simp only
  cases h : s[j]? with
  | none => rfl
  | some o =>
    cases o <;> try rfl
    rename_i c fs
    simp only
    cases h1 : tab c with
    | none => rfl
    | some mf => simp only [WE_eq] <;> rfl
end
theorem put_len {κ : Type} [DecidableEq κ] {kvs : List (κ × Vl)} {k : κ} {v : Vl} : (put kvs k v).length ≤ kvs.length + 1 := by
  induction kvs with
  | nil => simp [put]
  | cons p r ih =>
    unfold put
    split
    · simp
    · simp; omega
@[simp] theorem look_put_self {κ : Type} [DecidableEq κ] {kvs : List (κ × Vl)} {k : κ} {v : Vl} : look (put kvs k v) k = some v := by
  induction kvs with
  | nil => simp [put, look]
  | cons p r ih =>
    unfold put
    split
    · simp [look]
    · rename_i h
      simp [look, h, ih]
theorem look_put_ne {κ : Type} [DecidableEq κ] {kvs : List (κ × Vl)} {k k' : κ} {v : Vl} (h : k ≠ k') : look (put kvs k v) k' = look kvs k' := by
  induction kvs with
  | nil => simp [put, look, h]
  | cons p r ih =>
    unfold put
    split
    · rename_i e
      simp only [look]
      rw [if_neg h, if_neg (by rw [e]; exact h)]
    · simp only [look]
      split
      · rfl
      · exact ih
theorem hasK_keys {y : Int} : ∀ {kvs : List (Key × Vl)} {K : List Int}, kvs.map (·.1) = K.map Sum.inl → hasK kvs (.inl y) = decide (y ∈ K)
  | [], [], _ => by simp [hasK]
  | [], _ :: _, h => by simp at h
  | _ :: _, [], h => by simp at h
  | p :: r, k :: K, h => by
    simp only [List.map_cons, List.cons.injEq] at h
    unfold hasK
    by_cases q : p.1 = .inl y
    · have : k = y := by rw [q] at h; have := h.1; cases this; rfl
      simp [q, this]
    · have : y ≠ k := fun e => q (by rw [h.1, e])
      rw [if_neg q, hasK_keys h.2]
      simp [this]
theorem put_new {y : Int} {v : Vl} : ∀ {kvs : List (Key × Vl)} {K : List Int}, kvs.map (·.1) = K.map Sum.inl → y ∉ K → (put kvs (.inl y) v).map (·.1) = (K ++ [y]).map Sum.inl
  | [], [], _, _ => rfl
  | [], _ :: _, h, _ => by simp at h
  | _ :: _, [], h, _ => by simp at h
  | p :: r, k :: K, h, hy => by
    simp only [List.map_cons, List.cons.injEq] at h
    simp only [List.mem_cons, not_or] at hy
    unfold put
    have q : p.1 ≠ .inl y := fun e => hy.1 (by rw [h.1] at e; cases e; rfl)
    rw [if_neg q]
    simp only [List.map_cons, List.cons_append, put_new h.2 hy.2, h.1]
theorem nodup_sub : ∀ {A B : List Int}, A.Nodup → (∀ x ∈ A, x ∈ B) → A.length ≤ B.length
  | [], B, _, _ => Nat.zero_le _
  | a :: A, B, nd, h => by
    have ha := h a (List.mem_cons_self ..)
    simp only [List.nodup_cons] at nd
    have ih := nodup_sub (B := B.erase a) nd.2 fun x hx => (List.mem_erase_of_ne (show x ≠ a from fun e => nd.1 (e ▸ hx))).mpr (h x (List.mem_cons_of_mem _ hx))
    rw [List.length_erase_of_mem ha] at ih
    have := List.length_pos_of_mem ha
    simp only [List.length_cons]
    omega
abbrev Inc (A : List Int) : Prop := A.Pairwise (· < ·)
theorem Inc.nodup {A : List Int} (h : Inc A) : A.Nodup := h.imp fun a => by omega
theorem srt_inc {A : List Int} (nd : A.Nodup) : Inc (srt A) := by
  have h1 := srt_sorted A
  have h2 : (srt A).Nodup := (srt_perm A).nodup_iff.mpr nd
  exact (h1.and h2).imp fun h => by omega
theorem mem_srt {A : List Int} {x : Int} : x ∈ srt A ↔ x ∈ A := (srt_perm A).mem_iff
theorem srt_len {A : List Int} : (srt A).length = A.length := (srt_perm A).length_eq
@[simp] theorem inF_ints {c : Int} : ∀ C : List Int, inF (.int c) (C.map Vl.int) = decide (c ∈ C)
  | [] => by simp [inF]
  | x :: C => by
    have := inF_ints (c := c) C
    have e : eqF (.int x) (.int c) = decide (c = x) := by
      simp [eqF]
      by_cases q : x = c
      · simp [q]
      · simp [q, Ne.symm q]
    simp [inF, e] at this ⊢
    rw [this]
@[simp] theorem flat_ints {xs : List Int} : (xs.map Vl.int).all flat = true := by simp [List.all_map]
theorem keys_list {kvs : List (Key × Vl)} {K : List Int} (h : kvs.map (·.1) = K.map Sum.inl) : (kvs.map fun kv => keyVl kv.1) = K.map Vl.int := by
  have : (kvs.map fun kv => keyVl kv.1) = (kvs.map (·.1)).map keyVl := by simp
  rw [this, h, List.map_map]
  rfl
end Sm

/-! S24: texts that are written out; small rules -/
namespace Sm
open PySem L2
theorem toNat_map_inj : ∀ {a b : List Char}, a.map Char.toNat = b.map Char.toNat → a = b
  | [], [], _ => rfl
  | [], _ :: _, h => by simp at h
  | _ :: _, [], h => by simp at h
  | x :: a, y :: b, h => by
    simp only [List.map_cons, List.cons.injEq] at h
    rw [toNat_map_inj h.2, Char.toNat_inj.mp h.1]
theorem ofString_inj {a b : String} (h : Str.ofString a = Str.ofString b) : a = b := by
  rw [Str.ofString_eq_toList, Str.ofString_eq_toList] at h
  have h1 := congrArg (fun z => z.cps.toList) h
  simp only at h1
  exact String.toList_inj.mp (toNat_map_inj h1)
@[simp] theorem ofString_eq_iff {a b : String} : (Str.ofString a = Str.ofString b) = (a = b) := propext ⟨ofString_inj, fun h => by rw [h]⟩
@[simp] theorem ofString_beq {a b : String} : (Str.ofString a == Str.ofString b) = (a == b) := by
  by_cases h : a = b
  · subst h; simp
  · rw [beq_eq_false_iff_ne.mpr h, beq_eq_false_iff_ne.mpr fun z => h (ofString_inj z)]
@[simp] theorem eqF_str {a b : Str} : eqF (.str a) (.str b) = (a == b) := rfl
@[simp] theorem eqF_int {a b : Int} : eqF (.int a) (.int b) = (a == b) := rfl
@[simp] theorem inF_nil {x : Vl} : inF x [] = false := rfl
@[simp] theorem inF_cons {x y : Vl} {ys : List Vl} : inF x (y :: ys) = (eqF y x || inF x ys) := rfl
section
variable {s : Sto} {x : Str} {i : Int} {xs : List Vl} {a : Nat}
@[simp] theorem opIn_tupS : opIn (.str x) (.tup xs) s = if xs.all flat = true then some (.bl (inF (.str x) xs), s) else none := by
  by_cases h : xs.all flat = true
  · rw [if_pos h, opIn_tup rfl h]
  · have h' : xs.all flat = false := by simpa using h
    rw [if_neg h]; simp only [opIn, inM, h', Bool.and_false]; rfl
@[simp] theorem opNotIn_tupS : opNotIn (.str x) (.tup xs) s = if xs.all flat = true then some (.bl (!inF (.str x) xs), s) else none := by
  by_cases h : xs.all flat = true
  · rw [if_pos h, opNotIn_tup rfl h]
  · have h' : xs.all flat = false := by simpa using h
    rw [if_neg h]; simp only [opNotIn, inM, h', Bool.and_false]; rfl
@[simp] theorem opIn_tupI : opIn (.int i) (.tup xs) s = if xs.all flat = true then some (.bl (inF (.int i) xs), s) else none := by
  by_cases h : xs.all flat = true
  · rw [if_pos h, opIn_tup rfl h]
  · have h' : xs.all flat = false := by simpa using h
    rw [if_neg h]; simp only [opIn, inM, h', Bool.and_false]; rfl
@[simp] theorem opNotIn_tupI : opNotIn (.int i) (.tup xs) s = if xs.all flat = true then some (.bl (!inF (.int i) xs), s) else none := by
  by_cases h : xs.all flat = true
  · rw [if_pos h, opNotIn_tup rfl h]
  · have h' : xs.all flat = false := by simpa using h
    rw [if_neg h]; simp only [opNotIn, inM, h', Bool.and_false]; rfl
@[simp] theorem opIn_lstS (h1 : s[a]? = some (.lst xs)) : opIn (.str x) (.ref a) s = if xs.all flat = true then some (.bl (inF (.str x) xs), s) else none := by
  by_cases h : xs.all flat = true
  · rw [if_pos h, opIn_lst h1 rfl h]
  · have h' : xs.all flat = false := by simpa using h
    rw [if_neg h]; simp only [opIn, inM, h1, h', Bool.and_false]; rfl
@[simp] theorem opNotIn_lstS (h1 : s[a]? = some (.lst xs)) : opNotIn (.str x) (.ref a) s = if xs.all flat = true then some (.bl (!inF (.str x) xs), s) else none := by
  by_cases h : xs.all flat = true
  · rw [if_pos h, opNotIn_lst h1 rfl h]
  · have h' : xs.all flat = false := by simpa using h
    rw [if_neg h]; simp only [opNotIn, inM, h1, h', Bool.and_false]; rfl
@[simp] theorem opIn_lstI (h1 : s[a]? = some (.lst xs)) : opIn (.int i) (.ref a) s = if xs.all flat = true then some (.bl (inF (.int i) xs), s) else none := by
  by_cases h : xs.all flat = true
  · rw [if_pos h, opIn_lst h1 rfl h]
  · have h' : xs.all flat = false := by simpa using h
    rw [if_neg h]; simp only [opIn, inM, h1, h', Bool.and_false]; rfl
@[simp] theorem opNotIn_lstI (h1 : s[a]? = some (.lst xs)) : opNotIn (.int i) (.ref a) s = if xs.all flat = true then some (.bl (!inF (.int i) xs), s) else none := by
  by_cases h : xs.all flat = true
  · rw [if_pos h, opNotIn_lst h1 rfl h]
  · have h' : xs.all flat = false := by simpa using h
    rw [if_neg h]; simp only [opNotIn, inM, h1, h', Bool.and_false]; rfl
end
theorem eqM_tupN {s : Sto} {ns : List Int} : eqM (.tup (ns.map Vl.int)) (.tup []) s = some ns.isEmpty := by
  have e1 : toD 40 s (.tup (ns.map Vl.int)) = some (.tuple (ns.map PyData.int)) := by
    unfold toD
    simp only [toD_ints (m := 38), Option.map]
  have e2 : toD 40 s (.tup []) = some (.tuple []) := rfl
  have e3 : PyData.canLay0 (.tuple (ns.map PyData.int)) = true := by simpa only [PyData.canLay0] using canLay_ints ns
  have e4 : PyData.canLay0 (.tuple []) = true := rfl
  simp only [eqM, eqS, e1, e2, e3, e4, Bool.and_self, if_true, PyData.eqv]
  cases ns <;> simp [PyData.eqvAll]
theorem opEq_tupN {s : Sto} {ns : List Int} : opEq (.tup (ns.map Vl.int)) (.tup []) s = some (.bl ns.isEmpty, s) := by
  simp only [opEq, eqM_tupN]
theorem opNe_tupN {s : Sto} {ns : List Int} : opNe (.tup (ns.map Vl.int)) (.tup []) s = some (.bl (!ns.isEmpty), s) := by
  simp only [opNe, eqM_tupN]
@[simp] theorem lim7 : (7 ≤ LIM) = True := eq_true (by decide)
@[simp] theorem lim8 : (8 ≤ LIM) = True := eq_true (by decide)
@[simp] theorem lim9 : (9 ≤ LIM) = True := eq_true (by decide)
@[simp] theorem lim10 : (10 ≤ LIM) = True := eq_true (by decide)
@[simp] theorem lim11 : (11 ≤ LIM) = True := eq_true (by decide)
@[simp] theorem lim12 : (12 ≤ LIM) = True := eq_true (by decide)
@[simp] theorem lim13 : (13 ≤ LIM) = True := eq_true (by decide)
@[simp] theorem lim14 : (14 ≤ LIM) = True := eq_true (by decide)
@[simp] theorem lim15 : (15 ≤ LIM) = True := eq_true (by decide)
@[simp] theorem lim16 : (16 ≤ LIM) = True := eq_true (by decide)
@[simp] theorem lim17 : (17 ≤ LIM) = True := eq_true (by decide)
@[simp] theorem lim18 : (18 ≤ LIM) = True := eq_true (by decide)
@[simp] theorem lim19 : (19 ≤ LIM) = True := eq_true (by decide)
@[simp] theorem lim20 : (20 ≤ LIM) = True := eq_true (by decide)
@[simp] theorem lim21 : (21 ≤ LIM) = True := eq_true (by decide)
@[simp] theorem lim22 : (22 ≤ LIM) = True := eq_true (by decide)
@[simp] theorem lim23 : (23 ≤ LIM) = True := eq_true (by decide)
@[simp] theorem lim24 : (24 ≤ LIM) = True := eq_true (by decide)
@[simp] theorem lim25 : (25 ≤ LIM) = True := eq_true (by decide)
@[simp] theorem lim26 : (26 ≤ LIM) = True := eq_true (by decide)
@[simp] theorem lim27 : (27 ≤ LIM) = True := eq_true (by decide)
@[simp] theorem lim28 : (28 ≤ LIM) = True := eq_true (by decide)
@[simp] theorem lim29 : (29 ≤ LIM) = True := eq_true (by decide)
@[simp] theorem lim30 : (30 ≤ LIM) = True := eq_true (by decide)
@[simp] theorem lim31 : (31 ≤ LIM) = True := eq_true (by decide)
@[simp] theorem lim32 : (32 ≤ LIM) = True := eq_true (by decide)
@[simp] theorem lim33 : (33 ≤ LIM) = True := eq_true (by decide)
@[simp] theorem lim34 : (34 ≤ LIM) = True := eq_true (by decide)
@[simp] theorem lim35 : (35 ≤ LIM) = True := eq_true (by decide)
@[simp] theorem lim36 : (36 ≤ LIM) = True := eq_true (by decide)
@[simp] theorem lim37 : (37 ≤ LIM) = True := eq_true (by decide)
@[simp] theorem lim38 : (38 ≤ LIM) = True := eq_true (by decide)
@[simp] theorem lim39 : (39 ≤ LIM) = True := eq_true (by decide)
@[simp] theorem lim40 : (40 ≤ LIM) = True := eq_true (by decide)
theorem Pn.bl {b : Bool} : Pn 1 64 (.bl b) := by
  refine ⟨.bool b, fun s m hm => ?_, by cases b <;> decide, rfl, by simp [PyData.weight]⟩
  obtain ⟨m, rfl⟩ : ∃ k, m = k + 1 := ⟨m - 1, by omega⟩
  rfl
theorem Pn.ints {ns : List Int} {n : Nat} (h : ∀ x ∈ ns, x.natAbs < 10 ^ 12) (hn : ns.length ≤ n) : Pn 2 (n * 65) (.tup (ns.map Vl.int)) :=
  (Pn.tup (n := 1) (w := 64) fun x hx => by
    obtain ⟨i, hi, rfl⟩ := List.mem_map.mp hx
    exact Pn.int (h i hi)).mono (Nat.le_refl _) (by simp; omega)
/-- an item of a mapped list -/
theorem get_map {α β : Type} {f : α → β} {xs : List α} {i : Nat} {v : β} (h : (xs.map f)[i]? = some v) : ∃ x, xs[i]? = some x ∧ v = f x := by
  rw [List.getElem?_map] at h
  cases q : xs[i]? with
  | none => rw [q] at h; cases h
  | some e => rw [q] at h; exact ⟨e, rfl, by simpa using h.symm⟩
theorem take_succ_get {α : Type} {xs : List α} {i : Nat} {x : α} (h : xs[i]? = some x) : xs.take (i + 1) = xs.take i ++ [x] := by
  rw [List.take_add_one, h]; rfl
theorem rngW_lit {n : Nat} {s : Sto} {QA : List Vl → Sto → Prop} (h : n < 1000000) : rngW [.int (OfNat.ofNat n)] s QA = QA (rng 0 n) s := rngW_nat h
end Sm

/-! S29: how the newer parts of pure programs are computed -/
namespace Sm
open PySem L2
section
variable {s : Sto} {lo : Lo} {QV : Vl → Sto → Prop} {QA : List Vl → Sto → Prop} {E : Ex → Sto → Prop} {K : RK} {N : Lo → Sto → Prop}
def WGs0 (gs : List GM) (vs : List Vl) (lo : Lo) (s : Sto) (N : Lo → Sto → Prop) : Prop := match gAll gs vs lo s with
  | some (lo', s') => N lo' s'
  | none => False
structure WGs (gs : List GM) (vs : List Vl) (lo : Lo) (s : Sto) (N : Lo → Sto → Prop) (_ : Tg N := .a) : Prop where
  h : WGs0 gs vs lo s N
theorem WGs_eq {gs : List GM} {vs : List Vl} : WGs gs vs lo s N = WGs0 gs vs lo s N := propext ⟨fun x => x.h, fun x => ⟨x⟩⟩
@[simp ↓] theorem WG_gTs {gs : List GM} {xs : List Vl} : WG (gTs gs) (.tup xs) lo s N E = WGs gs xs lo s N := by
  simp only [WG_eq, WE_eq, WGs_eq]
  unfold WE0 gTs WGs0
  simp only
  cases gAll gs xs lo s with
  | none => rfl
  | some p => obtain ⟨a, b⟩ := p; rfl
@[simp ↓] theorem WGs_nil : WGs [] [] lo s N = N lo s := by simp only [WGs_eq]; rfl
@[simp ↓] theorem WGs_cons {g : GM} {gs : List GM} {v : Vl} {vs : List Vl} : WGs (g :: gs) (v :: vs) lo s N = WG g v lo s (fun lo s => WGs gs vs lo s N) NoX := by
  simp only [WG_eq, WE_eq, WGs_eq]
  unfold WE0 WGs0
  have e : gAll (g :: gs) (v :: vs) lo s = match g v lo s with | .ok lo' s' => gAll gs vs lo' s' | _ => none := rfl
  rw [e]
  cases g v lo s with
  | ok a b => simp only [WGs_eq] <;> rfl
  | exc a b => rfl
  | fail => rfl
def ulW (x : Vl) (s : Sto) (P : List Vl → Prop) : Prop := match x with
  | .ref j => match s[j]? with
    | some (.lst xs) => P xs
    | _ => False
  | _ => False
@[simp] theorem ulW_ref {j : Nat} {P : List Vl → Prop} {xs : List Vl} (h : s[j]? = some (.lst xs)) : ulW (.ref j) s P = P xs := by simp [ulW, h]
@[simp ↓] theorem WG_gUl {gs : List GM} {x : Vl} : WG (gUl gs) x lo s N E = ulW x s fun xs => WGs gs xs lo s N := by
  simp only [WG_eq, WE_eq, WGs_eq]
  unfold WE0 gUl ulW WGs0
  cases x <;> try rfl
  rename_i j
  dsimp only
  cases s[j]? with
  | none => rfl
  | some o =>
    cases o <;> try rfl
    rename_i xs
    dsimp only
    cases gAll gs xs lo s with
    | none => rfl
    | some p => obtain ⟨a, b⟩ := p; rfl
def atW (lo : Lo) (i : Nat) (P : Vl → Prop) : Prop := match lo[i]? with
  | some (some x) => P x
  | _ => False
theorem atW_some {i : Nat} {x : Vl} {P : Vl → Prop} (h : lo[i]? = some (some x)) : atW lo i P = P x := by unfold atW; rw [h]
@[simp ↓] theorem WS_sAug {i : Nat} {f : O2} {e : EM} : WS (sAug i f e) lo s K = (match lo[i]? with | some (some x) => WE (e lo) s (fun v s => WO (f x v s) fun z s => K.nx (lo.set i (some z)) s) (fun x s => K.ex x lo s) | _ => False) := by
  simp only [WS_eq]
  unfold WS0 sAug
  cases h : lo[i]? with
  | none => simp only [h]
  | some o =>
    cases o with
    | none => simp only [h]
    | some x =>
      simp only [h]
      have := WS_bndS (m := e) (lo := lo) (s := s) (K := K) (f := fun lo v s => match f x v s with | some (z, s') => .nx (lo.set i (some z)) s' | none => .fail)
      refine Eq.trans (b := WS (bndS e fun lo v s => match f x v s with | some (z, s') => .nx (lo.set i (some z)) s' | none => .fail) lo s K) (by simp only [WS_eq]; rfl) (this.trans ?_)
      refine WE_ext fun v s => ?_
      simp only [WO_eq]
      unfold WO0
      cases f x v s with
      | none => rfl
      | some p => obtain ⟨a, b⟩ := p; rfl
@[simp] theorem opIAdd_int {i j : Int} : opIAdd (.int i) (.int j) s = some (.int (i + j), s) := rfl
@[simp] theorem opISub_int {i j : Int} : opISub (.int i) (.int j) s = some (.int (i - j), s) := rfl
@[simp] theorem opIAdd_str {x y : Str} (h : x.length + y.length ≤ LIM) : opIAdd (.str x) (.str y) s = some (.str (x ++ y), s) := by simp only [opIAdd, if_pos h]
@[simp ↓] theorem WE_eChain {f f' : O2} {a b c : EM} : WE (eChain f f' a b c lo) s QV E = WE (a lo) s (fun x s => WE (b lo) s (fun y s => WO (f x y s) fun z s => match z with | .bl true => WE (c lo) s (fun w s => WO (f' y w s) QV) E | .bl false => QV (.bl false) s | _ => False) E) E := by
  unfold eChain
  rw [WE_bnd]
  refine WE_ext fun x s => ?_
  rw [WE_bnd]
  refine WE_ext fun y s => ?_
  rw [WE_bnd, WE_lift]
  have : ∀ (o : Option (Vl × Sto)) (P P' : Vl → Sto → Prop), (∀ a s, P a s = P' a s) → WO o P = WO o P' := fun o P P' h => by
    have : P = P' := funext fun a => funext fun s => h a s
    subst this; rfl
  refine this _ _ _ fun z s => ?_
  cases z <;> try (simp only [WE_eq]; rfl)
  rename_i k
  cases k with
  | false => simp only [WE_eq]; rfl
  | true =>
    simp only
    rw [WE_bnd]
    exact WE_ext fun w s => WE_lift
def dicW (x : Vl) (s : Sto) (P : Nat → Prop) : Prop := match x with
  | .ref j => isDic j s = true ∧ P j
  | _ => False
@[simp] theorem dicW_ref {j : Nat} {P : Nat → Prop} {kvs : List (Key × Vl)} (h : s[j]? = some (.dic kvs)) : dicW (.ref j) s P = P j := by simp [dicW, isDic, h]
def getW (j : Nat) (y : Vl) (s : Sto) (P : List (Key × Vl) → Key → Prop) : Prop := match s[j]?, keyOf y with
  | some (.dic kvs), some key => P kvs key
  | _, _ => False
@[simp] theorem getW_str {j : Nat} {x : Str} {kvs : List (Key × Vl)} {P : List (Key × Vl) → Key → Prop} (h : s[j]? = some (.dic kvs)) : getW j (.str x) s P = P kvs (.inr x) := by simp [getW, h, keyOf]
@[simp] theorem getW_int {j : Nat} {x : Int} {kvs : List (Key × Vl)} {P : List (Key × Vl) → Key → Prop} (h : s[j]? = some (.dic kvs)) : getW j (.int x) s P = P kvs (.inl x) := by simp [getW, h, keyOf]
@[simp ↓] theorem WE_eDGet1 {d k : EM} : WE (eDGet1 d k lo) s QV E = WE (d lo) s (fun x s => dicW x s fun j => WE (k lo) s (fun y s => getW j y s fun kvs key => QV ((look kvs key).getD .non) s) E) E := by
  unfold eDGet1
  rw [WE_bnd]
  refine WE_ext fun x s => ?_
  cases x <;> try (simp only [WE_eq]; rfl)
  rename_i j
  unfold dicW
  by_cases h : isDic j s = true
  · simp only [h, true_and]
    refine Eq.trans (b := WE (bnd (k lo) fun y s => match s[j]?, keyOf y with | some (.dic kvs), some key => .ok ((look kvs key).getD .non) s | _, _ => .fail) s QV E) ?_ ?_
    · simp only [WE_eq]; unfold WE0; simp only [h, if_true] <;> rfl
    · rw [WE_bnd]
      refine WE_ext fun y s => ?_
      simp only [WE_eq]
      unfold WE0 getW
      dsimp only
      cases s[j]? with
      | none => rfl
      | some o => cases o <;> cases keyOf y <;> rfl
  · simp only [h, false_and, Bool.false_eq_true]
    simp only [WE_eq]; unfold WE0; simp only [h, if_false, Bool.false_eq_true]
@[simp ↓] theorem WE_eDGet2 {d k v : EM} : WE (eDGet2 d k v lo) s QV E = WE (d lo) s (fun x s => dicW x s fun j => WE (k lo) s (fun y s => WE (v lo) s (fun z s => getW j y s fun kvs key => QV ((look kvs key).getD z) s) E) E) E := by
  unfold eDGet2
  rw [WE_bnd]
  refine WE_ext fun x s => ?_
  cases x <;> try (simp only [WE_eq]; rfl)
  rename_i j
  unfold dicW
  by_cases h : isDic j s = true
  · simp only [h, true_and]
    refine Eq.trans (b := WE (bnd (k lo) fun y => bnd (v lo) fun z s => match s[j]?, keyOf y with | some (.dic kvs), some key => .ok ((look kvs key).getD z) s | _, _ => .fail) s QV E) ?_ ?_
    · simp only [WE_eq]; unfold WE0; simp only [h, if_true] <;> rfl
    · rw [WE_bnd]
      refine WE_ext fun y s => ?_
      rw [WE_bnd]
      refine WE_ext fun z s => ?_
      simp only [WE_eq]
      unfold WE0 getW
      dsimp only
      cases s[j]? with
      | none => rfl
      | some o => cases o <;> cases keyOf y <;> rfl
  · simp only [h, false_and, Bool.false_eq_true]
    simp only [WE_eq]; unfold WE0; simp only [h, if_false, Bool.false_eq_true]
@[simp ↓] theorem WE_aEnm {e : AM} : WE (aEnm e lo) s QA E = WE (e lo) s (fun as s => match as with | [.tup xs] => QA (enmL xs) s | _ => False) E := by
  unfold aEnm
  rw [WE_bnd]
  refine WE_ext fun as s => ?_
  match as with
  | [] => simp only [WE_eq]; rfl
  | [.tup xs] => simp only [WE_eq]; rfl
  | .non :: _ => cases ‹List Vl› <;> simp only [WE_eq] <;> rfl
  | .bl _ :: _ => cases ‹List Vl› <;> simp only [WE_eq] <;> rfl
  | .int _ :: _ => cases ‹List Vl› <;> simp only [WE_eq] <;> rfl
  | .str _ :: _ => cases ‹List Vl› <;> simp only [WE_eq] <;> rfl
  | .ref _ :: _ => cases ‹List Vl› <;> simp only [WE_eq] <;> rfl
  | .scr _ :: _ => cases ‹List Vl› <;> simp only [WE_eq] <;> rfl
  | .ty _ :: _ => cases ‹List Vl› <;> simp only [WE_eq] <;> rfl
  | .fn _ :: _ => cases ‹List Vl› <;> simp only [WE_eq] <;> rfl
  | .tup _ :: _ :: _ => simp only [WE_eq]; rfl
@[simp ↓] theorem WE_dflM {n : Nat} {das as : List Vl} {mf : List Vl → M Vl} : WE (dflM n das mf as) s QV E = (if as.length + das.length = n then WE (mf (as ++ das)) s QV E else False) := by
  by_cases h : as.length + das.length = n
  · simp only [WE_eq, WE0, dflM, if_pos h]
  · simp only [WE_eq, WE0, dflM, if_neg h]
end
section
variable {s : Sto} {a : Nat} {x : Str} {xs : List Vl} {kvs : List (Key × Vl)}
theorem oJoin_strs {ys : List Str} (h : s[a]? = some (.lst (ys.map Vl.str))) (hl : (ys.map (·.length)).sum + ys.length * x.length ≤ LIM) : oJoin (.str x) [.ref a] s = some (.str (Txt.join x ys), s) := by simp [oJoin, lstOf, h, mapO_strs, hl]
@[simp] theorem oDict_dic (h : s[a]? = some (.dic kvs)) : oDict [.ref a] s = some (.ref s.length, s ++ [.dic kvs]) := by simp only [oDict, h]
theorem oDictP_lst {ps : List (Key × Vl)} (h : s[a]? = some (.lst xs)) (hp : mapO asPr xs = some ps) : oDictP [.ref a] s = some (.ref s.length, s ++ [.dic (mergeP [] ps)]) := by simp [oDictP, lstOf, h, hp]
theorem strKeys_eq : ∀ {kvs : List (Key × Vl)} {ks : List Str}, kvs.map (·.1) = ks.map Sum.inr → strKeys kvs = some ks
  | [], [], _ => rfl
  | [], _ :: _, h => by simp at h
  | _ :: _, [], h => by simp at h
  | p :: r, k :: ks, h => by
    simp only [List.map_cons, List.cons.injEq] at h
    obtain ⟨⟨k1, v⟩, r⟩ : ∃ q : Key × Vl, q = p := ⟨p, rfl⟩
    have ih := strKeys_eq h.2
    cases p with
    | mk q v =>
      obtain ⟨h1, h2⟩ := h
      simp only at h1
      subst h1
      simp [strKeys, ih]
theorem oSort_dic {ks : List Str} (h : s[a]? = some (.dic kvs)) (hk : kvs.map (·.1) = ks.map Sum.inr) (hl : ks.length < 64) : oSort [.ref a] s = some (.ref s.length, s ++ [.lst ((srtT ks).map Vl.str)]) := by simp [oSort, h, strKeys_eq hk, hl]
theorem mem_srtT {ks : List Str} {z : Str} : z ∈ srtT ks ↔ z ∈ ks := (srtT_perm ks).mem_iff
theorem srtT_len {ks : List Str} : (srtT ks).length = ks.length := (srtT_perm ks).length_eq
@[simp] theorem kd_join : kd .str (.str x) s = true := rfl
@[simp] theorem oLen_str (h : x.length ≤ LIM) : oLen [.str x] s = some (.int x.length, s) := by simp [oLen, lenM, h]
@[simp] theorem opIx_str {i : Int} (h : x.length ≤ LIM) : opIx (.str x) (.int i) s = (atI x.cps.toList i).map fun c => (.str ⟨#[c]⟩, s) := by simp only [opIx, if_pos h]
@[simp] theorem oStr_int {i : Int} (h : i.natAbs.log2 < 1920) : oStr [.int i] s = some (.str (toString i), s) := by simp only [oStr, if_pos h]
end
theorem str_len {x : Str} : x.length = x.cps.toList.length := by simp [Str.length]
theorem str_append {x y : Str} : (x ++ y).cps.toList = x.cps.toList ++ y.cps.toList := by
  show (x.cps ++ y.cps).toList = _
  simp
/-- == of any list with an empty one -/
theorem eqM_lstN {s : Sto} {a b : Nat} {xs : List Vl} {ds : List PyData} (h1 : s[a]? = some (.lst xs)) (h2 : s[b]? = some (.lst [])) (hd : mapO (toD 39 s) xs = some ds) (hc : PyData.canLayAll0 ds = true) : eqM (.ref a) (.ref b) s = some xs.isEmpty := by
  have e1 : toD 40 s (.ref a) = some (.list ds) := by rw [toD_lst (m := 39) h1, hd]; rfl
  have e2 : toD 40 s (.ref b) = some (.list []) := by rw [toD_lst (m := 39) h2]; rfl
  have e3 : PyData.canLay0 (.list ds) = true := by simpa only [PyData.canLay0] using hc
  have e4 : PyData.canLay0 (.list []) = true := rfl
  have e5 : ds.isEmpty = xs.isEmpty := by
    cases xs with
    | nil => cases hd; rfl
    | cons x xs =>
      unfold mapO at hd
      cases q : toD 39 s x with
      | none => simp only [q] at hd; cases hd
      | some d =>
        simp only [q] at hd
        cases q2 : mapO (toD 39 s) xs with
        | none => simp only [q2] at hd; cases hd
        | some r => simp only [q2] at hd; cases hd; rfl
  simp only [eqM, eqS, e1, e2, e3, e4, Bool.and_self, if_true, PyData.eqv]
  rw [← e5]
  cases ds <;> simp [PyData.eqvAll]
theorem toD_strs {s : Sto} {m : Nat} : ∀ ns : List Str, mapO (toD (m + 1) s) (ns.map Vl.str) = some (ns.map PyData.str)
  | [] => rfl
  | n :: ns => by
    have e : toD (m + 1) s (.str n) = some (.str n) := rfl
    simp only [List.map_cons, mapO, e, toD_strs ns]
theorem canLay_strs : ∀ {ns : List Str}, (∀ z ∈ ns, PyData.strOk z = true) → PyData.canLayAll0 (ns.map PyData.str) = true
  | [], _ => rfl
  | n :: ns, h => by
    have h1 := h n (List.mem_cons_self ..)
    have h2 := canLay_strs (ns := ns) fun z hz => h z (List.mem_cons_of_mem _ hz)
    simp only [List.map_cons, PyData.canLayAll0, PyData.canLay0, h1, h2, Bool.and_self]
theorem opEq_lstS {s : Sto} {a b : Nat} {zs : List Str} (hz : ∀ z ∈ zs, PyData.strOk z = true) (h1 : s[a]? = some (.lst (zs.map Vl.str))) (h2 : s[b]? = some (.lst [])) : opEq (.ref a) (.ref b) s = some (.bl zs.isEmpty, s) := by
  simp only [opEq, eqM_lstN h1 h2 (toD_strs (m := 38) zs) (canLay_strs hz)]
  simp
/-- plain values, each with its own weight -/
theorem Pn.tupS {n : Nat} : ∀ {xs : List Vl} {ws : List Nat}, ws.length = xs.length → (∀ (i : Nat) (x : Vl) (w : Nat), xs[i]? = some x → ws[i]? = some w → Pn n w x) → Pn (n + 1) ((ws.map (· + 1)).sum) (.tup xs) := by
  intro xs ws hl h
  have key : ∃ ds : List PyData, (∀ s m, n ≤ m → mapO (toD m s) xs = some ds) ∧ PyData.leavesShortAll 13 ds = true ∧ PyData.showableAll ds = true ∧ PyData.weightAll ds ≤ (ws.map (· + 1)).sum := by
    induction xs generalizing ws with
    | nil =>
      cases ws with
      | nil => exact ⟨[], fun _ _ _ => rfl, rfl, rfl, by simp [PyData.weightAll]⟩
      | cons w ws => simp at hl
    | cons x xs ih =>
      cases ws with
      | nil => simp at hl
      | cons w ws =>
        obtain ⟨d, a, b, c, e⟩ := h 0 x w rfl rfl
        obtain ⟨ds, a', b', c', e'⟩ := ih (by simpa using hl) fun i y v h1 h2 => h (i + 1) y v (by simpa using h1) (by simpa using h2)
        refine ⟨d :: ds, fun s m hm => ?_, ?_, ?_, ?_⟩
        · simp only [mapO, a s m hm, a' s m hm]
        · simp only [PyData.leavesShortAll, b, b', Bool.and_self]
        · simp only [PyData.showableAll, c, c', Bool.and_self]
        · simp only [PyData.weightAll, List.map_cons, List.sum_cons]
          omega
  obtain ⟨ds, a, b, c, e⟩ := key
  refine ⟨.tuple ds, fun s m hm => ?_, ?_, ?_, ?_⟩
  · obtain ⟨m, rfl⟩ : ∃ k, m = k + 1 := ⟨m - 1, by omega⟩
    simp only [toD, a s m (by omega), Option.map]
  · simpa only [PyData.leavesShort] using b
  · simpa only [PyData.showable] using c
  · simpa only [PyData.weight] using e
end Sm

/-! S30: programs of cells: tests, statements, blocks -/
namespace Sm
open PySem L2
/-- a short text of plain signs -/
structure Nice (x : Str) : Prop where
  len : x.length ≤ 20
  sgn : ∀ c ∈ x.cps.toList, c < 128
theorem Nice.pn {x : Str} (h : Nice x) : Pn 1 64 (.str x) := Pn.str (by
  rw [List.all_eq_true]
  intro c hc
  have := h.sgn c hc
  exact decide_eq_true (by omega)) (by have := h.len; omega)
theorem Nice.strOk {x : Str} (h : Nice x) : PyData.strOk x = true := by
  unfold PyData.strOk
  rw [← Array.all_toList, List.all_eq_true]
  intro c hc
  have := h.sgn c hc
  exact decide_eq_true (by omega)
inductive Tst where
  | given (i : Nat) | set (x : Str) | same (x y : Str) | full (x f : Str) | wished (w : Str) | not (t : Tst)
def Tst.vl : Tst → Vl
  | .given i => .tup [.str "given", .int (i : Nat)]
  | .set x => .tup [.str "set", .str x]
  | .same x y => .tup [.str "same", .str x, .str y]
  | .full x f => .tup [.str "full", .str x, .str f]
  | .wished w => .tup [.str "wished", .str w]
  | .not t => .tup [.str "not", t.vl]
/-- a right test, at most n "not" in one another, g givens -/
def Tst.ok (g : Nat) : Nat → Tst → Prop
  | _, .given i => i < g
  | _, .set x => Nice x
  | _, .same x y => Nice x ∧ Nice y
  | _, .full x f => Nice x ∧ Nice f
  | _, .wished w => Nice w
  | n + 1, .not t => Tst.ok g n t
  | 0, .not _ => False
theorem Tst.ok.mono {g : Nat} : ∀ {n m : Nat} {t : Tst}, t.ok g n → n ≤ m → t.ok g m
  | n, m, .given i, h, _ => by cases n <;> cases m <;> exact h
  | n, m, .set x, h, _ => by cases n <;> cases m <;> exact h
  | n, m, .same x y, h, _ => by cases n <;> cases m <;> exact h
  | n, m, .full x y, h, _ => by cases n <;> cases m <;> exact h
  | n, m, .wished x, h, _ => by cases n <;> cases m <;> exact h
  | n + 1, 0, .not t, h, e => by omega
  | n + 1, m + 1, .not t, h, e => Tst.ok.mono (t := t) (n := n) (m := m) h (by omega)
  | 0, _, .not t, h, _ => h.elim
inductive Stm where
  | make (x : Str) | wish (x w : Str) | keep (x : Str) | name (x y : Str) | drop (x : Str)
  | hold (x f y : Str) | weak (x f y : Str) | cut (x f : Str) | take (z x f : Str) | say (w : Str) | ask (t : Tst)
  | ife (t : Tst) (yes no : List Stm) | rep (k : Nat) (b : List Stm)
mutual
def Stm.vl : Stm → Vl
  | .make x => .tup [.str "make", .str x]
  | .wish x w => .tup [.str "wish", .str x, .str w]
  | .keep x => .tup [.str "keep", .str x]
  | .name x y => .tup [.str "name", .str x, .str y]
  | .drop x => .tup [.str "drop", .str x]
  | .hold x f y => .tup [.str "hold", .str x, .str f, .str y]
  | .weak x f y => .tup [.str "weak", .str x, .str f, .str y]
  | .cut x f => .tup [.str "cut", .str x, .str f]
  | .take z x f => .tup [.str "take", .str z, .str x, .str f]
  | .say w => .tup [.str "say", .str w]
  | .ask t => .tup [.str "ask", t.vl]
  | .ife t a b => .tup [.str "if", t.vl, .tup (Stm.vls a), .tup (Stm.vls b)]
  | .rep k b => .tup [.str "repeat", .int (k : Nat), .tup (Stm.vls b)]
def Stm.vls : List Stm → List Vl
  | [] => []
  | x :: xs => x.vl :: Stm.vls xs
end
mutual
/-- how many statements -/
def Stm.cnt : Stm → Nat
  | .ife _ a b => 1 + Stm.cnts a + Stm.cnts b
  | .rep _ b => 1 + Stm.cnts b
  | _ => 1
def Stm.cnts : List Stm → Nat
  | [] => 0
  | x :: xs => x.cnt + Stm.cnts xs
end
mutual
def Stm.wgt : Stm → Nat
  | .ife _ a b => 1 + Stm.wgts a + Stm.wgts b
  | .rep k b => 1 + k * Stm.wgts b
  | _ => 1
def Stm.wgts : List Stm → Nat
  | [] => 0
  | x :: xs => x.wgt + Stm.wgts xs
end
mutual
/-- a right statement: g givens, at most n blocks in one another -/
def Stm.ok (g : Nat) : Nat → Stm → Prop
  | _, .make x => Nice x
  | _, .wish x w => Nice x ∧ Nice w
  | _, .keep x => Nice x
  | _, .name x y => Nice x ∧ Nice y
  | _, .drop x => Nice x
  | _, .hold x f y => Nice x ∧ Nice f ∧ Nice y
  | _, .weak x f y => Nice x ∧ Nice f ∧ Nice y
  | _, .cut x f => Nice x ∧ Nice f
  | _, .take z x f => Nice z ∧ Nice x ∧ Nice f
  | _, .say w => Nice w
  | _, .ask t => t.ok g 3
  | n, .ife t a b => 0 < n ∧ t.ok g 3 ∧ Stm.oks g (n - 1) a ∧ Stm.oks g (n - 1) b
  | n, .rep k b => 0 < n ∧ k ≤ 12 ∧ Stm.oks g (n - 1) b
def Stm.oks (g : Nat) : Nat → List Stm → Prop
  | _, [] => True
  | n, x :: xs => x.ok g n ∧ Stm.oks g n xs
end
mutual
/-- the statements in the order of their places, with their depth -/
def Stm.flat (d : Nat) : Stm → List (Nat × Stm)
  | .ife t a b => (d, .ife t a b) :: (Stm.flats (d + 1) a ++ Stm.flats (d + 1) b)
  | .rep k b => (d, .rep k b) :: Stm.flats (d + 1) b
  | x => [(d, x)]
def Stm.flats (d : Nat) : List Stm → List (Nat × Stm)
  | [] => []
  | x :: xs => x.flat d ++ Stm.flats d xs
end
theorem Stm.vls_map : ∀ xs : List Stm, Stm.vls xs = xs.map Stm.vl
  | [] => rfl
  | x :: xs => by rw [Stm.vls, Stm.vls_map xs]; rfl
theorem Stm.cnts_app : ∀ xs ys : List Stm, Stm.cnts (xs ++ ys) = Stm.cnts xs + Stm.cnts ys
  | [], ys => by simp [Stm.cnts]
  | x :: xs, ys => by simp only [List.cons_append, Stm.cnts, Stm.cnts_app xs ys]; omega
theorem Stm.wgts_app : ∀ xs ys : List Stm, Stm.wgts (xs ++ ys) = Stm.wgts xs + Stm.wgts ys
  | [], ys => by simp [Stm.wgts]
  | x :: xs, ys => by simp only [List.cons_append, Stm.wgts, Stm.wgts_app xs ys]; omega
theorem Stm.oks_app {g n : Nat} : ∀ {xs ys : List Stm}, Stm.oks g n (xs ++ ys) ↔ Stm.oks g n xs ∧ Stm.oks g n ys
  | [], ys => by simp [Stm.oks]
  | x :: xs, ys => by simp only [List.cons_append, Stm.oks, Stm.oks_app (xs := xs) (ys := ys), and_assoc]
theorem Stm.oks_mem {g n : Nat} : ∀ {xs : List Stm}, Stm.oks g n xs → ∀ x ∈ xs, x.ok g n
  | [], _, x, h => by simp at h
  | y :: xs, h, x, hx => by
    rcases List.mem_cons.mp hx with rfl | hx
    · exact h.1
    · exact Stm.oks_mem h.2 x hx
theorem Stm.flats_app {d : Nat} : ∀ xs ys : List Stm, Stm.flats d (xs ++ ys) = Stm.flats d xs ++ Stm.flats d ys
  | [], ys => by simp [Stm.flats]
  | x :: xs, ys => by simp only [List.cons_append, Stm.flats, Stm.flats_app xs ys, List.append_assoc]
mutual
theorem Stm.ok.mono {g : Nat} : ∀ {n m : Nat} {x : Stm}, x.ok g n → n ≤ m → x.ok g m
  | n, m, .make x, h, _ => by unfold Stm.ok at h ⊢; exact h
  | n, m, .wish x w, h, _ => by unfold Stm.ok at h ⊢; exact h
  | n, m, .keep x, h, _ => by unfold Stm.ok at h ⊢; exact h
  | n, m, .name x y, h, _ => by unfold Stm.ok at h ⊢; exact h
  | n, m, .drop x, h, _ => by unfold Stm.ok at h ⊢; exact h
  | n, m, .hold x f y, h, _ => by unfold Stm.ok at h ⊢; exact h
  | n, m, .weak x f y, h, _ => by unfold Stm.ok at h ⊢; exact h
  | n, m, .cut x f, h, _ => by unfold Stm.ok at h ⊢; exact h
  | n, m, .take z x f, h, _ => by unfold Stm.ok at h ⊢; exact h
  | n, m, .say w, h, _ => by unfold Stm.ok at h ⊢; exact h
  | n, m, .ask t, h, _ => by unfold Stm.ok at h ⊢; exact h
  | n, m, .ife t a b, h, e => by
    unfold Stm.ok at h ⊢
    exact ⟨by omega, h.2.1, Stm.oks.mono h.2.2.1 (by omega), Stm.oks.mono h.2.2.2 (by omega)⟩
  | n, m, .rep k b, h, e => by
    unfold Stm.ok at h ⊢
    exact ⟨by omega, h.2.1, Stm.oks.mono h.2.2 (by omega)⟩
theorem Stm.oks.mono {g : Nat} : ∀ {n m : Nat} {xs : List Stm}, Stm.oks g n xs → n ≤ m → Stm.oks g m xs
  | _, _, [], _, _ => trivial
  | _, _, x :: xs, h, e => ⟨Stm.ok.mono h.1 e, Stm.oks.mono h.2 e⟩
end
/-! ### they are plain values -/
theorem Pn.tup2 {n u v : Nat} {a b : Vl} (ha : Pn n u a) (hb : Pn n v b) : Pn (n + 1) (u + v + 2) (.tup [a, b]) :=
  (Pn.tupS (ws := [u, v]) rfl fun i x w h1 h2 => by
    match i with
    | 0 => simp at h1 h2; subst h1 h2; exact ha
    | 1 => simp at h1 h2; subst h1 h2; exact hb
    | i + 2 => simp at h1).mono (Nat.le_refl _) (by simp; omega)
theorem Pn.tup3 {n u v w : Nat} {a b c : Vl} (ha : Pn n u a) (hb : Pn n v b) (hc : Pn n w c) : Pn (n + 1) (u + v + w + 3) (.tup [a, b, c]) :=
  (Pn.tupS (ws := [u, v, w]) rfl fun i x w h1 h2 => by
    match i with
    | 0 => simp at h1 h2; subst h1 h2; exact ha
    | 1 => simp at h1 h2; subst h1 h2; exact hb
    | 2 => simp at h1 h2; subst h1 h2; exact hc
    | i + 3 => simp at h1).mono (Nat.le_refl _) (by simp; omega)
theorem Pn.tup4 {n u v w z : Nat} {a b c d : Vl} (ha : Pn n u a) (hb : Pn n v b) (hc : Pn n w c) (hd : Pn n z d) : Pn (n + 1) (u + v + w + z + 4) (.tup [a, b, c, d]) :=
  (Pn.tupS (ws := [u, v, w, z]) rfl fun i x w h1 h2 => by
    match i with
    | 0 => simp at h1 h2; subst h1 h2; exact ha
    | 1 => simp at h1 h2; subst h1 h2; exact hb
    | 2 => simp at h1 h2; subst h1 h2; exact hc
    | 3 => simp at h1 h2; subst h1 h2; exact hd
    | i + 4 => simp at h1).mono (Nat.le_refl _) (by simp; omega)
theorem Pn.lit {x : Str} (h : (x.cps.toList.all fun c => decide (c < 16 ^ 8)) = true := by decide) (hl : x.length ≤ 64 := by decide) : Pn 1 64 (.str x) := Pn.str h hl
theorem Tst.pn {g : Nat} (hg : g ≤ 100) : ∀ {n : Nat} {t : Tst}, t.ok g n → Pn (2 + n) (195 + 66 * n) t.vl
  | n, .given i, h => by
    have h : i < g := by cases n <;> exact h
    exact (Pn.tup2 Pn.lit (Pn.int (by omega))).mono (by omega) (by omega)
  | n, .set x, h => by
    have h : Nice x := by cases n <;> exact h
    exact (Pn.tup2 Pn.lit h.pn).mono (by omega) (by omega)
  | n, .same x y, h => by
    have h : Nice x ∧ Nice y := by cases n <;> exact h
    exact (Pn.tup3 Pn.lit h.1.pn h.2.pn).mono (by omega) (by omega)
  | n, .full x y, h => by
    have h : Nice x ∧ Nice y := by cases n <;> exact h
    exact (Pn.tup3 Pn.lit h.1.pn h.2.pn).mono (by omega) (by omega)
  | n, .wished x, h => by
    have h : Nice x := by cases n <;> exact h
    exact (Pn.tup2 Pn.lit h.pn).mono (by omega) (by omega)
  | n + 1, .not t, h => by
    have ih := Tst.pn hg (n := n) (t := t) h
    exact (Pn.tup2 (Pn.mono Pn.lit (by omega) (Nat.le_refl _)) ih).mono (by omega) (by omega)
  | 0, .not t, h => h.elim
theorem Pn.listS {n : Nat} : ∀ {xs : List Vl} {w : Nat}, (∃ ws : List Nat, ws.length = xs.length ∧ (∀ (i : Nat) (x : Vl) (v : Nat), xs[i]? = some x → ws[i]? = some v → Pn n v x) ∧ (ws.map (· + 1)).sum ≤ w) → Pn (n + 1) w (.tup xs) := by
  rintro xs w ⟨ws, h1, h2, h3⟩
  exact (Pn.tupS h1 h2).mono (Nat.le_refl _) h3
mutual
theorem Stm.pn {g : Nat} (hg : g ≤ 100) : ∀ {n : Nat} {x : Stm}, x.ok g n → Pn (6 + 2 * n) (2000 * x.cnt - 1000) x.vl
  | n, .make x, h => by unfold Stm.ok at h; unfold Stm.vl Stm.cnt; exact (Pn.tup2 Pn.lit h.pn).mono (by omega) (by omega)
  | n, .wish x w, h => by unfold Stm.ok at h; unfold Stm.vl Stm.cnt; exact (Pn.tup3 Pn.lit h.1.pn h.2.pn).mono (by omega) (by omega)
  | n, .keep x, h => by unfold Stm.ok at h; unfold Stm.vl Stm.cnt; exact (Pn.tup2 Pn.lit h.pn).mono (by omega) (by omega)
  | n, .name x y, h => by unfold Stm.ok at h; unfold Stm.vl Stm.cnt; exact (Pn.tup3 Pn.lit h.1.pn h.2.pn).mono (by omega) (by omega)
  | n, .drop x, h => by unfold Stm.ok at h; unfold Stm.vl Stm.cnt; exact (Pn.tup2 Pn.lit h.pn).mono (by omega) (by omega)
  | n, .hold x f y, h => by unfold Stm.ok at h; unfold Stm.vl Stm.cnt; exact (Pn.tup4 Pn.lit h.1.pn h.2.1.pn h.2.2.pn).mono (by omega) (by omega)
  | n, .weak x f y, h => by unfold Stm.ok at h; unfold Stm.vl Stm.cnt; exact (Pn.tup4 Pn.lit h.1.pn h.2.1.pn h.2.2.pn).mono (by omega) (by omega)
  | n, .cut x f, h => by unfold Stm.ok at h; unfold Stm.vl Stm.cnt; exact (Pn.tup3 Pn.lit h.1.pn h.2.pn).mono (by omega) (by omega)
  | n, .take z x f, h => by unfold Stm.ok at h; unfold Stm.vl Stm.cnt; exact (Pn.tup4 Pn.lit h.1.pn h.2.1.pn h.2.2.pn).mono (by omega) (by omega)
  | n, .say w, h => by unfold Stm.ok at h; unfold Stm.vl Stm.cnt; exact (Pn.tup2 Pn.lit h.pn).mono (by omega) (by omega)
  | n, .ask t, h => by
    unfold Stm.ok at h; unfold Stm.vl Stm.cnt
    exact (Pn.tup2 (Pn.mono Pn.lit (show 1 ≤ 5 by omega) (Nat.le_refl _)) (Tst.pn hg h)).mono (by omega) (by omega)
  | n, .ife t a b, h => by
    unfold Stm.ok at h; unfold Stm.vl Stm.cnt
    have h1 := Stm.pns hg h.2.2.1
    have h2 := Stm.pns hg h.2.2.2
    have h3 := Tst.pn hg h.2.1
    have e : 6 + 2 * (n - 1) + 1 = 5 + 2 * n := by omega
    rw [e] at h1 h2
    exact (Pn.tup4 (Pn.mono Pn.lit (show 1 ≤ 5 + 2 * n by omega) (Nat.le_refl _)) (h3.mono (by omega) (Nat.le_refl _)) h1 h2).mono (by omega) (by omega)
  | n, .rep k b, h => by
    unfold Stm.ok at h; unfold Stm.vl Stm.cnt
    have h1 := Stm.pns hg h.2.2
    have e : 6 + 2 * (n - 1) + 1 = 5 + 2 * n := by omega
    rw [e] at h1
    exact (Pn.tup3 (Pn.mono Pn.lit (show 1 ≤ 5 + 2 * n by omega) (Nat.le_refl _)) ((Pn.int (by have := h.2.1; omega)).mono (show 1 ≤ 5 + 2 * n by omega) (Nat.le_refl _)) h1).mono (by omega) (by omega)
theorem Stm.pns {g : Nat} (hg : g ≤ 100) : ∀ {n : Nat} {xs : List Stm}, Stm.oks g n xs → Pn (6 + 2 * n + 1) (2000 * Stm.cnts xs) (.tup (Stm.vls xs))
  | n, xs, h => Pn.listS (Stm.pnw hg h)
theorem Stm.pnw {g : Nat} (hg : g ≤ 100) : ∀ {n : Nat} {xs : List Stm}, Stm.oks g n xs → ∃ ws : List Nat, ws.length = (Stm.vls xs).length ∧ (∀ (i : Nat) (x : Vl) (v : Nat), (Stm.vls xs)[i]? = some x → ws[i]? = some v → Pn (6 + 2 * n) v x) ∧ (ws.map (· + 1)).sum ≤ 2000 * Stm.cnts xs
  | n, [], _ => ⟨[], rfl, fun i x v h => by simp [Stm.vls] at h, by simp⟩
  | n, x :: xs, h => by
    have h1 := Stm.pn hg h.1
    obtain ⟨ws, a, b, c⟩ := Stm.pnw hg h.2
    have hc : 1 ≤ x.cnt := by cases x <;> unfold Stm.cnt <;> omega
    refine ⟨(2000 * x.cnt - 1000) :: ws, by simp [Stm.vls, a], fun i y v e1 e2 => ?_, ?_⟩
    · cases i with
      | zero => simp [Stm.vls] at e1 e2; subst e1 e2; exact h1
      | succ i => simp [Stm.vls] at e1 e2; exact b i y v e1 e2
    · simp only [List.map_cons, List.sum_cons, Stm.cnts]
      omega
end
end Sm

/-! S32: slices of lists -/
namespace Sm
open PySem L2
theorem cutL_from {α : Type} {xs : List α} {n : Nat} : cutL xs (some (n : Int)) none = xs.drop n := by
  unfold cutL
  rw [HT.sIx_none, HT.sIx_nat]
  by_cases h : n ≤ xs.length
  · rw [Nat.min_eq_left h, List.take_of_length_le (by simp)]
  · rw [Nat.min_eq_right (by omega), Nat.sub_self, List.take_zero, List.drop_eq_nil_of_le (by omega)]
theorem cutL_mid {α : Type} {xs : List α} {n m : Nat} (h1 : n ≤ m) (h2 : m ≤ xs.length) : cutL xs (some (n : Int)) (some (m : Int)) = (xs.drop n).take (m - n) := by
  unfold cutL
  rw [HT.sIx_nat, HT.sIx_nat, Nat.min_eq_left h2, Nat.min_eq_left (by omega)]
theorem cutL_to {α : Type} {xs : List α} {n : Nat} : cutL xs none (some (n : Int)) = xs.take n := cutL_nat
end Sm

/-! S33: programs of cells: words, inner blocks, rows -/
namespace Sm
open PySem L2
def Stm.word : Stm → Str
  | .make _ => "make"
  | .wish _ _ => "wish"
  | .keep _ => "keep"
  | .name _ _ => "name"
  | .drop _ => "drop"
  | .hold _ _ _ => "hold"
  | .weak _ _ _ => "weak"
  | .cut _ _ => "cut"
  | .take _ _ _ => "take"
  | .say _ => "say"
  | .ask _ => "ask"
  | .ife _ _ _ => "if"
  | .rep _ _ => "repeat"
def blk (b : List Stm) : Vl := .tup (Stm.vls b)
def Stm.args : Stm → List Vl
  | .make x => [.str x]
  | .wish x w => [.str x, .str w]
  | .keep x => [.str x]
  | .name x y => [.str x, .str y]
  | .drop x => [.str x]
  | .hold x f y => [.str x, .str f, .str y]
  | .weak x f y => [.str x, .str f, .str y]
  | .cut x f => [.str x, .str f]
  | .take z x f => [.str z, .str x, .str f]
  | .say w => [.str w]
  | .ask t => [t.vl]
  | .ife t a b => [t.vl, blk a, blk b]
  | .rep k b => [.int (k : Nat), blk b]
/-- the blocks within a statement -/
def Stm.ins : Stm → List (List Stm)
  | .ife _ a b => [a, b]
  | .rep _ b => [b]
  | _ => []
theorem Stm.vl_eq (x : Stm) : x.vl = .tup (.str x.word :: x.args) := by
  cases x <;> simp [Stm.vl, Stm.word, Stm.args, blk]
theorem Stm.flat_eq (d : Nat) (x : Stm) : x.flat d = (d, x) :: x.ins.flatMap (Stm.flats (d + 1)) := by
  cases x <;> simp [Stm.flat, Stm.ins]
theorem Stm.ins_len (x : Stm) : x.ins.length ≤ 2 := by
  cases x <;> simp [Stm.ins]
theorem Stm.ok_ins {g n : Nat} {x : Stm} (h : x.ok g n) : ∀ b ∈ x.ins, 0 < n ∧ Stm.oks g (n - 1) b := by
  intro b hb
  cases x <;> simp [Stm.ins] at hb
  · unfold Stm.ok at h
    rcases hb with rfl | rfl
    · exact ⟨h.1, h.2.2.1⟩
    · exact ⟨h.1, h.2.2.2⟩
  · unfold Stm.ok at h
    subst hb
    exact ⟨h.1, h.2.2⟩
theorem Stm.cnt_ins (x : Stm) : x.cnt = 1 + (x.ins.map Stm.cnts).sum := by
  cases x <;> simp [Stm.ins, Stm.cnt] <;> omega
theorem Stm.cnt_in {x : Stm} : ∀ b ∈ x.ins, Stm.cnts b < x.cnt := by
  intro b hb
  cases x <;> simp [Stm.ins] at hb
  · rcases hb with rfl | rfl <;> simp [Stm.cnt] <;> omega
  · subst hb
    simp [Stm.cnt]
theorem Stm.cnts_mem {b : List Stm} : ∀ x ∈ b, x.cnt ≤ Stm.cnts b := by
  induction b with
  | nil => intro x hx; simp at hx
  | cons y b ih =>
    intro x hx
    simp only [Stm.cnts]
    rcases List.mem_cons.mp hx with rfl | hx
    · omega
    · have := ih x hx; omega
theorem Stm.cnts_take {b : List Stm} {i : Nat} : Stm.cnts (b.take i) ≤ Stm.cnts b := by
  have := Stm.cnts_app (b.take i) (b.drop i)
  rw [List.take_append_drop] at this
  omega
mutual
theorem Stm.flat_len : ∀ (d : Nat) (x : Stm), (x.flat d).length = x.cnt
  | d, .make x => rfl
  | d, .wish x w => rfl
  | d, .keep x => rfl
  | d, .name x y => rfl
  | d, .drop x => rfl
  | d, .hold x f y => rfl
  | d, .weak x f y => rfl
  | d, .cut x f => rfl
  | d, .take z x f => rfl
  | d, .say w => rfl
  | d, .ask t => rfl
  | d, .ife t a b => by
    have h1 := Stm.flats_len (d + 1) a
    have h2 := Stm.flats_len (d + 1) b
    simp only [Stm.flat, Stm.cnt, List.length_cons, List.length_append, h1, h2]
    omega
  | d, .rep k b => by
    have h1 := Stm.flats_len (d + 1) b
    simp only [Stm.flat, Stm.cnt, List.length_cons, h1]
    omega
theorem Stm.flats_len : ∀ (d : Nat) (b : List Stm), (Stm.flats d b).length = Stm.cnts b
  | d, [] => rfl
  | d, x :: b => by
    have h1 := Stm.flat_len d x
    have h2 := Stm.flats_len d b
    simp only [Stm.flats, Stm.cnts, List.length_append, h1, h2]
end
mutual
theorem Stm.flat_ok {g : Nat} : ∀ {n : Nat} (d : Nat) {x : Stm}, x.ok g n → ∀ q ∈ x.flat d, q.2.ok g n ∧ q.2.cnt ≤ x.cnt
  | n, d, .make x, h, q, hq => by simp only [Stm.flat, List.mem_singleton] at hq; subst hq; exact ⟨h, Nat.le_refl _⟩
  | n, d, .wish x w, h, q, hq => by simp only [Stm.flat, List.mem_singleton] at hq; subst hq; exact ⟨h, Nat.le_refl _⟩
  | n, d, .keep x, h, q, hq => by simp only [Stm.flat, List.mem_singleton] at hq; subst hq; exact ⟨h, Nat.le_refl _⟩
  | n, d, .name x w, h, q, hq => by simp only [Stm.flat, List.mem_singleton] at hq; subst hq; exact ⟨h, Nat.le_refl _⟩
  | n, d, .drop x, h, q, hq => by simp only [Stm.flat, List.mem_singleton] at hq; subst hq; exact ⟨h, Nat.le_refl _⟩
  | n, d, .hold x f y, h, q, hq => by simp only [Stm.flat, List.mem_singleton] at hq; subst hq; exact ⟨h, Nat.le_refl _⟩
  | n, d, .weak x f y, h, q, hq => by simp only [Stm.flat, List.mem_singleton] at hq; subst hq; exact ⟨h, Nat.le_refl _⟩
  | n, d, .cut x f, h, q, hq => by simp only [Stm.flat, List.mem_singleton] at hq; subst hq; exact ⟨h, Nat.le_refl _⟩
  | n, d, .take z x f, h, q, hq => by simp only [Stm.flat, List.mem_singleton] at hq; subst hq; exact ⟨h, Nat.le_refl _⟩
  | n, d, .say w, h, q, hq => by simp only [Stm.flat, List.mem_singleton] at hq; subst hq; exact ⟨h, Nat.le_refl _⟩
  | n, d, .ask t, h, q, hq => by simp only [Stm.flat, List.mem_singleton] at hq; subst hq; exact ⟨h, Nat.le_refl _⟩
  | n, d, .ife t a b, h, q, hq => by
    have h0 := h
    unfold Stm.ok at h0
    simp only [Stm.flat, List.mem_cons, List.mem_append] at hq
    simp only [Stm.cnt]
    rcases hq with rfl | hq | hq
    · exact ⟨h, by simp [Stm.cnt]⟩
    · have := Stm.flats_ok (d + 1) h0.2.2.1 q hq
      exact ⟨this.1.mono (by omega), by omega⟩
    · have := Stm.flats_ok (d + 1) h0.2.2.2 q hq
      exact ⟨this.1.mono (by omega), by omega⟩
  | n, d, .rep k b, h, q, hq => by
    have h0 := h
    unfold Stm.ok at h0
    simp only [Stm.flat, List.mem_cons] at hq
    simp only [Stm.cnt]
    rcases hq with rfl | hq
    · exact ⟨h, by simp [Stm.cnt]⟩
    · have := Stm.flats_ok (d + 1) h0.2.2 q hq
      exact ⟨this.1.mono (by omega), by omega⟩
theorem Stm.flats_ok {g : Nat} : ∀ {n : Nat} (d : Nat) {b : List Stm}, Stm.oks g n b → ∀ q ∈ Stm.flats d b, q.2.ok g n ∧ q.2.cnt ≤ Stm.cnts b
  | n, d, [], h, q, hq => by simp [Stm.flats] at hq
  | n, d, x :: b, h, q, hq => by
    simp only [Stm.flats, List.mem_append] at hq
    simp only [Stm.cnts]
    rcases hq with hq | hq
    · have := Stm.flat_ok d h.1 q hq
      exact ⟨this.1, by omega⟩
    · have := Stm.flats_ok d h.2 q hq
      exact ⟨this.1, by omega⟩
end
def rowD (q : Nat × Stm) : Vl := .tup [.int (q.1 : Nat), q.2.vl]
def rowS (q : Nat × Stm) : Vl := q.2.vl
theorem vls_get {b : List Stm} {i : Nat} {v : Vl} (h : (Stm.vls b)[i]? = some v) : ∃ x, b[i]? = some x ∧ v = x.vl := by
  rw [Stm.vls_map] at h
  exact get_map h
theorem vls_len {b : List Stm} : (Stm.vls b).length = b.length := by rw [Stm.vls_map, List.length_map]
end Sm

/-! S35: pure rules of S34 -/
namespace Sm
open PySem L2
section
variable {lo : Lo} {s : Sto} {QV : Vl → Sto → Prop} {E : Ex → Sto → Prop}
def fmtW (x : Vl) (P : Str → Prop) : Prop := match x with
  | .str y => y.length ≤ LIM ∧ P y
  | .int i => i.natAbs.log2 < 1920 ∧ P (Str.ofString (toString i))
  | _ => False
@[simp] theorem fmtW_str {y : Str} {P : Str → Prop} (h : y.length ≤ LIM) : fmtW (.str y) P = P y := by simp [fmtW, h]
@[simp] theorem fmtW_int {i : Int} {P : Str → Prop} (h : i.natAbs.log2 < 1920) : fmtW (.int i) P = P (Str.ofString (toString i)) := by simp [fmtW, h]
@[simp ↓] theorem WE_eFmt {m : EM} : WE (eFmt m lo) s QV E = WE (m lo) s (fun x s => fmtW x fun y => QV (.str y) s) E := by
  unfold eFmt
  rw [WE_bnd]
  refine WE_ext fun x s => ?_
  unfold fmtM
  cases x <;> try (simp only [WE_eq]; rfl)
  · rename_i i
    by_cases h : i.natAbs.log2 < 1920
    · simp only [WE_eq, if_pos h, fmtW, h, true_and]; rfl
    · simp only [WE_eq, if_neg h, fmtW, h, false_and]; rfl
  · rename_i y
    by_cases h : y.length ≤ LIM
    · simp only [WE_eq, if_pos h, fmtW, h, true_and]; rfl
    · simp only [WE_eq, if_neg h, fmtW, h, false_and]; rfl
def strW (x : Vl) (P : Str → Prop) : Prop := match x with
  | .str y => P y
  | _ => False
@[simp] theorem strW_str {y : Str} {P : Str → Prop} : strW (.str y) P = P y := rfl
theorem WE_jnd_nil {acc : Str} : WE (jnd [] acc lo) s QV E = QV (.str acc) s := by simp only [WE_eq]; rfl
theorem WE_jnd_cons {m : EM} {ms : List EM} {acc : Str} : WE (jnd (m :: ms) acc lo) s QV E = WE (m lo) s (fun x s => strW x fun y => (acc ++ y).length ≤ LIM ∧ WE (jnd ms (acc ++ y) lo) s QV E) E := by
  rw [jnd, WE_bnd]
  refine WE_ext fun x s => ?_
  cases x <;> try (simp only [WE_eq]; rfl)
  rename_i y
  by_cases h : (acc ++ y).length ≤ LIM
  · simp only [strW, h, true_and]
    rfl
  · simp only [strW, h, false_and, WE_eq, if_false]
    rfl
theorem WE_eJnd {ms : List EM} : WE (eJnd ms lo) s QV E = WE (jnd ms Str.empty lo) s QV E := rfl
@[simp ↓] theorem WE_eOrL {a b : EM} : WE (eOrL a b lo) s QV E = WE (a lo) s (fun x s => match lstOf x s with | some xs => if xs.isEmpty = true then WE (b lo) s QV E else QV x s | none => False) E := by
  unfold eOrL
  rw [WE_bnd]
  refine WE_ext fun x s => ?_
  simp only [WE_eq]
  unfold WE0
  cases h : lstOf x s with
  | none => simp only [h]
  | some xs =>
    by_cases q : xs.isEmpty = true
    · simp only [h, q, if_true]
    · simp only [h, q, if_false, Bool.false_eq_true]
@[simp] theorem lstOf_ref {j : Nat} {xs : List Vl} (h : s[j]? = some (.lst xs)) : lstOf (.ref j) s = some xs := by simp only [lstOf, h]
@[simp] theorem oSplit0_str {a : Str} (h : a.length + 2 ≤ LIM) : oSplit0 (.str a) [] s = some (.ref s.length, s ++ [.lst ((Txt.words a).map Vl.str)]) := by simp only [oSplit0, if_pos h]
@[simp] theorem oStrD_str {y : Str} : oStrD [.str y] s = some (.str y, s) := rfl
@[simp] theorem oStrD_int {i : Int} (h : i.natAbs.log2 < 1920) : oStrD [.int i] s = some (.str (Str.ofString (toString i)), s) := by simp only [oStrD, if_pos h]
/-- str of a plain tuple -/
theorem Pn.strD {n w : Nat} {xs : List Vl} (h : Pn n w (.tup xs)) (hn : n ≤ 40) (hw : w ≤ 2 ^ 20) : ∃ x, ∀ s, oStrD [.tup xs] s = some (.str x, s) := by
  obtain ⟨x, hx⟩ := h.repr hn hw
  refine ⟨x, fun s => ?_⟩
  have := hx s
  simp only [oRepr] at this
  simp only [oStrD]
  exact this
end
end Sm

/-! S36: programs of cells whose names and words are of a kind -/
namespace Sm
open PySem L2
section
variable (N W : Str → Prop)
def Tst.sat : Tst → Prop
  | .given _ => True
  | .set x => N x
  | .same x y => N x ∧ N y
  | .full x f => N x ∧ N f
  | .wished w => W w
  | .not t => t.sat
mutual
def Stm.sat : Stm → Prop
  | .make x => N x
  | .wish x w => N x ∧ W w
  | .keep x => N x
  | .name x y => N x ∧ N y
  | .drop x => N x
  | .hold x f y => N x ∧ N f ∧ N y
  | .weak x f y => N x ∧ N f ∧ N y
  | .cut x f => N x ∧ N f
  | .take z x f => N z ∧ N x ∧ N f
  | .say w => W w
  | .ask t => t.sat N W
  | .ife t a b => t.sat N W ∧ Stm.sats a ∧ Stm.sats b
  | .rep _ b => Stm.sats b
def Stm.sats : List Stm → Prop
  | [] => True
  | x :: xs => x.sat ∧ Stm.sats xs
end
end
theorem Stm.sats_app {N W : Str → Prop} : ∀ {xs ys : List Stm}, Stm.sats N W (xs ++ ys) ↔ Stm.sats N W xs ∧ Stm.sats N W ys
  | [], ys => by simp [Stm.sats]
  | x :: xs, ys => by simp only [List.cons_append, Stm.sats, Stm.sats_app (xs := xs) (ys := ys), and_assoc]
end Sm

/-! S37: the texts of tests, statements and blocks -/
namespace Sm
open PySem L2
def nums (i : Nat) : Str := Str.ofString (toString ((i : Nat) : Int))
def Tst.txt : Tst → Str
  | .given i => "given " ++ nums i
  | .set x => "set " ++ x
  | .same x y => x ++ " is " ++ y
  | .full x f => "full " ++ x ++ "." ++ f
  | .wished w => "wished " ++ w
  | .not t => "not " ++ t.txt
def Stm.line : Stm → Str
  | .make x => "make " ++ x
  | .wish x w => "wish " ++ x ++ " " ++ w
  | .keep x => "keep " ++ x
  | .name x y => x ++ " = " ++ y
  | .drop x => "drop " ++ x
  | .hold x f y => x ++ "." ++ f ++ " = " ++ y
  | .weak x f y => x ++ "." ++ f ++ " ~ " ++ y
  | .cut x f => "cut " ++ x ++ "." ++ f
  | .take z x f => z ++ " = " ++ x ++ "." ++ f
  | .say w => "say " ++ w
  | .ask t => "ask " ++ t.txt
  | .ife t _ _ => "if " ++ t.txt
  | .rep k _ => "repeat " ++ nums k
mutual
/-- the lines of a statement -/
def Stm.lines (a : Str) : Stm → List Str
  | .ife t x y => (a ++ (Stm.ife t x y).line) :: ((match Stm.liness (a ++ "  ") x with | [] => [a ++ "  pass"] | ls => ls) ++ (match Stm.liness (a ++ "  ") y with | [] => [] | ls => (a ++ "else") :: ls))
  | .rep k x => (a ++ (Stm.rep k x).line) :: (match Stm.liness (a ++ "  ") x with | [] => [a ++ "  pass"] | ls => ls)
  | x => [a ++ x.line]
def Stm.liness (a : Str) : List Stm → List Str
  | [] => []
  | x :: xs => x.lines a ++ Stm.liness a xs
end
end Sm

/-! S38: values that can be laid out (==); short loops unrolled; lines -/
namespace Sm
open PySem L2
def La (n : Nat) (v : Vl) : Prop := ∃ d : PyData, (∀ s m, n ≤ m → toD m s v = some d) ∧ d.canLay0 = true
theorem La.mono {n m : Nat} {v : Vl} (h : La n v) (h1 : n ≤ m) : La m v := by
  obtain ⟨d, a, b⟩ := h
  exact ⟨d, fun s k hk => a s k (Nat.le_trans h1 hk), b⟩
theorem La.int {i : Int} : La 1 (.int i) := by
  refine ⟨.int i, fun s m hm => ?_, rfl⟩
  obtain ⟨m, rfl⟩ : ∃ k, m = k + 1 := ⟨m - 1, by omega⟩
  rfl
theorem La.str {x : Str} (h : PyData.strOk x = true) : La 1 (.str x) := by
  refine ⟨.str x, fun s m hm => ?_, h⟩
  obtain ⟨m, rfl⟩ : ∃ k, m = k + 1 := ⟨m - 1, by omega⟩
  rfl
theorem La.lit {x : Str} (h : (x.cps.toList.all fun c => decide (c < 128)) = true := by decide) : La 1 (.str x) := La.str (by
  unfold PyData.strOk
  rw [← Array.all_toList, List.all_eq_true]
  intro c hc
  have := of_decide_eq_true (List.all_eq_true.mp h c hc)
  exact decide_eq_true (by omega))
theorem Nice.la {x : Str} (h : Nice x) : La 1 (.str x) := La.str h.strOk
theorem La.all {n : Nat} : ∀ {xs : List Vl}, (∀ x ∈ xs, La n x) → ∃ ds : List PyData, (∀ s m, n ≤ m → mapO (toD m s) xs = some ds) ∧ PyData.canLayAll0 ds = true
  | [], _ => ⟨[], fun _ _ _ => rfl, rfl⟩
  | x :: xs, h => by
    obtain ⟨d, a, b⟩ := h x (List.mem_cons_self ..)
    obtain ⟨ds, a', b'⟩ := La.all fun y hy => h y (List.mem_cons_of_mem _ hy)
    refine ⟨d :: ds, fun s m hm => ?_, ?_⟩
    · simp only [mapO, a s m hm, a' s m hm]
    · simp only [PyData.canLayAll0, b, b', Bool.and_self]
theorem La.tup {n : Nat} {xs : List Vl} (h : ∀ x ∈ xs, La n x) : La (n + 1) (.tup xs) := by
  obtain ⟨ds, a, b⟩ := La.all h
  refine ⟨.tuple ds, fun s m hm => ?_, ?_⟩
  · obtain ⟨m, rfl⟩ : ∃ k, m = k + 1 := ⟨m - 1, by omega⟩
    simp only [toD, a s m (by omega), Option.map]
  · simpa only [PyData.canLay0] using b
theorem La.tup2 {n : Nat} {a b : Vl} (h1 : La n a) (h2 : La n b) : La (n + 1) (.tup [a, b]) := La.tup fun x hx => by
  simp at hx; rcases hx with rfl | rfl <;> assumption
theorem La.tup3 {n : Nat} {a b c : Vl} (h1 : La n a) (h2 : La n b) (h3 : La n c) : La (n + 1) (.tup [a, b, c]) := La.tup fun x hx => by
  simp at hx; rcases hx with rfl | rfl | rfl <;> assumption
theorem La.tup4 {n : Nat} {a b c d : Vl} (h1 : La n a) (h2 : La n b) (h3 : La n c) (h4 : La n d) : La (n + 1) (.tup [a, b, c, d]) := La.tup fun x hx => by
  simp at hx; rcases hx with rfl | rfl | rfl | rfl <;> assumption
theorem isEmpty_map0 {xs : List Vl} {ds : List PyData} {f : Vl → Option PyData} (h : mapO f xs = some ds) : ds.isEmpty = xs.isEmpty := by
  cases xs with
  | nil => cases h; rfl
  | cons x xs =>
    unfold mapO at h
    cases q : f x with
    | none => simp only [q] at h; cases h
    | some d =>
      simp only [q] at h
      cases q2 : mapO f xs with
      | none => simp only [q2] at h; cases h
      | some r => simp only [q2] at h; cases h; rfl
theorem eqM_tup0 {s : Sto} {n : Nat} {xs : List Vl} (h : ∀ x ∈ xs, La n x) (hn : n ≤ 39) : eqM (.tup xs) (.tup []) s = some xs.isEmpty := by
  obtain ⟨ds, a, b⟩ := La.all h
  have a := a s 39 hn
  have e1 : toD 40 s (.tup xs) = some (.tuple ds) := by unfold toD; simp only [a, Option.map]
  have e2 : toD 40 s (.tup []) = some (.tuple []) := rfl
  have e3 : PyData.canLay0 (.tuple ds) = true := by simpa only [PyData.canLay0] using b
  have e4 : PyData.canLay0 (.tuple []) = true := rfl
  simp only [eqM, eqS, e1, e2, e3, e4, Bool.and_self, if_true, PyData.eqv]
  rw [← isEmpty_map0 a]
  cases ds <;> simp [PyData.eqvAll]
theorem opEq_tup0 {s : Sto} {n : Nat} {xs : List Vl} (h : ∀ x ∈ xs, La n x) (hn : n ≤ 39) : opEq (.tup xs) (.tup []) s = some (.bl xs.isEmpty, s) := by
  simp only [opEq, eqM_tup0 h hn]
theorem opNe_tup0 {s : Sto} {n : Nat} {xs : List Vl} (h : ∀ x ∈ xs, La n x) (hn : n ≤ 39) : opNe (.tup xs) (.tup []) s = some (.bl (!xs.isEmpty), s) := by
  simp only [opNe, eqM_tup0 h hn]
theorem eqM_lst0 {s : Sto} {n a b : Nat} {xs : List Vl} (h1 : s[a]? = some (.lst xs)) (h2 : s[b]? = some (.lst [])) (h : ∀ x ∈ xs, La n x) (hn : n ≤ 39) : eqM (.ref a) (.ref b) s = some xs.isEmpty := by
  obtain ⟨ds, q, r⟩ := La.all h
  exact eqM_lstN h1 h2 (q s 39 hn) r
theorem opEq_lst0 {s : Sto} {n a b : Nat} {xs : List Vl} (h1 : s[a]? = some (.lst xs)) (h2 : s[b]? = some (.lst [])) (h : ∀ x ∈ xs, La n x) (hn : n ≤ 39) : opEq (.ref a) (.ref b) s = some (.bl xs.isEmpty, s) := by
  simp only [opEq, eqM_lst0 h1 h2 h hn]
theorem opNe_lst0 {s : Sto} {n a b : Nat} {xs : List Vl} (h1 : s[a]? = some (.lst xs)) (h2 : s[b]? = some (.lst [])) (h : ∀ x ∈ xs, La n x) (hn : n ≤ 39) : opNe (.ref a) (.ref b) s = some (.bl (!xs.isEmpty), s) := by
  simp only [opNe, eqM_lst0 h1 h2 h hn]
theorem Tst.la {g : Nat} : ∀ {n : Nat} {t : Tst}, t.ok g n → La (2 + n) t.vl
  | n, .given i, h => (La.tup2 La.lit La.int).mono (by omega)
  | n, .set x, h => by
    have h : Nice x := by cases n <;> exact h
    exact (La.tup2 La.lit h.la).mono (by omega)
  | n, .same x y, h => by
    have h : Nice x ∧ Nice y := by cases n <;> exact h
    exact (La.tup3 La.lit h.1.la h.2.la).mono (by omega)
  | n, .full x y, h => by
    have h : Nice x ∧ Nice y := by cases n <;> exact h
    exact (La.tup3 La.lit h.1.la h.2.la).mono (by omega)
  | n, .wished x, h => by
    have h : Nice x := by cases n <;> exact h
    exact (La.tup2 La.lit h.la).mono (by omega)
  | n + 1, .not t, h => by
    have ih := Tst.la (n := n) (t := t) h
    exact (La.tup2 (La.mono La.lit (by omega)) ih).mono (by omega)
  | 0, .not t, h => h.elim
mutual
theorem Stm.la {g : Nat} : ∀ {n : Nat} {x : Stm}, x.ok g n → La (6 + 2 * n) x.vl
  | n, .make x, h => by unfold Stm.ok at h; unfold Stm.vl; exact (La.tup2 La.lit h.la).mono (by omega)
  | n, .wish x w, h => by unfold Stm.ok at h; unfold Stm.vl; exact (La.tup3 La.lit h.1.la h.2.la).mono (by omega)
  | n, .keep x, h => by unfold Stm.ok at h; unfold Stm.vl; exact (La.tup2 La.lit h.la).mono (by omega)
  | n, .name x y, h => by unfold Stm.ok at h; unfold Stm.vl; exact (La.tup3 La.lit h.1.la h.2.la).mono (by omega)
  | n, .drop x, h => by unfold Stm.ok at h; unfold Stm.vl; exact (La.tup2 La.lit h.la).mono (by omega)
  | n, .hold x f y, h => by unfold Stm.ok at h; unfold Stm.vl; exact (La.tup4 La.lit h.1.la h.2.1.la h.2.2.la).mono (by omega)
  | n, .weak x f y, h => by unfold Stm.ok at h; unfold Stm.vl; exact (La.tup4 La.lit h.1.la h.2.1.la h.2.2.la).mono (by omega)
  | n, .cut x f, h => by unfold Stm.ok at h; unfold Stm.vl; exact (La.tup3 La.lit h.1.la h.2.la).mono (by omega)
  | n, .take z x f, h => by unfold Stm.ok at h; unfold Stm.vl; exact (La.tup4 La.lit h.1.la h.2.1.la h.2.2.la).mono (by omega)
  | n, .say w, h => by unfold Stm.ok at h; unfold Stm.vl; exact (La.tup2 La.lit h.la).mono (by omega)
  | n, .ask t, h => by
    unfold Stm.ok at h; unfold Stm.vl
    exact (La.tup2 (La.mono La.lit (show 1 ≤ 5 by omega)) (Tst.la h)).mono (by omega)
  | n, .ife t a b, h => by
    unfold Stm.ok at h; unfold Stm.vl
    have h1 : La (6 + 2 * (n - 1) + 1) (.tup (Stm.vls a)) := La.tup (Stm.lam h.2.2.1)
    have h2 : La (6 + 2 * (n - 1) + 1) (.tup (Stm.vls b)) := La.tup (Stm.lam h.2.2.2)
    have h3 := Tst.la h.2.1
    have e : 6 + 2 * (n - 1) + 1 = 5 + 2 * n := by omega
    rw [e] at h1 h2
    exact (La.tup4 (La.mono La.lit (show 1 ≤ 5 + 2 * n by omega)) (h3.mono (by omega)) h1 h2).mono (by omega)
  | n, .rep k b, h => by
    unfold Stm.ok at h; unfold Stm.vl
    have h1 : La (6 + 2 * (n - 1) + 1) (.tup (Stm.vls b)) := La.tup (Stm.lam h.2.2)
    have e : 6 + 2 * (n - 1) + 1 = 5 + 2 * n := by omega
    rw [e] at h1
    exact (La.tup3 (La.mono La.lit (show 1 ≤ 5 + 2 * n by omega)) (La.int.mono (show 1 ≤ 5 + 2 * n by omega)) h1).mono (by omega)
theorem Stm.lam {g : Nat} : ∀ {n : Nat} {xs : List Stm}, Stm.oks g n xs → ∀ v ∈ Stm.vls xs, La (6 + 2 * n) v
  | n, [], _, v, hv => by simp [Stm.vls] at hv
  | n, x :: xs, h, v, hv => by
    simp only [Stm.vls, List.mem_cons] at hv
    rcases hv with rfl | hv
    · exact Stm.la h.1
    · exact Stm.lam h.2 v hv
end
theorem Stm.las {g n : Nat} {xs : List Stm} (h : Stm.oks g n xs) : La (7 + 2 * n) (blk xs) := (La.tup (Stm.lam h)).mono (by omega)
/-! ### short loops -/
section
variable {s : Sto} {lo : Lo} {K : RK} {g : GM} {b : SM}
theorem WS_loopX_nil : WS (loopX g b []) lo s K = K.nx lo s := by simp only [WS_eq]; rfl
theorem WS_loopX_cons {v : Vl} {vs : List Vl} : WS (loopX g b (v :: vs)) lo s K = WG g v lo s (fun lo s => WS b lo s ⟨fun lo s => WS (loopX g b vs) lo s K, K.rt, K.nx, fun lo s => WS (loopX g b vs) lo s K, K.ex⟩) (fun e s => K.ex e lo s) := by
  simp only [WS_eq, WG_eq, WE_eq]
  unfold WS0 WE0
  have e : loopX g b (v :: vs) lo s = match g v lo s with | .ok lo' s' => (match b lo' s' with | .nx lo2 s2 => loopX g b vs lo2 s2 | .ct lo2 s2 => loopX g b vs lo2 s2 | .bk lo2 s2 => .nx lo2 s2 | .rt v s2 => .rt v s2 | .exc z lo2 s2 => .exc z lo2 s2 | .fail => .fail) | .exc z s' => .exc z lo s' | .fail => .fail := by
    conv => lhs; unfold loopX
    cases g v lo s with
    | fail => rfl
    | exc z s' => rfl
    | ok lo' s' => rfl
  rw [e]
  cases g v lo s with
  | fail => rfl
  | exc z s' => rfl
  | ok lo' s' =>
    simp only [WS_eq]
    cases b lo' s' <;> rfl
theorem WO_addS {x y : Str} {Q : Vl → Sto → Prop} : WO (opAdd (.str x) (.str y) s) Q = (x.length + y.length ≤ LIM ∧ Q (.str (x ++ y)) s) := by
  by_cases h : x.length + y.length ≤ LIM
  · rw [opAdd_str h, WO_some]; exact propext ⟨fun z => ⟨h, z⟩, fun z => z.2⟩
  · have : opAdd (.str x) (.str y) s = none := by simp only [opAdd, if_neg h]
    rw [this, WO_none]; exact propext ⟨fun z => z.elim, fun z => h z.1⟩
end
section
variable {s : Sto} {xs : List Vl} {x : Str} {i : Int} {k : Bool}
@[simp] theorem oIsi_tup_tuple : oIsi [.tup xs, .ty "tuple"] s = some (.bl true, s) := rfl
@[simp] theorem oIsi_tup_str : oIsi [.tup xs, .ty "str"] s = some (.bl false, s) := rfl
@[simp] theorem oIsi_tup_int : oIsi [.tup xs, .ty "int"] s = some (.bl false, s) := rfl
@[simp] theorem oIsi_tup_bool : oIsi [.tup xs, .ty "bool"] s = some (.bl false, s) := rfl
@[simp] theorem oIsi_tup_list : oIsi [.tup xs, .ty "list"] s = some (.bl false, s) := rfl
@[simp] theorem oIsi_tup_dict : oIsi [.tup xs, .ty "dict"] s = some (.bl false, s) := rfl
@[simp] theorem oIsi_str_tuple : oIsi [.str x, .ty "tuple"] s = some (.bl false, s) := rfl
@[simp] theorem oIsi_str_str : oIsi [.str x, .ty "str"] s = some (.bl true, s) := rfl
@[simp] theorem oIsi_str_int : oIsi [.str x, .ty "int"] s = some (.bl false, s) := rfl
@[simp] theorem oIsi_str_bool : oIsi [.str x, .ty "bool"] s = some (.bl false, s) := rfl
@[simp] theorem oIsi_str_list : oIsi [.str x, .ty "list"] s = some (.bl false, s) := rfl
@[simp] theorem oIsi_str_dict : oIsi [.str x, .ty "dict"] s = some (.bl false, s) := rfl
@[simp] theorem oIsi_int_tuple : oIsi [.int i, .ty "tuple"] s = some (.bl false, s) := rfl
@[simp] theorem oIsi_int_str : oIsi [.int i, .ty "str"] s = some (.bl false, s) := rfl
@[simp] theorem oIsi_int_int : oIsi [.int i, .ty "int"] s = some (.bl true, s) := rfl
@[simp] theorem oIsi_int_bool : oIsi [.int i, .ty "bool"] s = some (.bl false, s) := rfl
@[simp] theorem oIsi_int_list : oIsi [.int i, .ty "list"] s = some (.bl false, s) := rfl
@[simp] theorem oIsi_int_dict : oIsi [.int i, .ty "dict"] s = some (.bl false, s) := rfl
@[simp] theorem oIsi_bl_tuple : oIsi [.bl k, .ty "tuple"] s = some (.bl false, s) := rfl
@[simp] theorem oIsi_bl_str : oIsi [.bl k, .ty "str"] s = some (.bl false, s) := rfl
@[simp] theorem oIsi_bl_int : oIsi [.bl k, .ty "int"] s = some (.bl true, s) := rfl
@[simp] theorem oIsi_bl_bool : oIsi [.bl k, .ty "bool"] s = some (.bl true, s) := rfl
@[simp] theorem oIsi_bl_list : oIsi [.bl k, .ty "list"] s = some (.bl false, s) := rfl
@[simp] theorem oIsi_bl_dict : oIsi [.bl k, .ty "dict"] s = some (.bl false, s) := rfl
@[simp] theorem oIsi_non_tuple : oIsi [.non, .ty "tuple"] s = some (.bl false, s) := rfl
@[simp] theorem oIsi_non_str : oIsi [.non, .ty "str"] s = some (.bl false, s) := rfl
@[simp] theorem oIsi_non_int : oIsi [.non, .ty "int"] s = some (.bl false, s) := rfl
@[simp] theorem oIsi_non_bool : oIsi [.non, .ty "bool"] s = some (.bl false, s) := rfl
@[simp] theorem oIsi_non_list : oIsi [.non, .ty "list"] s = some (.bl false, s) := rfl
@[simp] theorem oIsi_non_dict : oIsi [.non, .ty "dict"] s = some (.bl false, s) := rfl
end
/-! ### lines -/
def padL (a : Str) (p : List Stm) : List Str := match Stm.liness (a ++ "  ") p with | [] => [a ++ "  pass"] | ls => ls
def elsL (a : Str) (p : List Stm) : List Str := match Stm.liness (a ++ "  ") p with | [] => [] | ls => (a ++ "else") :: ls
theorem Stm.lines_eq (a : Str) (x : Stm) : x.lines a = (a ++ x.line) :: (match x.ins with | [] => [] | [p] => padL a p | p :: q :: _ => padL a p ++ elsL a q) := by
  cases x
  case ife t p q => simp only [Stm.lines, Stm.ins, padL, elsL] <;> cases Stm.liness (a ++ "  ") p <;> cases Stm.liness (a ++ "  ") q <;> rfl
  case rep k p => simp only [Stm.lines, Stm.ins, padL, elsL] <;> cases Stm.liness (a ++ "  ") p <;> rfl
  all_goals simp [Stm.lines, Stm.ins]
theorem Stm.liness_app {a : Str} : ∀ xs ys : List Stm, Stm.liness a (xs ++ ys) = Stm.liness a xs ++ Stm.liness a ys
  | [], ys => by simp [Stm.liness]
  | x :: xs, ys => by simp only [List.cons_append, Stm.liness, Stm.liness_app xs ys, List.append_assoc]
theorem Stm.lines_ne {a : Str} {x : Stm} : x.lines a ≠ [] := by rw [Stm.lines_eq]; simp
theorem Stm.liness_nil {a : Str} {b : List Stm} : Stm.liness a b = [] ↔ b = [] := by
  cases b with
  | nil => simp [Stm.liness]
  | cons x b => simp [Stm.liness, Stm.lines_ne]
theorem padL_nil {a : Str} : padL a [] = [a ++ "  pass"] := by simp [padL, Stm.liness]
theorem padL_ne {a : Str} {p : List Stm} (h : p ≠ []) : padL a p = Stm.liness (a ++ "  ") p := by
  unfold padL
  cases q : Stm.liness (a ++ "  ") p with
  | nil => exact absurd (Stm.liness_nil.mp q) h
  | cons _ _ => rfl
theorem elsL_nil {a : Str} : elsL a [] = [] := by simp [elsL, Stm.liness]
theorem elsL_ne {a : Str} {p : List Stm} (h : p ≠ []) : elsL a p = (a ++ "else") :: Stm.liness (a ++ "  ") p := by
  unfold elsL
  cases q : Stm.liness (a ++ "  ") p with
  | nil => exact absurd (Stm.liness_nil.mp q) h
  | cons _ _ => rfl
end Sm

/-! S39: range(a, b), len of own objects; small helpers -/
namespace Sm
open PySem L2
section
variable {s : Sto} {lo : Lo} {QV : Vl → Sto → Prop} {QA : List Vl → Sto → Prop} {E : Ex → Sto → Prop}
def rng2W (xs : List Vl) (s : Sto) (QA : List Vl → Sto → Prop) : Prop := match xs with
  | [.int i, .int j] => (-(2 ^ 62) ≤ i ∧ i < 2 ^ 62 ∧ -(2 ^ 62) ≤ j ∧ j < 2 ^ 62) ∧ QA (rng i (j - i).toNat) s
  | _ => False
@[simp ↓] theorem WE_aRng2 {a : AM} : WE (aRng2 a lo) s QA E = WE (a lo) s (fun xs s => rng2W xs s QA) E := by
  unfold aRng2
  rw [WE_bnd]
  refine WE_ext fun xs s => ?_
  unfold rng2W
  split
  · rename_i i j
    by_cases h : -(2 ^ 62) ≤ i ∧ i < 2 ^ 62 ∧ -(2 ^ 62) ≤ j ∧ j < 2 ^ 62
    · rw [if_pos h]; simp only [h, and_self, true_and, WE_ret]
    · rw [if_neg h, WE_fail]
      exact (propext ⟨fun z => z.elim, fun z => absurd z.1 h⟩)
  · simp only [WE_eq]; rfl
theorem rng2W_int {i j : Int} (h1 : -1000000 ≤ i) (h2 : i ≤ 1000000) (h3 : -1000000 ≤ j) (h4 : j ≤ 1000000) : rng2W [.int i, .int j] s QA = QA (rng i (j - i).toNat) s := by
  unfold rng2W
  exact propext ⟨fun z => z.2, fun z => ⟨⟨by omega, by omega, by omega, by omega⟩, z⟩⟩
theorem WE_eLenO {tab : MTab} {o : EM} : WE (eLenO tab o lo) s QV E = WE (o lo) s (fun x s => match x with | .ref j => (match s[j]? with | some (.ins c fs) => (match tab c with | some mf => WE (mf [.ref j]) s (fun v s' => match v with | .int n => (0 ≤ n ∧ n < 2 ^ 62) ∧ QV (.int n) s' | _ => False) E | none => False) | _ => False) | _ => False) E := by
  unfold eLenO
  rw [WE_bnd]
  refine WE_ext fun x s => ?_
  cases x <;> try (simp only [WE_eq]; rfl)
  rename_i j
  simp only [WE_eq]
  unfold WE0
  dsimp only
  cases h : s[j]? with
  | none => rfl
  | some ob =>
    cases ob <;> try rfl
    rename_i c fs
    dsimp only
    cases h1 : tab c with
    | none => rfl
    | some mf =>
      dsimp only
      cases h2 : mf [.ref j] s with
      | fail => rfl
      | exc e s' => rfl
      | ok v s' =>
        cases v <;> try rfl
        rename_i n
        dsimp only
        by_cases q : 0 ≤ n ∧ n < 2 ^ 62
        · rw [if_pos q]; exact propext ⟨fun z => ⟨q, z⟩, fun z => z.2⟩
        · rw [if_neg q]; exact propext ⟨fun z => z.elim, fun z => q z.1⟩
end
theorem rng_get2 {a : Int} {n i : Nat} {v : Vl} (h : (rng a n)[i]? = some v) : i < n ∧ v = .int (a + (i : Nat)) := by
  have h1 := (List.getElem?_eq_some_iff.mp h).1
  have h2 : i < n := by simpa [rng] using h1
  refine ⟨h2, ?_⟩
  simp [rng, h2] at h
  exact h.symm
@[simp] theorem rng_len2 {a : Int} {n : Nat} : (rng a n).length = n := by simp [rng]
theorem rep_flat {α : Type} {x : α} {n : Nat} : (List.replicate n [x]).flatten = List.replicate n x := by
  induction n with
  | zero => rfl
  | succ n ih => rw [List.replicate_succ, List.flatten_cons, ih]; rfl
theorem opMul_one {s : Sto} {a : Nat} {x : Vl} {n : Nat} (h1 : s[a]? = some (.lst [x])) (hn : n ≤ 100000) : opMul (.ref a) (.int (n : Nat)) s = some (.ref s.length, s ++ [.lst (List.replicate n x)]) := by
  have := opMul_lst (i := (n : Nat)) h1 ⟨by omega, by omega, limB (by simp; omega)⟩
  rw [this]
  have e : ((n : Nat) : Int).toNat = n := by omega
  rw [e, rep_flat]
end Sm

/-! S40: what follows about cells that are there or gone; plain Lean -/
namespace Sm
/-- a story, as far as it matters: moments, cells at a moment, what a cell holds there, what is reached -/
structure Sy where
  N : Nat
  cnt : Nat → Nat
  held : Nat → Nat → List Nat
  rch : Nat → Nat → Prop
structure Sy.Ok (S : Sy) : Prop where
  mono : ∀ m m', m ≤ m' → m' < S.N → S.cnt m ≤ S.cnt m'
  hold : ∀ m c o, m < S.N → o ∈ S.held m c → c < S.cnt m ∧ o < S.cnt m
  rc : ∀ m c, m < S.N → S.rch m c → c < S.cnt m
  rcl : ∀ m c o, m < S.N → S.rch m c → o ∈ S.held m c → S.rch m o
/-- a schedule of n cells -/
structure Sy.Sched (S : Sy) (n : Nat) (τ : Nat → Nat) : Prop where
  rng : ∀ c, c < n → τ c = S.N ∨ (τ c < S.N ∧ c < S.cnt (τ c))
  rch : ∀ m c, m < S.N → S.rch m c → m < τ c
  hold : ∀ m c o, m < S.N → o ∈ S.held m c → τ o ≤ m → τ c ≤ m
/-- an answer: moment, cell, yes or no -/
def Agr (τ : Nat → Nat) (q : Nat × Nat × Bool) : Prop := if q.2.2 then τ q.2.1 ≤ q.1 else q.1 < τ q.2.1
/-- what is known -/
structure Sy.Kn (S : Sy) (n : Nat) (qs : List (Nat × Nat × Bool)) (L G : Nat → Int) : Prop where
  lo : ∀ c, c < n → -1 ≤ L c
  hi : ∀ c, c < n → G c ≤ S.N
  gpos : ∀ c, c < n → 0 ≤ G c
  gex : ∀ c, c < n → G c < S.N → c < S.cnt (G c).toNat
  rch : ∀ m c, m < S.N → S.rch m c → (m : Int) ≤ L c
  holdL : ∀ m c o, m < S.N → o ∈ S.held m c → (m : Int) ≤ L c → (m : Int) ≤ L o
  holdG : ∀ m c o, m < S.N → o ∈ S.held m c → G o ≤ m → G c ≤ m
  ans : ∀ q ∈ qs, if q.2.2 then G q.2.1 ≤ q.1 else (q.1 : Int) ≤ L q.2.1
  sndL : ∀ τ, S.Sched n τ → (∀ q ∈ qs, Agr τ q) → ∀ c, c < n → L c < τ c
  sndG : ∀ τ, S.Sched n τ → (∀ q ∈ qs, Agr τ q) → ∀ c, c < n → (τ c : Int) ≤ G c
/-- the first moment from k on at which a cell is -/
def Sy.fst (S : Sy) (c : Nat) (k : Nat) : Nat → Nat
  | 0 => S.N
  | f + 1 => if k < S.N then (if c < S.cnt k then k else S.fst c (k + 1) f) else S.N
theorem Sy.fst_spec (S : Sy) {c : Nat} : ∀ (f k : Nat), S.N ≤ k + f → (S.fst c k f = S.N ∨ (S.fst c k f < S.N ∧ c < S.cnt (S.fst c k f))) ∧ (k ≤ S.N → k ≤ S.fst c k f) ∧ (∀ m, k ≤ m → m < S.N → c < S.cnt m → S.fst c k f ≤ m)
  | 0, k, h => ⟨Or.inl rfl, fun z => z, fun m h1 h2 _ => by omega⟩
  | f + 1, k, h => by
    unfold Sy.fst
    by_cases q : k < S.N
    · rw [if_pos q]
      by_cases r : c < S.cnt k
      · rw [if_pos r]
        exact ⟨Or.inr ⟨q, r⟩, fun _ => Nat.le_refl _, fun m h1 _ _ => h1⟩
      · rw [if_neg r]
        obtain ⟨h1, h2, h3⟩ := Sy.fst_spec S (c := c) f (k + 1) (by omega)
        refine ⟨h1, fun _ => ?_, fun m q1 q2 q3 => ?_⟩
        · have := h2 (by omega)
          omega
        · have : m ≠ k := fun e => by subst e; exact r q3
          exact h3 m (by omega) q2 q3
    · rw [if_neg q]
      exact ⟨Or.inl rfl, fun z => z, fun m h1 h2 _ => by omega⟩
/-- the earliest schedule -/
def Sy.tmin (S : Sy) (L : Nat → Int) (c : Nat) : Nat := S.fst c (L c + 1).toNat S.N
section
variable {S : Sy} {n : Nat} {qs : List (Nat × Nat × Bool)} {L G : Nat → Int}
/-- all about one cell and a moment at which it is -/
theorem Sy.Kn.tmin (K : S.Kn n qs L G) (hn : ∀ m c, m < S.N → c < S.cnt m → c < n) {c : Nat} (hc : c < n) (sep : L c < G c) :
    (S.tmin L c = S.N ∨ (S.tmin L c < S.N ∧ c < S.cnt (S.tmin L c))) ∧ L c < S.tmin L c ∧ ∀ m, m < S.N → c < S.cnt m → L c < m → S.tmin L c ≤ m := by
  have lo := K.lo c hc
  have hi := K.hi c hc
  obtain ⟨h1, h2, h3⟩ := S.fst_spec (c := c) S.N (L c + 1).toNat (by omega)
  refine ⟨h1, ?_, fun m q1 q2 q3 => h3 m (by omega) q1 q2⟩
  have := h2 (by omega)
  unfold Sy.tmin
  omega
theorem Sy.Kn.schedL (ok : S.Ok) (K : S.Kn n qs L G) (hn : ∀ m c, m < S.N → c < S.cnt m → c < n) (hq : ∀ q ∈ qs, q.1 < S.N ∧ q.2.1 < S.cnt q.1) (sep : ∀ c, c < n → L c < G c) : S.Sched n (S.tmin L) ∧ ∀ q ∈ qs, Agr (S.tmin L) q := by
  refine ⟨⟨fun c hc => (K.tmin hn hc (sep c hc)).1, fun m c hm hr => ?_, fun m c o hm ho hle => ?_⟩, fun q hqm => ?_⟩
  · have hc := hn m c hm (ok.rc m c hm hr)
    have := (K.tmin hn hc (sep c hc)).2.1
    have := K.rch m c hm hr
    omega
  · obtain ⟨e1, e2⟩ := ok.hold m c o hm ho
    have hc := hn m c hm e1
    have hO := hn m o hm e2
    have h1 := (K.tmin hn hO (sep o hO)).2.1
    refine (K.tmin hn hc (sep c hc)).2.2 m hm e1 ?_
    rcases Int.lt_or_le (L c) (m : Int) with z | z
    · exact z
    · have := K.holdL m c o hm ho z
      omega
  · obtain ⟨h1, h2⟩ := hq q hqm
    have hc := hn _ _ h1 h2
    have ha := K.ans q hqm
    have hs := sep _ hc
    unfold Agr
    cases hb : q.2.2 with
    | true =>
      rw [hb] at ha
      simp only [if_true] at ha ⊢
      exact (K.tmin hn hc hs).2.2 _ h1 h2 (by omega)
    | false =>
      rw [hb] at ha
      simp only [Bool.false_eq_true, if_false] at ha ⊢
      have := (K.tmin hn hc hs).2.1
      omega
theorem Sy.Kn.schedG (ok : S.Ok) (K : S.Kn n qs L G) (hn : ∀ m c, m < S.N → c < S.cnt m → c < n) (hq : ∀ q ∈ qs, q.1 < S.N ∧ q.2.1 < S.cnt q.1) (sep : ∀ c, c < n → L c < G c) : S.Sched n (fun c => (G c).toNat) ∧ ∀ q ∈ qs, Agr (fun c => (G c).toNat) q := by
  refine ⟨⟨fun c hc => ?_, fun m c hm hr => ?_, fun m c o hm ho hle => ?_⟩, fun q hqm => ?_⟩
  · have h1 := K.hi c hc
    have h2 := K.gpos c hc
    rcases Int.lt_or_le (G c) (S.N : Int) with z | z
    · exact Or.inr ⟨by omega, K.gex c hc z⟩
    · exact Or.inl (by omega)
  · have hc := hn m c hm (ok.rc m c hm hr)
    have := K.rch m c hm hr
    have := sep c hc
    show m < (G c).toNat
    omega
  · obtain ⟨e1, e2⟩ := ok.hold m c o hm ho
    have hO := hn m o hm e2
    have := K.gpos o hO
    have hle : (G o).toNat ≤ m := hle
    have := K.holdG m c o hm ho (by omega)
    show (G c).toNat ≤ m
    omega
  · obtain ⟨h1, h2⟩ := hq q hqm
    have hc := hn _ _ h1 h2
    have ha := K.ans q hqm
    have hs := sep _ hc
    unfold Agr
    cases hb : q.2.2 with
    | true =>
      rw [hb] at ha
      simp only [if_true] at ha ⊢
      omega
    | false =>
      rw [hb] at ha
      simp only [Bool.false_eq_true, if_false] at ha ⊢
      omega
end
end Sm

/-! S41: work lists of what is there and of what is gone; plain Lean -/
namespace Sm
def fL (l : List Int) (c : Nat) : Int := (l[c]?).getD (-1)
def fG (N : Nat) (l : List Int) (c : Nat) : Int := (l[c]?).getD N
theorem fL_get {l : List Int} {c : Nat} {x : Int} (h : l[c]? = some x) : fL l c = x := by unfold fL; rw [h]; rfl
theorem fG_get {N : Nat} {l : List Int} {c : Nat} {x : Int} (h : l[c]? = some x) : fG N l c = x := by unfold fG; rw [h]; rfl
theorem fL_set {l : List Int} {c d : Nat} {x : Int} (h : c < l.length) : fL (l.set c x) d = if d = c then x else fL l d := by
  unfold fL
  by_cases e : d = c
  · subst e; rw [List.getElem?_set_self h, if_pos rfl]; rfl
  · rw [List.getElem?_set_ne (Ne.symm e), if_neg e]
theorem fG_set {N : Nat} {l : List Int} {c d : Nat} {x : Int} (h : c < l.length) : fG N (l.set c x) d = if d = c then x else fG N l d := by
  unfold fG
  by_cases e : d = c
  · subst e; rw [List.getElem?_set_self h, if_pos rfl]; rfl
  · rw [List.getElem?_set_ne (Ne.symm e), if_neg e]
/-- what is known to be there, P: what the schedules agree with -/
structure Sy.LK (S : Sy) (n : Nat) (P : (Nat → Nat) → Prop) (L : List Int) : Prop where
  len : L.length = n
  lo : ∀ x ∈ L, -1 ≤ x ∧ x < S.N
  hold : ∀ m c o, m < S.N → o ∈ S.held m c → (m : Int) ≤ fL L c → (m : Int) ≤ fL L o
  snd : ∀ τ, S.Sched n τ → P τ → ∀ c, c < n → fL L c < τ c
/-- amid the work -/
structure Sy.LW (S : Sy) (n : Nat) (P : (Nat → Nat) → Prop) (L0 : List Int) (c0 m0 : Nat) (L : List Int) (w : List (Nat × Nat)) : Prop where
  len : L.length = n
  lo : ∀ x ∈ L, -1 ≤ x ∧ x < S.N
  up : ∀ c, fL L0 c ≤ fL L c
  hold : ∀ m c o, m < S.N → o ∈ S.held m c → (m : Int) ≤ fL L c → (m : Int) ≤ fL L o ∨ ∃ m', (o, m') ∈ w ∧ m ≤ m'
  snd : ∀ τ, S.Sched n τ → P τ → (∀ c, c < n → fL L c < τ c) ∧ ∀ q ∈ w, q.2 < τ q.1
  aim : (m0 : Int) ≤ fL L c0 ∨ ∃ m', (c0, m') ∈ w ∧ m0 ≤ m'
  ex : ∀ q ∈ w, q.2 < S.N ∧ q.1 < S.cnt q.2
section
variable {S : Sy} {n : Nat} {P P' : (Nat → Nat) → Prop} {L0 L : List Int} {c0 m0 c m : Nat} {w : List (Nat × Nat)}
theorem Sy.LK.start (K : S.LK n P L) (hp : ∀ τ, P' τ → P τ) (hq : ∀ τ, S.Sched n τ → P' τ → m0 < τ c0) (hm : m0 < S.N) (hc : c0 < S.cnt m0) : S.LW n P' L c0 m0 L [(c0, m0)] :=
  ⟨K.len, K.lo, fun _ => Int.le_refl _, fun m c o h1 h2 h3 => Or.inl (K.hold m c o h1 h2 h3), fun τ h1 h2 => ⟨K.snd τ h1 (hp τ h2), fun q hqm => by simp at hqm; subst hqm; exact hq τ h1 h2⟩, Or.inr ⟨m0, by simp, Nat.le_refl _⟩, fun q hqm => by simp at hqm; subst hqm; exact ⟨hm, hc⟩⟩
theorem Sy.LW.done (K : S.LW n P L0 c0 m0 L []) : S.LK n P L ∧ (∀ c, fL L0 c ≤ fL L c) ∧ (m0 : Int) ≤ fL L c0 := by
  refine ⟨⟨K.len, K.lo, fun m c o h1 h2 h3 => ?_, fun τ h1 h2 => (K.snd τ h1 h2).1⟩, K.up, ?_⟩
  · rcases K.hold m c o h1 h2 h3 with h | ⟨m', h, _⟩
    · exact h
    · simp at h
  · rcases K.aim with h | ⟨m', h, _⟩
    · exact h
    · simp at h
theorem Sy.LW.skip (K : S.LW n P L0 c0 m0 L (w ++ [(c, m)])) (h : (m : Int) ≤ fL L c) : S.LW n P L0 c0 m0 L w := by
  refine ⟨K.len, K.lo, K.up, fun m1 c1 o h1 h2 h3 => ?_, fun τ h1 h2 => ⟨(K.snd τ h1 h2).1, fun q hq => (K.snd τ h1 h2).2 q (List.mem_append_left _ hq)⟩, ?_, fun q hq => K.ex q (List.mem_append_left _ hq)⟩
  · rcases K.hold m1 c1 o h1 h2 h3 with z | ⟨m', z1, z2⟩
    · exact Or.inl z
    · rcases List.mem_append.mp z1 with z1 | z1
      · exact Or.inr ⟨m', z1, z2⟩
      · simp at z1
        obtain ⟨rfl, rfl⟩ := z1
        exact Or.inl (by omega)
  · rcases K.aim with z | ⟨m', z1, z2⟩
    · exact Or.inl z
    · rcases List.mem_append.mp z1 with z1 | z1
      · exact Or.inr ⟨m', z1, z2⟩
      · simp at z1
        obtain ⟨rfl, rfl⟩ := z1
        exact Or.inl (by omega)
theorem Sy.LW.push (ok : S.Ok) (K : S.LW n P L0 c0 m0 L (w ++ [(c, m)])) {x : Int} (hx : L[c]? = some x) (h : x < m) {ns : List (Nat × Nat)} (hns : ∀ q ∈ ns, x < q.2 ∧ q.2 ≤ m ∧ q.1 ∈ S.held q.2 c) (hall : ∀ (o k : Nat), x < k → k ≤ m → o ∈ S.held k c → (o, k) ∈ ns) : S.LW n P L0 c0 m0 (L.set c m) (w ++ ns) := by
  have hc := (List.getElem?_eq_some_iff.mp hx).1
  have hxf := fL_get hx
  have hcn : c < n := by rw [← K.len]; exact hc
  have exm := K.ex (c, m) (by simp)
  have le : ∀ d, fL L d ≤ fL (L.set c m) d := fun d => by
    rw [fL_set hc]
    by_cases e : d = c
    · subst e; rw [if_pos rfl]; omega
    · rw [if_neg e]; omega
  refine ⟨by simpa using K.len, fun y hy => ?_, fun d => Int.le_trans (K.up d) (le d), fun m1 c1 o h1 h2 h3 => ?_, fun τ h1 h2 => ?_, ?_, fun q hq => ?_⟩
  · rcases List.mem_or_eq_of_mem_set hy with z | rfl
    · exact K.lo y z
    · have := exm.1
      simp at this
      omega
  · have fin : (m1 : Int) ≤ fL L o ∨ (∃ m', (o, m') ∈ w ++ [(c, m)] ∧ m1 ≤ m') → (m1 : Int) ≤ fL (L.set c m) o ∨ ∃ m', (o, m') ∈ w ++ ns ∧ m1 ≤ m' := fun z => by
      rcases z with z | ⟨m', z1, z2⟩
      · exact Or.inl (Int.le_trans z (le o))
      · rcases List.mem_append.mp z1 with z1 | z1
        · exact Or.inr ⟨m', List.mem_append_left _ z1, z2⟩
        · simp at z1
          obtain ⟨rfl, rfl⟩ := z1
          refine Or.inl ?_
          rw [fL_set hc, if_pos rfl]
          omega
    rw [fL_set hc] at h3
    by_cases e : c1 = c
    · subst e
      rw [if_pos rfl] at h3
      rcases Int.lt_or_le x (m1 : Int) with z | z
      · exact Or.inr ⟨m1, List.mem_append_right _ (hall o m1 z (by omega) h2), Nat.le_refl _⟩
      · exact fin (K.hold m1 c1 o h1 h2 (by omega))
    · rw [if_neg e] at h3
      exact fin (K.hold m1 c1 o h1 h2 h3)
  · obtain ⟨q1, q2⟩ := K.snd τ h1 h2
    have q3 := q2 (c, m) (by simp)
    refine ⟨fun d hd => ?_, fun q hq => ?_⟩
    · rw [fL_set hc]
      by_cases e : d = c
      · subst e; rw [if_pos rfl]
        simp at q3
        omega
      · rw [if_neg e]; exact q1 d hd
    · rcases List.mem_append.mp hq with z | z
      · exact q2 q (List.mem_append_left _ z)
      · obtain ⟨a1, a2, a3⟩ := hns q z
        simp at q3
        rcases Nat.lt_or_ge q.2 (τ q.1) with r | r
        · exact r
        · have := h1.hold q.2 c q.1 (by have := exm.1; simp at this; omega) a3 r
          omega
  · rcases K.aim with z | ⟨m', z1, z2⟩
    · exact Or.inl (Int.le_trans z (le _))
    · rcases List.mem_append.mp z1 with z1 | z1
      · exact Or.inr ⟨m', List.mem_append_left _ z1, z2⟩
      · simp at z1
        obtain ⟨rfl, rfl⟩ := z1
        refine Or.inl ?_
        rw [fL_set hc, if_pos rfl]
        omega
  · rcases List.mem_append.mp hq with z | z
    · exact K.ex q (List.mem_append_left _ z)
    · obtain ⟨a1, a2, a3⟩ := hns q z
      have := exm.1
      simp at this
      exact ⟨by omega, (ok.hold _ _ _ (by omega) a3).2⟩
end
/-- what is known to be gone -/
structure Sy.GK (S : Sy) (n : Nat) (P : (Nat → Nat) → Prop) (G : List Int) : Prop where
  len : G.length = n
  lo : ∀ x ∈ G, 0 ≤ x ∧ x ≤ S.N
  ex : ∀ c, c < n → fG S.N G c < S.N → c < S.cnt (fG S.N G c).toNat
  hold : ∀ m c o, m < S.N → o ∈ S.held m c → fG S.N G o ≤ m → fG S.N G c ≤ m
  snd : ∀ τ, S.Sched n τ → P τ → ∀ c, c < n → (τ c : Int) ≤ fG S.N G c
structure Sy.GW (S : Sy) (n : Nat) (P : (Nat → Nat) → Prop) (G0 : List Int) (c0 m0 : Nat) (G : List Int) (w : List (Nat × Nat)) : Prop where
  len : G.length = n
  lo : ∀ x ∈ G, 0 ≤ x ∧ x ≤ S.N
  ex : ∀ c, c < n → fG S.N G c < S.N → c < S.cnt (fG S.N G c).toNat
  dn : ∀ c, fG S.N G c ≤ fG S.N G0 c
  hold : ∀ m c o, m < S.N → o ∈ S.held m c → fG S.N G o ≤ m → fG S.N G c ≤ m ∨ ∃ m', (c, m') ∈ w ∧ m' ≤ m
  snd : ∀ τ, S.Sched n τ → P τ → (∀ c, c < n → (τ c : Int) ≤ fG S.N G c) ∧ ∀ q ∈ w, τ q.1 ≤ q.2
  aim : fG S.N G c0 ≤ m0 ∨ ∃ m', (c0, m') ∈ w ∧ m' ≤ m0
  exw : ∀ q ∈ w, q.2 < S.N ∧ q.1 < S.cnt q.2
section
variable {S : Sy} {n : Nat} {P P' : (Nat → Nat) → Prop} {G0 G : List Int} {c0 m0 c m : Nat} {w : List (Nat × Nat)}
theorem Sy.GK.start (K : S.GK n P G) (hp : ∀ τ, P' τ → P τ) (hq : ∀ τ, S.Sched n τ → P' τ → τ c0 ≤ m0) (hm : m0 < S.N) (hc : c0 < S.cnt m0) : S.GW n P' G c0 m0 G [(c0, m0)] :=
  ⟨K.len, K.lo, K.ex, fun _ => Int.le_refl _, fun m c o h1 h2 h3 => Or.inl (K.hold m c o h1 h2 h3), fun τ h1 h2 => ⟨K.snd τ h1 (hp τ h2), fun q hqm => by simp at hqm; subst hqm; exact hq τ h1 h2⟩, Or.inr ⟨m0, by simp, Nat.le_refl _⟩, fun q hqm => by simp at hqm; subst hqm; exact ⟨hm, hc⟩⟩
theorem Sy.GW.done (K : S.GW n P G0 c0 m0 G []) : S.GK n P G ∧ (∀ c, fG S.N G c ≤ fG S.N G0 c) ∧ fG S.N G c0 ≤ m0 := by
  refine ⟨⟨K.len, K.lo, K.ex, fun m c o h1 h2 h3 => ?_, fun τ h1 h2 => (K.snd τ h1 h2).1⟩, K.dn, ?_⟩
  · rcases K.hold m c o h1 h2 h3 with h | ⟨m', h, _⟩
    · exact h
    · simp at h
  · rcases K.aim with h | ⟨m', h, _⟩
    · exact h
    · simp at h
theorem Sy.GW.skip (K : S.GW n P G0 c0 m0 G (w ++ [(c, m)])) (h : fG S.N G c ≤ m) : S.GW n P G0 c0 m0 G w := by
  refine ⟨K.len, K.lo, K.ex, K.dn, fun m1 c1 o h1 h2 h3 => ?_, fun τ h1 h2 => ⟨(K.snd τ h1 h2).1, fun q hq => (K.snd τ h1 h2).2 q (List.mem_append_left _ hq)⟩, ?_, fun q hq => K.exw q (List.mem_append_left _ hq)⟩
  · rcases K.hold m1 c1 o h1 h2 h3 with z | ⟨m', z1, z2⟩
    · exact Or.inl z
    · rcases List.mem_append.mp z1 with z1 | z1
      · exact Or.inr ⟨m', z1, z2⟩
      · simp at z1
        obtain ⟨rfl, rfl⟩ := z1
        exact Or.inl (by omega)
  · rcases K.aim with z | ⟨m', z1, z2⟩
    · exact Or.inl z
    · rcases List.mem_append.mp z1 with z1 | z1
      · exact Or.inr ⟨m', z1, z2⟩
      · simp at z1
        obtain ⟨rfl, rfl⟩ := z1
        exact Or.inl (by omega)
theorem Sy.GW.push (ok : S.Ok) (K : S.GW n P G0 c0 m0 G (w ++ [(c, m)])) {x : Int} (hx : G[c]? = some x) (h : m < x) {ns : List (Nat × Nat)} (hns : ∀ q ∈ ns, m ≤ q.2 ∧ q.2 < x ∧ c ∈ S.held q.2 q.1) (hall : ∀ (o k : Nat), m ≤ k → k < x → c ∈ S.held k o → (o, k) ∈ ns) : S.GW n P G0 c0 m0 (G.set c m) (w ++ ns) := by
  have hc := (List.getElem?_eq_some_iff.mp hx).1
  have hxf := fG_get (N := S.N) hx
  have hcn : c < n := by rw [← K.len]; exact hc
  have exm := K.exw (c, m) (by simp)
  simp at exm
  have hxN := (K.lo x (List.mem_of_getElem? hx)).2
  have le : ∀ d, fG S.N (G.set c m) d ≤ fG S.N G d := fun d => by
    rw [fG_set hc]
    by_cases e : d = c
    · subst e; rw [if_pos rfl]; omega
    · rw [if_neg e]; omega
  refine ⟨by simpa using K.len, fun y hy => ?_, fun d hd hlt => ?_, fun d => Int.le_trans (le d) (K.dn d), fun m1 c1 o h1 h2 h3 => ?_, fun τ h1 h2 => ?_, ?_, fun q hq => ?_⟩
  · rcases List.mem_or_eq_of_mem_set hy with z | rfl
    · exact K.lo y z
    · omega
  · rw [fG_set hc] at hlt ⊢
    by_cases e : d = c
    · subst e
      rw [if_pos rfl] at hlt ⊢
      simpa using exm.2
    · rw [if_neg e] at hlt ⊢
      exact K.ex d hd hlt
  · have fin : fG S.N G c1 ≤ m1 ∨ (∃ m', (c1, m') ∈ w ++ [(c, m)] ∧ m' ≤ m1) → fG S.N (G.set c m) c1 ≤ m1 ∨ ∃ m', (c1, m') ∈ w ++ ns ∧ m' ≤ m1 := fun z => by
      rcases z with z | ⟨m', z1, z2⟩
      · exact Or.inl (Int.le_trans (le c1) z)
      · rcases List.mem_append.mp z1 with z1 | z1
        · exact Or.inr ⟨m', List.mem_append_left _ z1, z2⟩
        · simp at z1
          obtain ⟨rfl, rfl⟩ := z1
          refine Or.inl ?_
          rw [fG_set hc, if_pos rfl]
          omega
    rw [fG_set hc] at h3
    by_cases e : o = c
    · subst e
      rw [if_pos rfl] at h3
      rcases Int.lt_or_le (m1 : Int) x with z | z
      · exact Or.inr ⟨m1, List.mem_append_right _ (hall c1 m1 (by omega) z h2), Nat.le_refl _⟩
      · exact fin (K.hold m1 c1 o h1 h2 (by omega))
    · rw [if_neg e] at h3
      exact fin (K.hold m1 c1 o h1 h2 h3)
  · obtain ⟨q1, q2⟩ := K.snd τ h1 h2
    have q3 := q2 (c, m) (by simp)
    simp at q3
    refine ⟨fun d hd => ?_, fun q hq => ?_⟩
    · rw [fG_set hc]
      by_cases e : d = c
      · subst e; rw [if_pos rfl]
        omega
      · rw [if_neg e]; exact q1 d hd
    · rcases List.mem_append.mp hq with z | z
      · exact q2 q (List.mem_append_left _ z)
      · obtain ⟨a1, a2, a3⟩ := hns q z
        exact h1.hold q.2 q.1 c (by omega) a3 (by omega)
  · rcases K.aim with z | ⟨m', z1, z2⟩
    · exact Or.inl (Int.le_trans (le _) z)
    · rcases List.mem_append.mp z1 with z1 | z1
      · exact Or.inr ⟨m', List.mem_append_left _ z1, z2⟩
      · simp at z1
        obtain ⟨rfl, rfl⟩ := z1
        refine Or.inl ?_
        rw [fG_set hc, if_pos rfl]
        omega
  · rcases List.mem_append.mp hq with z | z
    · exact K.exw q (List.mem_append_left _ z)
    · obtain ⟨a1, a2, a3⟩ := hns q z
      exact ⟨by omega, (ok.hold _ _ _ (by omega) a3).1⟩
end
/-- how much is left to be done -/
def potL (N : Nat) (l : List Int) : Nat := (l.map fun x => ((N : Int) - x).toNat).sum
theorem potL_set {N : Nat} : ∀ {l : List Int} {c : Nat} {x y : Int}, l[c]? = some x → x ≤ y → y ≤ N → potL N (l.set c y) + (y - x).toNat = potL N l
  | [], c, x, y, h, _, _ => by simp at h
  | z :: l, 0, x, y, h, h1, h2 => by
    simp at h
    subst h
    simp only [List.set_cons_zero, potL, List.map_cons, List.sum_cons]
    omega
  | z :: l, c + 1, x, y, h, h1, h2 => by
    simp at h
    have := potL_set (N := N) h h1 h2
    simp only [List.set_cons_succ, potL, List.map_cons, List.sum_cons] at this ⊢
    omega
def potG (l : List Int) : Nat := (l.map Int.toNat).sum
theorem potG_set : ∀ {l : List Int} {c : Nat} {x y : Int}, l[c]? = some x → 0 ≤ y → y ≤ x → potG (l.set c y) + (x - y).toNat = potG l
  | [], c, x, y, h, _, _ => by simp at h
  | z :: l, 0, x, y, h, h1, h2 => by
    simp at h
    subst h
    simp only [List.set_cons_zero, potG, List.map_cons, List.sum_cons]
    omega
  | z :: l, c + 1, x, y, h, h1, h2 => by
    simp at h
    have := potG_set h h1 h2
    simp only [List.set_cons_succ, potG, List.map_cons, List.sum_cons] at this ⊢
    omega
end Sm

/-! UA: moments of stories in the store; bounds -/
namespace K32
open PySem L2 Sm
/-- a moment: what each cell holds, what is reached -/
structure Mo where
  held : List (List Int)
  fl : List Bool
def Mo.row (m : Mo) (c : Nat) : List Int := (m.held[c]?).getD []
def mAt (ms : List Mo) (m : Nat) : Mo := (ms[m]?).getD ⟨[], []⟩
/-- the story as a system -/
def syOf (ms : List Mo) : Sy where
  N := ms.length
  cnt m := (mAt ms m).held.length
  held m c := ((mAt ms m).row c).map Int.toNat
  rch m c := (mAt ms m).fl[c]? = some true
theorem mAt_get {ms : List Mo} {m : Nat} {x : Mo} (h : ms[m]? = some x) : mAt ms m = x := by unfold mAt; rw [h]; rfl
/-- all is small and within its bounds -/
structure MsOk (ms : List Mo) (n : Nat) : Prop where
  len : ms.length ≤ 20
  n8 : n ≤ 8
  pot : ms.length * n ≤ 120
  fl : ∀ (m : Nat) (x : Mo), ms[m]? = some x → x.fl.length = x.held.length
  cn : ∀ (m : Nat) (x : Mo), ms[m]? = some x → x.held.length ≤ n
  row : ∀ (m : Nat) (x : Mo), ms[m]? = some x → ∀ r ∈ x.held, r.length < 100 ∧ ∀ y ∈ r, 0 ≤ y ∧ y < x.held.length
  mono : ∀ (m m' : Nat) (x y : Mo), m ≤ m' → ms[m]? = some x → ms[m']? = some y → x.held.length ≤ y.held.length
  rcl : ∀ (m : Nat) (x : Mo) (c : Nat) (y : Int), ms[m]? = some x → x.fl[c]? = some true → y ∈ x.row c → x.fl[y.toNat]? = some true
theorem Mo.row_mem {m : Mo} {c : Nat} {y : Int} (h : y ∈ m.row c) : c < m.held.length ∧ ∃ r ∈ m.held, m.held[c]? = some r ∧ y ∈ r := by
  unfold Mo.row at h
  cases e : m.held[c]? with
  | none => rw [e] at h; simp at h
  | some r => rw [e] at h; exact ⟨(List.getElem?_eq_some_iff.mp e).1, r, List.mem_of_getElem? e, rfl, h⟩
theorem MsOk.ok {ms : List Mo} {n : Nat} (O : MsOk ms n) : (syOf ms).Ok := by
  have get : ∀ m, m < ms.length → ∃ x, ms[m]? = some x ∧ mAt ms m = x := fun m h => ⟨ms[m], List.getElem?_eq_getElem h, mAt_get (List.getElem?_eq_getElem h)⟩
  refine ⟨fun m m' h1 h2 => ?_, fun m c o h1 h2 => ?_, fun m c h1 h2 => ?_, fun m c o h1 h2 h3 => ?_⟩
  · have h2 : m' < ms.length := h2
    obtain ⟨x, hx, e1⟩ := get m (by omega)
    obtain ⟨y, hy, e2⟩ := get m' h2
    show (mAt ms m).held.length ≤ (mAt ms m').held.length
    rw [e1, e2]
    exact O.mono m m' x y h1 hx hy
  · have h1 : m < ms.length := h1
    obtain ⟨x, hx, e1⟩ := get m h1
    have h2 : o ∈ ((mAt ms m).row c).map Int.toNat := h2
    show c < (mAt ms m).held.length ∧ o < (mAt ms m).held.length
    rw [e1] at h2 ⊢
    obtain ⟨y, hy, rfl⟩ := List.mem_map.mp h2
    obtain ⟨q1, r, q2, q3, q4⟩ := Mo.row_mem hy
    have := (O.row m x hx r q2).2 y q4
    exact ⟨q1, by omega⟩
  · have h1 : m < ms.length := h1
    obtain ⟨x, hx, e1⟩ := get m h1
    have h2 : (mAt ms m).fl[c]? = some true := h2
    show c < (mAt ms m).held.length
    rw [e1] at h2 ⊢
    rw [← O.fl m x hx]
    exact (List.getElem?_eq_some_iff.mp h2).1
  · have h1 : m < ms.length := h1
    obtain ⟨x, hx, e1⟩ := get m h1
    have h2 : (mAt ms m).fl[c]? = some true := h2
    have h3 : o ∈ ((mAt ms m).row c).map Int.toNat := h3
    show (mAt ms m).fl[o]? = some true
    rw [e1] at h2 h3 ⊢
    obtain ⟨y, hy, rfl⟩ := List.mem_map.mp h3
    exact O.rcl m x c y hx h2 hy
theorem MsOk.cnt {ms : List Mo} {n : Nat} (O : MsOk ms n) : ∀ m c, m < (syOf ms).N → c < (syOf ms).cnt m → c < n := fun m c h1 h2 => by
  have h1 : m < ms.length := h1
  have h2 : c < (mAt ms m).held.length := h2
  have e := List.getElem?_eq_getElem h1
  rw [mAt_get e] at h2
  have := O.cn m _ e
  omega
/-- a list of lists of numbers at j, all at numbers from a to below b -/
def HeldR (s : Sto) (a b j : Nat) (held : List (List Int)) : Prop := (a ≤ j ∧ j < b) ∧ ∃ hs : List Nat, s[j]? = some (.lst (hs.map Vl.ref)) ∧ hs.length = held.length ∧ ∀ (i x : Nat), hs[i]? = some x → (a ≤ x ∧ x < b) ∧ ∃ row, held[i]? = some row ∧ s[x]? = some (Ob.lst (row.map Vl.int))
section
variable {s s' : Sto} {a b a' b' j : Nat} {held : List (List Int)} {X : List Nat}
theorem HeldR.fr (H : HeldR s a b j held) (f : Fr X s s') (hX : ∀ x ∈ X, x < a ∨ b ≤ x) : HeldR s' a b j held := by
  obtain ⟨h1, hs, h2, h3, h4⟩ := H
  have nx : ∀ z, a ≤ z → z < b → z ∉ X := fun z q1 q2 q3 => by have := hX z q3; omega
  refine ⟨h1, hs, f.at h2 (nx _ h1.1 h1.2), h3, fun i x hx => ?_⟩
  obtain ⟨q1, row, q2, q3⟩ := h4 i x hx
  exact ⟨q1, row, q2, f.at q3 (nx _ q1.1 q1.2)⟩
theorem HeldR.wide (H : HeldR s a b j held) (h1 : a' ≤ a) (h2 : b ≤ b') : HeldR s a' b' j held := by
  obtain ⟨q1, hs, q2, q3, q4⟩ := H
  refine ⟨by omega, hs, q2, q3, fun i x hx => ?_⟩
  obtain ⟨r1, row, r2, r3⟩ := q4 i x hx
  exact ⟨by omega, row, r2, r3⟩
/-- the row of a cell -/
theorem HeldR.get (H : HeldR s a b j held) {c : Nat} (hc : c < held.length) : ∃ (xs : List Vl) (x : Nat), s[j]? = some (.lst xs) ∧ xs.length = held.length ∧ xs[c]? = some (.ref x) ∧ s[x]? = some (.lst (held[c].map Vl.int)) := by
  obtain ⟨h1, hs, h2, h3, h4⟩ := H
  have e : hs[c]? = some hs[c] := List.getElem?_eq_getElem (by omega)
  obtain ⟨_, row, q2, q3⟩ := h4 c _ e
  have : row = held[c] := by rw [List.getElem?_eq_getElem hc] at q2; exact (Option.some.inj q2).symm
  subst this
  exact ⟨hs.map Vl.ref, hs[c], h2, by simpa using h3, by rw [List.getElem?_map, e]; rfl, q3⟩
theorem HeldR.top (H : HeldR s a b j held) : ∃ xs : List Vl, s[j]? = some (.lst xs) ∧ xs.length = held.length := by
  obtain ⟨h1, hs, h2, h3, h4⟩ := H
  exact ⟨_, h2, by simpa using h3⟩
end
def MomG (s : Sto) (a b : Nat) (v : Vl) (x : Mo) : Prop := ∃ h f : Nat, v = .tup [.ref h, .ref f] ∧ HeldR s a b h x.held ∧ (a ≤ f ∧ f < b) ∧ s[f]? = some (.lst (x.fl.map Vl.bl))
structure MomsG (s : Sto) (a b r : Nat) (ms : List Mo) : Prop where
  vs : ∃ vs : List Vl, s[r]? = some (.lst vs) ∧ vs.length = ms.length ∧ ∀ (i : Nat) (v : Vl) (x : Mo), vs[i]? = some v → ms[i]? = some x → MomG s a b v x
  lo : a ≤ r
  hi : r < b
/-- who holds a cell -/
def holdersOf (x : Mo) : List (List Int) := (List.range x.held.length).map fun (c : Nat) => (List.range x.held.length).flatMap fun (o : Nat) => ((x.row o).filter fun y => decide (y = (c : Int))).map fun _ => (o : Int)
structure HolG (s : Sto) (a b r : Nat) (ms : List Mo) : Prop where
  vs : ∃ ks : List Nat, s[r]? = some (.lst (ks.map Vl.ref)) ∧ ks.length = ms.length ∧ ∀ (i k : Nat) (x : Mo), ks[i]? = some k → ms[i]? = some x → HeldR s a b k (holdersOf x)
  lo : a ≤ r
  hi : r < b
section
variable {s s' : Sto} {a b a' b' r : Nat} {ms : List Mo} {X : List Nat}
theorem MomG.fr {v : Vl} {x : Mo} (M : MomG s a b v x) (f : Fr X s s') (hX : ∀ x ∈ X, x < a ∨ b ≤ x) : MomG s' a b v x := by
  obtain ⟨h, g, e, h1, h2, h3⟩ := M
  exact ⟨h, g, e, h1.fr f hX, h2, f.at h3 (fun q => by have := hX g q; omega)⟩
theorem MomG.wide {v : Vl} {x : Mo} (M : MomG s a b v x) (h1 : a' ≤ a) (h2 : b ≤ b') : MomG s a' b' v x := by
  obtain ⟨h, g, e, q1, q2, q3⟩ := M
  exact ⟨h, g, e, q1.wide h1 h2, by omega, q3⟩
theorem MomsG.fr (M : MomsG s a b r ms) (f : Fr X s s') (hX : ∀ x ∈ X, x < a ∨ b ≤ x) : MomsG s' a b r ms := by
  obtain ⟨⟨vs, h1, h2, h3⟩, h4, h5⟩ := M
  exact ⟨⟨vs, f.at h1 (fun q => by have := hX r q; omega), h2, fun i v x e1 e2 => (h3 i v x e1 e2).fr f hX⟩, h4, h5⟩
theorem MomsG.wide (M : MomsG s a b r ms) (h1 : a' ≤ a) (h2 : b ≤ b') : MomsG s a' b' r ms := by
  obtain ⟨⟨vs, v1, v2, v3⟩, l, h⟩ := M
  exact ⟨⟨vs, v1, v2, fun i v x e1 e2 => (v3 i v x e1 e2).wide h1 h2⟩, by omega, by omega⟩
theorem HolG.fr (M : HolG s a b r ms) (f : Fr X s s') (hX : ∀ x ∈ X, x < a ∨ b ≤ x) : HolG s' a b r ms := by
  obtain ⟨⟨vs, h1, h2, h3⟩, h4, h5⟩ := M
  exact ⟨⟨vs, f.at h1 (fun q => by have := hX r q; omega), h2, fun i v x e1 e2 => (h3 i v x e1 e2).fr f hX⟩, h4, h5⟩
theorem HolG.wide (M : HolG s a b r ms) (h1 : a' ≤ a) (h2 : b ≤ b') : HolG s a' b' r ms := by
  obtain ⟨⟨vs, v1, v2, v3⟩, l, h⟩ := M
  exact ⟨⟨vs, v1, v2, fun i v x e1 e2 => (v3 i v x e1 e2).wide h1 h2⟩, by omega, by omega⟩
/-- a moment of the list -/
theorem MomsG.get (M : MomsG s a b r ms) {m : Nat} (h : m < ms.length) : ∃ (vs : List Vl) (hh f : Nat), s[r]? = some (.lst vs) ∧ vs.length = ms.length ∧ vs[m]? = some (.tup [.ref hh, .ref f]) ∧ HeldR s a b hh ms[m].held ∧ s[f]? = some (.lst (ms[m].fl.map Vl.bl)) := by
  obtain ⟨vs, v1, v2, v3⟩ := M.vs
  have hv : vs[m]? = some vs[m] := List.getElem?_eq_getElem (by omega)
  obtain ⟨hh, f, e, q1, q2, q3⟩ := v3 m _ _ hv (List.getElem?_eq_getElem h)
  exact ⟨vs, hh, f, v1, v2, by rw [hv, e], q1, q3⟩
theorem HolG.get (M : HolG s a b r ms) {m : Nat} (h : m < ms.length) : ∃ (vs : List Vl) (k : Nat), s[r]? = some (.lst vs) ∧ vs[m]? = some (.ref k) ∧ HeldR s a b k (holdersOf ms[m]) := by
  obtain ⟨ks, v1, v2, v3⟩ := M.vs
  have hv : ks[m]? = some ks[m] := List.getElem?_eq_getElem (by omega)
  exact ⟨_, ks[m], v1, by rw [List.getElem?_map, hv]; rfl, v3 m _ _ hv (List.getElem?_eq_getElem h)⟩
end
/-- bounds at bd -/
structure BdAt (s : Sto) (bd mr hr lt fg wt wg : Nat) (L G : List Int) : Prop where
  top : s[bd]? = some (.ins 4 [("moments", .ref mr), ("holders", .ref hr), ("last_there", .ref lt), ("first_gone", .ref fg), ("why_there", .ref wt), ("why_gone", .ref wg)])
  slt : s[lt]? = some (.lst (L.map Vl.int))
  sfg : s[fg]? = some (.lst (G.map Vl.int))
  swt : ∃ ws, s[wt]? = some (.lst ws) ∧ ws.length = L.length
  swg : ∃ ws, s[wg]? = some (.lst ws) ∧ ws.length = L.length
  len : G.length = L.length
  nd : [bd, lt, fg, wt, wg].Nodup
theorem BdAt.fr {s s' : Sto} {bd mr hr lt fg wt wg : Nat} {L G : List Int} {X : List Nat} (B : BdAt s bd mr hr lt fg wt wg L G) (f : Fr X s s') (hX : ∀ x ∈ X, x ∉ [bd, lt, fg, wt, wg]) : BdAt s' bd mr hr lt fg wt wg L G := by
  have nx : ∀ z ∈ [bd, lt, fg, wt, wg], z ∉ X := fun z q1 q2 => hX z q2 q1
  obtain ⟨h1, h2, h3, ⟨w1, h4, h5⟩, ⟨w2, h6, h7⟩, h8, h9⟩ := B
  exact ⟨f.at h1 (nx _ (by simp)), f.at h2 (nx _ (by simp)), f.at h3 (nx _ (by simp)), ⟨w1, f.at h4 (nx _ (by simp)), h5⟩, ⟨w2, f.at h6 (nx _ (by simp)), h7⟩, h8, h9⟩
section
variable {s : Sto} {Q : Vl → Sto → Prop} {E : Ex → Sto → Prop} {bd mr hr lt fg wt wg : Nat} {L G : List Int}
theorem f_mo (B : BdAt s bd mr hr lt fg wt wg L G) {Q : Vl → Sto → Prop} : fldW cs_moments "moments" (.ref bd) s Q = Q (.ref mr) s := by
  rw [fldW_ins B.top]; simp [getS]
theorem f_ho (B : BdAt s bd mr hr lt fg wt wg L G) {Q : Vl → Sto → Prop} : fldW cs_holders "holders" (.ref bd) s Q = Q (.ref hr) s := by
  rw [fldW_ins B.top]; simp [getS]
theorem f_lt (B : BdAt s bd mr hr lt fg wt wg L G) {Q : Vl → Sto → Prop} : fldW cs_last_there "last_there" (.ref bd) s Q = Q (.ref lt) s := by
  rw [fldW_ins B.top]; simp [getS]
theorem f_fg (B : BdAt s bd mr hr lt fg wt wg L G) {Q : Vl → Sto → Prop} : fldW cs_first_gone "first_gone" (.ref bd) s Q = Q (.ref fg) s := by
  rw [fldW_ins B.top]; simp [getS]
theorem f_wt (B : BdAt s bd mr hr lt fg wt wg L G) {Q : Vl → Sto → Prop} : fldW cs_why_there "why_there" (.ref bd) s Q = Q (.ref wt) s := by
  rw [fldW_ins B.top]; simp [getS]
theorem f_wg (B : BdAt s bd mr hr lt fg wt wg L G) {Q : Vl → Sto → Prop} : fldW cs_why_gone "why_gone" (.ref bd) s Q = Q (.ref wg) s := by
  rw [fldW_ins B.top]; simp [getS]
end
end K32

/-! UB: keep_there -/
namespace K32
open PySem L2 Sm
abbrev Wt := Nat × Nat × Vl
def wV (q : Wt) : Vl := .tup [.int (q.1 : Nat), .int (q.2.1 : Nat), q.2.2]
def pr (q : Wt) : Nat × Nat := (q.1, q.2.1)
theorem wV_la {w : List Wt} (h : ∀ q ∈ w, La 3 q.2.2) : ∀ v ∈ w.map wV, La 4 v := fun v hv => by
  obtain ⟨q, hq, rfl⟩ := List.mem_map.mp hv
  exact La.tup3 (La.int.mono (by omega)) (La.int.mono (by omega)) (h q hq)
/-- what follows at a moment from a cell that is there -/
def pushT (ms : List Mo) (c k : Nat) : List Wt := ((mAt ms k).row c).map fun y => (y.toNat, k, .tup [.str "held", .int (c : Nat)])
/-- .. at the moments behind x, so many of them -/
def newsT (ms : List Mo) (c : Nat) (x : Int) (j : Nat) : List Wt := (List.range j).flatMap fun i => pushT ms c (x + 1 + (i : Nat)).toNat
theorem newsT_succ {ms : List Mo} {c : Nat} {x : Int} {j : Nat} : newsT ms c x (j + 1) = newsT ms c x j ++ pushT ms c (x + 1 + (j : Nat)).toNat := by
  unfold newsT
  rw [List.range_succ, List.flatMap_append]
  simp
theorem pushT_len {ms : List Mo} {n c k : Nat} (O : MsOk ms n) : (pushT ms c k).length ≤ 100 := by
  unfold pushT mAt
  rw [List.length_map]
  cases e : ms[k]? with
  | none => simp [Mo.row]
  | some x =>
    simp only [Option.getD_some]
    unfold Mo.row
    cases e2 : x.held[c]? with
    | none => simp
    | some r =>
      have := (O.row k x e r (List.mem_of_getElem? e2)).1
      simp only [Option.getD_some]
      omega
theorem newsT_len {ms : List Mo} {n c : Nat} {x : Int} (O : MsOk ms n) : ∀ j, (newsT ms c x j).length ≤ 100 * j
  | 0 => by simp [newsT]
  | j + 1 => by
    have h1 := newsT_len (c := c) (x := x) O j
    have h2 := pushT_len (c := c) (k := (x + 1 + (j : Nat)).toNat) O
    rw [newsT_succ, List.length_append]
    omega
theorem newsT_mem {ms : List Mo} {c j : Nat} {x : Int} {q : Wt} (hx : -1 ≤ x) : q ∈ newsT ms c x j ↔ ∃ (i : Nat) (y : Int), i < j ∧ y ∈ (mAt ms (x + 1 + (i : Nat)).toNat).row c ∧ q = (y.toNat, (x + 1 + (i : Nat)).toNat, .tup [.str "held", .int (c : Nat)]) := by
  unfold newsT pushT
  simp only [List.mem_flatMap, List.mem_range, List.mem_map]
  constructor
  · rintro ⟨i, hi, y, hy, rfl⟩
    exact ⟨i, y, hi, hy, rfl⟩
  · rintro ⟨i, y, hi, hy, rfl⟩
    exact ⟨i, hi, y, hy, rfl⟩
def pushFn (u : Str) (o c : Nat) (v : Vl) : Option Vl := match v with
  | .int y => some (.tup [.int y, .int (o : Nat), .tup [.str u, .int (c : Nat)]])
  | _ => none
theorem pushV {c o : Nat} {u : Str} : ∀ {l : List Int}, (∀ y ∈ l, 0 ≤ y) → (l.map Vl.int).filterMap (pushFn u o c) = (l.map fun y => ((y.toNat, o, .tup [.str u, .int (c : Nat)]) : Wt)).map wV
  | [], _ => rfl
  | y :: l, h => by
    have ih := pushV (c := c) (o := o) (u := u) (l := l) fun z hz => h z (List.mem_cons_of_mem _ hz)
    have h0 := h y (List.mem_cons_self ..)
    have e : ((y.toNat : Nat) : Int) = y := by omega
    have e2 : pushFn u o c (.int y) = some (.tup [.int y, .int (o : Nat), .tup [.str u, .int (c : Nat)]]) := rfl
    simp only [List.map_cons, List.filterMap_cons, ih, e2]
    simp only [wV, e]
/-- amid the work -/
def KT (s : Sto) (bd mr hr lt fg wt wg : Nat) (G L0 : List Int) (ms : List Mo) (n : Nat) (P : (Nat → Nat) → Prop) (c m : Nat) (why : Vl) (k : Nat) (lo : Lo) (s' : Sto) : Prop :=
  ∃ (w : List Wt) (L : List Int) (x5 x6 x7 x8 x9 x10 : Option Vl), lo = [some (.ref bd), some (.int (c : Nat)), some (.int (m : Nat)), some why, some (.ref s.length), x5, x6, x7, x8, x9, x10] ∧ k = w.length + 101 * potL ms.length L ∧ k ≤ 20000 ∧ s'[s.length]? = some (.lst (w.map wV)) ∧ (∀ q ∈ w, La 3 q.2.2) ∧ BdAt s' bd mr hr lt fg wt wg L G ∧ (syOf ms).LW n P L0 c m L (w.map pr) ∧ Fr [lt, wt] s s'
/-- the inner loop -/
def KJ (s : Sto) (bd mr hr lt fg wt wg : Nat) (G L : List Int) (ms : List Mo) (w : List Wt) (c m : Nat) (why : Vl) (c1 m1 : Nat) (why1 : Vl) (x : Int) (j : Nat) (lo : Lo) (s' : Sto) : Prop :=
  ∃ (x9 x10 : Option Vl), lo = [some (.ref bd), some (.int (c : Nat)), some (.int (m : Nat)), some why, some (.ref s.length), some (.int x), some (.int (c1 : Nat)), some (.int (m1 : Nat)), some why1, x9, x10] ∧ s'[s.length]? = some (.lst ((w ++ newsT ms c1 x j).map wV)) ∧ BdAt s' bd mr hr lt fg wt wg L G ∧ Fr [lt, wt] s s'
theorem potL_le {N : Nat} : ∀ {l : List Int}, (∀ x ∈ l, -1 ≤ x ∧ x < N) → potL N l ≤ (N + 1) * l.length
  | [], _ => by simp [potL]
  | x :: l, h => by
    have h1 := h x (List.mem_cons_self ..)
    have h2 := potL_le (N := N) (l := l) fun y hy => h y (List.mem_cons_of_mem _ hy)
    simp only [potL, List.map_cons, List.sum_cons, List.length_cons, Nat.mul_succ] at h2 ⊢
    omega
theorem keepT {s : Sto} {Q : Vl → Sto → Prop} {E : Ex → Sto → Prop} {bd mr hr lt fg wt wg a b c m n : Nat} {L G : List Int} {ms : List Mo} {why : Vl} {P P' : (Nat → Nat) → Prop} (B : BdAt s bd mr hr lt fg wt wg L G) (M : MomsG s a b mr ms) (hX : (lt < a ∨ b ≤ lt) ∧ (wt < a ∨ b ≤ wt)) (hb : b ≤ s.length) (O : MsOk ms n) (K : (syOf ms).LK n P L) (hp : ∀ τ, P' τ → P τ) (hq : ∀ τ, (syOf ms).Sched n τ → P' τ → m < τ c) (hm : m < ms.length) (hc : c < (mAt ms m).held.length) (hw : La 3 why)
    (k : ∀ L' s', BdAt s' bd mr hr lt fg wt wg L' G → (syOf ms).LK n P' L' → (∀ c, fL L c ≤ fL L' c) → (m : Int) ≤ fL L' c → Fr [lt, wt] s s' → Q .non s') : WE (m_Bounds_keep_there [.ref bd, .int (c : Nat), .int (m : Nat), why]) s Q E := by
  unfold m_Bounds_keep_there b_Bounds_keep_there
  have hN := O.len
  have hn8 := O.n8
  have pl := potL_le (N := ms.length) K.lo
  rw [K.len] at pl
  have pl2 : (ms.length + 1) * n ≤ 21 * 8 := Nat.mul_le_mul (by omega) hn8
  simp
  refine loopW_inv (KT s bd mr hr lt fg wt wg G L ms n P' c m why) (1 + 101 * potL ms.length L) (by omega) ⟨[(c, m, why)], L, none, none, none, none, none, none, rfl, by simp, by omega, get_last, by simpa using hw, B.fr (Fr.refl.push _ (X := [])) (by simp), K.start hp hq hm hc, Fr.refl.push _⟩ ?_
  rintro k' lo s1 ⟨w, L1, x5, x6, x7, x8, x9, x10, rfl, hk, hk2, e1, hla, B1, W1, f1⟩
  have q := opNe_lst0 (get_push e1) (get_last (s := s1) (o := Ob.lst [])) (wV_la hla) (by omega)
  have lts := lt_of_get e1
  rcases List.eq_nil_or_concat w with rfl | ⟨w', p, rfl⟩
  · simp at q
    simp [q]
    obtain ⟨k1, k2, k3⟩ := W1.done
    exact k L1 _ (B1.fr (Fr.refl.push _ (X := [])) (by simp)) k1 k2 k3 (f1.push _)
  · obtain ⟨c1, m1, why1⟩ := p
    simp only [List.concat_eq_append] at *
    have ne : ((w' ++ [(c1, m1, why1)]).map wV).isEmpty = false := by cases w' <;> rfl
    rw [ne] at q
    simp at q
    simp [q]
    have e1' : (s1 ++ [Ob.lst []])[s.length]? = some (.lst (w'.map wV ++ [.tup [.int (c1 : Nat), .int (m1 : Nat), why1]])) := by
      rw [get_push e1]
      simp [wV]
    simp [kd_lst e1']
    rw [oPop_lst e1']
    simp only [WO_some]
    have f2 : Fr [lt, wt] s ((s1 ++ [Ob.lst []]).set s.length (.lst (w'.map wV))) := (f1.push _).set (Or.inr (Nat.le_refl _))
    have e2 : ((s1 ++ [Ob.lst []]).set s.length (.lst (w'.map wV)))[s.length]? = some (.lst (w'.map wV)) := get_set_self e1'
    have g2 : Fr [s.length] s1 ((s1 ++ [Ob.lst []]).set s.length (.lst (w'.map wV))) := (Fr.refl.push _).set (Or.inl (by simp))
    have ltl := lt_of_get B.slt
    have bdl := lt_of_get B.top
    have fgl := lt_of_get B.sfg
    have wtl : wt < s.length := by obtain ⟨_, z, _⟩ := B.swt; exact lt_of_get z
    have wgl : wg < s.length := by obtain ⟨_, z, _⟩ := B.swg; exact lt_of_get z
    have B2 := B1.fr g2 (by simp; omega)
    generalize ((s1 ++ [Ob.lst []]).set s.length (.lst (w'.map wV))) = s2 at f2 e2 g2 B2
    have exm := W1.ex (c1, m1) (by simp [pr])
    have exm1 : m1 < ms.length := exm.1
    have hcn : c1 < n := O.cnt m1 c1 exm.1 exm.2
    have hcl : c1 < L1.length := by rw [W1.len]; exact hcn
    have hx : L1[c1]? = some L1[c1] := List.getElem?_eq_getElem hcl
    have bx := W1.lo _ (List.mem_of_getElem? hx)
    generalize L1[c1] = x at hx bx
    have bx2 : x < (ms.length : Int) := bx.2
    simp [f_lt B2, opIx_lst B2.slt, atN, hx]
    by_cases hxm : x < m1
    · obtain ⟨ws, hw1, hw2⟩ := B2.swt
      have nd := B.nd
      simp at nd
      simp [hxm, f_lt B2, opSet_lst B2.slt, ixN_nat hcl]
      have f3 : Fr [lt, wt] s (s2.set lt (Ob.lst ((L1.map Vl.int).set c1 (.int (m1 : Nat))))) := f2.set (Or.inl (by simp))
      have B3 : BdAt (s2.set lt (Ob.lst ((L1.map Vl.int).set c1 (.int (m1 : Nat))))) bd mr hr lt fg wt wg (L1.set c1 m1) G := by
        refine ⟨by rw [get_set_ne (by omega)]; exact B2.top, by rw [get_set_self B2.slt, List.map_set], by rw [get_set_ne (by omega)]; exact B2.sfg, ⟨ws, by rw [get_set_ne (by omega)]; exact hw1, by simpa using hw2⟩, ?_, by simpa using B2.len, B2.nd⟩
        obtain ⟨w2, q1, q2⟩ := B2.swg
        exact ⟨w2, by rw [get_set_ne (by omega)]; exact q1, by simpa using q2⟩
      have e3 : (s2.set lt (Ob.lst ((L1.map Vl.int).set c1 (.int (m1 : Nat)))))[s.length]? = some (.lst (w'.map wV)) := by rw [get_set_ne (by omega)]; exact e2
      generalize (s2.set lt (Ob.lst ((L1.map Vl.int).set c1 (.int (m1 : Nat))))) = s3 at f3 B3 e3
      obtain ⟨ws3, hw3, hw4⟩ := B3.swt
      have hcw3 : c1 < ws3.length := by rw [hw4]; simpa using hcl
      simp [f_wt B3, opSet_lst hw3, ixN_nat hcw3]
      have f4 : Fr [lt, wt] s (s3.set wt (Ob.lst (ws3.set c1 why1))) := f3.set (Or.inl (by simp))
      have B4 : BdAt (s3.set wt (Ob.lst (ws3.set c1 why1))) bd mr hr lt fg wt wg (L1.set c1 m1) G := by
        refine ⟨by rw [get_set_ne (by omega)]; exact B3.top, by rw [get_set_ne (by omega)]; exact B3.slt, by rw [get_set_ne (by omega)]; exact B3.sfg, ⟨_, get_set_self hw3, by simpa using hw4⟩, ?_, B3.len, B3.nd⟩
        obtain ⟨w2, q1, q2⟩ := B3.swg
        exact ⟨w2, by rw [get_set_ne (by omega)]; exact q1, q2⟩
      have e4 : (s3.set wt (Ob.lst (ws3.set c1 why1)))[s.length]? = some (.lst (w'.map wV)) := by rw [get_set_ne (by omega)]; exact e3
      generalize (s3.set wt (Ob.lst (ws3.set c1 why1))) = s4 at f4 B4 e4
      rw [rng2W_int (by omega) (by omega) (by omega) (by omega)]
      have wl1000 : w'.length ≤ 20000 := by
        simp at hk
        omega
      refine loopX_inv (KJ s bd mr hr lt fg wt wg G (L1.set c1 m1) ms w' c m why c1 m1 why1 x) ⟨x9, x10, rfl, by simpa [newsT] using e4, B4, f4⟩ ?_ ?_
      · rintro i v lo s5 hv ⟨x9, x10, rfl, e5, B5, f5⟩
        obtain ⟨hi, rfl⟩ := rng_get2 hv
        obtain ⟨o, ho⟩ : ∃ o : Nat, (o : Int) = x + 1 + (i : Nat) := ⟨(x + 1 + (i : Nat)).toNat, by omega⟩
        have hot : (x + 1 + (i : Nat)).toNat = o := by omega
        have hom : o < ms.length := by omega
        rw [← ho]
        have M5 := M.fr f5 (by simp; omega)
        obtain ⟨vs, hh, ff, v1, v2, v3, v4, v5⟩ := M5.get hom
        have mo : mAt ms o = ms[o] := mAt_get (List.getElem?_eq_getElem hom)
        obtain ⟨xs, x1, x2⟩ := v4.top
        have ns := newsT_succ (ms := ms) (c := c1) (x := x) (j := i)
        rw [hot] at ns
        simp [f_mo B5, opIx_lst v1, atN, v3, oLen_lst x1, x2]
        by_cases hj : c1 < ms[o].held.length
        · obtain ⟨ys, r, y1, y2, y3, y4⟩ := v4.get hj
          rw [x1] at y1
          cases y1
          simp [hj, kd_lst e5, f_mo B5, opIx_lst v1, atN, v3, opIx_lst x1, y3, y4]
          have hrow : (mAt ms o).row c1 = ms[o].held[c1] := by rw [mo]; unfold Mo.row; rw [List.getElem?_eq_getElem hj]; rfl
          have hrl := O.row o ms[o] (List.getElem?_eq_getElem hom) _ (List.getElem_mem hj)
          refine lcL_p (xs := ms[o].held[c1].map Vl.int) s5 (pushFn "held" o c1) rfl rfl y4 (by simp; omega) ?_ ?_
          · intro v hv acc
            obtain ⟨y, hy, rfl⟩ := List.mem_map.mp hv
            refine ⟨_, rfl, ?_⟩
            simp [tTrue, wipeL, pushFn]
          · rw [pushV fun y hy => (hrl.2 y hy).1, ← hrow]
            have e6 : (s5 ++ [Ob.lst ((pushT ms c1 o).map wV)])[s.length]? = some (.lst ((w' ++ newsT ms c1 x i).map wV)) := get_push e5
            have nl := newsT_len (c := c1) (x := x) O i
            have pl4 := pushT_len (c := c1) (k := o) O
            show WE _ (s5 ++ [Ob.lst ((pushT ms c1 o).map wV)]) _ _
            rw [WE_aNil, oExtend_lst e6 get_last (limB (by simp; omega))]
            simp only [WO_some]
            have f6 : Fr [s.length] s5 ((s5 ++ [Ob.lst ((pushT ms c1 o).map wV)]).set s.length (Ob.lst ((w' ++ newsT ms c1 x i).map wV ++ (pushT ms c1 o).map wV))) := (Fr.refl.push _).set (Or.inl (by simp))
            refine ⟨_, _, rfl, ?_, B5.fr f6 (by simp; omega), (f5.push _).set (Or.inr (Nat.le_refl _))⟩
            rw [get_set_self e6, ns]
            simp
        · simp [hj]
          have hrow : (mAt ms o).row c1 = [] := by rw [mo]; unfold Mo.row; rw [List.getElem?_eq_none (by omega)]; rfl
          refine ⟨_, _, rfl, ?_, B5, f5⟩
          rw [e5, ns]
          simp [pushT, hrow]
      · rintro lo s5 ⟨x9, x10, rfl, e5, B5, f5⟩
        rw [rng_len2] at e5
        have hd : ((m1 : Int) + 1 - (x + 1)).toNat = ((m1 : Int) - x).toNat := by omega
        rw [hd] at e5
        have ps := potL_set (N := ms.length) hx (Int.le_of_lt hxm) (by omega)
        have nl := newsT_len (c := c1) (x := x) O ((m1 : Int) - x).toNat
        have W2 : (syOf ms).LW n P' L c m L1 (w'.map pr ++ [(c1, m1)]) := by simpa [pr] using W1
        have hml := fun (q : Wt) => newsT_mem (ms := ms) (c := c1) (j := ((m1 : Int) - x).toNat) (q := q) bx.1
        have W3 := W2.push O.ok hx hxm (ns := (newsT ms c1 x ((m1 : Int) - x).toNat).map pr) (fun q hq => ?_) (fun o kk h1 h2 h3 => ?_)
        · have hlen : (w' ++ newsT ms c1 x ((m1 : Int) - x).toNat).length + 101 * potL ms.length (L1.set c1 m1) < k' := by
            rw [hk]
            simp only [List.length_append, List.length_cons, List.length_nil]
            omega
          refine ⟨_, hlen, w' ++ newsT ms c1 x ((m1 : Int) - x).toNat, L1.set c1 m1, _, _, _, _, _, _, rfl, rfl, by omega, e5, fun q hq => ?_, B5, by rw [List.map_append]; exact W3, f5⟩
          rcases List.mem_append.mp hq with z | z
          · exact hla q (List.mem_append_left _ z)
          · obtain ⟨i, y, _, _, rfl⟩ := (hml q).mp z
            exact (La.tup2 La.lit La.int).mono (by omega)
        · obtain ⟨q', hq', rfl⟩ := List.mem_map.mp hq
          obtain ⟨i, y, hi, hy, rfl⟩ := (hml q').mp hq'
          refine ⟨by simp only [pr]; omega, by simp only [pr]; omega, ?_⟩
          exact List.mem_map.mpr ⟨y, hy, rfl⟩
        · have h3 : o ∈ ((mAt ms kk).row c1).map Int.toNat := h3
          obtain ⟨y, hy, rfl⟩ := List.mem_map.mp h3
          refine List.mem_map.mpr ⟨(y.toNat, kk, .tup [.str "held", .int (c1 : Nat)]), (hml _).mpr ⟨(kk - (x + 1)).toNat, y, by omega, ?_, ?_⟩, rfl⟩
          · have : (x + 1 + (((kk : Int) - (x + 1)).toNat : Nat)).toNat = kk := by omega
            rw [this]; exact hy
          · have : (x + 1 + (((kk : Int) - (x + 1)).toNat : Nat)).toNat = kk := by omega
            rw [this]
    · simp [hxm]
      refine ⟨w'.length + 101 * potL ms.length L1, by rw [hk]; simp, w', L1, _, _, _, _, _, _, rfl, rfl, by simp at hk; omega, e2, fun q hq => hla q (List.mem_append_left _ hq), B2, ?_, f2⟩
      have W2 : (syOf ms).LW n P' L c m L1 (w'.map pr ++ [(c1, m1)]) := by simpa [pr] using W1
      exact W2.skip (by rw [fL_get hx]; omega)
end K32

/-! UC: keep_gone -/
namespace K32
open PySem L2 Sm
def hrow (x : Mo) (c : Nat) : List Int := ((holdersOf x)[c]?).getD []
theorem hrow_eq {x : Mo} {c : Nat} (hc : c < x.held.length) : hrow x c = (List.range x.held.length).flatMap fun (o : Nat) => ((x.row o).filter fun y => decide (y = (c : Int))).map fun _ => (o : Int) := by
  unfold hrow holdersOf
  rw [List.getElem?_map, List.getElem?_range hc]
  rfl
theorem mem_hrow {x : Mo} {c : Nat} {y : Int} : y ∈ hrow x c ↔ c < x.held.length ∧ ∃ o : Nat, o < x.held.length ∧ y = o ∧ (c : Int) ∈ x.row o := by
  by_cases hc : c < x.held.length
  · rw [hrow_eq hc]
    simp only [List.mem_flatMap, List.mem_range, List.mem_map, List.mem_filter, decide_eq_true_eq]
    constructor
    · rintro ⟨o, ho, z, ⟨h1, h2⟩, rfl⟩
      subst h2
      exact ⟨hc, o, ho, rfl, h1⟩
    · rintro ⟨_, o, ho, rfl, h1⟩
      exact ⟨o, ho, c, ⟨h1, rfl⟩, rfl⟩
  · have : hrow x c = [] := by
      unfold hrow holdersOf
      rw [List.getElem?_eq_none (by simp; omega)]
      rfl
    rw [this]
    simp [hc]
theorem hrow_len {ms : List Mo} {n k c : Nat} {x : Mo} (O : MsOk ms n) (hx : ms[k]? = some x) : (hrow x c).length ≤ 800 := by
  by_cases hc : c < x.held.length
  · rw [hrow_eq hc]
    have key : ∀ l : List Nat, (l.flatMap fun (o : Nat) => ((x.row o).filter fun y => decide (y = (c : Int))).map fun _ => (o : Int)).length ≤ 100 * l.length := by
      intro l
      induction l with
      | nil => simp
      | cons o l ih =>
        have h1 : ((x.row o).filter fun y => decide (y = (c : Int))).length ≤ (x.row o).length := List.length_filter_le ..
        have h2 : (x.row o).length ≤ 100 := by
          unfold Mo.row
          cases e : x.held[o]? with
          | none => simp
          | some r =>
            have := (O.row k x hx r (List.mem_of_getElem? e)).1
            simp only [Option.getD_some]
            omega
        simp only [List.flatMap_cons, List.length_append, List.length_map, List.length_cons]
        omega
    have := key (List.range x.held.length)
    have h1 := O.cn k x hx
    have h2 := O.n8
    rw [List.length_range] at this
    omega
  · have : hrow x c = [] := by
      unfold hrow holdersOf
      rw [List.getElem?_eq_none (by simp; omega)]
      rfl
    rw [this]
    simp
def pushG (ms : List Mo) (c k : Nat) : List Wt := (hrow (mAt ms k) c).map fun y => (y.toNat, k, .tup [.str "holder", .int (c : Nat)])
def newsG (ms : List Mo) (c m : Nat) (j : Nat) : List Wt := (List.range j).flatMap fun i => pushG ms c (m + i)
theorem newsG_succ {ms : List Mo} {c m j : Nat} : newsG ms c m (j + 1) = newsG ms c m j ++ pushG ms c (m + j) := by
  unfold newsG
  rw [List.range_succ, List.flatMap_append]
  simp
theorem pushG_len {ms : List Mo} {n c k : Nat} (O : MsOk ms n) : (pushG ms c k).length ≤ 800 := by
  unfold pushG
  rw [List.length_map]
  cases e : ms[k]? with
  | none =>
    have : mAt ms k = ⟨[], []⟩ := by unfold mAt; rw [e]; rfl
    rw [this]
    simp [hrow, holdersOf]
  | some x => rw [mAt_get e]; exact hrow_len O e
theorem newsG_len {ms : List Mo} {n c m : Nat} (O : MsOk ms n) : ∀ j, (newsG ms c m j).length ≤ 800 * j
  | 0 => by simp [newsG]
  | j + 1 => by
    have h1 := newsG_len (c := c) (m := m) O j
    have h2 := pushG_len (c := c) (k := m + j) O
    rw [newsG_succ, List.length_append]
    omega
theorem newsG_mem {ms : List Mo} {c j m : Nat} {q : Wt} : q ∈ newsG ms c m j ↔ ∃ (i : Nat) (y : Int), i < j ∧ y ∈ hrow (mAt ms (m + i)) c ∧ q = (y.toNat, m + i, .tup [.str "holder", .int (c : Nat)]) := by
  unfold newsG pushG
  simp only [List.mem_flatMap, List.mem_range, List.mem_map]
  constructor
  · rintro ⟨i, hi, y, hy, rfl⟩
    exact ⟨i, y, hi, hy, rfl⟩
  · rintro ⟨i, y, hi, hy, rfl⟩
    exact ⟨i, hi, y, hy, rfl⟩
def KG (s : Sto) (bd mr hr lt fg wt wg : Nat) (L G0 : List Int) (ms : List Mo) (n : Nat) (P : (Nat → Nat) → Prop) (c m : Nat) (why : Vl) (k : Nat) (lo : Lo) (s' : Sto) : Prop :=
  ∃ (w : List Wt) (G : List Int) (x5 x6 x7 x8 x9 x10 : Option Vl), lo = [some (.ref bd), some (.int (c : Nat)), some (.int (m : Nat)), some why, some (.ref s.length), x5, x6, x7, x8, x9, x10] ∧ k = w.length + 801 * potG G ∧ k ≤ 97000 ∧ s'[s.length]? = some (.lst (w.map wV)) ∧ (∀ q ∈ w, La 3 q.2.2) ∧ BdAt s' bd mr hr lt fg wt wg L G ∧ (syOf ms).GW n P G0 c m G (w.map pr) ∧ Fr [fg, wg] s s'
def KH (s : Sto) (bd mr hr lt fg wt wg : Nat) (L G : List Int) (ms : List Mo) (w : List Wt) (c m : Nat) (why : Vl) (c1 m1 : Nat) (why1 : Vl) (x : Int) (j : Nat) (lo : Lo) (s' : Sto) : Prop :=
  ∃ (x9 x10 : Option Vl), lo = [some (.ref bd), some (.int (c : Nat)), some (.int (m : Nat)), some why, some (.ref s.length), some (.int x), some (.int (c1 : Nat)), some (.int (m1 : Nat)), some why1, x9, x10] ∧ s'[s.length]? = some (.lst ((w ++ newsG ms c1 m1 j).map wV)) ∧ BdAt s' bd mr hr lt fg wt wg L G ∧ Fr [fg, wg] s s'
theorem potG_le {N : Nat} : ∀ {l : List Int}, (∀ x ∈ l, 0 ≤ x ∧ x ≤ N) → potG l ≤ N * l.length
  | [], _ => by simp [potG]
  | x :: l, h => by
    have h1 := h x (List.mem_cons_self ..)
    have h2 := potG_le (N := N) (l := l) fun y hy => h y (List.mem_cons_of_mem _ hy)
    simp only [potG, List.map_cons, List.sum_cons, List.length_cons, Nat.mul_succ] at h2 ⊢
    omega
theorem keepGn {s : Sto} {Q : Vl → Sto → Prop} {E : Ex → Sto → Prop} {bd mr hr lt fg wt wg a b c m n : Nat} {L G : List Int} {ms : List Mo} {why : Vl} {P P' : (Nat → Nat) → Prop} (B : BdAt s bd mr hr lt fg wt wg L G) (M : HolG s a b hr ms) (hX : (fg < a ∨ b ≤ fg) ∧ (wg < a ∨ b ≤ wg)) (hb : b ≤ s.length) (O : MsOk ms n) (K : (syOf ms).GK n P G) (hp : ∀ τ, P' τ → P τ) (hq : ∀ τ, (syOf ms).Sched n τ → P' τ → τ c ≤ m) (hm : m < ms.length) (hc : c < (mAt ms m).held.length) (hw : La 3 why)
    (k : ∀ G' s', BdAt s' bd mr hr lt fg wt wg L G' → (syOf ms).GK n P' G' → (∀ c, fG ms.length G' c ≤ fG ms.length G c) → fG ms.length G' c ≤ (m : Int) → Fr [fg, wg] s s' → Q .non s') : WE (m_Bounds_keep_gone [.ref bd, .int (c : Nat), .int (m : Nat), why]) s Q E := by
  unfold m_Bounds_keep_gone b_Bounds_keep_gone
  have hN := O.len
  have hn8 := O.n8
  have pl := potG_le (N := ms.length) K.lo
  rw [K.len] at pl
  have pl2 := O.pot
  simp
  refine loopW_inv (KG s bd mr hr lt fg wt wg L G ms n P' c m why) (1 + 801 * potG G) (by omega) ⟨[(c, m, why)], G, none, none, none, none, none, none, rfl, by simp, by omega, get_last, by simpa using hw, B.fr (Fr.refl.push _ (X := [])) (by simp), K.start hp hq hm hc, Fr.refl.push _⟩ ?_
  rintro k' lo s1 ⟨w, G1, x5, x6, x7, x8, x9, x10, rfl, hk, hk2, e1, hla, B1, W1, f1⟩
  have q := opNe_lst0 (get_push e1) (get_last (s := s1) (o := Ob.lst [])) (wV_la hla) (by omega)
  have lts := lt_of_get e1
  rcases List.eq_nil_or_concat w with rfl | ⟨w', p, rfl⟩
  · simp at q
    simp [q]
    obtain ⟨k1, k2, k3⟩ := W1.done
    exact k G1 _ (B1.fr (Fr.refl.push _ (X := [])) (by simp)) k1 k2 k3 (f1.push _)
  · obtain ⟨c1, m1, why1⟩ := p
    simp only [List.concat_eq_append] at *
    have ne : ((w' ++ [(c1, m1, why1)]).map wV).isEmpty = false := by cases w' <;> rfl
    rw [ne] at q
    simp at q
    simp [q]
    have e1' : (s1 ++ [Ob.lst []])[s.length]? = some (.lst (w'.map wV ++ [.tup [.int (c1 : Nat), .int (m1 : Nat), why1]])) := by
      rw [get_push e1]
      simp [wV]
    simp [kd_lst e1']
    rw [oPop_lst e1']
    simp only [WO_some]
    have f2 : Fr [fg, wg] s ((s1 ++ [Ob.lst []]).set s.length (.lst (w'.map wV))) := (f1.push _).set (Or.inr (Nat.le_refl _))
    have e2 : ((s1 ++ [Ob.lst []]).set s.length (.lst (w'.map wV)))[s.length]? = some (.lst (w'.map wV)) := get_set_self e1'
    have g2 : Fr [s.length] s1 ((s1 ++ [Ob.lst []]).set s.length (.lst (w'.map wV))) := (Fr.refl.push _).set (Or.inl (by simp))
    have ltl := lt_of_get B.slt
    have bdl := lt_of_get B.top
    have fgl := lt_of_get B.sfg
    have wtl : wt < s.length := by obtain ⟨_, z, _⟩ := B.swt; exact lt_of_get z
    have wgl : wg < s.length := by obtain ⟨_, z, _⟩ := B.swg; exact lt_of_get z
    have B2 := B1.fr g2 (by simp; omega)
    generalize ((s1 ++ [Ob.lst []]).set s.length (.lst (w'.map wV))) = s2 at f2 e2 g2 B2
    have exm := W1.exw (c1, m1) (by simp [pr])
    have exm1 : m1 < ms.length := exm.1
    have hcn : c1 < n := O.cnt m1 c1 exm.1 exm.2
    have hcl : c1 < G1.length := by rw [W1.len]; exact hcn
    have hx : G1[c1]? = some G1[c1] := List.getElem?_eq_getElem hcl
    have bx := W1.lo _ (List.mem_of_getElem? hx)
    generalize G1[c1] = x at hx bx
    have bx2 : x ≤ (ms.length : Int) := bx.2
    simp [f_fg B2, opIx_lst B2.sfg, atN, hx]
    by_cases hxm : m1 < x
    · obtain ⟨ws, hw1, hw2⟩ := B2.swg
      have nd := B.nd
      simp at nd
      simp [hxm, f_fg B2, opSet_lst B2.sfg, ixN_nat hcl]
      have f3 : Fr [fg, wg] s (s2.set fg (Ob.lst ((G1.map Vl.int).set c1 (.int (m1 : Nat))))) := f2.set (Or.inl (by simp))
      have B3 : BdAt (s2.set fg (Ob.lst ((G1.map Vl.int).set c1 (.int (m1 : Nat))))) bd mr hr lt fg wt wg L (G1.set c1 m1) := by
        refine ⟨by rw [get_set_ne (by omega)]; exact B2.top, by rw [get_set_ne (by omega)]; exact B2.slt, by rw [get_set_self B2.sfg, List.map_set], ?_, ⟨ws, by rw [get_set_ne (by omega)]; exact hw1, hw2⟩, by simpa using B2.len, B2.nd⟩
        obtain ⟨w2, q1, q2⟩ := B2.swt
        exact ⟨w2, by rw [get_set_ne (by omega)]; exact q1, q2⟩
      have e3 : (s2.set fg (Ob.lst ((G1.map Vl.int).set c1 (.int (m1 : Nat)))))[s.length]? = some (.lst (w'.map wV)) := by rw [get_set_ne (by omega)]; exact e2
      generalize (s2.set fg (Ob.lst ((G1.map Vl.int).set c1 (.int (m1 : Nat))))) = s3 at f3 B3 e3
      obtain ⟨ws3, hw3, hw4⟩ := B3.swg
      have bl2 := B2.len
      have hcw3 : c1 < ws3.length := by omega
      simp [f_wg B3, opSet_lst hw3, ixN_nat hcw3]
      have f4 : Fr [fg, wg] s (s3.set wg (Ob.lst (ws3.set c1 why1))) := f3.set (Or.inl (by simp))
      have B4 : BdAt (s3.set wg (Ob.lst (ws3.set c1 why1))) bd mr hr lt fg wt wg L (G1.set c1 m1) := by
        refine ⟨by rw [get_set_ne (by omega)]; exact B3.top, by rw [get_set_ne (by omega)]; exact B3.slt, by rw [get_set_ne (by omega)]; exact B3.sfg, ?_, ⟨_, get_set_self hw3, by simpa using hw4⟩, B3.len, B3.nd⟩
        obtain ⟨w2, q1, q2⟩ := B3.swt
        exact ⟨w2, by rw [get_set_ne (by omega)]; exact q1, q2⟩
      have e4 : (s3.set wg (Ob.lst (ws3.set c1 why1)))[s.length]? = some (.lst (w'.map wV)) := by rw [get_set_ne (by omega)]; exact e3
      generalize (s3.set wg (Ob.lst (ws3.set c1 why1))) = s4 at f4 B4 e4
      rw [rng2W_int (by omega) (by omega) (by omega) (by omega)]
      have wl1000 : w'.length ≤ 97000 := by
        simp at hk
        omega
      refine loopX_inv (KH s bd mr hr lt fg wt wg L (G1.set c1 m1) ms w' c m why c1 m1 why1 x) ⟨x9, x10, rfl, by simpa [newsG] using e4, B4, f4⟩ ?_ ?_
      · rintro i v lo s5 hv ⟨x9, x10, rfl, e5, B5, f5⟩
        obtain ⟨hi, rfl⟩ := rng_get2 hv
        obtain ⟨o, ho⟩ : ∃ o : Nat, o = m1 + i := ⟨_, rfl⟩
        have ho' : (m1 : Int) + (i : Nat) = ((o : Nat) : Int) := by omega
        have hom : o < ms.length := by omega
        rw [ho']
        have M5 := M.fr f5 (by simp; omega)
        obtain ⟨vs, hh, v1, v3, v4⟩ := M5.get hom
        have mo : mAt ms o = ms[o] := mAt_get (List.getElem?_eq_getElem hom)
        have ns := newsG_succ (ms := ms) (c := c1) (m := m1) (j := i)
        rw [← ho] at ns
        have hj0 : c1 < ms[o].held.length := by
          have := O.mono m1 o ms[m1] ms[o] (by omega) (List.getElem?_eq_getElem exm1) (List.getElem?_eq_getElem hom)
          have h2 : c1 < (mAt ms m1).held.length := exm.2
          rw [mAt_get (List.getElem?_eq_getElem exm1)] at h2
          omega
        have hj : c1 < (holdersOf ms[o]).length := by simpa [holdersOf] using hj0
        obtain ⟨ys, r, y1, y2, y3, y4⟩ := v4.get hj
        have hrw : (holdersOf ms[o])[c1] = hrow (mAt ms o) c1 := by rw [mo]; unfold hrow; rw [List.getElem?_eq_getElem hj]; rfl
        rw [hrw] at y4
        have hrl : ∀ y ∈ hrow (mAt ms o) c1, 0 ≤ y := fun y hy => by
          obtain ⟨_, o', _, rfl, _⟩ := mem_hrow.mp hy
          omega
        have hlen : (hrow (mAt ms o) c1).length ≤ 800 := by rw [mo]; exact hrow_len O (List.getElem?_eq_getElem hom)
        simp [kd_lst e5, f_ho B5, opIx_lst v1, atN, v3, opIx_lst y1, y3, y4]
        refine lcL_p (xs := (hrow (mAt ms o) c1).map Vl.int) s5 (pushFn "holder" o c1) rfl rfl y4 (by simp; omega) ?_ ?_
        · intro v hv acc
          obtain ⟨y, hy, rfl⟩ := List.mem_map.mp hv
          refine ⟨_, rfl, ?_⟩
          simp [tTrue, wipeL, pushFn]
        · rw [pushV hrl]
          have e6 : (s5 ++ [Ob.lst ((pushG ms c1 o).map wV)])[s.length]? = some (.lst ((w' ++ newsG ms c1 m1 i).map wV)) := get_push e5
          have nl := newsG_len (c := c1) (m := m1) O i
          have pl4 := pushG_len (c := c1) (k := o) O
          show WE _ (s5 ++ [Ob.lst ((pushG ms c1 o).map wV)]) _ _
          rw [WE_aNil, oExtend_lst e6 get_last (limB (by simp; omega))]
          simp only [WO_some]
          have f6 : Fr [s.length] s5 ((s5 ++ [Ob.lst ((pushG ms c1 o).map wV)]).set s.length (Ob.lst ((w' ++ newsG ms c1 m1 i).map wV ++ (pushG ms c1 o).map wV))) := (Fr.refl.push _).set (Or.inl (by simp))
          refine ⟨_, _, rfl, ?_, B5.fr f6 (by simp; omega), (f5.push _).set (Or.inr (Nat.le_refl _))⟩
          rw [get_set_self e6, ns]
          simp
      · rintro lo s5 ⟨x9, x10, rfl, e5, B5, f5⟩
        rw [rng_len2] at e5
        have ps := potG_set hx (show (0 : Int) ≤ (m1 : Nat) by omega) (Int.le_of_lt hxm)
        have nl := newsG_len (c := c1) (m := m1) O (x - (m1 : Int)).toNat
        have W2 : (syOf ms).GW n P' G c m G1 (w'.map pr ++ [(c1, m1)]) := by simpa [pr] using W1
        have hml := fun (q : Wt) => newsG_mem (ms := ms) (c := c1) (m := m1) (j := (x - (m1 : Int)).toNat) (q := q)
        have W3 := W2.push O.ok hx hxm (ns := (newsG ms c1 m1 (x - (m1 : Int)).toNat).map pr) (fun q hq => ?_) (fun o kk h1 h2 h3 => ?_)
        · have hlen : (w' ++ newsG ms c1 m1 (x - (m1 : Int)).toNat).length + 801 * potG (G1.set c1 m1) < k' := by
            rw [hk]
            simp only [List.length_append, List.length_cons, List.length_nil]
            omega
          refine ⟨_, hlen, w' ++ newsG ms c1 m1 (x - (m1 : Int)).toNat, G1.set c1 m1, _, _, _, _, _, _, rfl, rfl, by omega, e5, fun q hq => ?_, B5, by rw [List.map_append]; exact W3, f5⟩
          rcases List.mem_append.mp hq with z | z
          · exact hla q (List.mem_append_left _ z)
          · obtain ⟨i, y, _, _, rfl⟩ := (hml q).mp z
            exact (La.tup2 La.lit La.int).mono (by omega)
        · obtain ⟨q', hq', rfl⟩ := List.mem_map.mp hq
          obtain ⟨i, y, hi, hy, rfl⟩ := (hml q').mp hq'
          refine ⟨by simp only [pr]; omega, by simp only [pr]; omega, ?_⟩
          obtain ⟨_, o', _, rfl, hy2⟩ := mem_hrow.mp hy
          exact List.mem_map.mpr ⟨c1, by simpa [pr] using hy2, by simp⟩
        · have h3 : c1 ∈ ((mAt ms kk).row o).map Int.toNat := h3
          obtain ⟨y, hy, hyc⟩ := List.mem_map.mp h3
          have hkk : kk < ms.length := by omega
          have mk : mAt ms kk = ms[kk] := mAt_get (List.getElem?_eq_getElem hkk)
          obtain ⟨q1, r, q2, q3, q4⟩ := Mo.row_mem hy
          have yb := (O.row kk ms[kk] (List.getElem?_eq_getElem hkk) r (by rw [← mk]; exact q2)).2 y q4
          have yc : y = (c1 : Int) := by omega
          subst yc
          have hkm : m1 + (kk - m1) = kk := by omega
          refine List.mem_map.mpr ⟨(o, kk, .tup [.str "holder", .int (c1 : Nat)]), (hml _).mpr ⟨kk - m1, (o : Int), by omega, ?_, ?_⟩, rfl⟩
          · rw [hkm]
            exact mem_hrow.mpr ⟨by rw [mk]; omega, o, q1, rfl, hy⟩
          · rw [hkm]
            simp
    · simp [hxm]
      refine ⟨w'.length + 801 * potG G1, by rw [hk]; simp, w', G1, _, _, _, _, _, _, rfl, rfl, by simp at hk; omega, e2, fun q hq => hla q (List.mem_append_left _ hq), B2, ?_, f2⟩
      have W2 : (syOf ms).GW n P' G c m G1 (w'.map pr ++ [(c1, m1)]) := by simpa [pr] using W1
      exact W2.skip (by show fG ms.length G1 c1 ≤ _; rw [fG_get hx]; omega)
end K32

/-! UD: moments_of in general -/
namespace K32
open PySem L2 Sm
theorem gok {n B : Nat} {h : Hs} (O : HsOk n B h) (hn : n ≤ 6) (hB : B < 100) : GOk2 h.held n := by
  refine ⟨⟨by simp [Hs.held, O.len], ?_⟩, hn, ?_⟩
  · intro row hrow y hy
    obtain ⟨r, hr, rfl⟩ := List.mem_map.mp hrow
    obtain ⟨kv, hkv, e⟩ := List.mem_filterMap.mp hy
    rcases (O.row r hr).2 kv hkv with q | ⟨c, q1, q2⟩
    · rw [q] at e; simp [vInt] at e
    · rw [q2] at e; simp [vInt] at e; omega
  · intro row hrow
    obtain ⟨r, hr, rfl⟩ := List.mem_map.mp hrow
    have h1 := (O.row r hr).1
    have h2 : (heldR r).length ≤ r.length := List.length_filterMap_le ..
    omega
def ApI (s0 s : Sto) (fx : List (Nat × Ob)) (a a1 a2 a3 B m : Nat) (h : Hs) (es : List Ev) (i : Nat) (lo : Lo) (s' : Sto) : Prop := ∃ rs n' x2, lo = [some (.ref a), some (itV es), x2] ∧ Hp0 s0 fx kdO a3 a1 a2 rs ((es.take i).foldl Hs.step h) s' ∧ HsOk n' (B + i) ((es.take i).foldl Hs.step h) ∧ okL n' (es.drop i) m ∧ s.length ≤ s'.length
theorem applyF {s0 s : Sto} {fx : List (Nat × Ob)} {a a1 a2 a3 n B m : Nat} {rs : List Nat} {h : Hs} {es : List Ev} (hfx : (a, topO a1 a2 a3) ∈ fx) (P : Hp0 s0 fx kdO a3 a1 a2 rs h s) (O : HsOk n B h) (o : okL n es m) (hb : B + es.length < 1000) (hn : m < 1000) :
    WE (m_Heap_apply [.ref a, itV es]) s (fun v s' => v = .non ∧ s.length ≤ s'.length ∧ ∃ rs', Hp0 s0 fx kdO a3 a1 a2 rs' (es.foldl Hs.step h) s') NoX := by
  unfold m_Heap_apply b_Heap_apply
  simp [itV]
  refine loopX_inv (ApI s0 s fx a a1 a2 a3 B m h es) ?_ ?_ ?_
  · exact ⟨rs, n, none, rfl, P, O, o, Nat.le_refl _⟩
  · rintro i v lo s1 hv ⟨rs, n', x2, rfl, P1, O1, o1, le1⟩
    rw [List.getElem?_map] at hv
    obtain ⟨e, he, rfl⟩ : ∃ e, es[i]? = some e ∧ v = e.vl := by
      cases q : es[i]? with
      | none => rw [q] at hv; cases hv
      | some e => rw [q] at hv; exact ⟨e, rfl, by simpa using hv.symm⟩
    obtain ⟨hi, ee⟩ := List.getElem?_eq_some_iff.mp he
    have ed : es.drop i = e :: es.drop (i + 1) := by rw [List.drop_eq_getElem_cons hi, ee]
    rw [ed] at o1
    have et : (es.take (i + 1)).foldl Hs.step h = ((es.take i).foldl Hs.step h).step e := by
      rw [List.take_add_one, he]
      simp
    generalize (es.take i).foldl Hs.step h = h1 at P1 O1 et
    obtain ⟨n2, O2, o2, hn2⟩ := O1.step o1
    have top := (P1.fxd a _ hfx).1
    have hm2 := okL_le o2
    have hrl : rs.length < LIM := by rw [P1.len, O1.len]; exact limC (by omega)
    have hrl' : h1.rows.length < LIM := by rw [O1.len]; exact limC (by omega)
    have hsl : h1.stand.length < LIM := limC (by have := O1.std.1; omega)
    have hkl : (kdL h1.kept).length < LIM := limC (by have := O1.kpt.1; have := kdL_len (ks := h1.kept); omega)
    simp
    cases e with
    | make j =>
      simp [Ev.vl, fw3 top, P1.sg, oAppend_lst (get_push P1.sg) (by simpa using hrl)]
      exact ⟨_, n2, _, rfl, by rw [et]; exact P1.make j, by rw [et]; exact O2, o2, by simp; omega⟩
    | stand x c =>
      simp [Ev.vl, fw1 top, P1.st, hsl]
      exact ⟨_, n2, _, rfl, by rw [et]; exact P1.setSt, by rw [et]; exact O2, o2, by simp; omega⟩
    | hold j f c =>
      obtain ⟨⟨hj, _, _⟩, _⟩ := o1
      have hj' : j < rs.length := by rw [P1.len, O1.len]; exact hj
      have hjr : rs[j]? = some rs[j] := List.getElem?_eq_getElem hj'
      obtain ⟨row, hr, hs⟩ := P1.rw j _ hjr
      have hrow := (O1.row row (List.mem_of_getElem? hr)).1
      have hrw : row.length < LIM := limC (by omega)
      have hat : atI (rs.map Vl.ref) (j : Int) = some (.ref rs[j]) := by rw [atN, List.getElem?_map, hjr]; rfl
      simp [Ev.vl, fw3 top, P1.sg, hat, hs, hrw]
      refine ⟨rs, n2, _, rfl, ?_, by rw [et]; exact O2, o2, by simp; omega⟩
      rw [et]
      have := P1.setRow (row := put row (.inr f) (oN c)) hjr
      simp only [Hs.step, hr]
      exact this
    | keep c =>
      simp [Ev.vl, fw2 top, P1.kp, kdO, hkl]
      refine ⟨rs, n2, _, rfl, ?_, by rw [et]; exact O2, o2, by simp; omega⟩
      rw [et]
      have := P1.setKp (kp := h1.kept ++ [(c : Int)])
      rw [kdO, kdL_app] at this
      exact this
    | ask c =>
      simp [Ev.vl]
      exact ⟨rs, n2, _, rfl, by rw [et]; exact P1, by rw [et]; exact O2, o2, le1⟩
  · rintro lo s1 ⟨rs, n', x2, rfl, P1, O1, o1, le1⟩
    simp at P1
    exact ⟨rfl, le1, rs, P1⟩
/-- all that does not belong to the heap -/
def others (s : Sto) (X : List Nat) : List (Nat × Ob) := (List.range s.length).filterMap fun x => if x ∈ X then none else (s[x]?).map fun o => (x, o)
theorem mem_others {s : Sto} {X : List Nat} {x : Nat} {o : Ob} : (x, o) ∈ others s X ↔ x ∉ X ∧ s[x]? = some o := by
  unfold others
  rw [List.mem_filterMap]
  constructor
  · rintro ⟨y, hy, e⟩
    by_cases q : y ∈ X
    · rw [if_pos q] at e; cases e
    · rw [if_neg q] at e
      cases r : s[y]? with
      | none => rw [r] at e; cases e
      | some o' =>
        rw [r] at e
        simp at e
        obtain ⟨rfl, rfl⟩ := e
        exact ⟨q, r⟩
  · rintro ⟨h1, h2⟩
    exact ⟨x, List.mem_range.mpr (lt_of_get h2), by rw [if_neg h1, h2]; rfl⟩
theorem Hp0.all {s0 s : Sto} {fx : List (Nat × Ob)} {ko : List Int → Ob} {b3 b1 k : Nat} {rs : List Nat} {h : Hs} (P : Hp0 s0 fx ko b3 b1 k rs h s) : Hp0 s0 (others s (b3 :: b1 :: k :: rs)) ko b3 b1 k rs h s :=
  ⟨P.sg, P.st, P.kp, P.len, P.rw, P.nd, P.new, fun x o hx => ⟨(mem_others.mp hx).2, (mem_others.mp hx).1⟩, P.fr⟩
/-- apply, and what it leaves alone -/
theorem applyG {s0 s : Sto} {a a1 a2 a3 n B m : Nat} {rs : List Nat} {h : Hs} {es : List Ev} {Q : Vl → Sto → Prop} {E : Ex → Sto → Prop} (P : Hp0 s0 [(a, topO a1 a2 a3)] kdO a3 a1 a2 rs h s) (O : HsOk n B h) (o : okL n es m) (hb : B + es.length < 1000) (hn : m < 1000)
    (k : ∀ rs' s', Hp0 s0 [(a, topO a1 a2 a3)] kdO a3 a1 a2 rs' (es.foldl Hs.step h) s' → Fr (a3 :: a1 :: a2 :: rs) s s' → (∀ x ∈ rs', x ∈ rs ∨ s.length ≤ x) → Q .non s') : WE (m_Heap_apply [.ref a, itV es]) s Q E := by
  have top := P.fxd a _ (List.mem_singleton.mpr rfl)
  refine (applyF (mem_others.mpr ⟨top.2, top.1⟩) P.all O o hb hn).use ?_
  rintro v s' ⟨rfl, le, rs', P'⟩
  have old : ∀ x, x < s.length → x ∉ a3 :: a1 :: a2 :: rs → ∃ o, s[x]? = some o ∧ (x, o) ∈ others s (a3 :: a1 :: a2 :: rs) := fun x hx hm => ⟨s[x], List.getElem?_eq_getElem hx, mem_others.mpr ⟨hm, List.getElem?_eq_getElem hx⟩⟩
  refine k rs' s' ⟨P'.sg, P'.st, P'.kp, P'.len, P'.rw, P'.nd, P'.new, fun x o hx => ?_, P'.fr⟩ ⟨le, fun i hi hm => ?_⟩ fun x hx => ?_
  · simp at hx
    obtain ⟨rfl, rfl⟩ := hx
    exact P'.fxd _ _ (mem_others.mpr ⟨top.2, top.1⟩)
  · obtain ⟨o, h1, h2⟩ := old i hi hm
    rw [(P'.fxd i o h2).1, h1]
  · by_cases hxl : x < s.length
    · by_cases hm : x ∈ a3 :: a1 :: a2 :: rs
      · have nd := P'.nd
        simp at hm nd
        rcases hm with rfl | rfl | rfl | hm
        · exact absurd hx nd.1.2.2
        · exact absurd hx nd.2.1.2
        · exact absurd hx nd.2.2.1
        · exact Or.inl hm
      · obtain ⟨o, h1, h2⟩ := old x hxl hm
        have := (P'.fxd x o h2).2
        simp at this
        exact absurd hx this.2.2.2
    · exact Or.inr (by omega)
end K32

/-! UE: moments_of in general -/
namespace K32
open PySem L2 Sm
section
variable {s s' : Sto} {a b j : Nat} {held : List (List Int)} {X : List Nat}
theorem HeldR.frD (H : HeldR s a b j held) (f : Fr X s s') (hX : ∀ x ∈ X, ∀ ys, s[x]? = some (.lst ys) → x < a ∨ b ≤ x) : HeldR s' a b j held := by
  obtain ⟨h1, hs, h2, h3, h4⟩ := H
  have nx : ∀ z ys, a ≤ z → z < b → s[z]? = some (.lst ys) → z ∉ X := fun z ys q1 q2 q4 q3 => by have := hX z q3 ys q4; omega
  refine ⟨h1, hs, f.at h2 (nx _ _ h1.1 h1.2 h2), h3, fun i x hx => ?_⟩
  obtain ⟨q1, row, q2, q3⟩ := h4 i x hx
  exact ⟨q1, row, q2, f.at q3 (nx _ _ q1.1 q1.2 q3)⟩
theorem MomG.frD {v : Vl} {x : Mo} (M : MomG s a b v x) (f : Fr X s s') (hX : ∀ x ∈ X, ∀ ys, s[x]? = some (.lst ys) → x < a ∨ b ≤ x) : MomG s' a b v x := by
  obtain ⟨h, g, e, h1, h2, h3⟩ := M
  exact ⟨h, g, e, h1.frD f hX, h2, f.at h3 (fun q => by have := hX g q _ h3; omega)⟩
theorem HeldAt.toR (H : HeldAt s j held) : HeldR s j s.length j held := by
  obtain ⟨hs, h1, h2, h3⟩ := H.ex
  refine ⟨⟨Nat.le_refl _, lt_of_get h1⟩, hs, h1, h2, fun i x hx => ?_⟩
  obtain ⟨lx, row, q1, q2⟩ := h3 i x hx
  exact ⟨⟨by omega, lt_of_get q2⟩, row, q1, q2⟩
end
/-- the moments of a story -/
structure MsFor (its : List (List Ev)) (ms : List Mo) : Prop where
  held : ∀ (i : Nat) (x : Mo), ms[i]? = some x → x.held = (stAt its i).held
  fl : ∀ (i : Nat) (x : Mo), ms[i]? = some x → x.fl.length = x.held.length
  on : ∀ (i : Nat) (x : Mo), ms[i]? = some x → ∀ y, on x.fl y ↔ Rch x.held (· ∈ (stAt its i).starts) y
theorem Hp0.framX {s0 s s' : Sto} {fx : List (Nat × Ob)} {ko : List Int → Ob} {b3 b1 k x : Nat} {rs : List Nat} {h : Hs} (P : Hp0 s0 fx ko b3 b1 k rs h s) (f : Fr [x] s s') (h1 : x ∉ b3 :: b1 :: k :: rs) (h2 : ∀ y o, (y, o) ∈ fx → y ≠ x) (h3 : s0.length ≤ x) : Hp0 s0 fx ko b3 b1 k rs h s' := by
  have ne : ∀ y ∈ b3 :: b1 :: k :: rs, y ∉ [x] := fun y hy z => by simp at z; subst z; exact h1 hy
  refine ⟨f.at P.sg (ne _ (by simp)), f.at P.st (ne _ (by simp)), f.at P.kp (ne _ (by simp)), P.len, fun i r hr => ?_, P.nd, P.new, fun y o hy => ?_, P.fr.trans' f (by simp; exact h3)⟩
  · obtain ⟨row, q1, q2⟩ := P.rw i r hr
    exact ⟨row, q1, f.at q2 (ne _ (by simp; right; right; right; exact List.mem_of_getElem? hr))⟩
  · obtain ⟨q1, q2⟩ := P.fxd y o hy
    exact ⟨f.at q1 (by simp; exact h2 y o hy), q2⟩
def MgI (s : Sto) (its : List (List Ev)) (fo : Nat) (i : Nat) (lo : Lo) (s' : Sto) : Prop := ∃ (x3 x4 : Option Vl) (rs : List Nat) (ms : List Mo) (vs : List Vl), lo = [some (stV its), some (.ref s.length), some (.ref fo), x3, x4] ∧ Hp0 s [(s.length, topO (s.length + 1) (s.length + 2) (s.length + 3))] kdO (s.length + 3) (s.length + 1) (s.length + 2) rs (stAt its i) s' ∧ s'[fo]? = some (.lst vs) ∧ vs.length = i ∧ ms.length = i ∧ MsFor its ms ∧ (∀ (p : Nat) (v : Vl) (x : Mo), vs[p]? = some v → ms[p]? = some x → MomG s' (fo + 1) s'.length v x)
theorem momentsG {s : Sto} {Q : Vl → Sto → Prop} {E : Ex → Sto → Prop} {its : List (List Ev)} (S : StOk its) (k : ∀ ms r s', MsFor its ms → ms.length = its.length → MomsG s' s.length s'.length r ms → Fr [] s s' → Q (.ref r) s') : WE (m_moments_of [stV its]) s Q E := by
  unfold m_moments_of b_moments_of
  have hlen := S.len
  simp [WE_eMake]
  refine initS.use ?_
  rintro v s1 ⟨rfl, P1⟩
  have hfo : s.length + 3 < s1.length := lt_of_get P1.sg
  simp
  show WS (loopX _ _ (its.map itV)) _ _ _
  have P2 := P1.fram (Fr.refl.push (Ob.lst []) (X := []))
  refine loopX_inv (MgI s its s1.length) ?_ ?_ ?_
  · exact ⟨none, none, [], [], [], rfl, P2, get_last, rfl, rfl, ⟨by simp, by simp, by simp⟩, by simp⟩
  · rintro i v lo s2 hv ⟨x3, x4, rs, ms, vs, rfl, P2, e2, vl, ml, MF, MG⟩
    obtain ⟨it, hit, rfl⟩ := get_map hv
    obtain ⟨n, m, hm6, O2, o2, hst⟩ := S.at1 hit
    have hil := (List.getElem?_eq_some_iff.mp hit).1
    have hmn := okL_le o2
    have hitl := S.sm it (List.mem_of_getElem? hit)
    have top2 := P2.fxd s.length _ (List.mem_singleton.mpr rfl)
    have G2 := gok O2 (by omega) (by omega)
    have lfo := lt_of_get e2
    simp [WE_eMeth]
    rw [methW_ins (m := "held_lists") (tab := tabA 0 tab_held_lists) (mf := arg 1 m_Heap_held_lists) top2.1 rfl (by rfl)]
    simp
    refine (heldLists P2 O2 (by omega) (by omega)).use ?_
    rintro v s3 ⟨rfl, H3, f3⟩
    have P3 := P2.fram f3
    have e3 := f3.at e2 (by simp)
    have top3 := P3.fxd s.length _ (List.mem_singleton.mpr rfl)
    simp [WE_eMeth, kd_lst e3]
    rw [methW_ins (m := "reached_flags") (tab := tabA 1 tab_reached_flags) (mf := arg 2 m_Heap_reached_flags) top3.1 rfl (by rfl)]
    simp
    refine (flagsS P3 O2 (by omega) H3 G2).use ?_
    rintro v s4 ⟨q, fl, rfl, hq, e4, fll, hon, f4⟩
    have P4 := P3.fram f4
    have e34 := f4.at e3 (by simp)
    have H4 := H3.fr f4
    have le3 := f3.le
    have le4 := f4.le
    have lq := lt_of_get e4
    simp
    rw [oAppend_lst e34 (limC (by omega))]
    simp only [WO_some]
    obtain ⟨nv, hnv⟩ : ∃ nv, nv = Vl.tup [.ref s2.length, .ref q] := ⟨_, rfl⟩
    rw [← hnv]
    have g5 : Fr [s1.length] s4 (s4.set s1.length (Ob.lst (vs ++ [nv]))) := Fr.refl.set (by simp)
    have e5 : (s4.set s1.length (Ob.lst (vs ++ [nv])))[s1.length]? = some (.lst (vs ++ [nv])) := get_set_self e34
    have l5 : (s4.set s1.length (Ob.lst (vs ++ [nv]))).length = s4.length := by simp
    have nrs : ∀ x ∈ rs, s4[x]? ≠ some (.lst vs) := fun x hx z => by
      obtain ⟨i', hi'⟩ := List.getElem?_of_mem hx
      obtain ⟨row, _, q2⟩ := P4.rw i' x hi'
      rw [z] at q2
      cases q2
    have nfo : s1.length ∉ (s.length + 3) :: (s.length + 1) :: (s.length + 2) :: rs := fun z => by
      simp at z
      rcases z with z | z | z | z
      · omega
      · omega
      · omega
      · exact nrs _ z e34
    have P5 : Hp0 s [(s.length, topO (s.length + 1) (s.length + 2) (s.length + 3))] kdO (s.length + 3) (s.length + 1) (s.length + 2) rs (stAt its i) (s4.set s1.length (Ob.lst (vs ++ [nv]))) := P4.framX g5 nfo (fun y o hy => by simp at hy; omega) (by omega)
    have M5 : MomG (s4.set s1.length (Ob.lst (vs ++ [nv]))) (s1.length + 1) s4.length nv ⟨(stAt its i).held, fl⟩ :=
      ⟨s2.length, q, hnv, (H4.toR.wide (by omega) (Nat.le_refl _)).fr g5 (by simp), ⟨by omega, lq⟩, g5.at e4 (by simp; omega)⟩
    have A5 : ∀ (p : Nat) (v : Vl) (x : Mo), vs[p]? = some v → ms[p]? = some x → MomG (s4.set s1.length (Ob.lst (vs ++ [nv]))) (s1.length + 1) s4.length v x := fun p v x q1 q2 =>
      (((MG p v x q1 q2).fr (f3.trans f4) (by simp)).wide (Nat.le_refl _) (by omega)).fr g5 (by simp)
    generalize (s4.set s1.length (Ob.lst (vs ++ [nv]))) = s5 at g5 e5 l5 P5 M5 A5
    have top5 := P5.fxd s.length _ (List.mem_singleton.mpr rfl)
    simp [WE_eMeth]
    rw [methW_ins (m := "apply") (tab := tabA 1 tab_apply) (mf := arg 2 m_Heap_apply) top5.1 rfl (by rfl)]
    simp
    refine applyG P5 O2 o2 (by omega) (by omega) fun rs' s6 P6 f6 _ => ?_
    have hX : ∀ x ∈ (s.length + 3) :: (s.length + 1) :: (s.length + 2) :: rs, ∀ ys, s5[x]? = some (.lst ys) → x < s1.length + 1 ∨ s4.length ≤ x := fun x hx ys hy => by
      simp at hx
      rcases hx with rfl | rfl | rfl | hx
      · exact Or.inl (by omega)
      · exact Or.inl (by omega)
      · exact Or.inl (by omega)
      · obtain ⟨i', hi'⟩ := List.getElem?_of_mem hx
        obtain ⟨row, _, q2⟩ := P5.rw i' x hi'
        rw [hy] at q2
        cases q2
    have le6 := f6.le
    refine ⟨_, _, rs', ms ++ [⟨(stAt its i).held, fl⟩], vs ++ [nv], rfl, by rw [hst]; exact P6, f6.at e5 nfo, by simp [vl], by simp [ml], ?_, fun p v x q1 q2 => ?_⟩
    · have get : ∀ (p : Nat) (x : Mo), (ms ++ [(⟨(stAt its i).held, fl⟩ : Mo)])[p]? = some x → ms[p]? = some x ∨ (p = i ∧ x = ⟨(stAt its i).held, fl⟩) := fun p x hp => by
        rcases getElem?_snoc hp with z | ⟨z1, z2⟩
        · exact Or.inl z
        · exact Or.inr ⟨by omega, z2⟩
      refine ⟨fun p x hp => ?_, fun p x hp => ?_, fun p x hp => ?_⟩
      · rcases get p x hp with z | ⟨rfl, rfl⟩
        · exact MF.held p x z
        · rfl
      · rcases get p x hp with z | ⟨rfl, rfl⟩
        · exact MF.fl p x z
        · show fl.length = (stAt its p).held.length
          rw [fll, ← G2.len]
      · rcases get p x hp with z | ⟨rfl, rfl⟩
        · exact MF.on p x z
        · exact hon
    · have fin : ∀ {v x}, MomG s5 (s1.length + 1) s4.length v x → MomG s6 (s1.length + 1) s6.length v x := fun M => (M.frD f6 hX).wide (Nat.le_refl _) (by omega)
      rcases getElem?_snoc q1 with z | ⟨z1, z2⟩
      · rcases getElem?_snoc q2 with w | ⟨w1, w2⟩
        · exact fin (A5 p v x z w)
        · have := (List.getElem?_eq_some_iff.mp z).1
          omega
      · rcases getElem?_snoc q2 with w | ⟨w1, w2⟩
        · have := (List.getElem?_eq_some_iff.mp w).1
          omega
        · subst z2 w2
          exact fin M5
  · rintro lo s2 ⟨x3, x4, rs, ms, vs, rfl, P2, e2, vl, ml, MF, MG⟩
    have lfo := lt_of_get e2
    simp at vl ml
    simp
    exact k ms _ s2 MF ml ⟨⟨vs, e2, by omega, fun i v x h1 h2 => (MG i v x h1 h2).wide (by omega) (Nat.le_refl _)⟩, by omega, lfo⟩ P2.fr
end K32

/-! UF: questions_of, holders_of in general -/
namespace K32
open PySem L2 Sm
def askE (i : Nat) : Ev → Option (Nat × Nat)
  | .ask c => some (i, c)
  | _ => none
/-- the questions of the first k items -/
def qsK (its : List (List Ev)) : Nat → List (Nat × Nat)
  | 0 => []
  | k + 1 => qsK its k ++ ((its[k]?).getD []).filterMap (askE k)
def qV (q : Nat × Nat) : Vl := .tup [.int (q.1 : Nat), .int (q.2 : Nat)]
theorem qsK_len {its : List (List Ev)} (h : ∀ it ∈ its, it.length ≤ 4) : ∀ k, (qsK its k).length ≤ 4 * k
  | 0 => Nat.le_refl _
  | k + 1 => by
    have ih := qsK_len h k
    have : (((its[k]?).getD []).filterMap (askE k)).length ≤ 4 := by
      refine Nat.le_trans (List.length_filterMap_le ..) ?_
      cases e : its[k]? with
      | none => simp
      | some it => exact h it (List.mem_of_getElem? e)
    simp only [qsK, List.length_append]
    omega
theorem enm_get {xs : List Vl} {i : Nat} {v : Vl} (h : (enmL xs)[i]? = some v) : ∃ x, xs[i]? = some x ∧ v = .tup [.int (i : Nat), x] := by
  rw [enmL_get] at h
  cases q : xs[i]? with
  | none => rw [q] at h; cases h
  | some x => rw [q] at h; exact ⟨x, rfl, by simpa using h.symm⟩
theorem enm_len {xs : List Vl} : (enmL xs).length = xs.length := by simp [enmL]
def askF (i : Nat) (v : Vl) : Option Vl := match v with
  | .tup [.str w, x] => if w = "ask" then some (.tup [.int (i : Nat), x]) else none
  | _ => none
theorem askF_ev {i : Nat} {e : Ev} : askF i e.vl = (askE i e).map qV := by
  cases e <;> simp [Ev.vl, askF, askE, qV]
section
variable {s : Sto} {Q : Vl → Sto → Prop} {E : Ex → Sto → Prop}
theorem askL {lo : Lo} {it : List Ev} {i : Nat} {QS : Sto → Prop} (hl : it.length < 1000) (h2 : lo[2]? = some (some (.int (i : Nat)))) (h4 : lo.length = 5) (k : QS (s ++ [.lst ((it.filterMap (askE i)).map qV)])) :
    WL (lcX (glN 4) (tVal (eOp opEq (eOp opIx (eVar 4) (eC (.int 0))) (eC (.str "ask")))) (eCB oTup (aCons (eVar 2) (aCons (eOp opIx (eVar 4) (eC (.int 1))) aNil))) s.length lo (it.map Ev.vl) (s ++ [.lst []])) QS := by
  refine lcX_p (xs := it.map Ev.vl) s (askF i) rfl rfl (by simp; omega) ?_ ?_
  · intro x hxm acc
    obtain ⟨e, he, rfl⟩ := List.mem_map.mp hxm
    refine ⟨_, rfl, ?_⟩
    have e2 : (lo.set 4 (some e.vl))[2]? = some (some (.int (i : Nat))) := by rw [List.getElem?_set_ne (by omega)]; exact h2
    have e4 : (lo.set 4 (some e.vl))[4]? = some (some e.vl) := List.getElem?_set_self (by omega)
    cases e <;> simp [Ev.vl] at e4 e2 ⊢ <;> simp [e4, e2, askF]
  · have : (it.map Ev.vl).filterMap (askF i) = (it.filterMap (askE i)).map qV := by
      rw [List.filterMap_map, List.map_filterMap]
      congr 1
      funext e
      exact askF_ev
    rw [this]
    exact k
theorem questionsG {its : List (List Ev)} (S : StOk its) (k : ∀ s', s'[s.length]? = some (.lst ((qsK its its.length).map qV)) → Fr [] s s' → Q (.ref s.length) s') : WE (m_questions_of [stV its]) s Q E := by
  unfold m_questions_of b_questions_of
  have hlen := S.len
  simp
  show WS (loopX _ _ (enmL (its.map itV))) _ _ _
  refine loopX_inv (fun i lo s' => ∃ x2 x3 x4, lo = [some (stV its), some (.ref s.length), x2, x3, x4] ∧ s'[s.length]? = some (.lst ((qsK its i).map qV)) ∧ Fr [] s s') ⟨none, none, none, rfl, by simp [qsK], Fr.refl.push _⟩ ?_ ?_
  · rintro i v lo s1 hv ⟨x2, x3, x4, rfl, e1, f1⟩
    obtain ⟨x, hx, rfl⟩ := enm_get hv
    obtain ⟨it, hit, rfl⟩ := get_map hx
    have hil := (List.getElem?_eq_some_iff.mp hit).1
    have ql := qsK_len S.sm i
    have itl := S.sm it (List.mem_of_getElem? hit)
    unfold itV
    simp [kd_lst e1]
    refine askL (by omega) rfl rfl ?_
    have e2 : (s1 ++ [Ob.lst ((it.filterMap (askE i)).map qV)])[s.length]? = some (.lst ((qsK its i).map qV)) := get_push e1
    have hfl : (it.filterMap (askE i)).length ≤ it.length := List.length_filterMap_le ..
    rw [WE_aNil, oExtend_lst e2 get_last (limB (by simp; omega))]
    simp only [WO_some]
    refine ⟨_, _, _, rfl, ?_, (f1.push _).set (Or.inr (Nat.le_refl _))⟩
    rw [get_set_self e2]
    simp [qsK, hit]
  · rintro lo s1 ⟨x2, x3, x4, rfl, e1, f1⟩
    rw [enm_len, List.length_map] at e1
    simp
    exact k s1 e1 f1
theorem lawQuestions : m__law_questions = m_questions_of := rfl
/-- who holds c, by the first i cells and j items of the next one -/
def hpart (x : Mo) (i j : Nat) (c : Nat) : List Int := ((List.range i).flatMap fun (o : Nat) => ((x.row o).filter fun y => decide (y = (c : Int))).map fun _ => (o : Int)) ++ (((x.row i).take j).filter fun y => decide (y = (c : Int))).map fun _ => (i : Int)
theorem hpart_zero {x : Mo} {c : Nat} : hpart x 0 0 c = [] := by simp [hpart]
theorem hpart_end {x : Mo} {i c : Nat} : hpart x i (x.row i).length c = hpart x (i + 1) 0 c := by
  unfold hpart
  rw [List.take_length, List.range_succ, List.flatMap_append]
  simp
theorem hpart_succ {x : Mo} {i j c : Nat} {y : Int} (h : (x.row i)[j]? = some y) : hpart x i (j + 1) c = if y = (c : Int) then hpart x i j c ++ [(i : Int)] else hpart x i j c := by
  unfold hpart
  rw [take_succ_get h, List.filter_append, List.map_append]
  by_cases e : y = (c : Int)
  · simp [e]
  · simp [e]
theorem hpart_len {x : Mo} {n i j c : Nat} (h : ∀ r ∈ x.held, r.length < 100) (hi : i ≤ 8) : (hpart x i j c).length ≤ 900 := by
  have rl : ∀ o, (x.row o).length ≤ 100 := fun o => by
    unfold Mo.row
    cases e : x.held[o]? with
    | none => simp
    | some r =>
      have := h r (List.mem_of_getElem? e)
      simp only [Option.getD_some]
      omega
  have key : ∀ l : List Nat, (l.flatMap fun (o : Nat) => ((x.row o).filter fun y => decide (y = (c : Int))).map fun _ => (o : Int)).length ≤ 100 * l.length := by
    intro l
    induction l with
    | nil => simp
    | cons o l ih =>
      have h1 : ((x.row o).filter fun y => decide (y = (c : Int))).length ≤ (x.row o).length := List.length_filter_le ..
      have h2 := rl o
      simp only [List.flatMap_cons, List.length_append, List.length_map, List.length_cons]
      omega
  have h1 := key (List.range i)
  rw [List.length_range] at h1
  have h2 : (((x.row i).take j).filter fun y => decide (y = (c : Int))).length ≤ ((x.row i).take j).length := List.length_filter_le ..
  have h3 : ((x.row i).take j).length ≤ (x.row i).length := by simp; omega
  have h4 := rl i
  unfold hpart
  rw [List.length_append, List.length_map]
  omega
/-- the lists of holders, amid the work -/
structure HoW (s : Sto) (x : Mo) (ks : List Nat) (i j : Nat) (s' : Sto) : Prop where
  top : s'[s.length]? = some (.lst (ks.map Vl.ref))
  len : ks.length = x.held.length
  nd : ks.Nodup
  gt : ∀ k ∈ ks, s.length < k
  at_ : ∀ (c k : Nat), ks[c]? = some k → s'[k]? = some (.lst ((hpart x i j c).map Vl.int))
  fr : Fr [] s s'
theorem holdersG {hd a b : Nat} {x : Mo} (H : HeldR s a b hd x.held) (hb : b ≤ s.length) (hl : x.held.length ≤ 8) (hr : ∀ r ∈ x.held, r.length < 100 ∧ ∀ y ∈ r, 0 ≤ y ∧ y < x.held.length) (k : ∀ s', HeldR s' s.length s'.length s.length (holdersOf x) → Fr [] s s' → Q (.ref s.length) s') : WE (m_holders_of [.ref hd]) s Q E := by
  unfold m_holders_of b_holders_of
  obtain ⟨hab, hs, H1, H2, H3⟩ := H
  simp [H1]
  refine lcL_inv (xs := hs.map Vl.ref) (fun i s' => Fr [] s s' ∧ ∃ ks : List Nat, ks.length = i ∧ s'[s.length]? = some (.lst (ks.map Vl.ref)) ∧ ks.Nodup ∧ ∀ k ∈ ks, s.length < k ∧ k < s'.length ∧ s'[k]? = some (.lst [])) (by simp; omega) ⟨Fr.refl.push _, [], rfl, get_last, by simp, by simp⟩ ?_ ?_ ?_
  · rintro i s' ⟨f, _⟩
    exact f.at H1 (by simp)
  · rintro i v s1 hv ⟨f1, ks, hi, e1, knd, hks⟩
    have lt1 := lt_of_get e1
    have hil : i < hs.length := by
      have := (List.getElem?_eq_some_iff.mp hv).1
      simpa using this
    refine ⟨_, rfl, ?_⟩
    unfold LcT tTrue
    rw [WE_ret, if_pos rfl]
    have e2 : (s1 ++ [Ob.lst []])[s.length]? = some (.lst (ks.map Vl.ref)) := get_push e1
    simp only [WE_eCB, WE_aNil, oLst_ok (xs := []) (by simp), WO_some, e2]
    refine ⟨limC (by simp; omega), (f1.push _).set (Or.inr (Nat.le_refl _)), ks ++ [s1.length], by simp [hi], by rw [get_set_self e2]; simp, ?_, fun j hj => ?_⟩
    · rw [List.nodup_append]
      refine ⟨knd, by simp, fun z hz w hw => ?_⟩
      simp at hw
      have := (hks z hz).2.1
      omega
    · rcases List.mem_append.mp hj with hj | hj
      · obtain ⟨q1, q2, q3⟩ := hks j hj
        exact ⟨q1, by simp; omega, by rw [get_set_ne (by omega)]; exact get_push q3⟩
      · simp at hj
        subst hj
        exact ⟨lt1, by simp, by rw [get_set_ne (by omega)]; simp⟩
  · rintro s1 ⟨f1, ks, hi, e1, knd, hks⟩
    have kl : ks.length = x.held.length := by rw [hi]; simpa using H2
    have H1' := f1.at H1 (by simp)
    have start : HoW s x ks 0 0 s1 := ⟨e1, kl, knd, fun z hz => (hks z hz).1, fun c z hz => by rw [hpart_zero]; exact (hks z (List.mem_of_getElem? hz)).2.2, f1⟩
    simp [H1']
    refine loopE_inv (xs := hs.map Vl.ref) (fun i lo s' => (∃ x2 x3 x4, lo = [some (.ref hd), some (.ref s.length), x2, x3, x4]) ∧ HoW s x ks i 0 s') (by simp; omega) ⟨⟨none, none, none, rfl⟩, start⟩ (fun i lo s' h => h.2.fr.at H1 (by simp)) ?_ ?_
    · rintro i v lo s2 hv ⟨⟨x2, x3, x4, rfl⟩, W2⟩
      obtain ⟨r, hr', rfl⟩ := get_map hv
      have hil := (List.getElem?_eq_some_iff.mp hr').1
      obtain ⟨rab, row, q1, q2⟩ := H3 i r hr'
      have hrow : x.row i = row := by unfold Mo.row; rw [q1]; rfl
      have rowm := List.mem_of_getElem? q1
      have r2 := W2.fr.at q2 (by simp)
      simp [r2]
      refine loopL_inv (xs := row.map Vl.int) (fun j lo s' => (∃ x4, lo = [some (.ref hd), some (.ref s.length), some (.int (i : Nat)), some (.ref r), x4]) ∧ HoW s x ks i j s') (by have := (hr row rowm).1; simp; omega) ⟨⟨_, rfl⟩, W2⟩ (fun j lo s' h => h.2.fr.at q2 (by simp)) ?_ ?_
      · rintro j v lo s3 hv ⟨⟨x4, rfl⟩, W3⟩
        obtain ⟨y, hy, rfl⟩ := get_map hv
        have yb := (hr row rowm).2 y (List.mem_of_getElem? hy)
        obtain ⟨c, rfl⟩ : ∃ c : Nat, y = (c : Int) := ⟨y.toNat, by omega⟩
        have hck : c < ks.length := by omega
        have hkc : ks[c]? = some ks[c] := List.getElem?_eq_getElem hck
        have e3 := W3.at_ c _ hkc
        have kgt := W3.gt _ (List.mem_of_getElem? hkc)
        have hix : (ks.map Vl.ref)[c]? = some (.ref ks[c]) := by rw [List.getElem?_map, hkc]; rfl
        have hl9 := hpart_len (n := 0) (i := i) (j := j) (c := c) (fun r hr'' => (hr r hr'').1) (by omega)
        generalize hkk : ks[c] = kc at hkc e3 kgt hix
        have hs' : (x.row i)[j]? = some (c : Int) := by rw [hrow]; exact hy
        simp [opIx_lst W3.top, atN, hix, kd_lst e3]
        rw [oAppend_lst e3 (limC (by simp; omega))]
        simp only [WO_some]
        refine ⟨⟨_, rfl⟩, ?_, W3.len, W3.nd, W3.gt, fun c' k' hk' => ?_, W3.fr.set (Or.inr (by omega))⟩
        · rw [get_set_ne (by omega)]; exact W3.top
        · by_cases e : c' = c
          · subst e
            rw [hkc] at hk'
            cases hk'
            rw [get_set_self e3, hpart_succ hs', if_pos rfl]
            simp
          · have hne : kc ≠ k' := fun z => by
              subst z
              exact e ((List.getElem?_inj (List.getElem?_eq_some_iff.mp hk').1 W3.nd).mp (hk'.trans hkc.symm))
            rw [get_set_ne hne, hpart_succ hs', if_neg (by omega)]
            exact W3.at_ c' k' hk'
      · rintro lo s3 ⟨⟨x4, rfl⟩, W3⟩
        refine ⟨⟨_, _, _, rfl⟩, W3.top, W3.len, W3.nd, W3.gt, fun c' k' hk' => ?_, W3.fr⟩
        rw [W3.at_ c' k' hk', List.length_map, ← hrow, hpart_end]
    · rintro lo s2 ⟨⟨x2, x3, x4, rfl⟩, W2⟩
      simp
      refine k s2 ⟨⟨Nat.le_refl _, lt_of_get W2.top⟩, ks, W2.top, by simp [holdersOf, kl], fun c z hz => ?_⟩ W2.fr
      have hc := (List.getElem?_eq_some_iff.mp hz).1
      have e := W2.at_ c z hz
      refine ⟨⟨by have := W2.gt z (List.mem_of_getElem? hz); omega, lt_of_get e⟩, hpart x x.held.length 0 c, ?_, ?_⟩
      · unfold holdersOf hpart
        rw [List.getElem?_map, List.getElem?_range (by omega)]
        simp
      · rw [e, List.length_map, H2]
end
end K32

/-! UG: bounds in general: made, copied, clashes -/
namespace K32
open PySem L2 Sm
theorem step_len {h : Hs} {e : Ev} : h.rows.length ≤ (h.step e).rows.length := by
  cases e with
  | make j => simp [Hs.step]
  | stand x c => simp [Hs.step]
  | hold i f c =>
    simp only [Hs.step]
    split <;> simp
  | keep c => simp [Hs.step]
  | ask c => simp [Hs.step]
theorem steps_len : ∀ {es : List Ev} {h : Hs}, h.rows.length ≤ (es.foldl Hs.step h).rows.length
  | [], h => Nat.le_refl _
  | e :: es, h => Nat.le_trans step_len (steps_len (es := es) (h := h.step e))
theorem stAt_mono {its : List (List Ev)} {i j : Nat} (h : i ≤ j) : (stAt its i).rows.length ≤ (stAt its j).rows.length := by
  have e : its.take j = its.take i ++ (its.take j).drop i := by
    have := List.take_append_drop i (its.take j)
    rw [List.take_take, Nat.min_eq_left h] at this
    exact this.symm
  unfold stAt
  rw [e, List.flatten_append, List.foldl_append]
  exact steps_len
theorem held_len {h : Hs} : h.held.length = h.rows.length := by simp [Hs.held]
/-- how many cells there are at the last moment -/
def nOf (its : List (List Ev)) : Nat := (stAt its (its.length - 1)).rows.length
theorem MsFor.ok {its : List (List Ev)} {ms : List Mo} (S : StOk its) (F : MsFor its ms) (hl : ms.length = its.length) : MsOk ms (nOf its) := by
  have len := S.len
  have hn : nOf its ≤ 6 := by
    obtain ⟨n, h1, _, h3⟩ := S.at (i := its.length - 1) (by omega)
    unfold nOf
    rw [h3.len]; exact h1
  have gk : ∀ (m : Nat) (x : Mo), ms[m]? = some x → ∃ n, GOk2 x.held n ∧ x.held.length = n := fun m x hx => by
    have hm := (List.getElem?_eq_some_iff.mp hx).1
    obtain ⟨n, h1, _, h3⟩ := S.at (i := m) (by omega)
    have := gok h3 (by omega) (by omega)
    rw [← F.held m x hx] at this
    exact ⟨n, this, this.len⟩
  have hpot : ms.length * nOf its ≤ 14 * 6 := Nat.mul_le_mul (by omega) hn
  refine ⟨by omega, by omega, by omega, F.fl, fun m x hx => ?_, fun m x hx r hr => ?_, fun m m' x y h1 hx hy => ?_, fun m x c y hx h1 h2 => ?_⟩
  · have hm := (List.getElem?_eq_some_iff.mp hx).1
    rw [F.held m x hx, held_len]
    exact stAt_mono (by omega)
  · obtain ⟨n, q1, q2⟩ := gk m x hx
    exact ⟨q1.rl r hr, fun y hy => by have := q1.rng r hr y hy; omega⟩
  · rw [F.held m x hx, F.held m' y hy, held_len, held_len]
    exact stAt_mono h1
  · have q := (F.on m x hx (c : Int)).mp ⟨by omega, by simpa using h1⟩
    have h2' : y ∈ rowOf x.held (c : Int) := by
      unfold rowOf
      have : ((c : Nat) : Int).toNat = c := by omega
      rw [this]
      exact h2
    exact ((F.on m x hx y).mpr (Rch.step q h2')).2
/-- a value that can be laid out in this store -/
def Las (s : Sto) (m : Nat) (x : Vl) : Prop := ∃ d, toD m s x = some d ∧ d.canLay0 = true
theorem Las.all {s : Sto} {m : Nat} : ∀ {xs : List Vl}, (∀ x ∈ xs, Las s m x) → ∃ ds, mapO (toD m s) xs = some ds ∧ PyData.canLayAll0 ds = true
  | [], _ => ⟨[], rfl, rfl⟩
  | x :: xs, h => by
    obtain ⟨d, a, b⟩ := h x (List.mem_cons_self ..)
    obtain ⟨ds, a', b'⟩ := Las.all fun y hy => h y (List.mem_cons_of_mem _ hy)
    exact ⟨d :: ds, by simp only [mapO, a, a'], by simp only [PyData.canLayAll0, b, b', Bool.and_self]⟩
theorem Las.lst {s : Sto} {m a : Nat} {xs : List Vl} (h1 : s[a]? = some (.lst xs)) (h : ∀ x ∈ xs, Las s m x) : Las s (m + 1) (.ref a) := by
  obtain ⟨ds, p, q⟩ := Las.all h
  exact ⟨.list ds, by rw [toD_lst h1, p]; rfl, by simpa only [PyData.canLay0] using q⟩
theorem Las.tup {s : Sto} {m : Nat} {xs : List Vl} (h : ∀ x ∈ xs, Las s m x) : Las s (m + 1) (.tup xs) := by
  obtain ⟨ds, p, q⟩ := Las.all h
  exact ⟨.tuple ds, by simp only [toD, p, Option.map], by simpa only [PyData.canLay0] using q⟩
theorem Las.bl {s : Sto} {m : Nat} {b : Bool} : Las s (m + 1) (.bl b) := ⟨.bool b, rfl, rfl⟩
theorem opNe_las {s : Sto} {a b : Nat} {xs : List Vl} (h1 : s[a]? = some (.lst xs)) (h2 : s[b]? = some (.lst [])) (h : ∀ x ∈ xs, Las s 39 x) : opNe (.ref a) (.ref b) s = some (.bl (!xs.isEmpty), s) := by
  obtain ⟨ds, q, r⟩ := Las.all h
  simp only [opNe, eqM_lstN h1 h2 q r]
theorem opEq_las {s : Sto} {a b : Nat} {xs : List Vl} (h1 : s[a]? = some (.lst xs)) (h2 : s[b]? = some (.lst [])) (h : ∀ x ∈ xs, Las s 39 x) : opEq (.ref a) (.ref b) s = some (.bl xs.isEmpty, s) := by
  obtain ⟨ds, q, r⟩ := Las.all h
  simp only [opEq, eqM_lstN h1 h2 q r]
theorem MomG.las {s : Sto} {a b : Nat} {v : Vl} {x : Mo} (M : MomG s a b v x) : Las s 39 v := by
  obtain ⟨h, f, rfl, ⟨_, hs, h3, h4, h5⟩, h2, h6⟩ := M
  refine Las.tup (m := 38) fun y hy => ?_
  simp at hy
  rcases hy with rfl | rfl
  · refine Las.lst (m := 37) h3 fun y hy => ?_
    obtain ⟨j, hj, rfl⟩ := List.mem_map.mp hy
    obtain ⟨i, hi⟩ := List.getElem?_of_mem hj
    obtain ⟨_, row, q1, q2⟩ := h5 i j hi
    refine Las.lst (m := 36) q2 fun z hz => ?_
    obtain ⟨w, hw, rfl⟩ := List.mem_map.mp hz
    exact ⟨.int w, rfl, rfl⟩
  · refine Las.lst (m := 37) h6 fun y hy => ?_
    obtain ⟨j, hj, rfl⟩ := List.mem_map.mp hy
    exact Las.bl
theorem MomsG.las {s : Sto} {a b r : Nat} {ms : List Mo} (M : MomsG s a b r ms) : ∃ vs, s[r]? = some (.lst vs) ∧ vs.length = ms.length ∧ (∀ x ∈ vs, Las s 39 x) ∧ ∀ (i : Nat) (v : Vl) (x : Mo), vs[i]? = some v → ms[i]? = some x → MomG s a b v x := by
  obtain ⟨vs, h1, h2, h3⟩ := M.vs
  refine ⟨vs, h1, h2, fun x hx => ?_, h3⟩
  obtain ⟨i, hi⟩ := List.getElem?_of_mem hx
  have hil := (List.getElem?_eq_some_iff.mp hi).1
  exact (h3 i x ms[i] hi (List.getElem?_eq_getElem (by omega))).las
/-- the cells at the last moment -/
def lastN (ms : List Mo) : Nat := match ms.getLast? with
  | some x => x.held.length
  | none => 0
theorem set_app {s t : Sto} {o x : Ob} : (s ++ o :: t).set s.length x = s ++ x :: t := by simp
theorem get_app1 {s t : Sto} {o : Ob} : (s ++ o :: t)[s.length]? = some o := by simp
/-- a field of the newest own object -/
theorem setFld_new {s t : Sto} {cs : List Nat} {f : Str} {c : Nat} {fs : List (Str × Vl)} {v : Vl} (hc : c ∈ cs) (hl : fs.length < 1000) : setFld cs f (.ref s.length) v (s ++ Ob.ins c fs :: t) = some (s ++ Ob.ins c (putS f v fs) :: t) := by
  rw [setFld_ins get_app1 ⟨hc, hl⟩, set_app]
section
variable {s : Sto} {Q : Vl → Sto → Prop} {E : Ex → Sto → Prop}
/-- new bounds: behind Bounds(moments, holders) -/
theorem boundsG {mr hr a b n : Nat} {ms : List Mo} (M : MomsG s a b mr ms) (hb : b ≤ s.length) (hn : lastN ms = n) (hn8 : n ≤ 8) (hi : ms.length ≤ 1000)
    (k : ∀ s', BdAt s' s.length mr hr (s.length + 3) (s.length + 5) (s.length + 7) (s.length + 9) (List.replicate n (-1)) (List.replicate n ((ms.length : Nat) : Int)) → s'.length = s.length + 10 → Fr [] s s' → Q .non s') :
    WE (m_BoundsU_initU [.ref s.length, .ref mr, .ref hr]) (s ++ [Ob.ins 4 []]) Q E := by
  unfold m_BoundsU_initU b_BoundsU_initU
  simp
  rw [setFld_new (by simp) (by simp)]
  simp only
  rw [setFld_new (by simp) (by simp [putS])]
  simp [putS]
  have fa : Fr [] s (s ++ [Ob.ins 4 [("moments", .ref mr), ("holders", .ref hr)], Ob.lst []]) := Fr.refl.app _
  have Ma := M.fr fa (by simp)
  obtain ⟨vs, v1, v2, v3, w3⟩ := Ma.las
  have ea : (s ++ [Ob.ins 4 [("moments", .ref mr), ("holders", .ref hr)], Ob.lst []])[s.length + 1]? = some (.lst []) := by simp
  rw [opNe_las v1 ea v3]
  have many : ∀ {lo : Lo} {N : Vl → Sto → Prop} {E' : Ex → Sto → Prop}, lo[1]? = some (some (.ref mr)) → N (.int (n : Nat)) (s ++ [Ob.ins 4 [("moments", .ref mr), ("holders", .ref hr)], Ob.lst []]) → (if (!vs.isEmpty) = true then WE (eCB oLen (aCons (eOp opIx (eOp opIx (eVar 1) (eOp1 opNeg (eC (.int 1)))) (eC (.int 0))) aNil) lo) (s ++ [Ob.ins 4 [("moments", .ref mr), ("holders", .ref hr)], Ob.lst []]) N E' else WE (eC (.int 0) lo) (s ++ [Ob.ins 4 [("moments", .ref mr), ("holders", .ref hr)], Ob.lst []]) N E') := fun {lo N E'} q1 kk => by
    rcases List.eq_nil_or_concat ms with hms | ⟨ms', x, hms⟩
    · subst hms
      have hv : vs = [] := by simpa using v2
      subst hv
      have hn0 : n = 0 := by rw [← hn]; rfl
      subst hn0
      simp
      simpa using kk
    · rw [List.concat_eq_append] at hms
      subst hms
      have hne : vs ≠ [] := fun z => by rw [z] at v2; simp at v2
      have hve : vs.isEmpty = false := by cases vs with | nil => exact absurd rfl hne | cons _ _ => rfl
      have hl : vs.length = ms'.length + 1 := by rw [v2]; simp
      have hvl : vs[ms'.length]? = some vs[ms'.length] := List.getElem?_eq_getElem (by omega)
      obtain ⟨ah, af, e1, H, _, _⟩ := w3 ms'.length _ x hvl (by simp)
      have hvs : vs = vs.dropLast ++ [.tup [.ref ah, .ref af]] := by
        have h1 := List.dropLast_concat_getLast hne
        have h2 : vs.getLast hne = vs[ms'.length] := by rw [List.getLast_eq_getElem]; congr 1; omega
        rw [h2, e1] at h1
        exact h1.symm
      have ix : atI vs (-1) = some (.tup [.ref ah, .ref af]) := by rw [hvs, atLast]
      obtain ⟨xs, t1, t2⟩ := H.top
      have hnx : x.held.length = n := by rw [← hn]; simp [lastN]
      simp [hve, q1, opIx_lst v1, ix, oLen_lst t1, t2, hnx]
      exact kk
  simp only [WO_some]
  refine many rfl ?_
  simp
  -- last_there
  have ml : (s ++ [Ob.ins 4 [("moments", .ref mr), ("holders", .ref hr)], Ob.lst [], Ob.lst [Vl.int (-1)]])[s.length + 2]? = some (.lst [Vl.int (-1)]) := by simp
  have o1 := opMul_one (n := n) ml (by omega)
  simp at o1
  simp [o1]
  rw [setFld_new (by simp) (by simp)]
  simp [putS]
  have Mb : MomsG (s ++ [Ob.ins 4 [("moments", .ref mr), ("holders", .ref hr), ("last_there", .ref (s.length + 3))], Ob.lst [], Ob.lst [Vl.int (-1)], Ob.lst (List.replicate n (Vl.int (-1)))]) a b mr ms := M.fr (Fr.refl.app _) (X := []) (by simp)
  obtain ⟨vs2, u1, u2, _⟩ := Mb.vs
  simp [oLen_lst u1, u2]
  have mg : (s ++ [Ob.ins 4 [("moments", .ref mr), ("holders", .ref hr), ("last_there", .ref (s.length + 3))], Ob.lst [], Ob.lst [Vl.int (-1)], Ob.lst (List.replicate n (Vl.int (-1))), Ob.lst [Vl.int ((ms.length : Int))]])[s.length + 4]? = some (.lst [Vl.int ((ms.length : Int))]) := by simp
  have o2 := opMul_one (n := n) mg (by omega)
  simp at o2
  simp [o2]
  rw [setFld_new (by simp) (by simp)]
  simp [putS]
  have mw : (s ++ [Ob.ins 4 [("moments", .ref mr), ("holders", .ref hr), ("last_there", .ref (s.length + 3)), ("first_gone", .ref (s.length + 5))], Ob.lst [], Ob.lst [Vl.int (-1)], Ob.lst (List.replicate n (Vl.int (-1))), Ob.lst [Vl.int ((ms.length : Int))], Ob.lst (List.replicate n (Vl.int ((ms.length : Int)))), Ob.lst [Vl.non]])[s.length + 6]? = some (.lst [Vl.non]) := by simp
  have o3 := opMul_one (n := n) mw (by omega)
  simp at o3
  simp [o3]
  rw [setFld_new (by simp) (by simp)]
  simp [putS]
  have mx : (s ++ [Ob.ins 4 [("moments", .ref mr), ("holders", .ref hr), ("last_there", .ref (s.length + 3)), ("first_gone", .ref (s.length + 5)), ("why_there", .ref (s.length + 7))], Ob.lst [], Ob.lst [Vl.int (-1)], Ob.lst (List.replicate n (Vl.int (-1))), Ob.lst [Vl.int ((ms.length : Int))], Ob.lst (List.replicate n (Vl.int ((ms.length : Int)))), Ob.lst [Vl.non], Ob.lst (List.replicate n Vl.non), Ob.lst [Vl.non]])[s.length + 8]? = some (.lst [Vl.non]) := by simp
  have o4 := opMul_one (n := n) mx (by omega)
  simp at o4
  simp [o4]
  rw [setFld_new (by simp) (by simp)]
  simp [putS]
  refine k _ ⟨by simp, by simp, by simp, ⟨_, by simp; rfl, by simp⟩, ⟨_, by simp; rfl, by simp⟩, by simp, by simp⟩ (by simp) (Fr.refl.app _)
end
section
variable {s : Sto} {Q : Vl → Sto → Prop} {E : Ex → Sto → Prop} {bd mr hr lt fg wt wg : Nat} {L G : List Int}
theorem copiedG {a b n : Nat} {ms : List Mo} (B : BdAt s bd mr hr lt fg wt wg L G) (M : MomsG s a b mr ms) (hb : b ≤ s.length) (hn : lastN ms = n) (hn8 : n ≤ 8) (hi : ms.length ≤ 1000) (hL : L.length = n)
    (k : ∀ s', BdAt s' s.length mr hr (s.length + 10) (s.length + 11) (s.length + 12) (s.length + 13) L G → Fr [] s s' → Q (.ref s.length) s') : WE (m_Bounds_copied [.ref bd]) s Q E := by
  unfold m_Bounds_copied b_Bounds_copied
  simp [WE_eMake, f_mo B, f_ho B]
  refine boundsG M hb hn hn8 hi fun s1 B1 l1 f1 => ?_
  have C1 := B.fr f1 (by simp)
  obtain ⟨w1, p1, q1⟩ := C1.swt
  obtain ⟨w2, p2, q2⟩ := C1.swg
  have bl := lt_of_get B.top
  have ltl := lt_of_get B.slt
  have fgl := lt_of_get B.sfg
  have wtl : wt < s.length := by obtain ⟨_, z, _⟩ := B.swt; exact lt_of_get z
  have wgl : wg < s.length := by obtain ⟨_, z, _⟩ := B.swg; exact lt_of_get z
  simp [f_lt C1, oList_lst C1.slt]
  have t1 : (s1 ++ [Ob.lst (L.map Vl.int)])[s.length]? = _ := get_push B1.top
  rw [setFld_ins t1 ⟨by simp, by simp⟩]
  simp [putS]
  generalize hs2 : (s1 ++ [Ob.lst (L.map Vl.int)]).set s.length (Ob.ins 4 [("moments", .ref mr), ("holders", .ref hr), ("last_there", .ref s1.length), ("first_gone", .ref (s.length + 5)), ("why_there", .ref (s.length + 7)), ("why_gone", .ref (s.length + 9))]) = s2
  have f2 : Fr [] s s2 := hs2 ▸ (f1.push _).set (Or.inr (Nat.le_refl _))
  have t2 : s2[s.length]? = some (Ob.ins 4 [("moments", .ref mr), ("holders", .ref hr), ("last_there", .ref s1.length), ("first_gone", .ref (s.length + 5)), ("why_there", .ref (s.length + 7)), ("why_gone", .ref (s.length + 9))]) := by rw [← hs2]; exact get_set_self t1
  have l2 : s2.length = s.length + 11 := by rw [← hs2]; simp [l1]
  have x1 : s2[s1.length]? = some (.lst (L.map Vl.int)) := by rw [← hs2, get_set_ne (by omega)]; simp
  clear hs2 t1
  rw [l1] at t2 x1
  have C2 := B.fr f2 (by simp)
  simp [f_fg C2, oList_lst C2.sfg]
  have t3 := get_push (o' := Ob.lst (G.map Vl.int)) t2
  rw [setFld_ins t3 ⟨by simp, by simp⟩]
  simp [putS]
  generalize hs3 : (s2 ++ [Ob.lst (G.map Vl.int)]).set s.length (Ob.ins 4 [("moments", .ref mr), ("holders", .ref hr), ("last_there", .ref (s.length + 10)), ("first_gone", .ref s2.length), ("why_there", .ref (s.length + 7)), ("why_gone", .ref (s.length + 9))]) = s3
  have f3 : Fr [] s s3 := hs3 ▸ (f2.push _).set (Or.inr (Nat.le_refl _))
  have t4 : s3[s.length]? = some (Ob.ins 4 [("moments", .ref mr), ("holders", .ref hr), ("last_there", .ref (s.length + 10)), ("first_gone", .ref s2.length), ("why_there", .ref (s.length + 7)), ("why_gone", .ref (s.length + 9))]) := by rw [← hs3]; exact get_set_self t3
  have l3 : s3.length = s.length + 12 := by rw [← hs3]; simp [l2]
  have x2 : s3[s.length + 10]? = some (.lst (L.map Vl.int)) := by rw [← hs3, get_set_ne (by omega)]; exact get_push x1
  have y2 : s3[s2.length]? = some (.lst (G.map Vl.int)) := by rw [← hs3, get_set_ne (by omega)]; simp
  clear hs3 t3
  rw [l2] at t4 y2
  have C3 := B.fr f3 (by simp)
  obtain ⟨w3, p3, q3⟩ := C3.swt
  simp [f_wt C3, oList_lst p3]
  have t5 := get_push (o' := Ob.lst w3) t4
  rw [setFld_ins t5 ⟨by simp, by simp⟩]
  simp [putS]
  generalize hs4 : (s3 ++ [Ob.lst w3]).set s.length (Ob.ins 4 [("moments", .ref mr), ("holders", .ref hr), ("last_there", .ref (s.length + 10)), ("first_gone", .ref (s.length + 11)), ("why_there", .ref s3.length), ("why_gone", .ref (s.length + 9))]) = s4
  have f4 : Fr [] s s4 := hs4 ▸ (f3.push _).set (Or.inr (Nat.le_refl _))
  have t6 : s4[s.length]? = some (Ob.ins 4 [("moments", .ref mr), ("holders", .ref hr), ("last_there", .ref (s.length + 10)), ("first_gone", .ref (s.length + 11)), ("why_there", .ref s3.length), ("why_gone", .ref (s.length + 9))]) := by rw [← hs4]; exact get_set_self t5
  have l4 : s4.length = s.length + 13 := by rw [← hs4]; simp [l3]
  have x3 : s4[s.length + 10]? = some (.lst (L.map Vl.int)) := by rw [← hs4, get_set_ne (by omega)]; exact get_push x2
  have y3 : s4[s.length + 11]? = some (.lst (G.map Vl.int)) := by rw [← hs4, get_set_ne (by omega)]; exact get_push y2
  have z3 : s4[s3.length]? = some (.lst w3) := by rw [← hs4, get_set_ne (by omega)]; simp
  clear hs4 t5
  rw [l3] at t6 z3
  have C4 := B.fr f4 (by simp)
  obtain ⟨w4, p4, q4⟩ := C4.swg
  simp [f_wg C4, oList_lst p4]
  have t7 := get_push (o' := Ob.lst w4) t6
  rw [setFld_ins t7 ⟨by simp, by simp⟩]
  simp [putS]
  refine k _ ⟨?_, ?_, ?_, ⟨w3, ?_, q3⟩, ⟨w4, ?_, q4⟩, B.len, by simp⟩ ((f4.push _).set (Or.inr (Nat.le_refl _)))
  · rw [get_set_self t7, l4]
  · rw [get_set_ne (by omega)]; exact get_push x3
  · rw [get_set_ne (by omega)]; exact get_push y3
  · rw [get_set_ne (by omega)]; exact get_push z3
  · rw [get_set_ne (by omega), ← l4]; simp
theorem clashS (B : BdAt s bd mr hr lt fg wt wg L G) (hL : L.length ≤ 8) (h : ∀ (c : Nat) (x y : Int), L[c]? = some x → G[c]? = some y → x < y) (k : Q .non s) : WE (m_Bounds_clash [.ref bd]) s Q E := by
  unfold m_Bounds_clash b_Bounds_clash
  simp [f_fg B, B.sfg]
  have hl := B.len
  refine loopE_inv (xs := G.map Vl.int) (fun i lo s' => s' = s ∧ ∃ x1 x2 x3, lo = [some (.ref bd), x1, x2, x3]) (by simp; omega) ⟨rfl, none, none, none, rfl⟩ (fun i lo s' h => by rw [h.1]; exact B.sfg) ?_ ?_
  · rintro i v lo s2 hv ⟨rfl, x1, x2, x3, rfl⟩
    obtain ⟨y, hy, rfl⟩ := get_map hv
    have hil := (List.getElem?_eq_some_iff.mp hy).1
    have hx : L[i]? = some L[i] := List.getElem?_eq_getElem (by omega)
    have := h i _ y hx hy
    generalize L[i] = x at hx this
    have hn : ¬ y ≤ x := by omega
    simp [f_lt B, opIx_lst B.slt, atN, hx, hn]
  · rintro lo s2 ⟨rfl, x1, x2, x3, rfl⟩
    simp
    exact k
end
end K32

/-! UH: what is reached; facts made -/
namespace K32
open PySem L2 Sm
def Any : (Nat → Nat) → Prop := fun _ => True
theorem fL_rep {n c : Nat} : fL (List.replicate n (-1)) c = -1 := by
  unfold fL
  cases e : (List.replicate n (-1 : Int))[c]? with
  | none => rfl
  | some x =>
    have := List.eq_of_mem_replicate (List.mem_of_getElem? e)
    subst this
    rfl
theorem LK0 {ms : List Mo} {n : Nat} : (syOf ms).LK n Any (List.replicate n (-1)) :=
  ⟨by simp, fun x hx => by have := List.eq_of_mem_replicate hx; exact ⟨by omega, by show x < (ms.length : Int); omega⟩, fun m c o _ _ h => by rw [fL_rep] at h; omega, fun τ _ _ c _ => by rw [fL_rep]; omega⟩
theorem fG_rep {N n c : Nat} : fG N (List.replicate n (N : Int)) c = N := by
  unfold fG
  cases e : (List.replicate n (N : Int))[c]? with
  | none => rfl
  | some x =>
    have := List.eq_of_mem_replicate (List.mem_of_getElem? e)
    subst this
    rfl
theorem GK0 {ms : List Mo} {n : Nat} (hn : ∀ m c, m < (syOf ms).N → c < (syOf ms).cnt m → c < n) : (syOf ms).GK n Any (List.replicate n (ms.length : Int)) := by
  refine ⟨by simp, fun x hx => ?_, fun c hc h => ?_, fun m c o h1 h2 h => ?_, fun τ h1 _ c hc => ?_⟩
  · have := List.eq_of_mem_replicate hx
    exact ⟨by omega, by show x ≤ (ms.length : Int); omega⟩
  · have : fG ms.length (List.replicate n (ms.length : Int)) c < (ms.length : Int) := h
    rw [fG_rep] at this
    omega
  · have h : fG ms.length (List.replicate n (ms.length : Int)) o ≤ m := h
    have h1 : m < ms.length := h1
    rw [fG_rep] at h
    omega
  · show (τ c : Int) ≤ fG ms.length (List.replicate n (ms.length : Int)) c
    rw [fG_rep]
    rcases h1.rng c hc with e | e
    · rw [e]; exact Int.le_refl _
    · have : τ c < ms.length := e.1
      omega
/-- what is reached is known to be there, up to a moment and a cell -/
def RchTo (ms : List Mo) (i p : Nat) (L : List Int) : Prop := ∀ m c, m < ms.length → (m < i ∨ (m = i ∧ c < p)) → (mAt ms m).fl[c]? = some true → (m : Int) ≤ fL L c
theorem RchTo.mono {ms : List Mo} {i p : Nat} {L L' : List Int} (R : RchTo ms i p L) (h : ∀ c, fL L c ≤ fL L' c) : RchTo ms i p L' := fun m c h1 h2 h3 => Int.le_trans (R m c h1 h2 h3) (h c)
def RgI (s : Sto) (bd mr hr lt fg wt wg n : Nat) (G : List Int) (ms : List Mo) (i : Nat) (lo : Lo) (s' : Sto) : Prop := (∃ x1 x2 x3 x4 x5, lo = [some (.ref bd), x1, x2, x3, x4, x5]) ∧ ∃ L, BdAt s' bd mr hr lt fg wt wg L G ∧ (syOf ms).LK n Any L ∧ RchTo ms i 0 L ∧ Fr [lt, wt] s s'
def RgJ (s : Sto) (bd mr hr lt fg wt wg n : Nat) (G : List Int) (ms : List Mo) (i ah af : Nat) (p : Nat) (lo : Lo) (s' : Sto) : Prop := (∃ x4 x5, lo = [some (.ref bd), some (.int (i : Nat)), some (.ref ah), some (.ref af), x4, x5]) ∧ ∃ L, BdAt s' bd mr hr lt fg wt wg L G ∧ (syOf ms).LK n Any L ∧ RchTo ms i p L ∧ Fr [lt, wt] s s'
theorem reachedG {s : Sto} {Q : Vl → Sto → Prop} {E : Ex → Sto → Prop} {bd mr hr lt fg wt wg a b n : Nat} {L G : List Int} {ms : List Mo} (B : BdAt s bd mr hr lt fg wt wg L G) (M : MomsG s a b mr ms) (hX : (lt < a ∨ b ≤ lt) ∧ (wt < a ∨ b ≤ wt)) (hb : b ≤ s.length) (O : MsOk ms n) (K : (syOf ms).LK n Any L)
    (k : ∀ L' s', BdAt s' bd mr hr lt fg wt wg L' G → (syOf ms).LK n Any L' → RchTo ms ms.length 0 L' → Fr [lt, wt] s s' → Q .non s') : WE (m_Bounds_take_reached [.ref bd]) s Q E := by
  unfold m_Bounds_take_reached b_Bounds_take_reached
  obtain ⟨vs, v1, v2, v3⟩ := M.vs
  have hN := O.len
  have hn8 := O.n8
  have hmr : mr ∉ [lt, wt] := by have := M.lo; have := M.hi; simp; omega
  simp [f_mo B, v1]
  refine loopE_inv (xs := vs) (RgI s bd mr hr lt fg wt wg n G ms) (by omega) ⟨⟨none, none, none, none, none, rfl⟩, L, B, K, fun m c _ h => by omega, Fr.refl⟩ (fun i lo s' h => by obtain ⟨_, _, _, _, _, f⟩ := h; exact f.at v1 hmr) ?_ ?_
  · rintro i v lo s1 hv ⟨⟨x1, x2, x3, x4, x5, rfl⟩, L1, B1, K1, R1, f1⟩
    have hil := (List.getElem?_eq_some_iff.mp hv).1
    have hmi : i < ms.length := by omega
    have hmg := List.getElem?_eq_getElem hmi
    have mo : mAt ms i = ms[i] := mAt_get hmg
    obtain ⟨ah, af, rfl, q1, q2, q3⟩ := (v3 i v _ hv hmg).fr f1 (by simp; omega)
    have haf : af ∉ [lt, wt] := by simp; omega
    have ffl := O.fl i _ hmg
    have fcn := O.cn i _ hmg
    simp [q3]
    refine loopE_inv (xs := ms[i].fl.map Vl.bl) (RgJ s1 bd mr hr lt fg wt wg n G ms i ah af) (by simp; omega) ⟨⟨x4, x5, rfl⟩, L1, B1, K1, fun m c h1 h2 h3 => R1 m c h1 (by omega) h3, Fr.refl⟩ (fun p lo s' h => by obtain ⟨_, _, _, _, _, f⟩ := h; exact f.at q3 haf) ?_ ?_
    · rintro p v lo s2 hv ⟨⟨x4, x5, rfl⟩, L2, B2, K2, R2, f2⟩
      obtain ⟨bb, hbb, rfl⟩ := get_map hv
      have hp := (List.getElem?_eq_some_iff.mp hbb).1
      cases bb with
      | false =>
        simp
        refine ⟨⟨_, _, rfl⟩, L2, B2, K2, fun m c h1 h2 h3 => ?_, f2⟩
        by_cases e : m = i ∧ c = p
        · obtain ⟨rfl, rfl⟩ := e
          rw [mo, hbb] at h3
          cases h3
        · exact R2 m c h1 (by omega) h3
      | true =>
        simp [WE_eMeth]
        rw [methW_ins (m := "keep_there") (tab := tabA 3 tab_keep_there) (mf := arg 4 m_Bounds_keep_there) B2.top rfl (by simp [getS])]
        simp
        have M2 := M.fr (f1.trans f2) (by simp; omega)
        refine keepT (P' := Any) B2 M2 hX (by have := (f1.trans f2).le; omega) O K2 (fun _ h => h) (fun τ hs _ => hs.rch i p hmi (by show (mAt ms i).fl[p]? = some true; rw [mo]; exact hbb)) hmi (by rw [mo]; omega) (La.mono (La.tup (n := 1) (by simp; exact La.lit)) (by omega)) fun L3 s3 B3 K3 up aim f3 => ?_
        refine ⟨⟨_, _, rfl⟩, L3, B3, K3, fun m c h1 h2 h3 => ?_, f2.trans f3⟩
        by_cases e : m = i ∧ c = p
        · obtain ⟨rfl, rfl⟩ := e
          exact aim
        · exact (R2.mono up) m c h1 (by omega) h3
    · rintro lo s2 ⟨⟨x4, x5, rfl⟩, L2, B2, K2, R2, f2⟩
      refine ⟨⟨_, _, _, _, _, rfl⟩, L2, B2, K2, fun m c h1 h2 h3 => ?_, f1.trans f2⟩
      rw [List.length_map] at R2
      by_cases e : m = i
      · subst e
        refine R2 m c h1 (Or.inr ⟨rfl, ?_⟩) h3
        rw [mo] at h3
        exact (List.getElem?_eq_some_iff.mp h3).1
      · exact R2 m c h1 (by omega) h3
  · rintro lo s1 ⟨⟨x1, x2, x3, x4, x5, rfl⟩, L1, B1, K1, R1, f1⟩
    rw [v2] at R1
    exact k L1 s1 B1 K1 R1 f1
end K32

/-! UI: facts: tell -/
namespace K32
open PySem L2 Sm
def fcO (its : List (List Ev)) (told : List Int) (ap bd : Nat) : Ob := .ins 5 [("story", stV its), ("told", .tup (told.map Vl.int)), ("asked_pairs", .ref ap), ("bounds", .ref bd)]
structure WdG (s : Sto) (a b fc ap bd mr hr lt fg wt wg : Nat) (its : List (List Ev)) (ms : List Mo) (told L G : List Int) : Prop where
  fa : s[fc]? = some (fcO its told ap bd)
  aps : s[ap]? = some (.lst ((qsK its its.length).map qV))
  apr : a ≤ ap ∧ ap < b
  mo : MomsG s a b mr ms
  ho : HolG s a b hr ms
  bds : BdAt s bd mr hr lt fg wt wg L G
  out : ∀ x ∈ [fc, bd, lt, fg, wt, wg], x < a ∨ b ≤ x
  fcn : fc ∉ [bd, lt, fg, wt, wg]
  hb : b ≤ s.length
theorem LK_weak {S : Sy} {n : Nat} {P P' : (Nat → Nat) → Prop} {L : List Int} (K : S.LK n P L) (h : ∀ τ, P' τ → P τ) : S.LK n P' L := ⟨K.len, K.lo, K.hold, fun τ h1 h2 => K.snd τ h1 (h τ h2)⟩
theorem GK_weak {S : Sy} {n : Nat} {P P' : (Nat → Nat) → Prop} {G : List Int} (K : S.GK n P G) (h : ∀ τ, P' τ → P τ) : S.GK n P' G := ⟨K.len, K.lo, K.ex, K.hold, fun τ h1 h2 => K.snd τ h1 (h τ h2)⟩
section
variable {s s' : Sto} {Q : Vl → Sto → Prop} {E : Ex → Sto → Prop} {a b fc ap bd mr hr lt fg wt wg n : Nat} {its : List (List Ev)} {ms : List Mo} {told L G : List Int}
theorem WdG.fr {X : List Nat} (W : WdG s a b fc ap bd mr hr lt fg wt wg its ms told L G) (f : Fr X s s') (hX : ∀ x ∈ X, (x < a ∨ b ≤ x) ∧ x ∉ [fc, bd, lt, fg, wt, wg]) : WdG s' a b fc ap bd mr hr lt fg wt wg its ms told L G := by
  obtain ⟨h1, h2, h3, h4, h5, h6, h7, h8, h9⟩ := W
  have o1 : ∀ x ∈ X, x < a ∨ b ≤ x := fun x hx => (hX x hx).1
  refine ⟨f.at h1 (fun z => (hX _ z).2 (by simp)), f.at h2 (fun z => by have := (hX _ z).1; omega), h3, h4.fr f o1, h5.fr f o1, h6.fr f (fun x hx z => (hX x hx).2 ?_), h7, h8, Nat.le_trans h9 f.le⟩
  exact List.mem_cons_of_mem _ z
theorem k_st (W : WdG s a b fc ap bd mr hr lt fg wt wg its ms told L G) {Q : Vl → Sto → Prop} : fldW cs_story "story" (.ref fc) s Q = Q (stV its) s := by
  rw [fldW_ins W.fa]; simp [getS]
theorem k_to (W : WdG s a b fc ap bd mr hr lt fg wt wg its ms told L G) {Q : Vl → Sto → Prop} : fldW cs_told "told" (.ref fc) s Q = Q (.tup (told.map Vl.int)) s := by
  rw [fldW_ins W.fa]; simp [getS]
theorem k_ap (W : WdG s a b fc ap bd mr hr lt fg wt wg its ms told L G) {Q : Vl → Sto → Prop} : fldW cs_asked_pairs "asked_pairs" (.ref fc) s Q = Q (.ref ap) s := by
  rw [fldW_ins W.fa]; simp [getS]
theorem k_bd (W : WdG s a b fc ap bd mr hr lt fg wt wg its ms told L G) {Q : Vl → Sto → Prop} : fldW cs_bounds "bounds" (.ref fc) s Q = Q (.ref bd) s := by
  rw [fldW_ins W.fa]; simp [getS]
theorem tellG {c m : Nat} {ans : Int} {P : (Nat → Nat) → Prop} (W : WdG s a b fc ap bd mr hr lt fg wt wg its ms told L G) (O : MsOk ms n) (hln : lastN ms = n) (KL : (syOf ms).LK n P L) (KG : (syOf ms).GK n P G) (hql2 : (qsK its its.length).length ≤ 1000) (hq : (qsK its its.length)[told.length]? = some (m, c)) (ha : ans = 0 ∨ ans = 1) (hm : m < ms.length) (hc : c < (mAt ms m).held.length) (hex : ∃ τ, (syOf ms).Sched n τ ∧ P τ ∧ Agr τ (m, c, decide (ans = 1)))
    (k : ∀ s' bd' lt' fg' wt' wg' L' G', WdG s' a b fc ap bd' mr hr lt' fg' wt' wg' its ms (told ++ [ans]) L' G' → (syOf ms).LK n (fun τ => P τ ∧ Agr τ (m, c, decide (ans = 1))) L' → (syOf ms).GK n (fun τ => P τ ∧ Agr τ (m, c, decide (ans = 1))) G' → (∀ c, fL L c ≤ fL L' c) → (∀ c, fG ms.length G' c ≤ fG ms.length G c) → (if ans = 1 then fG ms.length G' c ≤ (m : Int) else (m : Int) ≤ fL L' c) → (∀ x ∈ [bd', lt', fg', wt', wg'], s.length ≤ x ∧ x < s'.length) → Fr [fc] s s' → Q (.int ((told.length + 1 : Nat) : Int)) s') : WE (m_Facts_tell [.ref fc, .int ans]) s Q E := by
  unfold m_Facts_tell b_Facts_tell
  have hql := (List.getElem?_eq_some_iff.mp hq).1
  have hqm : ((qsK its its.length).map qV)[told.length]? = some (.tup [.int (m : Nat), .int (c : Nat)]) := by rw [List.getElem?_map, hq]; rfl
  have nge : ¬ ((qsK its its.length).length : Int) ≤ (told.length : Int) := by omega
  have nge' : ¬ (qsK its its.length).length ≤ told.length := by omega
  simp [k_to W, k_ap W, oLen_lst W.aps, nge, nge', opIx_lst W.aps, atN, hqm, k_bd W, WE_eMeth]
  rw [methW_ins (m := "copied") (tab := tabA 0 tab_copied) (mf := arg 1 m_Bounds_copied) W.bds.top rfl (by simp [getS])]
  simp
  refine copiedG W.bds W.mo W.hb hln O.n8 (by have := O.len; omega) KL.len fun s1 B1 f1 => ?_
  have W1 := W.fr f1 (by simp)
  have hb := W.hb
  have le1 := f1.le
  obtain ⟨τ, ht1, ht2, ht3⟩ := hex
  have fin : ∀ s2 L' G', BdAt s2 s.length mr hr (s.length + 10) (s.length + 11) (s.length + 12) (s.length + 13) L' G' → (syOf ms).LK n (fun τ => P τ ∧ Agr τ (m, c, decide (ans = 1))) L' → (syOf ms).GK n (fun τ => P τ ∧ Agr τ (m, c, decide (ans = 1))) G' → (∀ c, fL L c ≤ fL L' c) → (∀ c, fG ms.length G' c ≤ fG ms.length G c) → (if ans = 1 then fG ms.length G' c ≤ (m : Int) else (m : Int) ≤ fL L' c) → Fr [] s s2 → WS (sSeq (sSet 4 (eMeth "clash" (tabA 0 tab_clash) (eVar 3) aNil)) (sSeq (sIf (tVal (eOp opNotN (eVar 4) (eC .non))) sFail sNil) (sSeq (sFldM cs_bounds "bounds" (eVar 0) (eVar 3)) (sSeq (sFldM cs_told "told" (eVar 0) (eOp opAdd (eFld cs_told "told" (eVar 0)) (eCB oTup (aCons (eVar 1) aNil)))) (sRet (eCB oLen (aCons (eFld cs_told "told" (eVar 0)) aNil)))))))
      [some (.ref fc), some (.int ans), some (.int (told.length : Nat)), some (.ref s.length), none, some (.int (m : Nat)), some (.int (c : Nat))] s2 ⟨fun _ s => Q .non s, Q, fun _ _ => False, fun _ _ => False, fun e _ s => E e s⟩ := fun s2 L' G' B2 kl kg up dn aim f2 => by
    have W2 := W.fr f2 (by simp)
    simp [WE_eMeth]
    rw [methW_ins (m := "clash") (tab := tabA 0 tab_clash) (mf := arg 1 m_Bounds_clash) B2.top rfl (by simp [getS])]
    simp
    refine clashS B2 (by rw [kl.len]; exact O.n8) (fun c' x y hx hy => ?_) ?_
    · have hc' : c' < n := by rw [← kl.len]; exact (List.getElem?_eq_some_iff.mp hx).1
      have h1 := kl.snd τ ht1 ⟨ht2, ht3⟩ c' hc'
      have h2 := kg.snd τ ht1 ⟨ht2, ht3⟩ c' hc'
      rw [fL_get hx] at h1
      rw [fG_get hy] at h2
      omega
    simp
    rw [setFld_ins W2.fa ⟨by simp, by simp⟩]
    simp [putS]
    have fcl := lt_of_get W.fa
    generalize hs3 : s2.set fc (Ob.ins 5 [("story", stV its), ("told", .tup (told.map Vl.int)), ("asked_pairs", .ref ap), ("bounds", .ref s.length)]) = s3
    have t3 : s3[fc]? = some (Ob.ins 5 [("story", stV its), ("told", .tup (told.map Vl.int)), ("asked_pairs", .ref ap), ("bounds", .ref s.length)]) := by rw [← hs3]; exact get_set_self W2.fa
    have f3 : Fr [fc] s s3 := hs3 ▸ (f2.mono (by simp)).set (Or.inl (by simp))
    have g3 : Fr [fc] s2 s3 := hs3 ▸ Fr.refl.set (Or.inl (by simp))
    have ft : ∀ {Q : Vl → Sto → Prop}, fldW cs_told "told" (.ref fc) s3 Q = Q (.tup (told.map Vl.int)) s3 := by intro Q; rw [fldW_ins t3]; simp [getS]
    have ll : (told.map Vl.int).length + [Vl.int ans].length ≤ LIM := limB (by simp; omega)
    simp only [List.length_map, List.length_cons, List.length_nil, Nat.zero_add] at ll
    simp [ft, ll]
    rw [setFld_ins t3 ⟨by simp, by simp⟩]
    simp [putS]
    generalize hs4 : s3.set fc (Ob.ins 5 [("story", stV its), ("told", .tup (told.map Vl.int ++ [.int ans])), ("asked_pairs", .ref ap), ("bounds", .ref s.length)]) = s4
    have t4 : s4[fc]? = some (Ob.ins 5 [("story", stV its), ("told", .tup (told.map Vl.int ++ [.int ans])), ("asked_pairs", .ref ap), ("bounds", .ref s.length)]) := by rw [← hs4]; exact get_set_self t3
    have f4 : Fr [fc] s s4 := hs4 ▸ f3.set (Or.inl (by simp))
    have g4 : Fr [fc] s2 s4 := hs4 ▸ g3.set (Or.inl (by simp))
    have ft4 : ∀ {Q : Vl → Sto → Prop}, fldW cs_told "told" (.ref fc) s4 Q = Q (.tup (told.map Vl.int ++ [.int ans])) s4 := by intro Q; rw [fldW_ins t4]; simp [getS]
    simp [ft4]
    have hfo := W.out fc (by simp)
    have o1 : ∀ x ∈ [fc], x < a ∨ b ≤ x := fun x hx => by simp at hx; subst hx; exact hfo
    have l13 : s.length + 13 < s4.length := by
      obtain ⟨_, z, _⟩ := B2.swg
      have := lt_of_get z
      have := g4.le
      omega
    refine k s4 s.length (s.length + 10) (s.length + 11) (s.length + 12) (s.length + 13) L' G' ⟨?_, f4.at W.aps (fun z => ?_), W.apr, W.mo.fr f4 o1, W.ho.fr f4 o1, B2.fr g4 (fun x hx => ?_), fun x hx => ?_, ?_, Nat.le_trans hb f4.le⟩ kl kg up dn aim ?_ f4
    · rw [t4]; simp [fcO]
    · simp at z
      have := W.apr
      omega
    · simp at hx; subst hx; simp; omega
    · simp at hx
      rcases hx with rfl | rfl | rfl | rfl | rfl | rfl
      · exact hfo
      all_goals exact Or.inr (by omega)
    · simp; omega
    · simp; omega
  have la : La 3 (.tup [.str "asked", .int (told.length : Nat)]) := (La.tup2 La.lit La.int).mono (by omega)
  have M1 := W1.mo
  have H1 := W1.ho
  rcases ha with rfl | rfl
  · simp [WE_eMeth]
    rw [methW_ins (m := "keep_there") (tab := tabA 3 tab_keep_there) (mf := arg 4 m_Bounds_keep_there) B1.top rfl (by simp [getS])]
    simp
    refine keepT (P' := fun τ => P τ ∧ Agr τ (m, c, decide ((0 : Int) = 1))) B1 M1 ⟨Or.inr (by omega), Or.inr (by omega)⟩ (by omega) O KL (fun _ h => h.1) (fun τ _ h => by simpa [Agr] using h.2) hm hc la fun L' s2 B2 kl up aim f2 => ?_
    exact fin s2 L' G B2 kl (GK_weak KG fun _ h => h.1) up (fun _ => Int.le_refl _) (by simpa using aim) (f1.trans' f2 (by simp))
  · simp [WE_eMeth]
    rw [methW_ins (m := "keep_gone") (tab := tabA 3 tab_keep_gone) (mf := arg 4 m_Bounds_keep_gone) B1.top rfl (by simp [getS])]
    simp
    refine keepGn (P' := fun τ => P τ ∧ Agr τ (m, c, decide ((1 : Int) = 1))) B1 H1 ⟨Or.inr (by omega), Or.inr (by omega)⟩ (by omega) O KG (fun _ h => h.1) (fun τ _ h => by simpa [Agr] using h.2) hm hc la fun G' s2 B2 kg dn aim f2 => ?_
    exact fin s2 L G' B2 (LK_weak KL fun _ h => h.1) kg (fun _ => Int.le_refl _) dn (by simpa using aim) (f1.trans' f2 (by simp))
end
end K32

/-! UJ: what is known behind some answers -/
namespace K32
open PySem L2 Sm
theorem okL_uniq : ∀ {es : List Ev} {n m k : Nat}, okL n es m → okL n es k → m = k
  | [], n, m, k, h1, h2 => by
    have h1 : n = m := h1
    have h2 : n = k := h2
    omega
  | .make j :: r, n, m, k, h1, h2 => okL_uniq h1.2 h2.2
  | .stand .. :: r, n, m, k, h1, h2 => okL_uniq h1.2 h2.2
  | .hold .. :: r, n, m, k, h1, h2 => okL_uniq h1.2 h2.2
  | .keep _ :: r, n, m, k, h1, h2 => okL_uniq h1.2 h2.2
  | .ask _ :: r, n, m, k, h1, h2 => okL_uniq h1.2 h2.2
theorem qsK_mem {its : List (List Ev)} {q : Nat × Nat} : ∀ {k : Nat}, q ∈ qsK its k → q.1 < k ∧ ∃ it, its[q.1]? = some it ∧ Ev.ask q.2 ∈ it
  | 0, h => by simp [qsK] at h
  | k + 1, h => by
    simp only [qsK] at h
    rcases List.mem_append.mp h with h | h
    · obtain ⟨h1, h2⟩ := qsK_mem h
      exact ⟨by omega, h2⟩
    · obtain ⟨e, he, hq⟩ := List.mem_filterMap.mp h
      cases e with
      | ask c =>
        simp [askE] at hq
        subst hq
        cases e : its[k]? with
        | none => rw [e] at he; simp at he
        | some it => rw [e] at he; exact ⟨by omega, it, rfl, he⟩
      | _ => simp [askE] at hq
theorem qs_ok {its : List (List Ev)} {ms : List Mo} {q : Nat × Nat} (S : StOk its) (A : AskOk its) (F : MsFor its ms) (hl : ms.length = its.length) (h : q ∈ qsK its its.length) : q.1 < ms.length ∧ q.2 < (mAt ms q.1).held.length := by
  obtain ⟨h1, it, h2, h3⟩ := qsK_mem h
  obtain ⟨k, h4, h5⟩ := A q.1 it q.2 h2 h3
  obtain ⟨n, _, h6, h7⟩ := S.at (i := q.1) (by omega)
  have := okL_uniq h4 h6
  have hm : q.1 < ms.length := by omega
  refine ⟨hm, ?_⟩
  rw [mAt_get (List.getElem?_eq_getElem hm), F.held q.1 _ (List.getElem?_eq_getElem hm), held_len, h7.len]
  omega
theorem lastN_of {its : List (List Ev)} {ms : List Mo} (F : MsFor its ms) (hl : ms.length = its.length) : lastN ms = nOf its := by
  unfold lastN nOf
  rcases List.eq_nil_or_concat ms with hms | ⟨ms', x, hms⟩
  · subst hms
    have : its = [] := by
      cases its with
      | nil => rfl
      | cons _ _ => simp at hl
    subst this
    rfl
  · rw [List.concat_eq_append] at hms
    have hg : ms.getLast? = some x := by rw [hms]; simp
    have hx : ms[its.length - 1]? = some x := by
      rw [hms] at hl ⊢
      simp at hl
      have : its.length - 1 = ms'.length := by omega
      rw [this]
      simp
    rw [hg, ← held_len, ← F.held _ x hx]
/-- the schedules agree with the answers -/
def AglT (its : List (List Ev)) (told : List Int) (τ : Nat → Nat) : Prop := ∀ (i : Nat) (q : Nat × Nat) (x : Int), (qsK its its.length)[i]? = some q → told[i]? = some x → Agr τ (q.1, q.2, decide (x = 1))
theorem AglT_snoc {its : List (List Ev)} {told : List Int} {ans : Int} {q : Nat × Nat} {τ : Nat → Nat} (hq : (qsK its its.length)[told.length]? = some q) : AglT its (told ++ [ans]) τ ↔ AglT its told τ ∧ Agr τ (q.1, q.2, decide (ans = 1)) := by
  constructor
  · intro h
    refine ⟨fun i q' x h1 h2 => h i q' x h1 (by rw [List.getElem?_append_left (List.getElem?_eq_some_iff.mp h2).1]; exact h2), h told.length q ans hq (by simp)⟩
  · rintro ⟨h1, h2⟩ i q' x h3 h4
    rcases getElem?_snoc h4 with z | ⟨rfl, rfl⟩
    · exact h1 i q' x h3 z
    · rw [hq] at h3
      cases h3
      exact h2
structure Know (its : List (List Ev)) (ms : List Mo) (told L G : List Int) : Prop where
  kl : (syOf ms).LK (nOf its) (AglT its told) L
  kg : (syOf ms).GK (nOf its) (AglT its told) G
  rc : RchTo ms ms.length 0 L
  an : ∀ (i : Nat) (q : Nat × Nat) (x : Int), (qsK its its.length)[i]? = some q → told[i]? = some x → if x = 1 then fG ms.length G q.2 ≤ (q.1 : Int) else (q.1 : Int) ≤ fL L q.2
section
variable {s s' : Sto} {Q : Vl → Sto → Prop} {E : Ex → Sto → Prop} {a b fc ap bd mr hr lt fg wt wg n : Nat} {its : List (List Ev)} {ms : List Mo} {told L G : List Int}
theorem tellK {ans : Int} {q : Nat × Nat} (W : WdG s a b fc ap bd mr hr lt fg wt wg its ms told L G) (S : StOk its) (A : AskOk its) (F : MsFor its ms) (hl : ms.length = its.length) (K : Know its ms told L G) (hq : (qsK its its.length)[told.length]? = some q) (ha : ans = 0 ∨ ans = 1) (hex : ∃ τ, (syOf ms).Sched (nOf its) τ ∧ AglT its (told ++ [ans]) τ)
    (k : ∀ s' bd' lt' fg' wt' wg' L' G', WdG s' a b fc ap bd' mr hr lt' fg' wt' wg' its ms (told ++ [ans]) L' G' → Know its ms (told ++ [ans]) L' G' → (∀ x ∈ [bd', lt', fg', wt', wg'], s.length ≤ x ∧ x < s'.length) → Fr [fc] s s' → Q (.int ((told.length + 1 : Nat) : Int)) s') : WE (m_Facts_tell [.ref fc, .int ans]) s Q E := by
  obtain ⟨m, c⟩ := q
  obtain ⟨q1, q2⟩ := qs_ok S A F hl (List.mem_of_getElem? hq)
  have O := F.ok S hl
  have slen := S.len
  have qlen := qsK_len S.sm its.length
  obtain ⟨τ, t1, t2⟩ := hex
  have t3 := (AglT_snoc hq).mp t2
  refine tellG W O (lastN_of F hl) K.kl K.kg (by omega) hq ha q1 q2 ⟨τ, t1, t3.1, t3.2⟩ fun s' bd' lt' fg' wt' wg' L' G' W' kl kg up dn aim new f => ?_
  refine k s' bd' lt' fg' wt' wg' L' G' W' ⟨LK_weak kl fun τ h => (AglT_snoc hq).mp h, GK_weak kg fun τ h => (AglT_snoc hq).mp h, K.rc.mono up, fun i q' x h1 h2 => ?_⟩ new f
  rcases getElem?_snoc h2 with z | ⟨rfl, rfl⟩
  · have := K.an i q' x h1 z
    split
    · rename_i e
      rw [if_pos e] at this
      exact Int.le_trans (dn _) this
    · rename_i e
      rw [if_neg e] at this
      exact Int.le_trans this (up _)
  · rw [hq] at h1
    cases h1
    exact aim
/-- the lists of holders of all moments -/
theorem holsG {lo : Lo} {QS : Sto → Prop} (M : MomsG s a b mr ms) (hb : b ≤ s.length) (O : MsOk ms n) (h7 : lo.length = 7) (k : ∀ s', HolG s' s.length s'.length s.length ms → Fr [] s s' → QS s') :
    WL (lcN (nxLst mr) (glT [5, 6]) tTrue (eCall (arg 1 m_holders_of) (aCons (eVar 5) aNil)) s.length lo 100000 0 (s ++ [.lst []])) QS := by
  obtain ⟨vs, v1, v2, v3⟩ := M.vs
  have hN := O.len
  refine lcL_inv (xs := vs) (fun i s' => Fr [] s s' ∧ ∃ ks : List Nat, ks.length = i ∧ s'[s.length]? = some (.lst (ks.map Vl.ref)) ∧ ∀ (p k : Nat) (x : Mo), ks[p]? = some k → ms[p]? = some x → HeldR s' (s.length + 1) s'.length k (holdersOf x)) (by omega) ⟨Fr.refl.push _, [], rfl, get_last, by simp⟩ ?_ ?_ ?_
  · rintro i s' ⟨f, _⟩
    exact f.at v1 (by simp)
  · rintro i v s1 hv ⟨f1, ks, hi, e1, hks⟩
    have hil := (List.getElem?_eq_some_iff.mp hv).1
    have hmg := List.getElem?_eq_getElem (show i < ms.length by omega)
    obtain ⟨ah, af, rfl, q1, q2, q3⟩ := (v3 i v _ hv hmg).fr f1 (by simp)
    have lt1 := lt_of_get e1
    refine ⟨(lo.set 5 (some (.ref ah))).set 6 (some (.ref af)), rfl, ?_⟩
    unfold LcT tTrue
    rw [WE_ret, if_pos rfl]
    have e5 : ((lo.set 5 (some (Vl.ref ah))).set 6 (some (.ref af)))[5]? = some (some (.ref ah)) := by rw [List.getElem?_set_ne (by omega), List.getElem?_set_self (by omega)]
    simp [e5]
    have le1 := f1.le
    refine holdersG q1 (by omega) (by have := O.cn i _ hmg; have := O.n8; omega) (O.row i _ hmg) fun s2 H2 f2 => ?_
    have e2 := f2.at e1 (by simp)
    simp only [e2]
    have le2 := f2.le
    have g3 : ∀ y, Fr [s.length] s2 (s2.set s.length y) := fun y => Fr.refl.set (by simp)
    refine ⟨limC (by simp; omega), (f1.trans f2).set (Or.inr (Nat.le_refl _)), ks ++ [s1.length], by simp [hi], by rw [get_set_self e2]; simp, fun p kk x w1 w2 => ?_⟩
    rcases getElem?_snoc w1 with z | ⟨z1, z2⟩
    · exact (((hks p kk x z w2).fr f2 (by simp)).fr (g3 _) (by simp)).wide (Nat.le_refl _) (by simp; omega)
    · subst z1 z2
      rw [hi, hmg] at w2
      cases w2
      exact (H2.fr (g3 _) (by simp; omega)).wide (by omega) (by simp)
  · rintro s1 ⟨f1, ks, hi, e1, hks⟩
    exact k s1 ⟨⟨ks, e1, by omega, fun p kk x w1 w2 => (hks p kk x w1 w2).wide (by omega) (Nat.le_refl _)⟩, Nat.le_refl _, lt_of_get e1⟩ f1
end
end K32

/-! UK: facts made; fate, window -/
namespace K32
open PySem L2 Sm
section
variable {s s' : Sto} {Q : Vl → Sto → Prop} {E : Ex → Sto → Prop} {its : List (List Ev)}
def FaI (s : Sto) (its : List (List Ev)) (ms : List Mo) (answers : List Int) (a b ap mr hr : Nat) (j : Nat) (lo : Lo) (s' : Sto) : Prop := (∃ x4 x5 x6, lo = [some (.ref s.length), some (stV its), some (.tup (answers.map Vl.int)), some (.ref mr), x4, x5, x6]) ∧ ∃ (bd lt fg wt wg : Nat) (L G : List Int), WdG s' a b s.length ap bd mr hr lt fg wt wg its ms (answers.take j) L G ∧ Know its ms (answers.take j) L G ∧ (∀ x ∈ [bd, lt, fg, wt, wg], s.length ≤ x ∧ x < s'.length) ∧ Fr [] s s'
theorem factsG {answers : List Int} (S : StOk its) (A : AskOk its) (hal : answers.length ≤ (qsK its its.length).length) (hbt : ∀ x ∈ answers, x = 0 ∨ x = 1) (hex : ∀ ms, MsFor its ms → ms.length = its.length → ∃ τ, (syOf ms).Sched (nOf its) τ ∧ AglT its answers τ)
    (k : ∀ ms s' a b ap bd mr hr lt fg wt wg L G, MsFor its ms → ms.length = its.length → WdG s' a b s.length ap bd mr hr lt fg wt wg its ms answers L G → Know its ms answers L G → s.length ≤ a → (∀ x ∈ [bd, lt, fg, wt, wg], s.length ≤ x ∧ x < s'.length) → Fr [] s s' → Q .non s') :
    WE (m_FactsU_initU [.ref s.length, stV its, .tup (answers.map Vl.int)]) (s ++ [Ob.ins 5 []]) Q E := by
  unfold m_FactsU_initU b_FactsU_initU
  simp
  rw [setFld_new (by simp) (by simp)]
  simp only
  simp [putS]
  rw [setFld_new (by simp) (by simp)]
  simp [putS]
  generalize hs1 : (s ++ [Ob.ins 5 [("story", stV its), ("told", .tup [])]]) = s1
  have f1 : Fr [] s s1 := hs1 ▸ Fr.refl.push _
  have l1 : s1.length = s.length + 1 := by rw [← hs1]; simp
  have t1 : s1[s.length]? = some (.ins 5 [("story", stV its), ("told", .tup [])]) := by rw [← hs1]; simp
  clear hs1
  refine questionsG S fun s2 e2 f2 => ?_
  have t2 := f2.at t1 (by simp)
  simp
  rw [setFld_ins t2 ⟨by simp, by simp⟩]
  simp [putS]
  have le2 := f2.le
  have l2 := lt_of_get e2
  generalize hs3 : s2.set s.length (Ob.ins 5 [("story", stV its), ("told", .tup []), ("asked_pairs", .ref s1.length)]) = s3
  have t3 : s3[s.length]? = some (.ins 5 [("story", stV its), ("told", .tup []), ("asked_pairs", .ref s1.length)]) := by rw [← hs3]; exact get_set_self t2
  have f3 : Fr [] s s3 := hs3 ▸ (f1.trans f2).set (Or.inr (Nat.le_refl _))
  have e3 : s3[s1.length]? = some (.lst ((qsK its its.length).map qV)) := by rw [← hs3, get_set_ne (by omega)]; exact e2
  have l3 : s3.length = s2.length := by rw [← hs3]; simp
  clear hs3
  refine momentsG S fun ms mr s4 F hl M4 f4 => ?_
  have O := F.ok S hl
  obtain ⟨τ, ht1, ht2⟩ := hex ms F hl
  have t4 := f4.at t3 (by simp)
  have e4 := f4.at e3 (by simp)
  obtain ⟨vs, v1, v2, v3⟩ := M4.vs
  simp [WE_eMake, v1]
  refine holsG M4 (Nat.le_refl _) O rfl fun s5 H5 f5 => ?_
  have M5 := M4.fr f5 (by simp)
  have t5 := f5.at t4 (by simp)
  have e5 := f5.at e4 (by simp)
  have le4 := f4.le
  have le5 := f5.le
  have hn8 := O.n8
  have hN := O.len
  simp
  refine boundsG M5 (by omega) (lastN_of F hl) (by omega) (by omega) fun s6 B6 l6 f6 => ?_
  have t6 := f6.at t5 (by simp)
  simp
  rw [setFld_ins t6 ⟨by simp, by simp⟩]
  simp [putS]
  generalize hs7 : s6.set s.length (Ob.ins 5 [("story", stV its), ("told", .tup []), ("asked_pairs", .ref s1.length), ("bounds", .ref s5.length)]) = s7
  have t7 : s7[s.length]? = some (.ins 5 [("story", stV its), ("told", .tup []), ("asked_pairs", .ref s1.length), ("bounds", .ref s5.length)]) := by rw [← hs7]; exact get_set_self t6
  have g7 : Fr [s.length] s6 s7 := hs7 ▸ Fr.refl.set (Or.inl (by simp))
  have l7 : s7.length = s6.length := by rw [← hs7]; simp
  clear hs7
  have B7 := B6.fr g7 (by simp; omega)
  have M7 := (M5.fr f6 (by simp)).fr g7 (by simp; omega)
  have H7 := (H5.fr f6 (by simp)).fr g7 (by simp; omega)
  have F7 : Fr [] s s7 := (((f3.trans f4).trans f5).trans f6).trans' g7 (by simp)
  have bq : ∀ {Q : Vl → Sto → Prop}, fldW cs_bounds "bounds" (.ref s.length) s7 Q = Q (.ref s5.length) s7 := by intro Q; rw [fldW_ins t7]; simp [getS]
  simp [bq, WE_eMeth]
  rw [methW_ins (m := "take_reached") (tab := tabA 0 tab_take_reached) (mf := arg 1 m_Bounds_take_reached) B7.top rfl (by simp [getS])]
  simp
  refine reachedG B7 M7 ⟨Or.inr (by omega), Or.inr (by omega)⟩ (by omega) O LK0 fun L8 s8 B8 K8 R8 f8 => ?_
  have o8 : ∀ x ∈ [s5.length + 3, s5.length + 7], x < s1.length ∨ s5.length ≤ x := by simp
  have le8 := f8.le
  have W8 : WdG s8 s1.length s5.length s.length s1.length s5.length mr s4.length (s5.length + 3) (s5.length + 5) (s5.length + 7) (s5.length + 9) its ms [] L8 (List.replicate (nOf its) (ms.length : Int)) := by
    refine ⟨?_, ?_, by omega, (M7.wide (by omega) (by omega)).fr f8 o8, (H7.wide (by omega) (by omega)).fr f8 o8, B8, ?_, by simp; omega, by omega⟩
    · exact f8.at (by rw [t7]; rfl) (by simp; omega)
    · exact f8.at (g7.at (f6.at e5 (by simp)) (by simp; omega)) (by simp; omega)
    · simp; omega
  have N8 : Know its ms [] L8 (List.replicate (nOf its) (ms.length : Int)) := ⟨LK_weak K8 fun _ _ => trivial, GK_weak (GK0 O.cnt) fun _ _ => trivial, R8, fun i q x _ h => by simp at h⟩
  simp
  refine loopX_inv (FaI s its ms answers s1.length s5.length s1.length mr s4.length) ⟨⟨_, _, _, rfl⟩, s5.length, s5.length + 3, s5.length + 5, s5.length + 7, s5.length + 9, L8, _, W8, N8, by simp; omega, F7.trans' f8 (by simp; omega)⟩ ?_ ?_
  · rintro j v lo s9 hv ⟨⟨x4, x5, x6, rfl⟩, bd, lt, fg, wt, wg, L, G, W, K, new, f9⟩
    obtain ⟨ans, hans, rfl⟩ := get_map hv
    have hj := (List.getElem?_eq_some_iff.mp hans).1
    have htl : (answers.take j).length = j := by simp; omega
    have hts : answers.take (j + 1) = answers.take j ++ [ans] := take_succ_get hans
    have hqj := List.getElem?_eq_getElem (show j < (qsK its its.length).length by omega)
    have fa9 : s9[s.length]? = some (.ins 5 [("story", stV its), ("told", .tup ((answers.take j).map Vl.int)), ("asked_pairs", .ref s1.length), ("bounds", .ref bd)]) := W.fa
    simp [WE_eMeth]
    rw [methW_ins (m := "tell") (tab := tabA 1 tab_tell) (mf := arg 2 m_Facts_tell) fa9 rfl (by simp [getS])]
    simp
    refine tellK W S A F hl K (by rw [htl]; exact hqj) (hbt ans (List.mem_of_getElem? hans)) ⟨τ, ht1, fun i q x h1 h2 => ?_⟩ fun s10 bd' lt' fg' wt' wg' L' G' W' K' new' f10 => ?_
    · rw [← hts] at h2
      refine ht2 i q x h1 ?_
      have hi := (List.getElem?_eq_some_iff.mp h2).1
      rw [List.getElem?_take_of_lt (by simp at hi; omega)] at h2
      exact h2
    · rw [← hts] at W' K'
      have le9 := f9.le
      exact ⟨⟨_, _, _, rfl⟩, bd', lt', fg', wt', wg', L', G', W', K', fun x hx => by have := new' x hx; omega, f9.trans' f10 (by simp)⟩
  · rintro lo s9 ⟨⟨x4, x5, x6, rfl⟩, bd, lt, fg, wt, wg, L, G, W, K, new, f9⟩
    rw [List.length_map, List.take_length] at W K
    exact k ms s9 s1.length s5.length s1.length bd mr s4.length lt fg wt wg L G F hl W K (by omega) new f9
variable {a b fc ap bd mr hr lt fg wt wg : Nat} {ms : List Mo} {told L G : List Int}
def fateW (x g : Int) (m : Int) : Str := if m ≤ x then "there" else if g ≤ m then "gone" else "open"
theorem fateG {c : Nat} {m x g : Int} (W : WdG s a b fc ap bd mr hr lt fg wt wg its ms told L G) (hx : L[c]? = some x) (hg : G[c]? = some g) (k : Q (.str (fateW x g m)) s) : WE (m_Facts_fate [.ref fc, .int (c : Nat), .int m]) s Q E := by
  unfold m_Facts_fate b_Facts_fate
  simp [k_bd W, f_lt W.bds, f_fg W.bds, opIx_lst W.bds.slt, opIx_lst W.bds.sfg, atN, hx, hg]
  unfold fateW at k
  by_cases h1 : m ≤ x
  · simp [h1] at k ⊢; exact k
  · by_cases h2 : g ≤ m
    · simp [h1, h2] at k ⊢; exact k
    · simp [h1, h2] at k ⊢; exact k
def winV (N : Nat) (t : Nat) (g : Int) : Vl := .tup [if t < N then .int (t : Nat) else .non, if g < N then .int g else .non]
/-- no such cell at the last moment -/
theorem windowN {c : Nat} (W : WdG s a b fc ap bd mr hr lt fg wt wg its ms told L G) (hc : lastN ms ≤ c) (k : ∀ s', Fr [] s s' → Q (.tup [.non, .non]) s') : WE (m_Facts_window [.ref fc, .int (c : Nat)]) s Q E := by
  unfold m_Facts_window b_Facts_window
  have W1 := W.fr (s' := s ++ [Ob.lst []]) (Fr.refl.push _ (X := [])) (by simp)
  obtain ⟨vs, v1, v2, v3, w3⟩ := W1.mo.las
  have q := opEq_las v1 (get_last (s := s) (o := Ob.lst [])) v3
  rcases List.eq_nil_or_concat ms with hms | ⟨ms', x, hms⟩
  · subst hms
    have hv : vs = [] := by simpa using v2
    subst hv
    simp at q
    simp [k_bd W, f_mo W.bds, q]
    exact k _ (Fr.refl.push _)
  · rw [List.concat_eq_append] at hms
    subst hms
    have hne : vs ≠ [] := fun z => by rw [z] at v2; simp at v2
    have hve : vs.isEmpty = false := by cases vs with | nil => exact absurd rfl hne | cons _ _ => rfl
    have hl : vs.length = ms'.length + 1 := by rw [v2]; simp
    have hvl : vs[ms'.length]? = some vs[ms'.length] := List.getElem?_eq_getElem (by omega)
    obtain ⟨ah, af, e1, H, _, _⟩ := w3 ms'.length _ x hvl (by simp)
    have hvs : vs = vs.dropLast ++ [.tup [.ref ah, .ref af]] := by
      have h1 := List.dropLast_concat_getLast hne
      have h2 : vs.getLast hne = vs[ms'.length] := by rw [List.getLast_eq_getElem]; congr 1; omega
      rw [h2, e1] at h1
      exact h1.symm
    have ix : atI vs (-1) = some (.tup [.ref ah, .ref af]) := by rw [hvs, atLast]
    obtain ⟨xs, t1, t2⟩ := H.top
    have hnx : x.held.length ≤ c := by simpa [lastN] using hc
    rw [hve] at q
    simp [k_bd W, f_mo W.bds, q, opIx_lst v1, ix, oLen_lst t1, t2, hnx]
    exact k _ (Fr.refl.push _)
theorem windowG {c : Nat} {x g : Int} (W : WdG s a b fc ap bd mr hr lt fg wt wg its ms told L G) (O : MsOk ms (nOf its)) (hc : c < lastN ms) (hx : L[c]? = some x) (hx1 : -1 ≤ x) (hx2 : x < ms.length) (hg : G[c]? = some g) (k : ∀ s', Fr [] s s' → Q (winV ms.length ((syOf ms).tmin (fL L) c) g) s') : WE (m_Facts_window [.ref fc, .int (c : Nat)]) s Q E := by
  unfold m_Facts_window b_Facts_window
  have hN := O.len
  have W1 := W.fr (s' := s ++ [Ob.lst []]) (Fr.refl.push _ (X := [])) (by simp)
  obtain ⟨vs, v1, v2, v3, w3⟩ := W1.mo.las
  have q := opEq_las v1 (get_last (s := s) (o := Ob.lst [])) v3
  have hxf := fL_get hx
  obtain ⟨T1, T2, T3⟩ := (syOf ms).fst_spec (c := c) ms.length (x + 1).toNat (by show ms.length ≤ _; omega)
  have eT : (syOf ms).tmin (fL L) c = (syOf ms).fst c (x + 1).toNat ms.length := by unfold Sy.tmin; rw [hxf]; rfl
  rw [← eT] at T1 T2 T3
  generalize (syOf ms).tmin (fL L) c = T at T1 T2 T3 k
  have TN : T ≤ ms.length := by
    rcases T1 with e | e
    · exact Nat.le_of_eq e
    · exact Nat.le_of_lt e.1
  have T2 := T2 (by show (x + 1).toNat ≤ ms.length; omega)
  rcases List.eq_nil_or_concat ms with hms | ⟨ms', xx, hms⟩
  · subst hms
    simp [lastN] at hc
  · rw [List.concat_eq_append] at hms
    have hne : vs ≠ [] := fun z => by rw [z, hms] at v2; simp at v2
    have hve : vs.isEmpty = false := by cases vs with | nil => exact absurd rfl hne | cons _ _ => rfl
    have hl : vs.length = ms'.length + 1 := by rw [v2, hms]; simp
    have hvl : vs[ms'.length]? = some vs[ms'.length] := List.getElem?_eq_getElem (by omega)
    obtain ⟨ah, af, e1, H, _, _⟩ := w3 ms'.length _ xx hvl (by rw [hms]; simp)
    have hvs : vs = vs.dropLast ++ [.tup [.ref ah, .ref af]] := by
      have h1 := List.dropLast_concat_getLast hne
      have h2 : vs.getLast hne = vs[ms'.length] := by rw [List.getLast_eq_getElem]; congr 1; omega
      rw [h2, e1] at h1
      exact h1.symm
    have ix : atI vs (-1) = some (.tup [.ref ah, .ref af]) := by rw [hvs, atLast]
    obtain ⟨xs, t1, t2⟩ := H.top
    have hnx : ¬ xx.held.length ≤ c := by
      have : lastN ms = xx.held.length := by rw [hms]; simp [lastN]
      omega
    rw [hve] at q
    simp [k_bd W, f_mo W.bds, q, opIx_lst v1, ix, oLen_lst t1, t2, hnx, k_bd W1, f_lt W1.bds, opIx_lst W1.bds.slt, atN, hx]
    refine loopW_inv (fun m lo s' => s' = s ++ [Ob.lst []] ∧ ∃ (f : Nat) (x4 : Option Vl), lo = [some (.ref fc), some (.int (c : Nat)), some (.ref mr), some (.int (f : Nat)), x4] ∧ m = ms.length - f ∧ x + 1 ≤ f ∧ f ≤ T) (ms.length - (x + 1).toNat) (by omega) ⟨rfl, (x + 1).toNat, none, by have : (((x + 1).toNat : Nat) : Int) = x + 1 := (by omega); rw [this], rfl, by omega, T2⟩ ?_
    rintro m lo s2 ⟨rfl, f, x4, rfl, rfl, hf1, hf2⟩
    have last : f = T → WS (sSeq (sSet 4 (eOp opIx (eFld cs_first_gone "first_gone" (eFld cs_bounds "bounds" (eVar 0))) (eVar 1))) (sRet (eCB oTup (aCons (eIfM (tVal (eOp opLt (eVar 3) (eCB oLen (aCons (eVar 2) aNil)))) (eVar 3) (eC .non)) (aCons (eIfM (tVal (eOp opLt (eVar 4) (eCB oLen (aCons (eVar 2) aNil)))) (eVar 4) (eC .non)) aNil))))) [some (.ref fc), some (.int (c : Nat)), some (.ref mr), some (.int (f : Nat)), x4] (s ++ [Ob.lst []]) ⟨fun _ s => Q .non s, Q, fun _ _ => False, fun _ _ => False, fun e _ s => E e s⟩ := fun e => by
      subst e
      have kk := k (s ++ [Ob.lst []]) (Fr.refl.push _)
      unfold winV at kk
      by_cases h1 : f < ms.length <;> by_cases h2 : g < (ms.length : Int) <;> simp [k_bd W1, f_fg W1.bds, opIx_lst W1.bds.sfg, atN, hg, oLen_lst v1, v2, h1, h2] at kk ⊢ <;> exact kk
    simp [oLen_lst v1, v2]
    by_cases hfN : f < ms.length
    · obtain ⟨vs', hh, ff, u1, u2, u3, u4, u5⟩ := W1.mo.get hfN
      rw [v1] at u1
      cases u1
      obtain ⟨ys, y1, y2⟩ := u4.top
      have cnt : (syOf ms).cnt f = ms[f].held.length := by show (mAt ms f).held.length = _; rw [mAt_get (List.getElem?_eq_getElem hfN)]
      by_cases hcf : ms[f].held.length ≤ c
      · simp [hfN, opIx_lst v1, atN, u3, oLen_lst y1, y2, hcf]
        refine ⟨ms.length - (f + 1), by omega, f + 1, by simp, rfl, by omega, ?_⟩
        rcases T1 with e | e
        · have : T = ms.length := e
          omega
        · have : f ≠ T := fun z => by subst z; rw [cnt] at e; omega
          omega
      · simp [hfN, opIx_lst v1, atN, u3, oLen_lst y1, y2, hcf]
        have := T3 f (by omega) hfN (by rw [cnt]; omega)
        have l := last (by omega)
        simp at l
        exact l
    · simp [hfN]
      have l := last (by omega)
      simp at l
      exact l
end
end K32

/-! VA: the law's heaps; schedules judged -/
namespace K32
open PySem L2 Sm
theorem HeldAt.frX {s s' : Sto} {j : Nat} {held : List (List Int)} {X : List Nat} (H : HeldAt s j held) (f : Fr X s s') (hX : ∀ x ∈ X, x < j) : HeldAt s' j held := by
  obtain ⟨hs, a, b, c⟩ := H.ex
  refine ⟨hs, f.at a (fun z => by have := hX j z; omega), b, fun i x hx => ?_⟩
  obtain ⟨lx, row, p, q⟩ := c i x hx
  exact ⟨lx, row, p, f.at q (fun z => by have := hX x z; omega)⟩
/-- the law's heaps of the first k moments -/
structure HpsAt (s : Sto) (r : Nat) (its : List (List Ev)) (k : Nat) : Prop where
  vs : ∃ vs : List Vl, s[r]? = some (.lst vs) ∧ vs.length = k ∧ ∀ (i : Nat) (v : Vl), vs[i]? = some v → ∃ j kk, v = .tup [.ref j, .ref kk] ∧ (r < j ∧ r < kk) ∧ HeldAt s j (stAt its i).held ∧ s[kk]? = some (.lst ((stAt its i).starts.map Vl.int))
theorem HpsAt.fr {s s' : Sto} {r k : Nat} {its : List (List Ev)} (H : HpsAt s r its k) (f : Fr [] s s') : HpsAt s' r its k := by
  obtain ⟨vs, h1, h2, h3⟩ := H.vs
  refine ⟨vs, f.at h1 (by simp), h2, fun i v hv => ?_⟩
  obtain ⟨j, kk, e, q0, q1, q2⟩ := h3 i v hv
  exact ⟨j, kk, e, q0, q1.fr f, f.at q2 (by simp)⟩
theorem starts_rng {n B : Nat} {h : Hs} (O : HsOk n B h) : (∀ x ∈ h.starts, 0 ≤ x ∧ x < n) ∧ h.starts.length ≤ 2 * B := by
  refine ⟨fun x hx => ?_, ?_⟩
  · unfold Hs.starts at hx
    rcases List.mem_append.mp hx with hx | hx
    · exact O.kpt.2 x hx
    · obtain ⟨kv, hkv, e⟩ := List.mem_filterMap.mp hx
      rcases O.std.2 kv hkv with q | ⟨c, q1, q2⟩
      · rw [q] at e; simp [vInt] at e
      · rw [q2] at e; simp [vInt] at e; omega
  · unfold Hs.starts
    have h1 := O.kpt.1
    have h2 := O.std.1
    have h3 : (heldR h.stand).length ≤ h.stand.length := List.length_filterMap_le ..
    simp
    omega
theorem inF_ints {i : Int} : ∀ {C : List Int}, inF (.int i) (C.map Vl.int) = decide (i ∈ C)
  | [] => by simp
  | x :: C => by
    rw [List.map_cons, inF_cons, eqF_int, inF_ints (C := C)]
    by_cases e : x = i
    · subst e; simp
    · have : ¬ i = x := fun z => e z.symm
      simp [e, this]
theorem flat_ints {C : List Int} : (C.map Vl.int).all flat = true := by simp
/-- what the law asks of a schedule -/
def SchAt (its : List (List Ev)) (τ : List Int) (m c : Nat) : Prop := ¬ (fL τ c ≤ m ∧ Rch (stAt its m).held (· ∈ (stAt its m).starts) c) ∧ ¬ ((m : Int) < fL τ c ∧ ∃ y ∈ rowOf (stAt its m).held c, fL τ y.toNat ≤ m)
def SchL (its : List (List Ev)) (τ : List Int) : Prop := ∀ m c : Nat, m < its.length → c < (stAt its m).held.length → SchAt its τ m c
section
variable {s : Sto} {Q : Vl → Sto → Prop} {E : Ex → Sto → Prop} {its : List (List Ev)}
theorem heapsL {lo : Lo} {QS : Sto → Prop} (S : StOk its) (h0 : lo[0]? = some (some (stV its))) (h8 : lo.length = 8) (k : ∀ s', HpsAt s' s.length its its.length → Fr [] s s' → QS s') :
    WL (lcX (glN 7) tTrue (eCall (arg 2 m__law_heap) (aCons (eVar 0) (aCons (eVar 7) aNil))) s.length lo (rng 0 its.length) (s ++ [.lst []])) QS := by
  have slen := S.len
  refine lcX_inv (xs := rng 0 its.length) (fun i s' => Fr [] s s' ∧ HpsAt s' s.length its i) ⟨Fr.refl.push _, ⟨[], get_last, rfl, by simp⟩⟩ ?_ ?_
  · rintro i v s1 hv ⟨f1, H1⟩
    obtain ⟨hi, rfl⟩ := rng_get hv
    refine ⟨_, rfl, ?_⟩
    unfold LcT tTrue
    rw [WE_ret, if_pos rfl]
    have e0 : (lo.set 7 (some (Vl.int (i : Nat))))[0]? = some (some (stV its)) := by rw [List.getElem?_set_ne (by omega)]; exact h0
    have e7 : (lo.set 7 (some (Vl.int (i : Nat))))[7]? = some (some (.int (i : Nat))) := List.getElem?_set_self (by omega)
    simp [e0, e7]
    refine (lawHeap S (by omega)).use ?_
    rintro v s2 ⟨j, kk, rfl, q0, q1, q2, f2⟩
    have H2 := H1.fr f2
    obtain ⟨vs0, h01, _⟩ := H1.vs
    have lt1 := lt_of_get h01
    obtain ⟨vs, h1, h2, h3⟩ := H2.vs
    simp only [h1]
    have g : Fr [s.length] s2 (s2.set s.length (.lst (vs ++ [.tup [.ref j, .ref kk]]))) := Fr.refl.set (by simp)
    refine ⟨limC (by omega), (f1.trans f2).set (Or.inr (Nat.le_refl _)), vs ++ [.tup [.ref j, .ref kk]], get_set_self h1, by simp [h2], fun p v hp => ?_⟩
    rcases getElem?_snoc hp with z | ⟨z1, z2⟩
    · obtain ⟨j', kk', e, r0, r1, r2⟩ := h3 p v z
      exact ⟨j', kk', e, r0, r1.frX g (by simp; omega), g.at r2 (by simp; omega)⟩
    · subst z2
      have : p = i := by omega
      subst this
      exact ⟨j, kk, rfl, ⟨by omega, by omega⟩, q1.frX g (by simp; omega), g.at q2 (by simp; omega)⟩
  · rintro s1 ⟨f1, H1⟩
    rw [rng_len] at H1
    exact k s1 H1 f1
def ScI (s : Sto) (hp rw : Nat) (its : List (List Ev)) (τ : List Int) (i : Nat) (lo : Lo) (s' : Sto) : Prop := (∃ x2 x3 x4 x5 x6 x7, lo = [some (.ref hp), some (.ref rw), x2, x3, x4, x5, x6, x7]) ∧ (∀ m c : Nat, m < i → c < (stAt its m).held.length → SchAt its τ m c) ∧ Fr [] s s'
def ScJ (s : Sto) (hp rw : Nat) (its : List (List Ev)) (τ : List Int) (i p j kk : Nat) (c : Nat) (lo : Lo) (s' : Sto) : Prop := (∃ x4 x7, lo = [some (.ref hp), some (.ref rw), some (.int (i : Nat)), some (.ref p), x4, some (.ref j), some (.ref kk), x7]) ∧ (∀ d, d < c → SchAt its τ i d) ∧ Fr [] s s'
theorem isSched {hp rw : Nat} {τ : List Int} (S : StOk its) (H : HpsAt s hp its its.length) (hrw : s[rw]? = some (.lst (τ.map Vl.int))) (hτ : ∀ m, m < its.length → (stAt its m).held.length ≤ τ.length) (k : ∀ bb s', (bb = true ↔ SchL its τ) → Fr [] s s' → Q (.bl bb) s') : WE (m__law_is_schedule [.ref hp, .ref rw]) s Q E := by
  unfold m__law_is_schedule b__law_is_schedule
  have slen := S.len
  obtain ⟨vs, h1, h2, h3⟩ := H.vs
  simp [h1]
  refine loopE_inv (xs := vs) (ScI s hp rw its τ) (by omega) ⟨⟨_, _, _, _, _, _, rfl⟩, fun m c h => by omega, Fr.refl⟩ (fun i lo s' h => h.2.2.at h1 (by simp)) ?_ ?_
  · rintro i v lo s1 hv ⟨⟨x2, x3, x4, x5, x6, x7, rfl⟩, A1, f1⟩
    have hil := (List.getElem?_eq_some_iff.mp hv).1
    obtain ⟨j, kk, rfl, q0, q1, q2⟩ := h3 i v hv
    have q1 := q1.fr f1
    have q2 := f1.at q2 (by simp)
    have hit : i < its.length := by omega
    obtain ⟨n, hn6, _, O1⟩ := S.at (i := i) (by omega)
    have G1 := gok O1 hn6 (by omega)
    obtain ⟨sr1, sr2⟩ := starts_rng O1
    have hhl := G1.len
    have htl := hτ i hit
    simp
    refine (closedS q1 G1 q2 sr1 (by omega)).use ?_
    rintro v s2 ⟨p, C, rfl, e2, _, hC, f2⟩
    have q1 := q1.fr f2
    obtain ⟨xs, t1, t2⟩ := q1.toR.top
    simp [oLen_lst t1, t2, hhl]
    rw [rngW_nat (by omega)]
    refine loopX_inv (ScJ s2 hp rw its τ i p j kk) ⟨⟨_, _, rfl⟩, fun d h => by omega, Fr.refl⟩ ?_ ?_
    · rintro c v lo s3 hv ⟨⟨x4, x7, rfl⟩, A3, f3⟩
      obtain ⟨hc, rfl⟩ := rng_get hv
      have r3 := ((f1.trans f2).trans f3).at hrw (by simp)
      have e3 := f3.at e2 (by simp)
      have t3 := f3.at t1 (by simp)
      have hcl : c < τ.length := by omega
      have hx : τ[c]? = some τ[c] := List.getElem?_eq_getElem hcl
      have hxf := fL_get hx
      generalize τ[c] = x at hx hxf
      have hin : opIn (.int (c : Nat)) (.ref p) s3 = some (.bl (decide ((c : Int) ∈ C)), s3) := by
        rw [opIn_lstI e3, if_pos flat_ints, inF_ints]
      obtain ⟨ys, r, y1, y2, y3, y4⟩ := (q1.fr f3).toR.get (c := c) (by omega)
      rw [t3] at y1
      cases y1
      have hrow : rowOf (stAt its i).held (c : Int) = (stAt its i).held[c]'(by omega) := by
        unfold rowOf
        have : ((c : Nat) : Int).toNat = c := by omega
        rw [this, List.getElem?_eq_getElem (by omega)]
        rfl
      have hrl := G1.rl _ (List.getElem_mem (show c < (stAt its i).held.length by omega))
      have hrr := G1.rng _ (List.getElem_mem (show c < (stAt its i).held.length by omega))
      rw [← hrow] at y4 hrl hrr
      have keep : SchAt its τ i c → ∀ {x4 x7 : Option Vl} {s4 : Sto}, Fr [] s2 s4 → ScJ s2 hp rw its τ i p j kk (c + 1) [some (.ref hp), some (.ref rw), some (.int (i : Nat)), some (.ref p), x4, some (.ref j), some (.ref kk), x7] s4 := fun h _ _ _ f4 => ⟨⟨_, _, rfl⟩, fun d hd => by
        by_cases e : d = c
        · subst e; exact h
        · exact A3 d (by omega), f4⟩
      have bad : ¬ SchAt its τ i c → ¬ SchL its τ := fun h g => h (g i c hit (by omega))
      by_cases h4 : x ≤ (i : Int)
      · by_cases h5 : (c : Int) ∈ C
        · simp [opIx_lst r3, atN, hx, h4, hin, h5]
          exact k false s3 ⟨fun z => by simp at z, fun g => absurd g (bad fun z => z.1 ⟨by omega, (hC _).mp h5⟩)⟩ ((f1.trans f2).trans f3)
        · have h6 : ¬ (i : Int) < x := by omega
          simp [opIx_lst r3, atN, hx, h4, hin, h5, h6]
          exact keep ⟨fun z => h5 ((hC _).mpr z.2), fun z => by omega⟩ f3
      · have h6 : (i : Int) < x := by omega
        simp [opIx_lst r3, atN, hx, h4, h6, opIx_lst t3, y3, y4]
        refine lcL_p (xs := (rowOf (stAt its i).held (c : Int)).map Vl.int) s3 (fun v => match v with | .int y => some (.bl (decide (fL τ y.toNat ≤ (i : Int)))) | _ => none) rfl rfl y4 (by simp; omega) ?_ ?_
        · intro v hv acc
          obtain ⟨y, hy, rfl⟩ := List.mem_map.mp hv
          have yb := hrr y hy
          have hyt : y.toNat < τ.length := by omega
          have hy2 : τ[y.toNat]? = some τ[y.toNat] := List.getElem?_eq_getElem hyt
          have hyf := fL_get hy2
          generalize τ[y.toNat] = z at hy2 hyf
          have ey : y = ((y.toNat : Nat) : Int) := by omega
          have oi : opIx (.ref rw) (.int y) (s3 ++ [Ob.lst acc]) = some (.int z, s3 ++ [Ob.lst acc]) := by
            rw [opIx_lst (get_push r3), ey, atN, List.getElem?_map]
            simp [hy2]
          refine ⟨_, rfl, ?_⟩
          simp [tTrue, wipeL, oi, hyf]
        · have eb : ((rowOf (stAt its i).held (c : Int)).map Vl.int).filterMap (fun v => match v with | .int y => some (.bl (decide (fL τ y.toNat ≤ (i : Int)))) | _ => none) = ((rowOf (stAt its i).held (c : Int)).map fun y => decide (fL τ y.toNat ≤ (i : Int))).map Vl.bl := by
            rw [List.filterMap_map, List.map_map, ← List.filterMap_eq_map]
            rfl
          rw [eb]
          generalize hbs : (rowOf (stAt its i).held (c : Int)).map (fun y => decide (fL τ y.toNat ≤ (i : Int))) = bs
          have han : bs.any id = true ↔ ∃ y ∈ rowOf (stAt its i).held (c : Int), fL τ y.toNat ≤ (i : Int) := by
            rw [← hbs, List.any_map, List.any_eq_true]
            simp
          simp [oAny_bls get_last]
          cases hb : bs.any id with
          | true =>
            have := han.mp hb
            simp at hb
            simp [hb]
            exact k false _ ⟨fun z => by simp at z, fun g => absurd g (bad fun z => z.2 ⟨by omega, this⟩)⟩ (((f1.trans f2).trans f3).push _)
          | false =>
            have hno : ¬ ∃ y ∈ rowOf (stAt its i).held (c : Int), fL τ y.toNat ≤ (i : Int) := fun z => by rw [han.mpr z] at hb; cases hb
            simp at hb
            simp [hb]
            exact keep ⟨fun z => by omega, fun z => hno z.2⟩ (f3.push _)
    · rintro lo s3 ⟨⟨x4, x7, rfl⟩, A3, f3⟩
      rw [rng_len] at A3
      refine ⟨⟨_, _, _, _, _, _, rfl⟩, fun m c hm hc => ?_, (f1.trans f2).trans f3⟩
      by_cases e : m = i
      · subst e; exact A3 c (by omega)
      · exact A1 m c (by omega) hc
  · rintro lo s1 ⟨⟨x2, x3, x4, x5, x6, x7, rfl⟩, A1, f1⟩
    simp
    exact k true s1 ⟨fun _ m c hm hc => A1 m c (by omega) hc, fun _ => rfl⟩ f1
end
end K32

/-! VB: all schedules -/
namespace K32
open PySem L2 Sm
/-- the moments at which a cell can be gone first -/
def ownL (its : List (List Ev)) (c : Nat) : List Int := ((List.range its.length).filter fun m => decide (c < (stAt its m).held.length)).map (fun m => ((m : Nat) : Int)) ++ [(its.length : Int)]
/-- all rows of so many cells -/
def prodR (its : List (List Ev)) : Nat → List (List Int)
  | 0 => [[]]
  | k + 1 => (prodR its k).flatMap fun τ => (ownL its k).map fun m => τ ++ [m]
theorem ownL_len {its : List (List Ev)} {c : Nat} : (ownL its c).length ≤ its.length + 1 := by
  unfold ownL
  have : ((List.range its.length).filter fun m => decide (c < (stAt its m).held.length)).length ≤ (List.range its.length).length := List.length_filter_le ..
  simp at this ⊢
  omega
theorem prodR_len {its : List (List Ev)} (h : its.length ≤ 7) : ∀ k, (prodR its k).length ≤ 8 ^ k
  | 0 => by simp [prodR]
  | k + 1 => by
    have ih := prodR_len h k
    have ol := ownL_len (its := its) (c := k)
    have key : ∀ l : List (List Int), (l.flatMap fun τ => (ownL its k).map fun m => τ ++ [m]).length ≤ l.length * 8 := by
      intro l
      induction l with
      | nil => simp
      | cons τ l ih =>
        simp only [List.flatMap_cons, List.length_append, List.length_map, List.length_cons, Nat.succ_mul]
        omega
    have := key (prodR its k)
    have h2 : (prodR its k).length * 8 ≤ 8 ^ k * 8 := Nat.mul_le_mul_right _ ih
    rw [Nat.pow_succ]
    exact Nat.le_trans this h2
theorem mem_ownL {its : List (List Ev)} {c : Nat} {x : Int} : x ∈ ownL its c ↔ (∃ m : Nat, x = m ∧ m < its.length ∧ c < (stAt its m).held.length) ∨ x = its.length := by
  unfold ownL
  simp only [List.mem_append, List.mem_map, List.mem_filter, List.mem_range, decide_eq_true_eq, List.mem_singleton]
  constructor
  · rintro (⟨m, ⟨h1, h2⟩, rfl⟩ | h)
    · exact Or.inl ⟨m, rfl, h1, h2⟩
    · exact Or.inr h
  · rintro (⟨m, rfl, h1, h2⟩ | h)
    · exact Or.inl ⟨m, ⟨h1, h2⟩, rfl⟩
    · exact Or.inr h
theorem mem_prodR {its : List (List Ev)} : ∀ {k : Nat} {τ : List Int}, τ ∈ prodR its k ↔ τ.length = k ∧ ∀ (c : Nat) (x : Int), τ[c]? = some x → x ∈ ownL its c
  | 0, τ => by
    simp only [prodR, List.mem_singleton]
    constructor
    · rintro rfl; simp
    · rintro ⟨h, _⟩; exact List.length_eq_zero_iff.mp h
  | k + 1, τ => by
    simp only [prodR, List.mem_flatMap, List.mem_map]
    constructor
    · rintro ⟨σ, h1, m, h2, rfl⟩
      obtain ⟨q1, q2⟩ := mem_prodR.mp h1
      refine ⟨by simp [q1], fun c x hx => ?_⟩
      rcases getElem?_snoc hx with z | ⟨z1, z2⟩
      · exact q2 c x z
      · subst z2
        rw [z1, q1]
        exact h2
    · rintro ⟨h1, h2⟩
      rcases List.eq_nil_or_concat τ with rfl | ⟨σ, m, rfl⟩
      · simp at h1
      · rw [List.concat_eq_append] at *
        simp at h1
        refine ⟨σ, mem_prodR.mpr ⟨h1, fun c x hx => h2 c x (by rw [List.getElem?_append_left (List.getElem?_eq_some_iff.mp hx).1]; exact hx)⟩, m, ?_, rfl⟩
        have := h2 k m (by rw [← h1]; simp)
        exact this
section
variable {s : Sto} {Q : Vl → Sto → Prop} {E : Ex → Sto → Prop} {its : List (List Ev)}
/-- the rows of one row made longer -/
theorem longL {lo : Lo} {QS : Sto → Prop} {ow ro : Nat} {own τ : List Int} (ho : s[ow]? = some (.lst (own.map Vl.int))) (hr : s[ro]? = some (.lst (τ.map Vl.int))) (hol : own.length ≤ 100) (hτ : τ.length ≤ 100) (h6 : lo[6]? = some (some (.ref ro))) (h8 : lo.length = 8)
    (k : ∀ (xs : List Nat) s', s'[s.length]? = some (.lst (xs.map Vl.ref)) → xs.length = own.length → (∀ (i x : Nat), xs[i]? = some x → (s.length < x ∧ x < s'.length) ∧ ∃ m, own[i]? = some m ∧ s'[x]? = some (.lst ((τ ++ [m]).map Vl.int))) → Fr [] s s' → QS s') :
    WL (lcN (nxLst ow) (glN 7) tTrue (eOp opAdd (eVar 6) (eCB oLst (aCons (eVar 7) aNil))) s.length lo 100000 0 (s ++ [.lst []])) QS := by
  refine lcL_inv (xs := own.map Vl.int) (fun i s' => Fr [] s s' ∧ ∃ xs : List Nat, xs.length = i ∧ s'[s.length]? = some (.lst (xs.map Vl.ref)) ∧ ∀ (p x : Nat), xs[p]? = some x → (s.length < x ∧ x < s'.length) ∧ ∃ m, own[p]? = some m ∧ s'[x]? = some (.lst ((τ ++ [m]).map Vl.int))) (by simp; omega) ⟨Fr.refl.push _, [], rfl, get_last, by simp⟩ ?_ ?_ ?_
  · rintro i s' ⟨f, _⟩
    exact f.at ho (by simp)
  · rintro i v s1 hv ⟨f1, xs, hi, e1, hxs⟩
    obtain ⟨m, hm, rfl⟩ := get_map hv
    have hil := (List.getElem?_eq_some_iff.mp hm).1
    have lt1 := lt_of_get e1
    refine ⟨_, rfl, ?_⟩
    unfold LcT tTrue
    rw [WE_ret, if_pos rfl]
    have e6 : (lo.set 7 (some (Vl.int m)))[6]? = some (some (.ref ro)) := by rw [List.getElem?_set_ne (by omega)]; exact h6
    have e7 : (lo.set 7 (some (Vl.int m)))[7]? = some (some (.int m)) := List.getElem?_set_self (by omega)
    have hr1 := f1.at hr (by simp)
    simp [e6, e7]
    rw [opAdd_lst (get_push hr1) get_last (limB (by simp; omega))]
    simp only [WO_some]
    have e2 : (s1 ++ [Ob.lst [Vl.int m]] ++ [Ob.lst (τ.map Vl.int ++ [Vl.int m])])[s.length]? = some (.lst (xs.map Vl.ref)) := get_push (get_push e1)
    simp only [e2]
    refine ⟨limC (by simp; omega), ((f1.push _).push _).set (Or.inr (Nat.le_refl _)), xs ++ [s1.length + 1], by simp [hi], by rw [get_set_self e2]; simp, fun p x hp => ?_⟩
    rcases getElem?_snoc hp with z | ⟨z1, z2⟩
    · obtain ⟨q1, m', q2, q3⟩ := hxs p x z
      exact ⟨⟨q1.1, by simp; omega⟩, m', q2, by rw [get_set_ne (by omega)]; exact get_push (get_push q3)⟩
    · subst z2
      have : p = i := by omega
      subst this
      refine ⟨⟨by omega, by simp⟩, m, hm, ?_⟩
      rw [get_set_ne (by omega)]
      simp
  · rintro s1 ⟨f1, xs, hi, e1, hxs⟩
    exact k xs s1 e1 (by simpa using hi) hxs f1
end
end K32

/-! VC: _law_schedules -/
namespace K32
open PySem L2 Sm
section
variable {s : Sto} {Q : Vl → Sto → Prop} {E : Ex → Sto → Prop} {its : List (List Ev)}
theorem oLen_st : oLen [stV its] s = some (.int (its.length : Nat), s) := by simp [stV]
def ownF (its : List (List Ev)) (c : Nat) (v : Vl) : Option Vl := match v with
  | .int i => if c < (stAt its i.toNat).held.length then some (.int i) else none
  | _ => none
/-- the moments at which a cell is -/
theorem ownLc {lo : Lo} {QS : Sto → Prop} {hp c : Nat} (H : HpsAt s hp its its.length) (hl : its.length ≤ 7) (h1 : lo[1]? = some (some (.int (c : Nat)))) (h2 : lo[2]? = some (some (.ref hp))) (h8 : lo.length = 8)
    (k : QS (s ++ [.lst ((((List.range its.length).filter fun m => decide (c < (stAt its m).held.length)).map fun m => ((m : Nat) : Int)).map Vl.int)])) :
    WL (lcX (glN 7) (tVal (eOp opLt (eVar 1) (eCB oLen (aCons (eOp opIx (eOp opIx (eVar 2) (eVar 7)) (eC (.int 0))) aNil)))) (eVar 7) s.length lo (rng 0 its.length) (s ++ [.lst []])) QS := by
  obtain ⟨vs, v1, v2, v3⟩ := H.vs
  refine lcX_p (xs := rng 0 its.length) s (ownF its c) rfl rfl (by simp; omega) ?_ ?_
  · intro v hv acc
    obtain ⟨i, hq⟩ := List.getElem?_of_mem hv
    obtain ⟨hi, rfl⟩ := rng_get hq
    have hvi : vs[i]? = some vs[i] := List.getElem?_eq_getElem (by omega)
    obtain ⟨j, kk, e, q0, q1, q2⟩ := v3 i _ hvi
    rw [e] at hvi
    obtain ⟨xs, t1, t2⟩ := q1.toR.top
    refine ⟨_, rfl, ?_⟩
    have e1 : (lo.set 7 (some (Vl.int (i : Nat))))[1]? = some (some (.int (c : Nat))) := by rw [List.getElem?_set_ne (by omega)]; exact h1
    have e2 : (lo.set 7 (some (Vl.int (i : Nat))))[2]? = some (some (.ref hp)) := by rw [List.getElem?_set_ne (by omega)]; exact h2
    have e7 : (lo.set 7 (some (Vl.int (i : Nat))))[7]? = some (some (.int (i : Nat))) := List.getElem?_set_self (by omega)
    have oi : opIx (.ref hp) (.int (i : Nat)) (s ++ [Ob.lst acc]) = some (.tup [.ref j, .ref kk], s ++ [Ob.lst acc]) := by rw [opIx_lst (get_push v1), atN, hvi]; rfl
    by_cases hc : c < (stAt its i).held.length <;> simp [e1, e2, e7, oi, oLen_lst (get_push t1), t2, hc, ownF]
  · have e : (rng 0 its.length).filterMap (ownF its c) = (((List.range its.length).filter fun m => decide (c < (stAt its m).held.length)).map fun m => ((m : Nat) : Int)).map Vl.int := by
      unfold rng
      rw [List.filterMap_map, List.map_map, ← List.filterMap_eq_map, List.filterMap_filter]
      congr 1
      funext i
      by_cases hc : c < (stAt its i).held.length <;> simp [ownF, hc]
    rw [e]
    exact k
def ScK (s : Sto) (its : List (List Ev)) (hp : Nat) (c : Nat) (lo : Lo) (s' : Sto) : Prop := ∃ (x1 x4 x5 x6 x7 : Option Vl) (r : Nat), lo = [some (stV its), x1, some (.ref hp), some (.ref r), x4, x5, x6, x7] ∧ HeldR s' s.length s'.length r (prodR its c) ∧ HpsAt s' hp its its.length ∧ Fr [] s s'
/-- behind i rows -/
def ScL (s s0 : Sto) (its : List (List Ev)) (hp c r ow l5 : Nat) (x1 x4 : Option Vl) (i : Nat) (lo : Lo) (s' : Sto) : Prop := ∃ (x6 x7 : Option Vl), lo = [some (stV its), some (.int (c : Nat)), some (.ref hp), some (.ref r), some (.ref ow), some (.ref l5), x6, x7] ∧ (∃ ls : List Nat, s'[l5]? = some (.lst (ls.map Vl.ref)) ∧ ls.length = (((prodR its c).take i).flatMap fun τ => (ownL its c).map fun m => τ ++ [m]).length ∧ ∀ (p z : Nat), ls[p]? = some z → (l5 < z ∧ z < s'.length) ∧ ∃ row, (((prodR its c).take i).flatMap fun τ => (ownL its c).map fun m => τ ++ [m])[p]? = some row ∧ s'[z]? = some (.lst (row.map Vl.int))) ∧ l5 = s0.length ∧ Fr [] s0 s'
def ScM (s s4 : Sto) (its : List (List Ev)) (nT : Nat) (i : Nat) (s' : Sto) : Prop := Fr [] s4 s' ∧ ∃ (ls : List Nat) (rows : List (List Int)), s'[s4.length]? = some (.lst (ls.map Vl.ref)) ∧ ls.length = rows.length ∧ (∀ (p z : Nat), ls[p]? = some z → (s.length ≤ z ∧ z < s4.length) ∧ ∃ row, rows[p]? = some row ∧ s'[z]? = some (.lst (row.map Vl.int))) ∧ rows.length ≤ i ∧ ∀ τ, τ ∈ rows ↔ τ ∈ (prodR its nT).take i ∧ SchL its τ
theorem schedules (S : StOk its) (h7 : its.length ≤ 7) (hnT : (stAt its its.length).held.length ≤ 3) (k : ∀ r rows s', HeldR s' s.length s'.length r rows → rows.length ≤ 512 → (∀ τ, τ ∈ rows ↔ τ ∈ prodR its (stAt its its.length).held.length ∧ SchL its τ) → Fr [] s s' → Q (.ref r) s') : WE (m__law_schedules [stV its]) s Q E := by
  unfold m__law_schedules b__law_schedules
  simp [oLen_st]
  rw [rngW_nat (by omega)]
  refine heapsL S rfl rfl fun s1 H1 f1 => ?_
  have le1 := f1.le
  simp
  generalize hs2 : s1 ++ [Ob.lst [], Ob.lst [Vl.ref s1.length]] = s2
  have f2 : Fr [] s1 s2 := hs2 ▸ Fr.refl.app _
  have g1 : s2[s1.length + 1]? = some (.lst [Vl.ref s1.length]) := by rw [← hs2]; simp
  have g2 : s2[s1.length]? = some (.lst []) := by rw [← hs2]; simp
  have l2 : s2.length = s1.length + 2 := by rw [← hs2]; simp
  clear hs2
  have R2 : HeldR s2 s.length s2.length (s1.length + 1) (prodR its 0) := by
    refine ⟨⟨by omega, by omega⟩, [s1.length], g1, rfl, fun i x hx => ?_⟩
    cases i with
    | zero => simp at hx; subst hx; exact ⟨⟨by omega, by omega⟩, [], rfl, g2⟩
    | succ i => simp at hx
  simp [oLen_st]
  refine (lawHeap S (Nat.le_refl _)).use ?_
  rintro v s3 ⟨j, kk, rfl, _, q1, _, f3⟩
  obtain ⟨xs, t1, t2⟩ := q1.toR.top
  have le3 := f3.le
  simp [oLen_lst t1, t2]
  rw [rngW_nat (by omega)]
  refine loopX_inv (ScK s its s.length) ⟨none, none, none, none, none, s1.length + 1, rfl, (R2.fr f3 (by simp)).wide (Nat.le_refl _) le3, (H1.fr f2).fr f3, (f1.trans f2).trans f3⟩ ?_ ?_
  · rintro c v lo s4 hv ⟨x1, x4, x5, x6, x7, r, rfl, R4, H4, f4⟩
    obtain ⟨hc, rfl⟩ := rng_get hv
    have le4 := f4.le
    simp [oLen_st]
    rw [rngW_nat (by omega)]
    refine ownLc (c := c) H4 h7 rfl rfl rfl ?_
    simp [oLen_st]
    generalize hA : ((List.range its.length).filter fun m => decide (c < (stAt its m).held.length)).map (Vl.int ∘ fun m => ((m : Nat) : Int)) = A
    have Al : A.length ≤ 7 := by
      have : ((List.range its.length).filter fun m => decide (c < (stAt its m).held.length)).length ≤ (List.range its.length).length := List.length_filter_le ..
      rw [← hA]
      simp at this ⊢
      omega
    have m1 : (s4 ++ [Ob.lst A, Ob.lst [Vl.int (its.length : Nat)]])[s4.length]? = some (.lst A) := by simp
    have m2 : (s4 ++ [Ob.lst A, Ob.lst [Vl.int (its.length : Nat)]])[s4.length + 1]? = some (.lst [Vl.int (its.length : Nat)]) := by simp
    have oa := opAdd_lst m1 m2 (limB (by simp; omega))
    have eo : A ++ [Vl.int (its.length : Nat)] = (ownL its c).map Vl.int := by rw [← hA]; simp [ownL]
    rw [eo] at oa
    simp [oa]
    obtain ⟨s6, hs6⟩ : ∃ s6, s4 ++ [Ob.lst A, Ob.lst [Vl.int (its.length : Nat)], Ob.lst ((ownL its c).map Vl.int)] = s6 := ⟨_, rfl⟩
    have es : s4 ++ [Ob.lst A, Ob.lst [Vl.int (its.length : Nat)], Ob.lst ((ownL its c).map Vl.int), Ob.lst []] = s6 ++ [Ob.lst []] := by rw [← hs6]; simp
    have el : s4.length + 3 = s6.length := by rw [← hs6]; simp
    rw [es, el]
    have f6 : Fr [] s4 s6 := hs6 ▸ Fr.refl.app _
    have e6 : s6[s4.length + 2]? = some (.lst ((ownL its c).map Vl.int)) := by rw [← hs6]; simp
    clear hs6 oa es
    have le6 := f6.le
    obtain ⟨hab, hs, r1, r2, r3⟩ := R4
    have pl := prodR_len h7 c
    have p8 : 8 ^ c ≤ 8 ^ 2 := Nat.pow_le_pow_right (by omega) (by omega)
    have ol := ownL_len (its := its) (c := c)
    have r16 := f6.at r1 (by simp)
    have r17 : (s6 ++ [Ob.lst []])[r]? = some (.lst (hs.map Vl.ref)) := get_push r16
    simp only [r17]
    refine loopL_inv (xs := hs.map Vl.ref) (ScL s s6 its s.length c r (s4.length + 2) s6.length none none) (by simp; omega) ⟨_, _, rfl, ⟨[], get_last, rfl, by simp⟩, rfl, Fr.refl.push _⟩ (fun i lo s' h => by obtain ⟨_, _, _, _, _, f⟩ := h; exact f.at r16 (by simp)) ?_ ?_
    · rintro i v lo s7 hv ⟨x6, x7, rfl, R7, _, f7⟩
      obtain ⟨x, hx, rfl⟩ := get_map hv
      have hil := (List.getElem?_eq_some_iff.mp hx).1
      obtain ⟨xb, τ, hτ, xτ⟩ := r3 i x hx
      have hτl := (mem_prodR.mp (List.mem_of_getElem? hτ)).1
      obtain ⟨ls, u1, u2, u3⟩ := R7
      have o7 := f7.at e6 (by simp)
      have x7' := f7.at (f6.at xτ (by simp)) (by simp)
      have le7 := f7.le
      simp [kd_lst u1, o7]
      refine longL (own := ownL its c) (τ := τ) o7 x7' (by omega) (by omega) rfl rfl fun ys s8 y1 y2 y3 f8 => ?_
      have u8 := f8.at u1 (by simp)
      have lsl : ls.length ≤ 64 * 8 := by
        have key : ∀ l : List (List Int), (l.flatMap fun τ => (ownL its c).map fun m => τ ++ [m]).length ≤ l.length * 8 := by
          intro l
          induction l with
          | nil => simp
          | cons τ l ih =>
            simp only [List.flatMap_cons, List.length_append, List.length_map, List.length_cons, Nat.succ_mul]
            omega
        have h1 := key ((prodR its c).take i)
        have h2 : ((prodR its c).take i).length ≤ (prodR its c).length := by simp; omega
        omega
      rw [WE_aNil, oExtend_lst u8 y1 (limB (by simp; omega))]
      simp only [WO_some]
      have le8 := f8.le
      have ly := lt_of_get y1
      refine ⟨_, _, rfl, ⟨ls ++ ys, by rw [get_set_self u8]; simp, ?_, fun p z hz => ?_⟩, rfl, (f7.trans f8).set (Or.inr (Nat.le_refl _))⟩
      · rw [take_succ_get hτ, List.flatMap_append]
        simp [u2, y2]
      · rw [take_succ_get hτ, List.flatMap_append]
        rcases Nat.lt_or_ge p ls.length with w | w
        · rw [List.getElem?_append_left w] at hz
          obtain ⟨w1, row, w2, w3⟩ := u3 p z hz
          exact ⟨⟨w1.1, by simp; omega⟩, row, by rw [List.getElem?_append_left (by rw [← u2]; exact w)]; exact w2, by rw [get_set_ne (by omega)]; exact f8.at w3 (by simp)⟩
        · rw [List.getElem?_append_right w] at hz
          obtain ⟨w1, m, w2, w3⟩ := y3 _ z hz
          refine ⟨⟨by omega, by simp; omega⟩, τ ++ [m], ?_, by rw [get_set_ne (by omega)]; exact w3⟩
          rw [List.getElem?_append_right (by rw [← u2]; exact w), ← u2]
          simp [w2]
    · rintro lo s7 ⟨x6, x7, rfl, R7, _, f7⟩
      have hlh : (hs.map Vl.ref).length = (prodR its c).length := by simp [r2]
      rw [hlh, List.take_length] at R7
      obtain ⟨ls, u1, u2, u3⟩ := R7
      have l7 := lt_of_get u1
      simp
      refine ⟨_, _, _, _, _, _, rfl, ⟨⟨by omega, l7⟩, ls, u1, u2, fun p z hz => ?_⟩, (H4.fr f6).fr f7, (f4.trans f6).trans f7⟩
      obtain ⟨w1, row, w2, w3⟩ := u3 p z hz
      exact ⟨⟨by omega, w1.2⟩, row, w2, w3⟩
  · rintro lo s4 ⟨x1, x4, x5, x6, x7, r, rfl, R4, H4, f4⟩
    rw [rng_len] at R4
    generalize hnn : (stAt its its.length).held.length = nT at *
    obtain ⟨hab, hs, r1, r2, r3⟩ := R4
    have pl := prodR_len h7 nT
    have p8 : 8 ^ nT ≤ 8 ^ 3 := Nat.pow_le_pow_right (by omega) (by omega)
    have hsl : hs.length ≤ 512 := by rw [r2]; omega
    have le4 := f4.le
    simp [r1]
    refine lcL_inv (xs := hs.map Vl.ref) (ScM s s4 its nT) (by simp; omega) ⟨Fr.refl.push _, [], [], get_last, rfl, by simp, by simp, by simp⟩ (fun i s' h => h.1.at r1 (by simp)) ?_ ?_
    · rintro i v s5 hv ⟨f5, ls, rows, u1, u2, u3, u4, u5⟩
      obtain ⟨x, hx, rfl⟩ := get_map hv
      have hil := (List.getElem?_eq_some_iff.mp hx).1
      obtain ⟨xb, τ, hτ, xτ⟩ := r3 i x hx
      have hτl := (mem_prodR.mp (List.mem_of_getElem? hτ)).1
      have lt5 := lt_of_get u1
      refine ⟨_, rfl, ?_⟩
      unfold LcT
      simp [wipeL]
      refine isSched S (H4.fr f5) (f5.at xτ (by simp)) (fun m hm => ?_) fun bb s6 hbb f6 => ?_
      · rw [hτl, ← hnn, held_len, held_len]
        exact stAt_mono (by omega)
      · have u6 := f6.at u1 (by simp)
        have le6 := f6.le
        cases bb with
        | false =>
          simp
          refine ⟨f5.trans f6, ls, rows, u6, u2, fun p z hz => ?_, by omega, fun σ => ?_⟩
          · obtain ⟨w1, row, w2, w3⟩ := u3 p z hz
            exact ⟨⟨w1.1, w1.2⟩, row, w2, f6.at w3 (by simp)⟩
          · rw [take_succ_get hτ, u5 σ, List.mem_append]
            constructor
            · rintro ⟨h1, h2⟩; exact ⟨Or.inl h1, h2⟩
            · rintro ⟨h1 | h1, h2⟩
              · exact ⟨h1, h2⟩
              · simp at h1
                subst h1
                exact absurd (hbb.mpr h2) (by simp)
        | true =>
          simp [u6]
          refine ⟨limC (by omega), (f5.trans f6).set (Or.inr (Nat.le_refl _)), ls ++ [x], rows ++ [τ], by rw [get_set_self u6]; simp, by simp [u2], fun p z hz => ?_, by simp; omega, fun σ => ?_⟩
          · rcases getElem?_snoc hz with w | ⟨w1, w2⟩
            · obtain ⟨w1, row, w2, w3⟩ := u3 p z w
              exact ⟨⟨w1.1, w1.2⟩, row, by rw [List.getElem?_append_left (by rw [← u2]; exact (List.getElem?_eq_some_iff.mp w).1)]; exact w2, by rw [get_set_ne (by omega)]; exact f6.at w3 (by simp)⟩
            · subst w2
              refine ⟨⟨xb.1, xb.2⟩, τ, by rw [w1, u2]; simp, ?_⟩
              rw [get_set_ne (by omega)]
              exact f6.at (f5.at xτ (by simp)) (by simp)
          · rw [take_succ_get hτ, List.mem_append, List.mem_append, u5 σ]
            constructor
            · rintro (⟨h1, h2⟩ | h1)
              · exact ⟨Or.inl h1, h2⟩
              · simp at h1
                subst h1
                exact ⟨Or.inr (by simp), hbb.mp rfl⟩
            · rintro ⟨h1 | h1, h2⟩
              · exact Or.inl ⟨h1, h2⟩
              · exact Or.inr h1
    · rintro s5 ⟨f5, ls, rows, u1, u2, u3, u4, u5⟩
      have hlh : (hs.map Vl.ref).length = (prodR its nT).length := by simp [r2]
      rw [hlh, List.take_length] at u5
      have lt5 := lt_of_get u1
      refine k _ rows s5 ⟨⟨by omega, lt5⟩, ls, u1, u2, fun p z hz => ?_⟩ (by simp at u4; omega) u5 (f4.trans f5)
      obtain ⟨w1, row, w2, w3⟩ := u3 p z hz
      exact ⟨⟨w1.1, lt_of_get w3⟩, row, w2, w3⟩
end
end K32

/-! VD: _law_agreeing -/
namespace K32
open PySem L2 Sm
section
variable {s : Sto} {Q : Vl → Sto → Prop} {E : Ex → Sto → Prop} {its : List (List Ev)}
theorem opEq_bls {a b : Bool} : opEq (.bl a) (.bl b) s = some (.bl (a == b), s) := rfl
/-- a row agrees with an answer -/
def RowAg (τ : List Int) (q : Nat × Nat) (x : Int) : Prop := (fL τ q.2 ≤ (q.1 : Int)) ↔ x = 1
def AgM (s s4 : Sto) (rows0 : List (List Int)) (q : Nat × Nat) (x : Int) (i : Nat) (s' : Sto) : Prop := Fr [] s4 s' ∧ ∃ (ls : List Nat) (rows : List (List Int)), s'[s4.length]? = some (.lst (ls.map Vl.ref)) ∧ ls.length = rows.length ∧ (∀ (p z : Nat), ls[p]? = some z → (s.length ≤ z ∧ z < s4.length) ∧ ∃ row, rows[p]? = some row ∧ s'[z]? = some (.lst (row.map Vl.int))) ∧ rows.length ≤ i ∧ ∀ τ, τ ∈ rows ↔ τ ∈ rows0.take i ∧ RowAg τ q x
/-- one filter -/
theorem agreeL {s0 : Sto} {lo : Lo} {QS : Sto → Prop} {r : Nat} {rows : List (List Int)} {q : Nat × Nat} {x : Int} (R : HeldR s s0.length s.length r rows) (hl : rows.length ≤ 512) (hc : ∀ τ ∈ rows, q.2 < τ.length) (h5 : lo[5]? = some (some (.int x))) (h6 : lo[6]? = some (some (.int (q.1 : Nat)))) (h7 : lo[7]? = some (some (.int (q.2 : Nat)))) (h9 : lo.length = 9)
    (k : ∀ rows' s', HeldR s' s0.length s'.length s.length rows' → rows'.length ≤ 512 → (∀ τ, τ ∈ rows' ↔ τ ∈ rows ∧ RowAg τ q x) → Fr [] s s' → QS s') :
    WL (lcN (nxLst r) (glN 8) (tVal (eOp opEq (eOp opLe (eOp opIx (eVar 8) (eVar 7)) (eVar 6)) (eOp opEq (eVar 5) (eC (.int 1))))) (eVar 8) s.length lo 100000 0 (s ++ [.lst []])) QS := by
  obtain ⟨hab, hs, r1, r2, r3⟩ := R
  refine lcL_inv (xs := hs.map Vl.ref) (AgM s0 s rows q x) (by simp; omega) ⟨Fr.refl.push _, [], [], get_last, rfl, by simp, by simp, by simp⟩ (fun i s' h => h.1.at r1 (by simp)) ?_ ?_
  · rintro i v s5 hv ⟨f5, ls, rs, u1, u2, u3, u4, u5⟩
    obtain ⟨z, hz, rfl⟩ := get_map hv
    have hil := (List.getElem?_eq_some_iff.mp hz).1
    obtain ⟨zb, τ, hτ, zτ⟩ := r3 i z hz
    have hcl := hc τ (List.mem_of_getElem? hτ)
    have hy : τ[q.2]? = some τ[q.2] := List.getElem?_eq_getElem hcl
    have hyf := fL_get hy
    generalize τ[q.2] = y at hy hyf
    have z5 := f5.at zτ (by simp)
    refine ⟨_, rfl, ?_⟩
    unfold LcT
    have e5 : (lo.set 8 (some (Vl.ref z)))[5]? = some (some (.int x)) := by rw [List.getElem?_set_ne (by omega)]; exact h5
    have e6 : (lo.set 8 (some (Vl.ref z)))[6]? = some (some (.int (q.1 : Nat))) := by rw [List.getElem?_set_ne (by omega)]; exact h6
    have e7 : (lo.set 8 (some (Vl.ref z)))[7]? = some (some (.int (q.2 : Nat))) := by rw [List.getElem?_set_ne (by omega)]; exact h7
    have e8 : (lo.set 8 (some (Vl.ref z)))[8]? = some (some (.ref z)) := List.getElem?_set_self (by omega)
    have oi : opIx (.ref z) (.int (q.2 : Nat)) s5 = some (.int y, s5) := by rw [opIx_lst z5, atN, List.getElem?_map, hy]; rfl
    by_cases hag : RowAg τ q x
    · have hb : (decide (y ≤ (q.1 : Int)) == (x == 1)) = true := by
        unfold RowAg at hag
        rw [hyf] at hag
        by_cases h1 : y ≤ (q.1 : Int)
        · have h2 := hag.mp h1
          simp [h1, h2]
        · have h2 : ¬ x = 1 := fun w => h1 (hag.mpr w)
          simp [h1, h2]
      have oe : opEq (.bl (decide (y ≤ (q.1 : Int)))) (.bl (x == 1)) s5 = some (.bl true, s5) := by rw [opEq_bls, hb]
      simp [e5, e6, e7, e8, oi, oe, u1]
      refine ⟨limC (by omega), f5.set (Or.inr (Nat.le_refl _)), ls ++ [z], rs ++ [τ], by rw [get_set_self u1]; simp, by simp [u2], fun p w hw => ?_, by simp; omega, fun σ => ?_⟩
      · rcases getElem?_snoc hw with v | ⟨v1, v2⟩
        · obtain ⟨w1, row, w2, w3⟩ := u3 p w v
          exact ⟨⟨w1.1, w1.2⟩, row, by rw [List.getElem?_append_left (by rw [← u2]; exact (List.getElem?_eq_some_iff.mp v).1)]; exact w2, by rw [get_set_ne (by omega)]; exact w3⟩
        · subst v2
          refine ⟨⟨zb.1, zb.2⟩, τ, by rw [v1, u2]; simp, ?_⟩
          rw [get_set_ne (by omega)]
          exact z5
      · rw [take_succ_get hτ, List.mem_append, List.mem_append, u5 σ]
        constructor
        · rintro (⟨h1, h2⟩ | h1)
          · exact ⟨Or.inl h1, h2⟩
          · simp at h1
            subst h1
            exact ⟨Or.inr (by simp), hag⟩
        · rintro ⟨h1 | h1, h2⟩
          · exact Or.inl ⟨h1, h2⟩
          · exact Or.inr h1
    · have hb : (decide (y ≤ (q.1 : Int)) == (x == 1)) = false := by
        unfold RowAg at hag
        rw [hyf] at hag
        by_cases h1 : y ≤ (q.1 : Int)
        · have h2 : ¬ x = 1 := fun w => hag ⟨fun _ => w, fun _ => h1⟩
          simp [h1, h2]
        · have h2 : x = 1 := by
            by_cases w : x = 1
            · exact w
            · exact absurd ⟨fun v => absurd v h1, fun v => absurd v w⟩ hag
          simp [h1, h2]
      have oe : opEq (.bl (decide (y ≤ (q.1 : Int)))) (.bl (x == 1)) s5 = some (.bl false, s5) := by rw [opEq_bls, hb]
      simp [e5, e6, e7, e8, oi, oe, u1]
      refine ⟨f5, ls, rs, u1, u2, u3, by omega, fun σ => ?_⟩
      rw [take_succ_get hτ, u5 σ, List.mem_append]
      constructor
      · rintro ⟨h1, h2⟩; exact ⟨Or.inl h1, h2⟩
      · rintro ⟨h1 | h1, h2⟩
        · exact ⟨h1, h2⟩
        · simp at h1
          subst h1
          exact absurd h2 hag
  · rintro s5 ⟨f5, ls, rs, u1, u2, u3, u4, u5⟩
    have hlh : (hs.map Vl.ref).length = rows.length := by simp [r2]
    rw [hlh, List.take_length] at u5
    have lt5 := lt_of_get u1
    have := f5.le
    refine k rs s5 ⟨⟨by omega, lt5⟩, ls, u1, u2, fun p z hz => ?_⟩ (by simp at u4; omega) u5 f5
    obtain ⟨w1, row, w2, w3⟩ := u3 p z hz
    exact ⟨⟨w1.1, lt_of_get w3⟩, row, w2, w3⟩
def AgAll (its : List (List Ev)) (answers : List Int) (j : Nat) (τ : List Int) : Prop := ∀ (i : Nat) (q : Nat × Nat) (x : Int), i < j → (qsK its its.length)[i]? = some q → answers[i]? = some x → RowAg τ q x
def AgI (s0 : Sto) (its : List (List Ev)) (rows : List (List Int)) (answers : List Int) (aq : Nat) (j : Nat) (lo : Lo) (s' : Sto) : Prop := ∃ (r : Nat) (rs : List (List Int)) (x4 x5 x6 x7 x8 : Option Vl), lo = [some (stV its), some (.ref r), some (.tup (answers.map Vl.int)), some (.ref aq), x4, x5, x6, x7, x8] ∧ HeldR s' s0.length s'.length r rs ∧ rs.length ≤ 512 ∧ (∀ τ, τ ∈ rs ↔ τ ∈ rows ∧ AgAll its answers j τ) ∧ s'[aq]? = some (.lst ((qsK its its.length).map qV))
theorem agreeing {s0 : Sto} {r : Nat} {rows : List (List Int)} {answers : List Int} (S : StOk its) (R : HeldR s s0.length s.length r rows) (hl : rows.length ≤ 512) (hal : answers.length ≤ (qsK its its.length).length) (hc : ∀ q ∈ qsK its its.length, ∀ τ ∈ rows, q.2 < τ.length)
    (k : ∀ r' rows' s', HeldR s' s0.length s'.length r' rows' → rows'.length ≤ 512 → (∀ τ, τ ∈ rows' ↔ τ ∈ rows ∧ AgAll its answers answers.length τ) → Fr [] s s' → Q (.ref r') s') : WE (m__law_agreeing [stV its, .ref r, .tup (answers.map Vl.int)]) s Q E := by
  unfold m__law_agreeing b__law_agreeing
  have slen := S.len
  have ql := qsK_len S.sm its.length
  simp
  rw [lawQuestions]
  refine questionsG S fun s1 e1 f1 => ?_
  have le1 := f1.le
  simp
  refine loopX_inv (fun j lo s' => AgI s0 its rows answers s.length j lo s' ∧ Fr [] s s') ⟨⟨r, rows, none, none, none, none, none, rfl, (R.fr f1 (by simp)).wide (Nat.le_refl _) le1, hl, fun τ => ⟨fun h => ⟨h, fun i q x hi => by omega⟩, fun h => h.1⟩, e1⟩, f1⟩ ?_ ?_
  · rintro j v lo s2 hv ⟨⟨r2, rs, x4, x5, x6, x7, x8, rfl, R2, l2, h2, e2⟩, f2⟩
    obtain ⟨x, hx, rfl⟩ := enm_get hv
    obtain ⟨ans, hans, rfl⟩ := get_map hx
    have hj := (List.getElem?_eq_some_iff.mp hans).1
    have hq : (qsK its its.length)[j]? = some (qsK its its.length)[j] := List.getElem?_eq_getElem (by omega)
    have hqm : ((qsK its its.length).map qV)[j]? = some (qV (qsK its its.length)[j]) := by rw [List.getElem?_map, hq]; rfl
    have hqc := hc _ (List.mem_of_getElem? hq)
    generalize (qsK its its.length)[j] = q at hq hqm hqc
    obtain ⟨xs, t1, t2⟩ := R2.top
    have oi : opIx (.ref s.length) (.int (j : Nat)) s2 = some (.tup [.int (q.1 : Nat), .int (q.2 : Nat)], s2) := by rw [opIx_lst e2, atN, hqm]; rfl
    simp [oi, t1]
    refine agreeL (q := q) (x := ans) R2 l2 (fun τ hτ => hqc τ ((h2 τ).mp hτ).1) rfl rfl rfl rfl fun rs' s3 R3 l3 h3 f3 => ?_
    refine ⟨⟨_, rs', _, _, _, _, _, rfl, R3, l3, fun τ => ?_, f3.at e2 (by simp)⟩, f2.trans f3⟩
    rw [h3 τ, h2 τ]
    constructor
    · rintro ⟨⟨a1, a2⟩, a3⟩
      refine ⟨a1, fun i q' x' hi hq' hx' => ?_⟩
      by_cases e : i = j
      · subst e
        rw [hq] at hq'
        rw [hans] at hx'
        cases hq'
        cases hx'
        exact a3
      · exact a2 i q' x' (by omega) hq' hx'
    · rintro ⟨a1, a2⟩
      exact ⟨⟨a1, fun i q' x' hi => a2 i q' x' (by omega)⟩, a2 j q ans (by omega) hq hans⟩
  · rintro lo s2 ⟨⟨r2, rs, x4, x5, x6, x7, x8, rfl, R2, l2, h2, e2⟩, f2⟩
    rw [enm_len, List.length_map] at h2
    simp
    exact k r2 rs s2 R2 l2 h2 f2
end
end K32

/-! VE: rows and schedules -/
namespace K32
open PySem L2 Sm
section
variable {its : List (List Ev)} {ms : List Mo}
theorem mAt_held (F : MsFor its ms) {m : Nat} (h : m < ms.length) : (mAt ms m).held = (stAt its m).held := by
  rw [mAt_get (List.getElem?_eq_getElem h)]
  exact F.held m _ (List.getElem?_eq_getElem h)
theorem mAt_row (F : MsFor its ms) {m c : Nat} (h : m < ms.length) : (mAt ms m).row c = rowOf (stAt its m).held (c : Int) := by
  unfold Mo.row rowOf
  rw [mAt_held F h]
  have : ((c : Nat) : Int).toNat = c := by omega
  rw [this]
theorem mAt_rch (F : MsFor its ms) {m c : Nat} (h : m < ms.length) : (mAt ms m).fl[c]? = some true ↔ Rch (stAt its m).held (· ∈ (stAt its m).starts) (c : Int) := by
  have e := List.getElem?_eq_getElem h
  have := F.on m _ e (c : Int)
  rw [mAt_get e]
  have hh := F.held m _ e
  rw [hh] at this
  rw [← this]
  unfold on
  constructor
  · intro z; exact ⟨by omega, by simpa using z⟩
  · rintro ⟨_, z⟩; simpa using z
theorem row_bounds {k : Nat} {τ : List Int} (h : τ ∈ prodR its k) {c : Nat} (hc : c < k) : ∃ x : Nat, τ[c]? = some (x : Int) ∧ fL τ c = x ∧ (x = its.length ∨ (x < its.length ∧ c < (stAt its x).held.length)) := by
  obtain ⟨h1, h2⟩ := mem_prodR.mp h
  have e : τ[c]? = some τ[c] := List.getElem?_eq_getElem (by omega)
  have := mem_ownL.mp (h2 c _ e)
  rcases this with ⟨m, q1, q2, q3⟩ | q
  · exact ⟨m, by rw [e, q1], by rw [fL_get e, q1], Or.inr ⟨q2, q3⟩⟩
  · exact ⟨its.length, by rw [e, q], by rw [fL_get e, q], Or.inl rfl⟩
/-- a row of the law is a schedule -/
theorem sched_of_row {k : Nat} {τ : List Int} (S : StOk its) (F : MsFor its ms) (hl : ms.length = its.length) (hk : ∀ m, m < its.length → (stAt its m).held.length ≤ k) (hn : nOf its ≤ k) (h : τ ∈ prodR its k) (hs : SchL its τ) : (syOf ms).Sched (nOf its) (fun c => (fL τ c).toNat) := by
  have O := F.ok S hl
  refine ⟨fun c hc => ?_, fun m c hm hr => ?_, fun m c o hm ho hle => ?_⟩
  · obtain ⟨x, _, e2, e3⟩ := row_bounds h (c := c) (by omega)
    show (fL τ c).toNat = ms.length ∨ ((fL τ c).toNat < ms.length ∧ c < (mAt ms (fL τ c).toNat).held.length)
    rw [e2]
    rcases e3 with rfl | ⟨h1, h2⟩
    · exact Or.inl (by omega)
    · refine Or.inr ⟨by omega, ?_⟩
      have : ((x : Nat) : Int).toNat = x := by omega
      rw [this, mAt_held F (by omega)]
      exact h2
  · have hm : m < ms.length := hm
    have hr : (mAt ms m).fl[c]? = some true := hr
    have hc := O.ok.rc m c hm hr
    have hc : c < (mAt ms m).held.length := hc
    rw [mAt_held F hm] at hc
    have := (hs m c (by omega) hc).1
    have r := (mAt_rch F hm).mp hr
    show m < (fL τ c).toNat
    have : ¬ fL τ c ≤ m := fun z => this ⟨z, r⟩
    omega
  · have hm : m < ms.length := hm
    have hcb := O.ok.hold m c o hm ho
    have ho : o ∈ ((mAt ms m).row c).map Int.toNat := ho
    obtain ⟨y, hy, rfl⟩ := List.mem_map.mp ho
    have hc : c < (mAt ms m).held.length := hcb.1
    rw [mAt_row F hm] at hy
    rw [mAt_held F hm] at hc
    have hle : (fL τ y.toNat).toNat ≤ m := hle
    have := (hs m c (by omega) hc).2
    show (fL τ c).toNat ≤ m
    have : ¬ (m : Int) < fL τ c := fun z => this ⟨z, y, hy, by omega⟩
    omega
/-- the row of a schedule -/
def rowS (its : List (List Ev)) (k : Nat) (σ : Nat → Nat) : List Int := (List.range k).map fun c => (((if c < nOf its then σ c else its.length : Nat)) : Int)
theorem rowS_get {k c : Nat} {σ : Nat → Nat} (h : c < k) : (rowS its k σ)[c]? = some (((if c < nOf its then σ c else its.length : Nat)) : Int) := by
  unfold rowS
  rw [List.getElem?_map, List.getElem?_range h]
  rfl
theorem row_of_sched {k : Nat} {σ : Nat → Nat} (S : StOk its) (F : MsFor its ms) (hl : ms.length = its.length) (hn : nOf its ≤ k) (h : (syOf ms).Sched (nOf its) σ) : rowS its k σ ∈ prodR its k ∧ SchL its (rowS its k σ) ∧ ∀ c, c < nOf its → fL (rowS its k σ) c = σ c := by
  have O := F.ok S hl
  have hf : ∀ c, c < nOf its → fL (rowS its k σ) c = σ c := fun c hc => by
    rw [fL_get (rowS_get (by omega)), if_pos hc]
  refine ⟨mem_prodR.mpr ⟨by simp [rowS], fun c x hx => ?_⟩, fun m c hm hc => ?_, hf⟩
  · have hc : c < k := by
      have := (List.getElem?_eq_some_iff.mp hx).1
      simpa [rowS] using this
    rw [rowS_get hc] at hx
    have hx := (Option.some.inj hx).symm
    rw [mem_ownL]
    by_cases hcn : c < nOf its
    · rw [if_pos hcn] at hx
      rcases h.rng c hcn with e | ⟨e1, e2⟩
      · have e : σ c = ms.length := e
        exact Or.inr (by omega)
      · have e1 : σ c < ms.length := e1
        have e2 : c < (mAt ms (σ c)).held.length := e2
        rw [mAt_held F e1] at e2
        exact Or.inl ⟨σ c, hx, by omega, e2⟩
    · rw [if_neg hcn] at hx
      exact Or.inr hx
  · have hm' : m < ms.length := by omega
    have hcn : c < nOf its := O.cnt m c hm' (by show c < (mAt ms m).held.length; rw [mAt_held F hm']; exact hc)
    refine ⟨fun z => ?_, fun z => ?_⟩
    · have := h.rch m c hm' ((mAt_rch F hm').mpr z.2)
      have := z.1
      rw [hf c hcn] at this
      omega
    · obtain ⟨z1, y, hy, z2⟩ := z
      have ho : y.toNat ∈ (syOf ms).held m c := by
        show y.toNat ∈ ((mAt ms m).row c).map Int.toNat
        rw [mAt_row F hm']
        exact List.mem_map.mpr ⟨y, hy, rfl⟩
      have hO := O.cnt m _ hm' (O.ok.hold m c _ hm' ho).2
      rw [hf _ hO] at z2
      rw [hf c hcn] at z1
      have := h.hold m c _ hm' ho (by omega)
      omega
end
end K32

/-! VF: what is known, as S40 has it -/
namespace K32
open PySem L2 Sm
section
variable {its : List (List Ev)} {ms : List Mo} {told L G : List Int}
def ansL (its : List (List Ev)) (told : List Int) : List (Nat × Nat × Bool) := List.zipWith (fun q x => (q.1, q.2, decide (x = 1))) (qsK its its.length) told
theorem mem_ansL {z : Nat × Nat × Bool} : z ∈ ansL its told ↔ ∃ (i : Nat) (q : Nat × Nat) (x : Int), (qsK its its.length)[i]? = some q ∧ told[i]? = some x ∧ z = (q.1, q.2, decide (x = 1)) := by
  unfold ansL
  constructor
  · intro h
    obtain ⟨i, hi⟩ := List.getElem?_of_mem h
    rw [List.getElem?_zipWith] at hi
    cases e1 : (qsK its its.length)[i]? with
    | none => rw [e1] at hi; simp at hi
    | some q =>
      cases e2 : told[i]? with
      | none => rw [e1, e2] at hi; simp at hi
      | some x => rw [e1, e2] at hi; simp at hi; exact ⟨i, q, x, e1, e2, hi.symm⟩
  · rintro ⟨i, q, x, e1, e2, rfl⟩
    refine List.mem_of_getElem? (i := i) ?_
    rw [List.getElem?_zipWith, e1, e2]
theorem ans_iff {τ : Nat → Nat} : (∀ q ∈ ansL its told, Agr τ q) ↔ AglT its told τ := by
  constructor
  · intro h i q x h1 h2
    exact h _ (mem_ansL.mpr ⟨i, q, x, h1, h2, rfl⟩)
  · intro h z hz
    obtain ⟨i, q, x, h1, h2, rfl⟩ := mem_ansL.mp hz
    exact h i q x h1 h2
theorem Know.kn (S : StOk its) (F : MsFor its ms) (hl : ms.length = its.length) (K : Know its ms told L G) : (syOf ms).Kn (nOf its) (ansL its told) (fL L) (fG ms.length G) := by
  have O := F.ok S hl
  have lget : ∀ c, c < nOf its → ∃ x, L[c]? = some x ∧ fL L c = x := fun c hc => by
    have hcl : c < L.length := by rw [K.kl.len]; exact hc
    have e : L[c]? = some L[c] := List.getElem?_eq_getElem hcl
    exact ⟨_, e, fL_get e⟩
  have gget : ∀ c, c < nOf its → ∃ x, G[c]? = some x ∧ fG ms.length G c = x := fun c hc => by
    have hcl : c < G.length := by rw [K.kg.len]; exact hc
    have e : G[c]? = some G[c] := List.getElem?_eq_getElem hcl
    exact ⟨_, e, fG_get e⟩
  refine ⟨fun c hc => ?_, fun c hc => ?_, fun c hc => ?_, K.kg.ex, fun m c hm hr => ?_, K.kl.hold, K.kg.hold, fun z hz => ?_, fun τ h1 h2 => K.kl.snd τ h1 (ans_iff.mp h2), fun τ h1 h2 => K.kg.snd τ h1 (ans_iff.mp h2)⟩
  · obtain ⟨x, e1, e2⟩ := lget c hc
    rw [e2]
    exact (K.kl.lo x (List.mem_of_getElem? e1)).1
  · obtain ⟨x, e1, e2⟩ := gget c hc
    rw [e2]
    exact (K.kg.lo x (List.mem_of_getElem? e1)).2
  · obtain ⟨x, e1, e2⟩ := gget c hc
    rw [e2]
    exact (K.kg.lo x (List.mem_of_getElem? e1)).1
  · exact K.rc m c hm (Or.inl hm) hr
  · obtain ⟨i, q, x, h1, h2, rfl⟩ := mem_ansL.mp hz
    have := K.an i q x h1 h2
    by_cases e : x = 1
    · simpa [e] using this
    · simpa [e] using this
end
end K32

/-! VG: the least and the greatest starts of the agreeing rows -/
namespace K32
open PySem L2 Sm
section
variable {its : List (List Ev)} {ms : List Mo} {told L G : List Int}
/-- the rows that agree with the answers -/
def Rows (its : List (List Ev)) (k : Nat) (told : List Int) (rows : List (List Int)) : Prop := ∀ τ, τ ∈ rows ↔ (τ ∈ prodR its k ∧ SchL its τ) ∧ AgAll its told told.length τ
theorem ag_iff {k : Nat} {τ : List Int} {σ : Nat → Nat} (h : ∀ q ∈ qsK its its.length, fL τ q.2 = σ q.2) : AgAll its told told.length τ ↔ AglT its told σ := by
  constructor
  · intro g i q x h1 h2
    have := g i q x (List.getElem?_eq_some_iff.mp h2).1 h1 h2
    have e := h q (List.mem_of_getElem? h1)
    unfold RowAg at this
    rw [e] at this
    unfold Agr
    by_cases hx : x = 1
    · have := this.mpr hx
      simp [hx]
      omega
    · have : ¬ ((σ q.2 : Nat) : Int) ≤ (q.1 : Int) := fun z => hx (this.mp z)
      simp [hx]
      omega
  · intro g i q x hi h1 h2
    have := g i q x h1 h2
    have e := h q (List.mem_of_getElem? h1)
    unfold RowAg
    rw [e]
    unfold Agr at this
    by_cases hx : x = 1
    · simp [hx] at this ⊢
      omega
    · simp [hx] at this ⊢
      omega
theorem spread {k : Nat} {rows : List (List Int)} (S : StOk its) (A : AskOk its) (F : MsFor its ms) (hl : ms.length = its.length) (hk : ∀ m, m < its.length → (stAt its m).held.length ≤ k) (hn : nOf its ≤ k) (K : Know its ms told L G) (R : Rows its k told rows) (ne : rows ≠ []) :
    ∀ c, c < nOf its → fL L c < fG ms.length G c ∧ (∀ τ ∈ rows, ((syOf ms).tmin (fL L) c : Int) ≤ fL τ c ∧ fL τ c ≤ fG ms.length G c) ∧ (∃ τ ∈ rows, fL τ c = (syOf ms).tmin (fL L) c) ∧ ∃ τ ∈ rows, fL τ c = fG ms.length G c := by
  have O := F.ok S hl
  have N := K.kn S F hl
  have qn : ∀ q ∈ qsK its its.length, q.2 < nOf its := fun q hq => by
    obtain ⟨q1, q2⟩ := qs_ok S A F hl hq
    exact O.cnt q.1 q.2 q1 q2
  have toS : ∀ τ ∈ rows, (syOf ms).Sched (nOf its) (fun c => (fL τ c).toNat) ∧ (∀ q ∈ ansL its told, Agr (fun c => (fL τ c).toNat) q) ∧ ∀ c, c < nOf its → (((fL τ c).toNat : Nat) : Int) = fL τ c := fun τ hτ => by
    obtain ⟨⟨h1, h2⟩, h3⟩ := (R τ).mp hτ
    have pos : ∀ c, c < nOf its → (((fL τ c).toNat : Nat) : Int) = fL τ c := fun c hc => by
      obtain ⟨x, _, e, _⟩ := row_bounds h1 (c := c) (by omega)
      rw [e]
      omega
    exact ⟨sched_of_row S F hl hk hn h1 h2, ans_iff.mpr ((ag_iff (k := k) fun q hq => (pos _ (qn q hq)).symm).mp h3), pos⟩
  have ofS : ∀ σ, (syOf ms).Sched (nOf its) σ → (∀ q ∈ ansL its told, Agr σ q) → ∃ τ ∈ rows, ∀ c, c < nOf its → fL τ c = σ c := fun σ h1 h2 => by
    obtain ⟨q1, q2, q3⟩ := row_of_sched (k := k) S F hl hn h1
    exact ⟨_, (R _).mpr ⟨⟨q1, q2⟩, (ag_iff (k := k) fun q hq => q3 _ (qn q hq)).mpr (ans_iff.mp h2)⟩, q3⟩
  obtain ⟨τ0, hτ0⟩ := List.exists_mem_of_ne_nil _ ne
  obtain ⟨s1, s2, s3⟩ := toS τ0 hτ0
  have sep : ∀ c, c < nOf its → fL L c < fG ms.length G c := fun c hc => by
    have h1 := N.sndL _ s1 s2 c hc
    have h2 := N.sndG _ s1 s2 c hc
    omega
  have hq : ∀ q ∈ ansL its told, q.1 < (syOf ms).N ∧ q.2.1 < (syOf ms).cnt q.1 := fun z hz => by
    obtain ⟨i, q, x, h1, _, rfl⟩ := mem_ansL.mp hz
    exact qs_ok S A F hl (List.mem_of_getElem? h1)
  have SL := N.schedL O.ok O.cnt hq sep
  have SG := N.schedG O.ok O.cnt hq sep
  intro c hc
  refine ⟨sep c hc, fun τ hτ => ?_, ?_, ?_⟩
  · obtain ⟨t1, t2, t3⟩ := toS τ hτ
    have h1 := N.sndL _ t1 t2 c hc
    have h2 := N.sndG _ t1 t2 c hc
    have t := t3 c hc
    refine ⟨?_, by omega⟩
    have tm := N.tmin O.cnt hc (sep c hc)
    rcases t1.rng c hc with e | ⟨e1, e2⟩
    · rcases tm.1 with w | w
      · omega
      · have := w.1
        omega
    · have := tm.2.2 _ e1 e2 (by omega)
      omega
  · obtain ⟨τ, h1, h2⟩ := ofS _ SL.1 SL.2
    exact ⟨τ, h1, h2 c hc⟩
  · obtain ⟨τ, h1, h2⟩ := ofS _ SG.1 SG.2
    refine ⟨τ, h1, ?_⟩
    rw [h2 c hc]
    have := N.gpos c hc
    omega
end
end K32

/-! VH: min and max of a list (begun) -/
namespace K32
open PySem L2 Sm
section
variable {s : Sto} {a : Nat} {ns : List Int}
theorem oMinL_ints (h : s[a]? = some (.lst (ns.map Vl.int))) (hn : 0 < ns.length) : oMinL [.ref a] s = some (.int (minL ns), s) := by
  simp [oMinL, lstOf, h, mapO_ints, hn]
theorem oMaxL_ints (h : s[a]? = some (.lst (ns.map Vl.int))) (hn : 0 < ns.length) : oMaxL [.ref a] s = some (.int (maxL ns), s) := by
  simp [oMaxL, lstOf, h, mapO_ints, hn]
end
/-- the moments are determined by the story -/
theorem MsFor.uniq {its : List (List Ev)} {ms ms' : List Mo} (F : MsFor its ms) (F' : MsFor its ms') (h1 : ms.length = its.length) (h2 : ms'.length = its.length) : ms = ms' := by
  refine List.ext_getElem? fun i => ?_
  by_cases hi : i < its.length
  · have e := List.getElem?_eq_getElem (show i < ms.length by omega)
    have e' := List.getElem?_eq_getElem (show i < ms'.length by omega)
    rw [e, e']
    congr 1
    have a1 := F.held i _ e
    have a2 := F'.held i _ e'
    have b1 := F.fl i _ e
    have b2 := F'.fl i _ e'
    have c1 := F.on i _ e
    have c2 := F'.on i _ e'
    generalize ms[i] = x at a1 b1 c1
    generalize ms'[i] = y at a2 b2 c2
    obtain ⟨hx, fx⟩ := x
    obtain ⟨hy, fy⟩ := y
    simp only at a1 a2 b1 b2 c1 c2
    subst a1
    subst a2
    congr 1
    refine List.ext_getElem? fun c => ?_
    have key : fx[c]? = some true ↔ fy[c]? = some true := by
      have k1 := c1 (c : Int)
      have k2 := c2 (c : Int)
      have k3 := k1.trans k2.symm
      unfold on at k3
      constructor
      · intro z
        have := (k3.mp ⟨by omega, by simpa using z⟩).2
        simpa using this
      · intro z
        have := (k3.mpr ⟨by omega, by simpa using z⟩).2
        simpa using this
    by_cases hc : c < fx.length
    · have g1 := List.getElem?_eq_getElem hc
      have g2 := List.getElem?_eq_getElem (show c < fy.length by omega)
      rw [g1, g2] at key ⊢
      congr 1
      cases q1 : fx[c] <;> cases q2 : fy[c] <;> simp [q1, q2] at key ⊢
    · rw [List.getElem?_eq_none (by omega), List.getElem?_eq_none (by omega)]
  · rw [List.getElem?_eq_none (by omega), List.getElem?_eq_none (by omega)]
end K32

/-! VI: _law_fates_right -/
namespace K32
open PySem L2 Sm
theorem filterMap_pt {α β : Type} {f : α → Option β} : ∀ {xs : List α} {ys : List β}, xs.length = ys.length → (∀ (i : Nat) (x : α) (y : β), xs[i]? = some x → ys[i]? = some y → f x = some y) → xs.filterMap f = ys
  | [], [], _, _ => rfl
  | x :: xs, y :: ys, hl, h => by
    have h0 := h 0 x y rfl rfl
    rw [List.filterMap_cons_some h0, filterMap_pt (by simpa using hl) fun i a b ha hb => h (i + 1) a b ha hb]
  | [], _ :: _, hl, _ => by simp at hl
  | _ :: _, [], hl, _ => by simp at hl
section
variable {s : Sto} {Q : Vl → Sto → Prop} {E : Ex → Sto → Prop} {its : List (List Ev)}
def colF (s : Sto) (c : Nat) (v : Vl) : Option Vl := match v with
  | .ref z => match s[z]? with
    | some (.lst xs) => xs[c]?
    | _ => none
  | _ => none
/-- one column of the rows -/
theorem colLc {lo : Lo} {QS : Sto → Prop} {x0 r c : Nat} {rows : List (List Int)} (R : HeldR s x0 s.length r rows) (hl : rows.length ≤ 512) (hc : ∀ τ ∈ rows, c < τ.length) (h4 : lo[4]? = some (some (.int (c : Nat)))) (h11 : lo.length = 11)
    (k : QS (s ++ [.lst ((rows.map fun τ => fL τ c).map Vl.int)])) :
    WL (lcN (nxLst r) (glN 9) tTrue (eOp opIx (eVar 9) (eVar 4)) s.length lo 100000 0 (s ++ [.lst []])) QS := by
  obtain ⟨hab, hs, r1, r2, r3⟩ := R
  have key : ∀ (i z : Nat), hs[i]? = some z → ∃ τ, rows[i]? = some τ ∧ s[z]? = some (.lst (τ.map Vl.int)) ∧ (τ.map Vl.int)[c]? = some (.int (fL τ c)) := fun i z hz => by
    obtain ⟨_, τ, h1, h2⟩ := r3 i z hz
    have hcl := hc τ (List.mem_of_getElem? h1)
    have e : τ[c]? = some τ[c] := List.getElem?_eq_getElem hcl
    exact ⟨τ, h1, h2, by rw [List.getElem?_map, e, fL_get e]; rfl⟩
  refine lcL_p (xs := hs.map Vl.ref) s (colF s c) rfl rfl r1 (by simp; omega) ?_ ?_
  · intro v hv acc
    obtain ⟨i, hi⟩ := List.getElem?_of_mem hv
    obtain ⟨z, hz, rfl⟩ := get_map hi
    obtain ⟨τ, h1, h2, h3⟩ := key i z hz
    refine ⟨_, rfl, ?_⟩
    have e4 : (lo.set 9 (some (Vl.ref z)))[4]? = some (some (.int (c : Nat))) := by rw [List.getElem?_set_ne (by omega)]; exact h4
    have e9 : (lo.set 9 (some (Vl.ref z)))[9]? = some (some (.ref z)) := List.getElem?_set_self (by omega)
    have oi : opIx (.ref z) (.int (c : Nat)) (s ++ [Ob.lst acc]) = some (.int (fL τ c), s ++ [Ob.lst acc]) := by rw [opIx_lst (get_push h2), atN, h3]; rfl
    simp [tTrue, e4, e9, oi, colF, h2, h3]
  · have e : (hs.map Vl.ref).filterMap (colF s c) = (rows.map fun τ => fL τ c).map Vl.int := by
      refine filterMap_pt (by simp [r2]) fun i x y hx hy => ?_
      obtain ⟨z, hz, rfl⟩ := get_map hx
      obtain ⟨τ, h1, h2, h3⟩ := key i z hz
      rw [List.getElem?_map, List.getElem?_map, h1] at hy
      simp at hy
      subst hy
      simp only [colF, h2, h3]
    rw [e]
    exact k
/-- which of the starts are past -/
theorem goneLc {lo : Lo} {QS : Sto → Prop} {j m : Nat} {ns : List Int} (h : s[j]? = some (.lst (ns.map Vl.int))) (hl : ns.length ≤ 512) (h7 : lo[7]? = some (some (.int (m : Nat)))) (h11 : lo.length = 11)
    (k : QS (s ++ [.lst ((ns.map fun x => decide (x ≤ (m : Int))).map Vl.bl)])) :
    WL (lcN (nxLst j) (glN 10) tTrue (eOp opLe (eVar 10) (eVar 7)) s.length lo 100000 0 (s ++ [.lst []])) QS := by
  refine lcL_p (xs := ns.map Vl.int) s (fun v => match v with | .int x => some (.bl (decide (x ≤ (m : Int)))) | _ => none) rfl rfl h (by simp; omega) ?_ ?_
  · intro v hv acc
    obtain ⟨x, hx, rfl⟩ := List.mem_map.mp hv
    refine ⟨_, rfl, ?_⟩
    have e7 : (lo.set 10 (some (Vl.int x)))[7]? = some (some (.int (m : Nat))) := by rw [List.getElem?_set_ne (by omega)]; exact h7
    have e10 : (lo.set 10 (some (Vl.int x)))[10]? = some (some (.int x)) := List.getElem?_set_self (by omega)
    simp [tTrue, e7, e10]
  · have e : (ns.map Vl.int).filterMap (fun v => match v with | .int x => some (.bl (decide (x ≤ (m : Int)))) | _ => none) = (ns.map fun x => decide (x ≤ (m : Int))).map Vl.bl := by
      refine filterMap_pt (by simp) fun i x y hx hy => ?_
      obtain ⟨z, hz, rfl⟩ := get_map hx
      rw [List.getElem?_map, List.getElem?_map, hz] at hy
      simp at hy
      subst hy
      rfl
    rw [e]
    exact k
end
end K32

/-! VJ: least and greatest starts, fates by the rows -/
namespace K32
open PySem L2 Sm
theorem stepN_len {h : Hs} {e : Ev} : h.rows.length ≤ (h.step e).rows.length := by
  cases e with
  | hold i f c =>
    simp only [Hs.step]
    split <;> simp
  | _ => simp [Hs.step]
theorem fold_len : ∀ {es : List Ev} {h : Hs}, h.rows.length ≤ (es.foldl Hs.step h).rows.length
  | [], _ => Nat.le_refl _
  | e :: es, h => Nat.le_trans stepN_len (fold_len (es := es) (h := h.step e))
section
variable {its : List (List Ev)} {ms : List Mo} {told L G : List Int}
def nT (its : List (List Ev)) : Nat := (stAt its its.length).held.length
theorem nOf_le (S : StOk its) : nOf its ≤ nT its := by
  unfold nOf nT
  rw [held_len]
  by_cases h : its.length = 0
  · rw [h]
    exact Nat.le_refl _
  · have hi : its[its.length - 1]? = some its[its.length - 1] := List.getElem?_eq_getElem (by omega)
    obtain ⟨_, _, _, _, _, e⟩ := S.at1 hi
    have e1 : its.length - 1 + 1 = its.length := by omega
    rw [e1] at e
    rw [e]
    exact fold_len
theorem cnt_nOf (S : StOk its) (F : MsFor its ms) (hl : ms.length = its.length) {m c : Nat} (hm : m < its.length) (hc : c < (stAt its m).held.length) : c < nOf its := by
  have O := F.ok S hl
  exact O.cnt m c (by show m < ms.length; omega) (by show c < (mAt ms m).held.length; rw [mAt_held F (by omega)]; exact hc)
theorem cnt_nT (S : StOk its) (F : MsFor its ms) (hl : ms.length = its.length) : ∀ m, m < its.length → (stAt its m).held.length ≤ nT its := fun m hm => by
  have h1 := nOf_le S
  by_cases h : (stAt its m).held.length ≤ nT its
  · exact h
  · have := cnt_nOf S F hl (c := nT its) hm (by omega)
    omega
theorem starts_in {rows : List (List Int)} (S : StOk its) (A : AskOk its) (F : MsFor its ms) (hl : ms.length = its.length) (K : Know its ms told L G) (R : Rows its (nT its) told rows) (ne : rows ≠ []) {c : Nat} (hc : c < nOf its) :
    fL L c < fG ms.length G c ∧ minL (rows.map fun τ => fL τ c) = (syOf ms).tmin (fL L) c ∧ maxL (rows.map fun τ => fL τ c) = fG ms.length G c := by
  have hp : 0 < (rows.map fun τ => fL τ c).length := by
    rw [List.length_map]
    exact List.length_pos_iff.mpr ne
  obtain ⟨h1, h2, ⟨t1, h3, h4⟩, t2, h5, h6⟩ := spread S A F hl (cnt_nT S F hl) (nOf_le S) K R ne c hc
  obtain ⟨a1, a2⟩ := minL_ok hp
  obtain ⟨b1, b2⟩ := maxL_ok hp
  refine ⟨h1, ?_, ?_⟩
  · obtain ⟨τ, q1, q2⟩ := List.mem_map.mp a1
    have u1 := (h2 τ q1).1
    have u2 := a2 _ (List.mem_map.mpr ⟨t1, h3, rfl⟩)
    omega
  · obtain ⟨τ, q1, q2⟩ := List.mem_map.mp b1
    have u1 := (h2 τ q1).2
    have u2 := b2 _ (List.mem_map.mpr ⟨t2, h5, rfl⟩)
    omega
theorem starts_out {rows : List (List Int)} (S : StOk its) (F : MsFor its ms) (hl : ms.length = its.length) (R : Rows its (nT its) told rows) (ne : rows ≠ []) {c : Nat} (hc : nOf its ≤ c) (hc2 : c < nT its) :
    minL (rows.map fun τ => fL τ c) = its.length ∧ maxL (rows.map fun τ => fL τ c) = its.length := by
  have hp : 0 < (rows.map fun τ => fL τ c).length := by
    rw [List.length_map]
    exact List.length_pos_iff.mpr ne
  have all : ∀ y ∈ (rows.map fun τ => fL τ c), y = its.length := fun y hy => by
    obtain ⟨τ, q1, rfl⟩ := List.mem_map.mp hy
    obtain ⟨x, _, e1, e2⟩ := row_bounds ((R τ).mp q1).1.1 hc2
    rcases e2 with e | ⟨e2, e3⟩
    · rw [e1, e]
    · have := cnt_nOf S F hl e2 e3
      omega
  exact ⟨all _ (minL_ok hp).1, all _ (maxL_ok hp).1⟩
theorem all_le {ns : List Int} {m : Int} (h : 0 < ns.length) : (ns.map fun x => decide (x ≤ m)).all id = decide (maxL ns ≤ m) := by
  obtain ⟨b1, b2⟩ := maxL_ok h
  rw [Bool.eq_iff_iff]
  simp
  exact ⟨fun z => z _ b1, fun z x hx => Int.le_trans (b2 x hx) z⟩
theorem any_le {ns : List Int} {m : Int} (h : 0 < ns.length) : (ns.map fun x => decide (x ≤ m)).any id = decide (minL ns ≤ m) := by
  obtain ⟨b1, b2⟩ := minL_ok h
  rw [Bool.eq_iff_iff]
  simp
  exact ⟨fun ⟨x, hx, z⟩ => Int.le_trans (b2 x hx) z, fun z => ⟨_, b1, z⟩⟩
theorem fate_due {rows : List (List Int)} (S : StOk its) (A : AskOk its) (F : MsFor its ms) (hl : ms.length = its.length) (K : Know its ms told L G) (R : Rows its (nT its) told rows) (ne : rows ≠ []) {c m : Nat} (hm : m < its.length) (hc : c < (stAt its m).held.length) :
    fateW (fL L c) (fG ms.length G c) (m : Int) = if maxL (rows.map fun τ => fL τ c) ≤ (m : Int) then ("gone" : Str) else if minL (rows.map fun τ => fL τ c) ≤ (m : Int) then ("open" : Str) else ("there" : Str) := by
  have O := F.ok S hl
  have N := K.kn S F hl
  have hcn := cnt_nOf S F hl hm hc
  obtain ⟨h1, h2, h3⟩ := starts_in S A F hl K R ne hcn
  have tm := N.tmin O.cnt hcn h1
  have up := tm.2.2 m (by show m < ms.length; omega) (by show c < (mAt ms m).held.length; rw [mAt_held F (by omega)]; exact hc)
  have dn := tm.2.1
  rw [h2, h3]
  unfold fateW
  by_cases e1 : fG ms.length G c ≤ (m : Int)
  · have e3 : ¬ (m : Int) ≤ fL L c := by omega
    rw [if_pos e1, if_neg e3, if_pos e1]
  · by_cases e2 : (m : Int) ≤ fL L c
    · have e3 : ¬ (((syOf ms).tmin (fL L) c : Nat) : Int) ≤ (m : Int) := by omega
      rw [if_pos e2, if_neg e1, if_neg e3]
    · have e3 : (((syOf ms).tmin (fL L) c : Nat) : Int) ≤ (m : Int) := by
        have := up (by omega)
        omega
      rw [if_neg e2, if_neg e1, if_neg e1, if_pos e3]
end
end K32

/-! VK: _law_fates_right walked -/
namespace K32
open PySem L2 Sm
section
variable {s : Sto} {Q : Vl → Sto → Prop} {E : Ex → Sto → Prop} {its : List (List Ev)} {a b fc ap bd mr hr lt fg wt wg : Nat} {ms : List Mo} {told L G : List Int}
/-- the fates of one cell -/
theorem fateLoop {c j : Nat} {rows : List (List Int)} {x6 x7 x8 x9 x10 r2 : Option Vl} {Kt : RK} (W : WdG s a b fc ap bd mr hr lt fg wt wg its ms told L G) (S : StOk its) (A : AskOk its) (F : MsFor its ms) (hl : ms.length = its.length) (K : Know its ms told L G) (h7 : its.length ≤ 7) (hr : rows.length ≤ 512) (R : Rows its (nT its) told rows) (ne : rows ≠ []) (n3 : s[j]? = some (.lst ((rows.map fun τ => fL τ c).map Vl.int)))
    (k : ∀ x6 x7 x8 x9 x10 s', Fr [] s s' → Kt.nx [some (.ref fc), some (stV its), r2, some (.int (its.length : Nat)), some (.int (c : Nat)), some (.ref j), x6, x7, x8, x9, x10] s') :
    WS (loopX (gNm 7) (sIf (tVal (eOp opLt (eVar 4) (eCB oLen (aCons (eOp opIx (eCall (arg 2 m__law_heap) (aCons (eVar 1) (aCons (eVar 7) aNil))) (eC (.int 0))) aNil)))) (sSeq (sSet 8 (eLc 100000 (iLst (eVar 5)) (glN 10) tTrue (eOp opLe (eVar 10) (eVar 7)) [10]))
  (sSeq (sSet 6 (eIfM (tVal (eCB oAll (aCons (eVar 8) aNil))) (eC (.str "gone")) (eIfM (tVal (eCB oAny (aCons (eVar 8) aNil))) (eC (.str "open")) (eC (.str "there")))))
  (sIf (tVal (eOp opNe (eCB oRepr (aCons (eMeth "fate" (tabA 2 tab_fate) (eVar 0) (aCons (eVar 4) (aCons (eVar 7) aNil))) aNil)) (eCB oRepr (aCons (eVar 6) aNil)))) (sRet (eC (.bl false))) sNil))) sNil) (rng 0 its.length)) [some (.ref fc), some (stV its), r2, some (.int (its.length : Nat)), some (.int (c : Nat)), some (.ref j), x6, x7, x8, x9, x10] s Kt := by
  refine loopX_inv (fun m lo s' => (∃ x6 x7 x8 x9 x10, lo = [some (.ref fc), some (stV its), r2, some (.int (its.length : Nat)), some (.int (c : Nat)), some (.ref j), x6, x7, x8, x9, x10]) ∧ Fr [] s s') ⟨⟨_, _, _, _, _, rfl⟩, Fr.refl⟩ ?_ ?_
  · rintro m v lo s2 hv ⟨⟨x6, x7, x8, x9, x10, rfl⟩, f2⟩
    obtain ⟨hm, rfl⟩ := rng_get hv
    simp
    refine (lawHeap S (Nat.le_of_lt hm)).use ?_
    rintro v s3 ⟨j3, kk, rfl, _, q1, _, f3⟩
    obtain ⟨xs, t1, t2⟩ := q1.toR.top
    by_cases hc : c < (stAt its m).held.length
    · simp [oLen_lst t1, t2, hc]
      have f23 := f2.trans f3
      have n3' := f23.at n3 (by simp)
      simp [n3']
      refine goneLc (m := m) n3' (by simpa using hr) rfl rfl ?_
      generalize hs4 : s3 ++ [Ob.lst (((rows.map fun τ => fL τ c).map fun x => decide (x ≤ (m : Int))).map Vl.bl)] = s4
      have f4 : Fr [] s s4 := hs4 ▸ f23.push _
      have n4 : s4[s3.length]? = some (.lst (((rows.map fun τ => fL τ c).map fun x => decide (x ≤ (m : Int))).map Vl.bl)) := by rw [← hs4]; exact get_last
      clear hs4
      have W4 := W.fr f4 (by simp)
      have hp : 0 < (rows.map fun τ => fL τ c).length := by
        rw [List.length_map]
        exact List.length_pos_iff.mpr ne
      have oa := oAll_bls n4
      have oy := oAny_bls n4
      rw [all_le hp] at oa
      rw [any_le hp] at oy
      have due := fate_due S A F hl K R ne hm hc
      have hcn := cnt_nOf S F hl hm hc
      have hx : L[c]? = some (fL L c) := by
        have hcl : c < L.length := by rw [K.kl.len]; exact hcn
        have e : L[c]? = some L[c] := List.getElem?_eq_getElem hcl
        rw [e, fL_get e]
      have hg : G[c]? = some (fG ms.length G c) := by
        have hcl : c < G.length := by rw [K.kg.len]; exact hcn
        have e : G[c]? = some G[c] := List.getElem?_eq_getElem hcl
        rw [e, fG_get e]
      obtain ⟨y1, p1⟩ := (Pn.lit (x := "gone")).repr (by decide) (by decide)
      obtain ⟨y2, p2⟩ := (Pn.lit (x := "open")).repr (by decide) (by decide)
      obtain ⟨y3, p3⟩ := (Pn.lit (x := "there")).repr (by decide) (by decide)
      have fa4 : s4[fc]? = some (.ins 5 [("story", stV its), ("told", .tup (told.map Vl.int)), ("asked_pairs", .ref ap), ("bounds", .ref bd)]) := W4.fa
      by_cases d1 : maxL (rows.map fun τ => fL τ c) ≤ (m : Int)
      · rw [if_pos d1] at due
        simp [oa, oy, d1, WE_eMeth]
        rw [methW_ins (m := "fate") (tab := tabA 2 tab_fate) (mf := arg 3 m_Facts_fate) fa4 rfl (by simp [getS])]
        simp
        refine fateG W4 hx hg ?_
        rw [due]
        simp [p1]
        exact f4
      · rw [if_neg d1] at due
        by_cases d2 : minL (rows.map fun τ => fL τ c) ≤ (m : Int)
        · rw [if_pos d2] at due
          simp [oa, oy, d1, d2, WE_eMeth]
          rw [methW_ins (m := "fate") (tab := tabA 2 tab_fate) (mf := arg 3 m_Facts_fate) fa4 rfl (by simp [getS])]
          simp
          refine fateG W4 hx hg ?_
          rw [due]
          simp [p2]
          exact f4
        · rw [if_neg d2] at due
          simp [oa, oy, d1, d2, WE_eMeth]
          rw [methW_ins (m := "fate") (tab := tabA 2 tab_fate) (mf := arg 3 m_Facts_fate) fa4 rfl (by simp [getS])]
          simp
          refine fateG W4 hx hg ?_
          rw [due]
          simp [p3]
          exact f4
    · simp [oLen_lst t1, t2, hc]
      exact f2.trans f3
  · rintro lo s2 ⟨⟨x6, x7, x8, x9, x10, rfl⟩, f2⟩
    exact k _ _ _ _ _ s2 f2
theorem fatesRight {x0 r : Nat} {rows : List (List Int)} (W : WdG s a b fc ap bd mr hr lt fg wt wg its ms told L G) (S : StOk its) (A : AskOk its) (F : MsFor its ms) (hl : ms.length = its.length) (K : Know its ms told L G) (h7 : its.length ≤ 7) (hn3 : nT its ≤ 3) (H : HeldR s x0 s.length r rows) (hr : rows.length ≤ 512) (R : Rows its (nT its) told rows) (ne : rows ≠ [])
    (k : ∀ s', Fr [] s s' → Q (.bl true) s') : WE (m__law_fates_right [.ref fc, stV its, .ref r]) s Q E := by
  unfold m__law_fates_right b__law_fates_right
  simp [oLen_st]
  refine (lawHeap S (Nat.le_refl _)).use ?_
  rintro v s1 ⟨j, kk, rfl, _, q1, _, f1⟩
  obtain ⟨xs, t1, t2⟩ := q1.toR.top
  simp [oLen_lst t1, t2]
  rw [rngW_nat (by unfold nT at hn3; omega)]
  refine loopX_inv (fun c lo s' => (∃ x4 x5 x6 x7 x8 x9 x10, lo = [some (.ref fc), some (stV its), some (.ref r), some (.int (its.length : Nat)), x4, x5, x6, x7, x8, x9, x10]) ∧ Fr [] s s') ⟨⟨_, _, _, _, _, _, _, rfl⟩, f1⟩ ?_ ?_
  · rintro c v lo s2 hv ⟨⟨x4, x5, x6, x7, x8, x9, x10, rfl⟩, f2⟩
    obtain ⟨hc, rfl⟩ := rng_get hv
    have hcT : c < nT its := hc
    have le2 := f2.le
    have H2 := (H.fr f2 (by simp)).wide (Nat.le_refl _) le2
    obtain ⟨ys, y1, y2⟩ := H2.top
    simp [y1]
    refine colLc (c := c) H2 hr (fun τ hτ => by rw [(mem_prodR.mp ((R τ).mp hτ).1.1).1]; exact hcT) rfl rfl ?_
    have hp : 0 < (rows.map fun τ => fL τ c).length := by
      rw [List.length_map]
      exact List.length_pos_iff.mpr ne
    have hnl : (rows.map fun τ => fL τ c).length ≤ 512 := by simpa using hr
    generalize hs3 : s2 ++ [Ob.lst ((rows.map fun τ => fL τ c).map Vl.int)] = s3
    have f3 : Fr [] s s3 := hs3 ▸ f2.push _
    have n3 : s3[s2.length]? = some (.lst ((rows.map fun τ => fL τ c).map Vl.int)) := by rw [← hs3]; exact get_last
    clear hs3
    have W3 := W.fr f3 (by simp)
    have fa3 : s3[fc]? = some (.ins 5 [("story", stV its), ("told", .tup (told.map Vl.int)), ("asked_pairs", .ref ap), ("bounds", .ref bd)]) := W3.fa
    have O := F.ok S hl
    have N := K.kn S F hl
    have wv : ∀ {Q' : Vl → Sto → Prop} {E' : Ex → Sto → Prop}, (∀ s', Fr [] s3 s' → Q' (.tup [if minL (rows.map fun τ => fL τ c) < (its.length : Int) then .int (minL (rows.map fun τ => fL τ c)) else .non, if maxL (rows.map fun τ => fL τ c) < (its.length : Int) then .int (maxL (rows.map fun τ => fL τ c)) else .non]) s') → WE (m_Facts_window [.ref fc, .int (c : Nat)]) s3 Q' E' := by
      intro Q' E' kq
      by_cases hcn : c < nOf its
      · obtain ⟨h1, h2, h3⟩ := starts_in S A F hl K R ne hcn
        rw [h2, h3] at kq
        have hx : L[c]? = some (fL L c) := by
          have hcl : c < L.length := by rw [K.kl.len]; exact hcn
          have e : L[c]? = some L[c] := List.getElem?_eq_getElem hcl
          rw [e, fL_get e]
        have hg : G[c]? = some (fG ms.length G c) := by
          have hcl : c < G.length := by rw [K.kg.len]; exact hcn
          have e : G[c]? = some G[c] := List.getElem?_eq_getElem hcl
          rw [e, fG_get e]
        have hi := N.hi c hcn
        have hi : fG ms.length G c ≤ (ms.length : Int) := hi
        refine windowG W3 O (by rw [lastN_of F hl]; exact hcn) hx (N.lo c hcn) (by omega) hg fun s' f => ?_
        have := kq s' f
        rw [← hl] at this
        unfold winV
        simpa using this
      · obtain ⟨h2, h3⟩ := starts_out S F hl R ne (Nat.le_of_not_lt hcn) hcT
        rw [h2, h3] at kq
        refine windowN W3 (by rw [lastN_of F hl]; omega) fun s' f => ?_
        simpa using kq s' f
    have mb : ∀ y ∈ (rows.map fun τ => fL τ c), y.natAbs < 10 ^ 12 := fun y hy => by
      obtain ⟨τ, q1, rfl⟩ := List.mem_map.mp hy
      obtain ⟨x, _, e1, e2⟩ := row_bounds ((R τ).mp q1).1.1 hcT
      rw [e1]
      omega
    have pv : ∃ y, ∀ s, oRepr [.tup [if minL (rows.map fun τ => fL τ c) < (its.length : Int) then .int (minL (rows.map fun τ => fL τ c)) else .non, if maxL (rows.map fun τ => fL τ c) < (its.length : Int) then .int (maxL (rows.map fun τ => fL τ c)) else .non]] s = some (.str y, s) := by
      refine (Pn.tup2 (n := 1) (u := 64) (v := 64) ?_ ?_).repr (by decide) (by decide)
      · split
        · exact Pn.int (mb _ (minL_ok hp).1)
        · exact Pn.non
      · split
        · exact Pn.int (mb _ (maxL_ok hp).1)
        · exact Pn.non
    obtain ⟨y, py⟩ := pv
    by_cases d1 : minL (rows.map fun τ => fL τ c) < (its.length : Int) <;> by_cases d2 : maxL (rows.map fun τ => fL τ c) < (its.length : Int)
    all_goals
      simp only [d1, d2, if_true, if_false] at wv py
      simp [oMinL_ints n3 hp, oMaxL_ints n3 hp, d1, d2, WE_eMeth]
      rw [methW_ins (m := "window") (tab := tabA 1 tab_window) (mf := arg 2 m_Facts_window) fa3 rfl (by simp [getS])]
      simp
      refine wv fun s4 f4 => ?_
      simp [py]
      rw [rngW_nat (by omega)]
      refine fateLoop (W3.fr f4 (by simp)) S A F hl K h7 hr R ne (f4.at n3 (by simp)) fun _ _ _ _ _ s5 f5 => ?_
      exact ⟨⟨_, _, _, _, _, _, _, rfl⟩, (f3.trans f4).trans f5⟩
  · rintro lo s2 ⟨⟨x4, x5, x6, x7, x8, x9, x10, rfl⟩, f2⟩
    simp
    exact k s2 f2
end
end K32

/-! VL: _law_right -/
namespace K32
open PySem L2 Sm
theorem HeldR.opEq0 {s : Sto} {a b j t : Nat} {held : List (List Int)} (H : HeldR s a b j held) (h : s[t]? = some (.lst [])) : opEq (.ref j) (.ref t) s = some (.bl held.isEmpty, s) := by
  obtain ⟨_, hs, h3, h4, h5⟩ := H
  have := opEq_las h3 h fun y hy => by
    obtain ⟨z, hz, rfl⟩ := List.mem_map.mp hy
    obtain ⟨i, hi⟩ := List.getElem?_of_mem hz
    obtain ⟨_, row, q1, q2⟩ := h5 i z hi
    refine Las.lst (m := 38) q2 fun z hz => ?_
    obtain ⟨w, hw, rfl⟩ := List.mem_map.mp hz
    exact ⟨.int w, rfl, rfl⟩
  rw [this]
  have : (hs.map Vl.ref).isEmpty = held.isEmpty := by
    cases hs <;> cases held <;> simp at h4 ⊢
  rw [this]
section
variable {its : List (List Ev)} {ms : List Mo} {told L G : List Int}
theorem never : (syOf ms).Sched (nOf its) (fun _ => ms.length) :=
  ⟨fun c _ => Or.inl rfl, fun m c hm _ => hm, fun m c o hm _ h => by have hm : m < ms.length := hm; have h : ms.length ≤ m := h; omega⟩
theorem rows_of {rows0 rows : List (List Int)} (h0 : ∀ τ, τ ∈ rows0 ↔ τ ∈ prodR its (nT its) ∧ SchL its τ) (h : ∀ τ, τ ∈ rows ↔ τ ∈ rows0 ∧ AgAll its told told.length τ) : Rows its (nT its) told rows := fun τ => by rw [h, h0]
theorem rows_ne {rows : List (List Int)} (S : StOk its) (A : AskOk its) (F : MsFor its ms) (hl : ms.length = its.length) (R : Rows its (nT its) told rows) : rows ≠ [] ↔ ∃ τ, (syOf ms).Sched (nOf its) τ ∧ AglT its told τ := by
  have O := F.ok S hl
  have hn := nOf_le S
  have qn : ∀ q ∈ qsK its its.length, q.2 < nOf its := fun q hq => by
    obtain ⟨q1, q2⟩ := qs_ok S A F hl hq
    exact O.cnt q.1 q.2 q1 q2
  constructor
  · intro ne
    obtain ⟨τ, hτ⟩ := List.exists_mem_of_ne_nil _ ne
    obtain ⟨⟨h1, h2⟩, h3⟩ := (R τ).mp hτ
    have pos : ∀ c, c < nOf its → (((fL τ c).toNat : Nat) : Int) = fL τ c := fun c hc => by
      obtain ⟨x, _, e, _⟩ := row_bounds h1 (c := c) (by omega)
      rw [e]
      omega
    exact ⟨_, sched_of_row S F hl (cnt_nT S F hl) hn h1 h2, (ag_iff (k := nT its) fun q hq => (pos _ (qn q hq)).symm).mp h3⟩
  · rintro ⟨σ, h1, h2⟩
    obtain ⟨q1, q2, q3⟩ := row_of_sched (k := nT its) S F hl hn h1
    exact List.ne_nil_of_mem ((R _).mpr ⟨⟨q1, q2⟩, (ag_iff (k := nT its) fun q hq => q3 _ (qn q hq)).mpr h2⟩)
/-- one of the two answers is right -/
theorem one_right {q : Nat × Nat} {τ : Nat → Nat} (hq : (qsK its its.length)[told.length]? = some q) (h : AglT its told τ) {x : Int} (hx : x = 0 ∨ x = 1) : AglT its (told ++ [x]) τ ∨ AglT its (told ++ [1 - x]) τ := by
  rw [AglT_snoc hq, AglT_snoc hq]
  unfold Agr
  rcases hx with rfl | rfl
  · by_cases e : τ q.2 ≤ q.1
    · right; simp [h, e]
    · left; simp [h]; omega
  · by_cases e : τ q.2 ≤ q.1
    · left; simp [h, e]
    · right; simp [h]; omega
end
section
variable {s : Sto} {Q : Vl → Sto → Prop} {its : List (List Ev)}
def RtI (s0 : Sto) (its : List (List Ev)) (ms : List Mo) (d l c a b ap mr hr r x0 x1 : Nat) (rows0 : List (List Int)) (j : Nat) (lo : Lo) (s' : Sto) : Prop :=
  ∃ (told : List Int) (bd lt fg wt wg : Nat) (L G : List Int) (x2 x6 : Option Vl), told.length = j ∧ lo = [some (.ref d), some (stV its), x2, some (.ref s0.length), some (.ref r), some (.tup (told.map Vl.int)), x6] ∧ (∀ x ∈ told, x = 0 ∨ x = 1) ∧ WdG s' a b s0.length ap bd mr hr lt fg wt wg its ms told L G ∧ Know its ms told L G ∧ (∀ x ∈ [bd, lt, fg, wt, wg], s0.length ≤ x) ∧ HeldR s' x0 x1 r rows0 ∧ x1 ≤ s'.length ∧ Dk s' d l (c + j) ∧ ∃ τ, (syOf ms).Sched (nOf its) τ ∧ AglT its told τ
theorem bits_pn {told : List Int} (h : ∀ x ∈ told, x = 0 ∨ x = 1) (hl : told.length ≤ 100) : ∃ y, ∀ s, oRepr [.tup (told.map Vl.int)] s = some (.str y, s) := by
  refine (Pn.tup (n := 1) (w := 64) fun v hv => ?_).repr (by decide) (by simp; omega)
  obtain ⟨x, hx, rfl⟩ := List.mem_map.mp hv
  exact Pn.int (by have := h x hx; omega)
theorem rightS {d l c : Nat} (S : StOk its) (A : AskOk its) (h7 : its.length ≤ 7) (hn3 : nT its ≤ 3) (D : Dk s d l c) (hc : c + 100 < 1000000) (k : ∀ s', Dk s' d l (c + 60) → Q (.bl true) s') : WE (m__law_right [.ref d, stV its]) s Q NoX := by
  have hdl := D.lt
  unfold m__law_right b__law_right
  simp [WE_eMake]
  have ql := qsK_len S.sm its.length
  refine factsG (answers := []) S A (by simp) (by simp) (fun ms F hl => ⟨_, never, fun i q x _ h => by simp at h⟩) fun ms s1 a b ap bd mr hr lt fg wt wg L G F hl W1 K1 ha new1 f1 => ?_
  simp
  refine schedules S h7 hn3 fun r rows0 s2 H2 hrl R0 f2 => ?_
  have R0 : ∀ τ, τ ∈ rows0 ↔ τ ∈ prodR its (nT its) ∧ SchL its τ := R0
  have W2 := W1.fr f2 (by simp)
  have cells : ∀ q ∈ qsK its its.length, ∀ τ ∈ rows0, q.2 < τ.length := fun q hq τ hτ => by
    rw [(mem_prodR.mp ((R0 τ).mp hτ).1).1]
    have O := F.ok S hl
    obtain ⟨q1, q2⟩ := qs_ok S A F hl hq
    have := O.cnt q.1 q.2 q1 q2
    have := nOf_le S
    omega
  have RR0 : Rows its (nT its) [] rows0 := fun τ => by rw [R0]; exact ⟨fun h => ⟨h, fun i q x hi => by simp at hi⟩, fun h => h.1⟩
  have ne0 : rows0 ≠ [] := (rows_ne S A F hl RR0).mpr ⟨_, never, fun i q x _ h => by simp at h⟩
  simp
  refine fatesRight W2 S A F hl K1 h7 hn3 H2 hrl RR0 ne0 fun s3 f3 => ?_
  simp
  rw [lawQuestions]
  refine questionsG S fun s4 e4 f4 => ?_
  simp [oLen_lst e4]
  rw [rngW_nat (by omega)]
  have le1 := f1.le
  have le2 := f2.le
  have le3 := f3.le
  have le4 := f4.le
  have hfc := lt_of_get W1.fa
  have f14 : Fr [] s s4 := ((f1.trans f2).trans f3).trans f4
  refine loopX_inv (RtI s its ms d l c a b ap mr hr r s1.length s2.length rows0) ⟨[], bd, lt, fg, wt, wg, L, G, _, _, rfl, rfl, by simp, (W2.fr f3 (by simp)).fr f4 (by simp), K1, fun x hx => (new1 x hx).1, (H2.fr f3 (by simp)).fr f4 (by simp), by omega, D.fr f14 (by simp) (by simp), _, never, fun i q x _ h => by simp at h⟩ ?_ ?_
  · rintro j v lo s5 hv ⟨told, bd, lt, fg, wt, wg, L, G, x2, x6, rfl, rfl, hbt, W5, K5, new5, H5, le5, D5, τ0, ht1, ht2⟩
    obtain ⟨hj, rfl⟩ := rng_get hv
    have hq := List.getElem?_eq_getElem hj
    simp
    refine (draw D5 (by omega) (by omega) (by omega)).use ?_
    rintro v s6 ⟨x, rfl, hx, D6, f6⟩
    have hdo : ∀ y ∈ [d, l], (y < a ∨ b ≤ y) ∧ y ∉ [s.length, bd, lt, fg, wt, wg] := fun y hy => by
      have : y < s.length := by simp at hy; rcases hy with rfl | rfl <;> omega
      refine ⟨Or.inl (by omega), fun z => ?_⟩
      rcases List.mem_cons.mp z with rfl | z
      · omega
      · have := new5 y z
        omega
    have W6 := W5.fr f6 hdo
    have H6 := H5.fr f6 (fun y hy => by have := (hdo y hy).1; simp at hy; left; rcases hy with rfl | rfl <;> omega)
    have le6 := f6.le
    have ll : told.length + 1 ≤ LIM := limB (by omega)
    simp [ll]
    rw [show told.map Vl.int ++ [Vl.int (x : Int)] = (told ++ [(x : Int)]).map Vl.int by simp]
    refine agreeing S (H6.wide (Nat.le_refl _) (by omega)) hrl (by simp; omega) cells fun r1 rows1 s7 H7 hrl7 R7 f7 => ?_
    have RR7 := rows_of R0 R7
    have oe := (H7.fr (Fr.refl.push (X := []) (Ob.lst [])) (by simp)).opEq0 get_last
    have ne7 := rows_ne S A F hl RR7
    obtain ⟨ans, hans, hex, hsel⟩ : ∃ ans : Int, (ans = 0 ∨ ans = 1) ∧ (∃ τ, (syOf ms).Sched (nOf its) τ ∧ AglT its (told ++ [ans]) τ) ∧ (if rows1 = [] then 1 - (x : Int) else x) = ans := by
      by_cases he : rows1 = []
      · refine ⟨1 - x, by omega, ⟨τ0, ht1, ?_⟩, by rw [if_pos he]⟩
        rcases one_right hq ht2 (x := (x : Int)) (by omega) with z | z
        · exact absurd he (ne7.mpr ⟨τ0, ht1, z⟩)
        · exact z
      · exact ⟨x, by omega, ne7.mp he, by rw [if_neg he]⟩
    have hb2 : ∀ y ∈ told ++ [ans], y = 0 ∨ y = 1 := fun y hy => by
      rcases List.mem_append.mp hy with z | z
      · exact hbt y z
      · simp at z; subst z; exact hans
    generalize hs8 : s7 ++ [Ob.lst []] = s8
    have f8 : Fr [] s6 s8 := hs8 ▸ f7.push _
    rw [hs8] at oe
    have W8 := W6.fr f8 (by simp)
    have H8 := H6.fr f8 (by simp)
    have le8 := f8.le
    have D8 := D6.fr f8 (by simp) (by simp)
    have fa8 : s8[s.length]? = some (.ins 5 [("story", stV its), ("told", .tup (told.map Vl.int)), ("asked_pairs", .ref ap), ("bounds", .ref bd)]) := W8.fa
    obtain ⟨y1, p1⟩ := (Pn.int (i := (told.length : Int) + 1) (by omega)).repr (by decide) (by decide)
    obtain ⟨y2, p2⟩ := bits_pn hb2 (by simp; omega)
    rw [List.map_append] at p2
    simp only [List.map_cons, List.map_nil] at p2
    have fin : ∀ {Q' : Vl → Sto → Prop} {E' : Ex → Sto → Prop}, (∀ s9 bd' lt' fg' wt' wg' L' G', WdG s9 a b s.length ap bd' mr hr lt' fg' wt' wg' its ms (told ++ [ans]) L' G' → Know its ms (told ++ [ans]) L' G' → (∀ x ∈ [bd', lt', fg', wt', wg'], s8.length ≤ x ∧ x < s9.length) → Fr [s.length] s8 s9 → Q' (.int ((told.length : Int) + 1)) s9) → WE (m_Facts_tell [.ref s.length, .int ans]) s8 Q' E' := by
      intro Q' E' kq
      refine tellK W8 S A F hl K5 hq hans hex fun s9 bd' lt' fg' wt' wg' L' G' W9 K9 n9 f9 => ?_
      have := kq s9 bd' lt' fg' wt' wg' L' G' W9 K9 n9 f9
      simpa using this
    by_cases he : rows1 = []
    all_goals
      first | rw [if_pos he] at hsel | rw [if_neg he] at hsel
      simp [oe, he, hsel, ll, WE_eMeth, hs8]
      rw [methW_ins (m := "tell") (tab := tabA 1 tab_tell) (mf := arg 2 m_Facts_tell) fa8 rfl (by simp [getS])]
      simp
      refine fin fun s9 bd' lt' fg' wt' wg' L' G' W9 K9 n9 f9 => ?_
      simp [p1, k_to W9, p2]
      rw [show told.map Vl.int ++ [Vl.int ans] = (told ++ [ans]).map Vl.int by simp]
      have le9 := f9.le
      have H9 := H8.fr f9 (by simp; omega)
      refine agreeing S (H9.wide (Nat.le_refl _) (by omega)) hrl (by simp; omega) cells fun r2 rows2 s10 H10 hrl10 R10 f10 => ?_
      have RR10 := rows_of R0 R10
      have ne10 := (rows_ne S A F hl RR10).mpr hex
      have W10 := W9.fr f10 (by simp)
      simp
      refine fatesRight W10 S A F hl K9 h7 hn3 H10 hrl10 RR10 ne10 fun s11 f11 => ?_
      have le10 := f10.le
      have le11 := f11.le
      simp
      exact ⟨told ++ [ans], bd', lt', fg', wt', wg', L', G', _, _, by simp, by rw [List.map_append]; rfl, hb2, W10.fr f11 (by simp), K9, fun y hy => by have := (n9 y hy).1; omega, (H9.fr f10 (by simp)).fr f11 (by simp), by omega, ((D8.fr f9 (by simp; omega) (by simp; omega)).fr f10 (by simp) (by simp)).fr f11 (by simp) (by simp), hex⟩
  · rintro lo s5 ⟨told, bd, lt, fg, wt, wg, L, G, x2, x6, htl, rfl, hbt, W5, K5, new5, H5, le5, D5, τ0, ht1, ht2⟩
    rw [rng_len] at htl D5
    simp [WE_eMake]
    refine factsG (answers := told) S A (by omega) hbt (fun ms' F' hl' => ?_) fun ms' s6 a' b' ap' bd' mr' hr' lt' fg' wt' wg' L' G' F' hl' W6 K6 ha' new6 f6 => ?_
    · rw [F'.uniq F hl' hl]
      exact ⟨τ0, ht1, ht2⟩
    · have le6 := f6.le
      have H6 := H5.fr f6 (by simp)
      simp
      refine agreeing S (H6.wide (Nat.le_refl _) (by omega)) hrl (by omega) cells fun r2 rows2 s7 H7 hrl7 R7 f7 => ?_
      have RR7 := rows_of R0 R7
      have ne7 := (rows_ne S A F hl RR7).mpr ⟨τ0, ht1, ht2⟩
      simp
      refine fatesRight (W6.fr f7 (by simp)) S A F' hl' K6 h7 hn3 H7 hrl7 RR7 ne7 fun s8 f8 => ?_
      refine k s8 ((((D5.fr f6 (by simp) (by simp)).fr f7 (by simp) (by simp)).fr f8 (by simp) (by simp)).mono (by omega))
end
theorem nT_le {its : List (List Ev)} {m : Nat} (S : StOk its) (h : okL 0 its.flatten m) : nT its ≤ m := by
  obtain ⟨n, h4, h6, h7⟩ := S.at (i := its.length) (Nat.le_refl _)
  rw [List.take_length] at h6
  have := okL_uniq h h6
  unfold nT
  rw [held_len, h7.len]
  omega
theorem pure_law : ∀ ns : List Int, ns.length ≤ 63 → ∃ st, m_law [.scr ns] [] = .ok (.bl true) st := by
  intro ns hns
  have key : WE (m_law [.scr ns]) [] (fun v _ => v = .bl true) NoX := by
    unfold m_law b_law
    simp
    refine (deck hns).use ?_
    rintro v s1 ⟨d, l, rfl, D, _⟩
    simp
    rw [show (5 : Int) = ((5 : Nat) : Int) from rfl, rngW_nat (by omega)]
    refine loopX_inv (fun t lo s' => ∃ x2, lo = [some (.scr ns), some (.ref d), x2] ∧ Dk s' d l (1000 * t)) ?_ ?_ ?_
    · exact ⟨none, rfl, D⟩
    · rintro t v lo s2 hv ⟨x2, rfl, D2⟩
      obtain ⟨ht, rfl⟩ := rng_get hv
      simp
      refine (draw D2 (by omega) (by omega) (by omega)).use ?_
      rintro v s3 ⟨r, rfl, hr, D3, f3⟩
      simp
      refine (draw D3 (by omega) (by omega) (by omega)).use ?_
      rintro v s4 ⟨r2, rfl, hr2, D4, f4⟩
      simp
      rw [show (1 : Int) + r = ((1 + r : Nat) : Int) by omega]
      refine (story D4 (by omega) (by omega) (by omega) (by omega)).use ?_
      rintro v s5 ⟨its, m, rfl, ok, hm, hlen, hsm, D5, f5⟩
      have S : StOk its := ⟨⟨m, ok, by omega⟩, hsm.1, by omega⟩
      simp
      refine rightS S hsm.2 (by omega) (by have := nT_le S ok; omega) D5 (by omega) fun s6 D6 => ?_
      simp
      exact D6.mono (by omega)
    · rintro lo s2 ⟨x2, rfl, D2⟩
      simp
  obtain ⟨a, s', e, rfl⟩ := key.get
  exact ⟨s', e⟩
end K32

open PySem PySem.W PyProof.Rows
set_option maxRecDepth 100000 in
set_option maxHeartbeats 0 in
theorem PySem.Challenge.cw_maybegone_k32_facts_by_all_schedules_holds : PySem.Challenge.rw_maybegone_k32_facts_by_all_schedules.Holds := by
  w_on; o_law; k_head; (case hw => w_witness2)
  k_fill
  refine Sm.walk_G (l := PySem.Challenge.rw_maybegone_k32_facts_by_all_schedules) (n := 63) (k := 8) (x := "_law_script") (m := K32.m_law) rfl (by decide) rfl ⟨rfl, by decide, by decide⟩ (fun w h Y => PySem.W.kIn_of Y) ?F K32.pure_law
  case F =>
    intro w mg fa h KX G hmg
    refine' K32.all_mk KX G hmg ?aC_Heap ?aC_Bounds ?aC_Facts ?a_holders_of ?a_moments_of ?a_questions_of ?a_numbered ?a__law_deck ?a__law_draw ?a__law_one ?a__law_event ?a__law_story ?a__law_heap ?a__law_closed ?a__law_questions ?a__law_is_schedule ?a__law_schedules ?a__law_agreeing ?a__law_fates_right ?a__law_right ?a_law ?in_Heap ?ma_Heap_apply ?ma_Heap_held_lists ?ma_Heap_reached_flags ?in_Bounds ?ma_Bounds_chain ?ma_Bounds_clash ?ma_Bounds_copied ?ma_Bounds_keep_gone ?ma_Bounds_keep_there ?ma_Bounds_take_reached ?in_Facts ?ma_Facts_fate ?ma_Facts_tell ?ma_Facts_window ?l_HeapU_initU ?c_HeapU_initU ?k_HeapU_initU ?l_Heap_apply ?c_Heap_apply ?k_Heap_apply ?l_Heap_held_lists ?c_Heap_held_lists ?k_Heap_held_lists ?l_Heap_reached_flags ?c_Heap_reached_flags ?k_Heap_reached_flags ?l_holders_of ?c_holders_of ?k_holders_of ?l_moments_of ?c_moments_of ?k_moments_of ?l_questions_of ?c_questions_of ?k_questions_of ?l_BoundsU_initU ?c_BoundsU_initU ?k_BoundsU_initU ?l_Bounds_copied ?c_Bounds_copied ?k_Bounds_copied ?l_Bounds_keep_there ?c_Bounds_keep_there ?k_Bounds_keep_there ?l_Bounds_keep_gone ?c_Bounds_keep_gone ?k_Bounds_keep_gone ?l_Bounds_take_reached ?c_Bounds_take_reached ?k_Bounds_take_reached ?l_numbered ?c_numbered ?k_numbered ?l_Bounds_chain ?c_Bounds_chain ?k_Bounds_chain ?l_Bounds_clash ?c_Bounds_clash ?k_Bounds_clash ?l_Facts_tell ?c_Facts_tell ?k_Facts_tell ?l_FactsU_initU ?lT_FactsU_initU ?lE_FactsU_initU_0 ?c_FactsU_initU ?k_FactsU_initU ?l_Facts_fate ?c_Facts_fate ?k_Facts_fate ?l_Facts_window ?c_Facts_window ?k_Facts_window ?l__law_deck ?c__law_deck ?k__law_deck ?l__law_draw ?c__law_draw ?k__law_draw ?l__law_one ?c__law_one ?k__law_one ?l__law_event ?c__law_event ?k__law_event ?l__law_story ?c__law_story ?k__law_story ?l__law_heap ?c__law_heap ?k__law_heap ?l__law_closed ?c__law_closed ?k__law_closed ?l__law_questions ?c__law_questions ?k__law_questions ?l__law_is_schedule ?c__law_is_schedule ?k__law_is_schedule ?l__law_schedules ?c__law_schedules ?k__law_schedules ?l__law_agreeing ?c__law_agreeing ?k__law_agreeing ?l__law_fates_right ?c__law_fates_right ?k__law_fates_right ?l__law_right ?c__law_right ?k__law_right ?l_law ?c_law ?k_law ?pg_Heap ?hd_Heap ?po_Heap ?sa_Heap ?mm_Heap ?kc_Heap ?ii_Heap ?na_Heap_asked_pairs ?na_Heap_bounds ?na_Heap_first_gone ?na_Heap_holders ?na_Heap_kept_cells ?na_Heap_last_there ?na_Heap_moments ?na_Heap_standing ?na_Heap_story ?na_Heap_strong ?na_Heap_told ?na_Heap_why_gone ?na_Heap_why_there ?mi_Heap_apply ?mi_Heap_held_lists ?mi_Heap_reached_flags ?pg_Bounds ?hd_Bounds ?po_Bounds ?sa_Bounds ?mm_Bounds ?kc_Bounds ?ii_Bounds ?na_Bounds_asked_pairs ?na_Bounds_bounds ?na_Bounds_first_gone ?na_Bounds_holders ?na_Bounds_kept_cells ?na_Bounds_last_there ?na_Bounds_moments ?na_Bounds_standing ?na_Bounds_story ?na_Bounds_strong ?na_Bounds_told ?na_Bounds_why_gone ?na_Bounds_why_there ?mi_Bounds_chain ?mi_Bounds_clash ?mi_Bounds_copied ?mi_Bounds_keep_gone ?mi_Bounds_keep_there ?mi_Bounds_take_reached ?pg_Facts ?hd_Facts ?po_Facts ?sa_Facts ?mm_Facts ?kc_Facts ?ii_Facts ?na_Facts_asked_pairs ?na_Facts_bounds ?na_Facts_first_gone ?na_Facts_holders ?na_Facts_kept_cells ?na_Facts_last_there ?na_Facts_moments ?na_Facts_standing ?na_Facts_story ?na_Facts_strong ?na_Facts_told ?na_Facts_why_gone ?na_Facts_why_there ?mi_Facts_fate ?mi_Facts_tell ?mi_Facts_window ?z_abs ?z_all ?z_any ?z_enumerate ?z_int ?z_len ?z_list ?z_max ?z_min ?z_range ?z_repr ?z_set ?z_sorted ?z_tuple
    (case aC_Heap => k_is)
    (case aC_Bounds => k_is)
    (case aC_Facts => k_is)
    (case a_holders_of => k_is)
    (case a_moments_of => k_is)
    (case a_questions_of => k_is)
    (case a_numbered => k_is)
    (case a__law_deck => k_is)
    (case a__law_draw => k_is)
    (case a__law_one => k_is)
    (case a__law_event => k_is)
    (case a__law_story => k_is)
    (case a__law_heap => k_is)
    (case a__law_closed => k_is)
    (case a__law_questions => k_is)
    (case a__law_is_schedule => k_is)
    (case a__law_schedules => k_is)
    (case a__law_agreeing => k_is)
    (case a__law_fates_right => k_is)
    (case a__law_right => k_is)
    (case a_law => k_is)
    (case in_Heap => k_is)
    (case ma_Heap_apply => k_is)
    (case ma_Heap_held_lists => k_is)
    (case ma_Heap_reached_flags => k_is)
    (case in_Bounds => k_is)
    (case ma_Bounds_chain => k_is)
    (case ma_Bounds_clash => k_is)
    (case ma_Bounds_copied => k_is)
    (case ma_Bounds_keep_gone => k_is)
    (case ma_Bounds_keep_there => k_is)
    (case ma_Bounds_take_reached => k_is)
    (case in_Facts => k_is)
    (case ma_Facts_fate => k_is)
    (case ma_Facts_tell => k_is)
    (case ma_Facts_window => k_is)
    (case l_HeapU_initU => k_is)
    (case c_HeapU_initU => k_is)
    (case k_HeapU_initU => k_is)
    (case l_Heap_apply => k_is)
    (case c_Heap_apply => k_is)
    (case k_Heap_apply => k_is)
    (case l_Heap_held_lists => k_is)
    (case c_Heap_held_lists => k_is)
    (case k_Heap_held_lists => k_is)
    (case l_Heap_reached_flags => k_is)
    (case c_Heap_reached_flags => k_is)
    (case k_Heap_reached_flags => k_is)
    (case l_holders_of => k_is)
    (case c_holders_of => k_is)
    (case k_holders_of => k_is)
    (case l_moments_of => k_is)
    (case c_moments_of => k_is)
    (case k_moments_of => k_is)
    (case l_questions_of => k_is)
    (case c_questions_of => k_is)
    (case k_questions_of => k_is)
    (case l_BoundsU_initU => k_is)
    (case c_BoundsU_initU => k_is)
    (case k_BoundsU_initU => k_is)
    (case l_Bounds_copied => k_is)
    (case c_Bounds_copied => k_is)
    (case k_Bounds_copied => k_is)
    (case l_Bounds_keep_there => k_is)
    (case c_Bounds_keep_there => k_is)
    (case k_Bounds_keep_there => k_is)
    (case l_Bounds_keep_gone => k_is)
    (case c_Bounds_keep_gone => k_is)
    (case k_Bounds_keep_gone => k_is)
    (case l_Bounds_take_reached => k_is)
    (case c_Bounds_take_reached => k_is)
    (case k_Bounds_take_reached => k_is)
    (case l_numbered => k_is)
    (case c_numbered => k_is)
    (case k_numbered => k_is)
    (case l_Bounds_chain => k_is)
    (case c_Bounds_chain => k_is)
    (case k_Bounds_chain => k_is)
    (case l_Bounds_clash => k_is)
    (case c_Bounds_clash => k_is)
    (case k_Bounds_clash => k_is)
    (case l_Facts_tell => k_is)
    (case c_Facts_tell => k_is)
    (case k_Facts_tell => k_is)
    (case l_FactsU_initU => k_is)
    (case lT_FactsU_initU => k_is)
    (case lE_FactsU_initU_0 => k_is)
    (case c_FactsU_initU => k_is)
    (case k_FactsU_initU => k_is)
    (case l_Facts_fate => k_is)
    (case c_Facts_fate => k_is)
    (case k_Facts_fate => k_is)
    (case l_Facts_window => k_is)
    (case c_Facts_window => k_is)
    (case k_Facts_window => k_is)
    (case l__law_deck => k_is)
    (case c__law_deck => k_is)
    (case k__law_deck => k_is)
    (case l__law_draw => k_is)
    (case c__law_draw => k_is)
    (case k__law_draw => k_is)
    (case l__law_one => k_is)
    (case c__law_one => k_is)
    (case k__law_one => k_is)
    (case l__law_event => k_is)
    (case c__law_event => k_is)
    (case k__law_event => k_is)
    (case l__law_story => k_is)
    (case c__law_story => k_is)
    (case k__law_story => k_is)
    (case l__law_heap => k_is)
    (case c__law_heap => k_is)
    (case k__law_heap => k_is)
    (case l__law_closed => k_is)
    (case c__law_closed => k_is)
    (case k__law_closed => k_is)
    (case l__law_questions => k_is)
    (case c__law_questions => k_is)
    (case k__law_questions => k_is)
    (case l__law_is_schedule => k_is)
    (case c__law_is_schedule => k_is)
    (case k__law_is_schedule => k_is)
    (case l__law_schedules => k_is)
    (case c__law_schedules => k_is)
    (case k__law_schedules => k_is)
    (case l__law_agreeing => k_is)
    (case c__law_agreeing => k_is)
    (case k__law_agreeing => k_is)
    (case l__law_fates_right => k_is)
    (case c__law_fates_right => k_is)
    (case k__law_fates_right => k_is)
    (case l__law_right => k_is)
    (case c__law_right => k_is)
    (case k__law_right => k_is)
    (case l_law => k_is)
    (case c_law => k_is)
    (case k_law => k_is)
    (case pg_Heap => k_is)
    (case hd_Heap => k_is)
    (case po_Heap => k_is)
    (case sa_Heap => k_is)
    (case mm_Heap => k_is)
    (case kc_Heap => k_is)
    (case ii_Heap => k_is)
    (case na_Heap_asked_pairs => k_is)
    (case na_Heap_bounds => k_is)
    (case na_Heap_first_gone => k_is)
    (case na_Heap_holders => k_is)
    (case na_Heap_kept_cells => k_is)
    (case na_Heap_last_there => k_is)
    (case na_Heap_moments => k_is)
    (case na_Heap_standing => k_is)
    (case na_Heap_story => k_is)
    (case na_Heap_strong => k_is)
    (case na_Heap_told => k_is)
    (case na_Heap_why_gone => k_is)
    (case na_Heap_why_there => k_is)
    (case mi_Heap_apply => k_is)
    (case mi_Heap_held_lists => k_is)
    (case mi_Heap_reached_flags => k_is)
    (case pg_Bounds => k_is)
    (case hd_Bounds => k_is)
    (case po_Bounds => k_is)
    (case sa_Bounds => k_is)
    (case mm_Bounds => k_is)
    (case kc_Bounds => k_is)
    (case ii_Bounds => k_is)
    (case na_Bounds_asked_pairs => k_is)
    (case na_Bounds_bounds => k_is)
    (case na_Bounds_first_gone => k_is)
    (case na_Bounds_holders => k_is)
    (case na_Bounds_kept_cells => k_is)
    (case na_Bounds_last_there => k_is)
    (case na_Bounds_moments => k_is)
    (case na_Bounds_standing => k_is)
    (case na_Bounds_story => k_is)
    (case na_Bounds_strong => k_is)
    (case na_Bounds_told => k_is)
    (case na_Bounds_why_gone => k_is)
    (case na_Bounds_why_there => k_is)
    (case mi_Bounds_chain => k_is)
    (case mi_Bounds_clash => k_is)
    (case mi_Bounds_copied => k_is)
    (case mi_Bounds_keep_gone => k_is)
    (case mi_Bounds_keep_there => k_is)
    (case mi_Bounds_take_reached => k_is)
    (case pg_Facts => k_is)
    (case hd_Facts => k_is)
    (case po_Facts => k_is)
    (case sa_Facts => k_is)
    (case mm_Facts => k_is)
    (case kc_Facts => k_is)
    (case ii_Facts => k_is)
    (case na_Facts_asked_pairs => k_is)
    (case na_Facts_bounds => k_is)
    (case na_Facts_first_gone => k_is)
    (case na_Facts_holders => k_is)
    (case na_Facts_kept_cells => k_is)
    (case na_Facts_last_there => k_is)
    (case na_Facts_moments => k_is)
    (case na_Facts_standing => k_is)
    (case na_Facts_story => k_is)
    (case na_Facts_strong => k_is)
    (case na_Facts_told => k_is)
    (case na_Facts_why_gone => k_is)
    (case na_Facts_why_there => k_is)
    (case mi_Facts_fate => k_is)
    (case mi_Facts_tell => k_is)
    (case mi_Facts_window => k_is)
    (case z_abs => k_is)
    (case z_all => k_is)
    (case z_any => k_is)
    (case z_enumerate => k_is)
    (case z_int => k_is)
    (case z_len => k_is)
    (case z_list => k_is)
    (case z_max => k_is)
    (case z_min => k_is)
    (case z_range => k_is)
    (case z_repr => k_is)
    (case z_set => k_is)
    (case z_sorted => k_is)
    (case z_tuple => k_is)
