import PyProof.Rows.All
import Wide.All
import OpenK.AllK
import Wide.FinOn
import HandS.ForMost
import HandS.ForExc
import HandS.CallSlots
import HandS.Strs
import HandS.TupAny
import HandS.Deep
import HandS.Conv
import HandS.SortInts
import PyProof.ReprRoads
import HandS.Style
import HandS.ExcOwn
import HandS.SetFor
import HandS.New0
import HandS.Star
import HandS.Text
import HandS.More
import HandS.IsInst
import HandS.SetKeys
import KE.GoesMore
import HandS.Defaults
import HandS.NoneIn
import HandS.FStr
import HandS.Flow
import HandS.RaiseMore
import PySem.Challenge.RW_maybegone_k06_texts_of_programs
import PyProof.ReprLen
set_option Elab.async false
set_option linter.all false
set_option maxRecDepth 100000
set_option maxHeartbeats 4000000
/-! S0: a pure world beside the abstract heap: values, objects, stores, results; how they stand for each other -/
namespace Sm
open PySem L2

/-- pure values: a tuple is its items, a mutable object is its number -/
inductive Vl where
  | non | bl (b : Bool) | int (i : Int) | str (x : Str) | tup (xs : List Vl) | ref (i : Nat) | scr (ns : List Int) | ty (n : String) | fn (i : Nat)
/-- mutable objects -/
inductive Ob where
  | lst (xs : List Vl)
  | dic (kvs : List (Key × Vl))
  | dit (kvs : List (List Key × Vl))
  | fdic (kvs : List (Key × Vl))
  | ins (c : Nat) (fs : List (Str × Vl))
  | set (xs : List Int)
abbrev Sto := List Ob
/-- an exception: its class, its fields (none: it has no dict) -/
structure Ex where
  c : Nat
  fs : Option (List (Str × Vl))
inductive Res (α : Type) where
  | ok (a : α) (s : Sto) | exc (e : Ex) (s : Sto) | fail
abbrev M (α : Type) := Sto → Res α
abbrev Lo := List (Option Vl)
def bnd {α β : Type} (m : M α) (f : α → M β) : M β := fun s => match m s with
  | .ok a s' => f a s'
  | .exc e s' => .exc e s'
  | .fail => .fail
def ret {α : Type} (a : α) : M α := fun s => .ok a s
def failM {α : Type} : M α := fun _ => .fail
def lift {α : Type} (f : Sto → Option (α × Sto)) : M α := fun s => match f s with
  | some (a, s') => .ok a s'
  | none => .fail

/-- the tables: the written part, the classes, the defs held as values -/
structure Tb where
  K : PySem.W.Frag
  w : World
  cl : List Addr
  fns : List Addr

mutual
inductive RV (T : Tb) (ρ : List Addr) (H : Hp) : Vl → V → Prop
  | non : RV T ρ H .non .non
  | bl (b : Bool) : RV T ρ H (.bl b) (.bl b)
  | int (i : Int) : RV T ρ H (.int i) (.int i)
  | str (x : Str) : RV T ρ H (.str x) (.str x)
  | tup {a : Addr} {vs : List V} {xs : List Vl} : SqT T.K H a vs → RVs T ρ H xs vs → RV T ρ H (.tup xs) (.ref a)
  | ref {i : Nat} {a : Addr} : ρ[i]? = some a → RV T ρ H (.ref i) (.ref a)
  | scr {ns : List Int} {a : Addr} {o : Obj} : H a = some (.frz o (.lst (ns.map V.int))) → RV T ρ H (.scr ns) (.ref a)
  | scrK {ns : List Int} {a : Addr} : (∀ H' : Hp, SqL T.K H' a (ns.map V.int)) → RV T ρ H (.scr ns) (.ref a)
  | ty (n : String) : RV T ρ H (.ty n) (.ty n)
  | fn {i : Nat} {a : Addr} : T.fns[i]? = some a → RV T ρ H (.fn i) (.ref a)
inductive RVs (T : Tb) (ρ : List Addr) (H : Hp) : List Vl → List V → Prop
  | nil : RVs T ρ H [] []
  | cons {x : Vl} {v : V} {xs : List Vl} {vs : List V} : RV T ρ H x v → RVs T ρ H xs vs → RVs T ρ H (x :: xs) (v :: vs)
end

/-- more is known, nothing that cannot change has changed -/
structure Ext0 (T : Tb) (ρ : List Addr) (H : Hp) (ρ' : List Addr) (H' : Hp) : Prop where
  pre : ∀ (i : Nat) (a : Addr), ρ[i]? = some a → ρ'[i]? = some a
  tup : ∀ a vs, SqT T.K H a vs → SqT T.K H' a vs
  frz : ∀ a o u, H a = some (.frz o (.lst u)) → H' a = some (.frz o (.lst u))
structure Ext (T : Tb) (ρ : List Addr) (H : Hp) (ρ' : List Addr) (H' : Hp) : Prop extends Ext0 T ρ H ρ' H' where
  frd : ∀ a o u, H a = some (.frz o (.dK u)) → H' a = some (.frz o (.dK u))
theorem Ext.refl {T : Tb} {ρ : List Addr} {H : Hp} : Ext T ρ H ρ H := ⟨⟨fun _ _ h => h, fun _ _ h => h, fun _ _ _ h => h⟩, fun _ _ _ h => h⟩
theorem Ext.trans {T : Tb} {ρ ρ1 ρ2 : List Addr} {H H1 H2 : Hp} (a : Ext T ρ H ρ1 H1) (b : Ext T ρ1 H1 ρ2 H2) : Ext T ρ H ρ2 H2 :=
  ⟨⟨fun i x h => b.pre i x (a.pre i x h), fun x vs h => b.tup x vs (a.tup x vs h), fun x o u h => b.frz x o u (a.frz x o u h)⟩, fun x o u h => b.frd x o u (a.frd x o u h)⟩

section
variable {T : Tb} {ρ ρ' : List Addr} {H H' : Hp}
mutual
theorem RV.mono0 (e : Ext0 T ρ H ρ' H') : ∀ {x : Vl} {v : V}, RV T ρ H x v → RV T ρ' H' x v
  | _, _, .non => .non
  | _, _, .bl b => .bl b
  | _, _, .int i => .int i
  | _, _, .str x => .str x
  | _, _, .tup h hs => .tup (e.tup _ _ h) (RVs.mono0 e hs)
  | _, _, .ref h => .ref (e.pre _ _ h)
  | _, _, .scr h => .scr (e.frz _ _ _ h)
  | _, _, .scrK h => .scrK h
  | _, _, .ty n => .ty n
  | _, _, .fn h => .fn h
theorem RVs.mono0 (e : Ext0 T ρ H ρ' H') : ∀ {xs : List Vl} {vs : List V}, RVs T ρ H xs vs → RVs T ρ' H' xs vs
  | _, _, .nil => .nil
  | _, _, .cons h hs => .cons (RV.mono0 e h) (RVs.mono0 e hs)
end
theorem RV.mono {x : Vl} {v : V} (h : RV T ρ H x v) (e : Ext T ρ H ρ' H') : RV T ρ' H' x v := h.mono0 e.toExt0
theorem RVs.mono {xs : List Vl} {vs : List V} (h : RVs T ρ H xs vs) (e : Ext T ρ H ρ' H') : RVs T ρ' H' xs vs := h.mono0 e.toExt0
theorem RVs.length : ∀ {xs : List Vl} {vs : List V}, RVs T ρ H xs vs → xs.length = vs.length
  | _, _, .nil => rfl
  | _, _, .cons _ hs => by
    rw [List.length_cons, List.length_cons, RVs.length hs]
theorem RVs.append : ∀ {xs ys : List Vl} {vs us : List V}, RVs T ρ H xs vs → RVs T ρ H ys us → RVs T ρ H (xs ++ ys) (vs ++ us)
  | _, _, _, _, .nil, h => h
  | _, _, _, _, .cons a b, h => .cons a (RVs.append b h)
theorem RVs.get : ∀ {xs : List Vl} {vs : List V} {i : Nat} {x : Vl}, RVs T ρ H xs vs → xs[i]? = some x → ∃ v, vs[i]? = some v ∧ RV T ρ H x v
  | _, _, _, _, .nil, e => by simp at e
  | _, _, 0, _, .cons a _, e => by simp at e; subst e; exact ⟨_, rfl, a⟩
  | _, _, i + 1, x, .cons _ b, e => by
    obtain ⟨v, h1, h2⟩ := RVs.get (i := i) (x := x) b (by simpa using e)
    exact ⟨v, by simpa using h1, h2⟩
theorem RVs.get' : ∀ {xs : List Vl} {vs : List V} {i : Nat} {v : V}, RVs T ρ H xs vs → vs[i]? = some v → ∃ x, xs[i]? = some x ∧ RV T ρ H x v
  | _, _, _, _, .nil, e => by simp at e
  | _, _, 0, _, .cons a _, e => by simp at e; subst e; exact ⟨_, rfl, a⟩
  | _, _, i + 1, v, .cons _ b, e => by
    obtain ⟨x, h1, h2⟩ := RVs.get' (i := i) (v := v) b (by simpa using e)
    exact ⟨x, by simpa using h1, h2⟩
theorem RVs.set {x : Vl} {v : V} (r : RV T ρ H x v) : ∀ {xs : List Vl} {vs : List V} (i : Nat), RVs T ρ H xs vs → RVs T ρ H (xs.set i x) (vs.set i v)
  | _, _, _, .nil => .nil
  | _, _, 0, .cons _ t => .cons r t
  | _, _, i + 1, .cons q t => .cons q (RVs.set r i t)
theorem RVs.take : ∀ {xs : List Vl} {vs : List V} (n : Nat), RVs T ρ H xs vs → RVs T ρ H (xs.take n) (vs.take n)
  | _, _, 0, _ => .nil
  | _, _, _ + 1, .nil => .nil
  | _, _, n + 1, .cons r t => .cons r (RVs.take n t)
theorem RVs.drop : ∀ {xs : List Vl} {vs : List V} (n : Nat), RVs T ρ H xs vs → RVs T ρ H (xs.drop n) (vs.drop n)
  | _, _, 0, r => r
  | _, _, _ + 1, .nil => .nil
  | _, _, n + 1, .cons _ t => RVs.drop n t
end

/-- an object of the store and what stands at its address -/
def RO (T : Tb) (ρ : List Addr) (H : Hp) : Ob → Addr → Prop
  | .lst xs, a => ∃ vs, H a = some (.lst vs) ∧ RVs T ρ H xs vs
  | .dic kvs, a => ∃ vs : List (Key × V), H a = some (.dK vs) ∧ vs.map (·.1) = kvs.map (·.1) ∧ RVs T ρ H (kvs.map (·.2)) (vs.map (·.2))
  | .dit kvs, a => ∃ vs : List (List Key × V), H a = some (.dT vs) ∧ vs.map (·.1) = kvs.map (·.1) ∧ RVs T ρ H (kvs.map (·.2)) (vs.map (·.2))
  | .fdic kvs, a => ∃ (o : Obj) (vs : List (Key × V)), H a = some (.frz o (.dK vs)) ∧ vs.map (·.1) = kvs.map (·.1) ∧ RVs T ρ H (kvs.map (·.2)) (vs.map (·.2))
  | .set xs, a => xs.Nodup ∧ ∃ S : Int → Bool, (∀ k, S k = true ↔ k ∈ xs) ∧ H a = some (SetO T.w a S xs.length)
  | .ins c fs, a => ∃ (C dx : Addr) (vs : List (Str × V)), T.cl[c]? = some C ∧ H a = some (.ins C dx vs) ∧ vs.map (·.1) = fs.map (·.1) ∧ RVs T ρ H (fs.map (·.2)) (vs.map (·.2))
/-- what never stands at a store's address -/
def Fixd : HO → Prop
  | .tup _ => True
  | .frz _ _ => True
  | _ => False
/-- what a store's address never holds -/
def FixT : HO → Prop
  | .tup _ => True
  | .frz _ (.lst _) => True
  | .frz _ (.tup _) => True
  | _ => False
theorem RO.some {T : Tb} {ρ : List Addr} {H : Hp} {o : Ob} {a : Addr} (h : RO T ρ H o a) : ∃ u, H a = some u ∧ ¬ FixT u := by
  cases o with
  | lst xs => obtain ⟨vs, h, _⟩ := h; exact ⟨_, h, fun z => z⟩
  | dic xs => obtain ⟨vs, h, _⟩ := h; exact ⟨_, h, fun z => z⟩
  | dit xs => obtain ⟨vs, h, _⟩ := h; exact ⟨_, h, fun z => z⟩
  | fdic xs => obtain ⟨o, vs, h, _⟩ := h; exact ⟨_, h, fun z => z⟩
  | set xs => obtain ⟨_, S, _, h⟩ := h; exact ⟨_, h, fun z => z⟩
  | ins c xs => obtain ⟨C, dx, vs, _, h, _⟩ := h; exact ⟨_, h, fun z => z⟩
theorem RO.mono {T : Tb} {ρ ρ' : List Addr} {H H' : Hp} {o : Ob} {a : Addr} (h : RO T ρ H o a) (e : Ext0 T ρ H ρ' H') (k : H' a = H a) : RO T ρ' H' o a := by
  cases o with
  | lst xs => obtain ⟨vs, h, r⟩ := h; exact ⟨vs, k.trans h, r.mono0 e⟩
  | dic xs => obtain ⟨vs, h, n, r⟩ := h; exact ⟨vs, k.trans h, n, r.mono0 e⟩
  | dit xs => obtain ⟨vs, h, n, r⟩ := h; exact ⟨vs, k.trans h, n, r.mono0 e⟩
  | fdic xs => obtain ⟨o, vs, h, n, r⟩ := h; exact ⟨o, vs, k.trans h, n, r.mono0 e⟩
  | set xs => obtain ⟨n, S, q, h⟩ := h; exact ⟨n, S, q, k.trans h⟩
  | ins c xs => obtain ⟨C, dx, vs, hc, h, n, r⟩ := h; exact ⟨C, dx, vs, hc, k.trans h, n, r.mono0 e⟩

structure Rel (T : Tb) (ρ : List Addr) (H : Hp) (s : Sto) : Prop where
  len : ρ.length = s.length
  nd : ρ.Nodup
  ob : ∀ (i : Nat) (a : Addr) (o : Ob), ρ[i]? = some a → s[i]? = some o → RO T ρ H o a

section
variable {T : Tb} {ρ ρ' : List Addr} {H H' : Hp} {s : Sto}
theorem Rel.at (r : Rel T ρ H s) {i : Nat} {o : Ob} (h : s[i]? = some o) : ∃ a, ρ[i]? = some a ∧ RO T ρ H o a := by
  have hi : i < ρ.length := by
    have := (List.getElem?_eq_some_iff.mp h).1
    rw [r.len]; exact this
  exact ⟨ρ[i], List.getElem?_eq_getElem hi, r.ob i _ o (List.getElem?_eq_getElem hi) h⟩
theorem Rel.tracked (r : Rel T ρ H s) {i : Nat} {a : Addr} (h : ρ[i]? = some a) : ∃ u, H a = some u ∧ ¬ FixT u := by
  have hi : i < s.length := by
    have := (List.getElem?_eq_some_iff.mp h).1
    rw [← r.len]; exact this
  exact (r.ob i a _ h (List.getElem?_eq_getElem hi)).some
theorem rd_ne {H : Hp} {a p : Addr} {u o : HO} (h : Rd H a u) (hp : H p = none) : Rd (upd H p o) a u := by
  rcases h with h | ⟨z, h⟩
  · exact .inl (by rw [upd_ne (ne_of_none h hp)]; exact h)
  · exact .inr ⟨z, by rw [upd_ne (ne_of_none h hp)]; exact h⟩
/-- a new address -/
theorem ext_upd {p : Addr} {o : HO} (hp : H p = none) : Ext T ρ H ρ (upd H p o) :=
  ⟨⟨fun _ _ h => h, fun a vs h => h.elim (fun q => .inl (rd_ne q hp)) .inr, fun a z u h => by rw [upd_ne (ne_of_none h hp)]; exact h⟩, fun a z u h => by rw [upd_ne (ne_of_none h hp)]; exact h⟩
theorem ext_push {p : Addr} : Ext T ρ H (ρ ++ [p]) H :=
  ⟨⟨fun i a h => by rw [List.getElem?_append_left (List.getElem?_eq_some_iff.mp h).1]; exact h, fun _ _ h => h, fun _ _ _ h => h⟩, fun _ _ _ h => h⟩
/-- a change where nothing fixed stands -/
theorem ext0_set {a : Addr} {u o : HO} (ha : H a = some u) (hu : ¬ FixT u) : Ext0 T ρ H ρ (upd H a o) := by
  refine ⟨fun _ _ h => h, fun b vs h => ?_, fun b z w h => ?_⟩
  · rcases h with (h | ⟨z, h⟩) | h
    · have : b ≠ a := fun e => by subst e; rw [h] at ha; cases ha; exact hu trivial
      exact .inl (.inl (by rw [upd_ne this]; exact h))
    · have : b ≠ a := fun e => by subst e; rw [h] at ha; cases ha; exact hu trivial
      exact .inl (.inr ⟨z, by rw [upd_ne this]; exact h⟩)
    · exact .inr h
  · have : b ≠ a := fun e => by subst e; rw [h] at ha; cases ha; exact hu trivial
    rw [upd_ne this]; exact h
theorem FixT.fixd {u : HO} (h : FixT u) : Fixd u := by
  cases u <;> first | exact trivial | exact h
theorem ext_set {a : Addr} {u o : HO} (ha : H a = some u) (hu : ¬ Fixd u) : Ext T ρ H ρ (upd H a o) :=
  ⟨ext0_set ha fun z => hu z.fixd, fun b z w h => by
    have : b ≠ a := fun e => by subst e; rw [h] at ha; cases ha; exact hu trivial
    rw [upd_ne this]; exact h⟩
/-- something that the store does not know is laid -/
theorem Rel.laid (r : Rel T ρ H s) {p : Addr} {o : HO} (hp : H p = none) : Rel T ρ (upd H p o) s :=
  ⟨r.len, r.nd, fun i a o h1 h2 => (r.ob i a o h1 h2).mono (ext_upd hp).toExt0 (by
    obtain ⟨u, hu, _⟩ := r.tracked h1
    exact upd_ne (ne_of_none hu hp))⟩
theorem getElem?_snoc {α : Type} {l : List α} {x y : α} {i : Nat} (h : (l ++ [x])[i]? = some y) : l[i]? = some y ∨ (i = l.length ∧ y = x) := by
  by_cases hi : i < l.length
  · rw [List.getElem?_append_left hi] at h; exact .inl h
  · rw [List.getElem?_append_right (by omega)] at h
    have h' := h
    have : i - l.length = 0 := by
      cases e : i - l.length with
      | zero => rfl
      | succ n => rw [e] at h; simp at h
    rw [this] at h
    simp at h
    exact .inr ⟨by omega, h.symm⟩
/-- a new object -/
theorem Rel.new (r : Rel T ρ H s) {p : Addr} {o : HO} {b : Ob} (hp : H p = none) (hb : RO T (ρ ++ [p]) (upd H p o) b p) : Rel T (ρ ++ [p]) (upd H p o) (s ++ [b]) := by
  refine ⟨by rw [List.length_append, List.length_append, r.len]; rfl, ?_, fun i a o' h1 h2 => ?_⟩
  · rw [List.nodup_append]
    refine ⟨r.nd, by simp, fun x hx y hy => ?_⟩
    simp at hy
    subst hy
    obtain ⟨i, hi⟩ := List.getElem?_of_mem hx
    obtain ⟨u, hu, _⟩ := r.tracked hi
    exact ne_of_none hu hp
  · rcases getElem?_snoc h1 with q1 | ⟨e1, e2⟩
    · rcases getElem?_snoc h2 with q2 | ⟨e3, e4⟩
      · obtain ⟨u, hu, _⟩ := r.tracked q1
        exact (r.ob i a o' q1 q2).mono ((ext_upd hp).trans ext_push).toExt0 (upd_ne (ne_of_none hu hp))
      · exfalso
        have := (List.getElem?_eq_some_iff.mp q1).1
        have := r.len
        omega
    · rcases getElem?_snoc h2 with q2 | ⟨e3, e4⟩
      · exfalso
        have := (List.getElem?_eq_some_iff.mp q2).1
        have := r.len
        omega
      · subst e2 e4
        exact hb
theorem Rel.newExt (r : Rel T ρ H s) {p : Addr} {o : HO} (hp : H p = none) : Ext T ρ H (ρ ++ [p]) (upd H p o) := (ext_upd hp).trans ext_push
theorem Rel.newRef (r : Rel T ρ H s) {p : Addr} {H1 : Hp} : RV T (ρ ++ [p]) H1 (.ref s.length) (.ref p) :=
  .ref (by rw [← r.len, List.getElem?_append_right (Nat.le_refl _)]; simp)
/-- an object changed -/
theorem Rel.set (r : Rel T ρ H s) {i : Nat} {a : Addr} {o : HO} {b : Ob} (ha : ρ[i]? = some a) (hb : RO T ρ (upd H a o) b a) : Rel T ρ (upd H a o) (s.set i b) := by
  obtain ⟨u, hu, nf⟩ := r.tracked ha
  refine ⟨by rw [List.length_set]; exact r.len, r.nd, fun j c o' h1 h2 => ?_⟩
  by_cases e : j = i
  · subst e
    have ec : c = a := Option.some.inj (h1.symm.trans ha)
    subst ec
    have hl : j < s.length := by rw [← r.len]; exact (List.getElem?_eq_some_iff.mp h1).1
    rw [List.getElem?_set_self hl] at h2
    cases h2
    exact hb
  · rw [List.getElem?_set_ne (fun z => e z.symm)] at h2
    have nc : c ≠ a := fun z => by
      subst z
      exact e (nodup_at r.nd h1 ha)
    exact (r.ob j c o' h1 h2).mono (ext0_set hu nf) (upd_ne nc)
where
  nodup_at {α : Type} {l : List α} {x : α} {i j : Nat} (nd : l.Nodup) (a : l[i]? = some x) (b : l[j]? = some x) : i = j := by
    exact (List.getElem?_inj (List.getElem?_eq_some_iff.mp a).1 nd).mp (a.trans b.symm)
theorem Rel.setExt (r : Rel T ρ H s) {i : Nat} {a : Addr} {o u : HO} (ha : ρ[i]? = some a) (hu : H a = some u) (nf : ¬ Fixd u := by exact fun z => z) : Ext T ρ H ρ (upd H a o) := ext_set hu nf
end

/-- the frame's slots -/
structure RL (T : Tb) (ρ : List Addr) (H : Hp) (lo : Lo) (σ : St) : Prop where
  len : lo.length = σ.length
  at_ : ∀ (i : Nat) (x : Vl), lo[i]? = some (some x) → ∃ v, σ[i]? = some (some v) ∧ RV T ρ H x v
theorem RL.mono {T : Tb} {ρ ρ' : List Addr} {H H' : Hp} {lo : Lo} {σ : St} (r : RL T ρ H lo σ) (e : Ext T ρ H ρ' H') : RL T ρ' H' lo σ :=
  ⟨r.len, fun i x h => let ⟨v, h1, h2⟩ := r.at_ i x h; ⟨v, h1, h2.mono e⟩⟩
theorem RL.set {T : Tb} {ρ : List Addr} {H : Hp} {lo : Lo} {σ : St} (r : RL T ρ H lo σ) {x : Vl} {v : V} (i : Nat) (h : RV T ρ H x v) : RL T ρ H (lo.set i (some x)) (σ.set i (some v)) := by
  refine ⟨by rw [List.length_set, List.length_set]; exact r.len, fun j y hj => ?_⟩
  by_cases e : j = i
  · subst e
    have hl : j < lo.length := by have := (List.getElem?_eq_some_iff.mp hj).1; rw [List.length_set] at this; exact this
    rw [List.getElem?_set_self hl] at hj
    cases hj
    exact ⟨v, List.getElem?_set_self (by rw [← r.len]; exact hl), h⟩
  · rw [List.getElem?_set_ne (fun z => e z.symm)] at hj
    obtain ⟨w, h1, h2⟩ := r.at_ j y hj
    exact ⟨w, by rw [List.getElem?_set_ne (fun z => e z.symm)]; exact h1, h2⟩

/-- an exception as it is handed on -/
def PoX (T : Tb) (W : XK) (ρ : List Addr) (H : Hp) (e : Ex) (s : Sto) : Prop :=
  ∀ (ρ' : List Addr) (H' : Hp) (C : Addr), Ext T ρ H ρ' H' → Rel T ρ' H' s → T.cl[e.c]? = some C →
    match e.fs with
    | none => W (.ref C) none H'
    | some fs => ∀ (d : Addr) (vs : List (Str × V)), H' d = some (.xd vs) → vs.map (·.1) = fs.map (·.1) → RVs T ρ' H' (fs.map (·.2)) (vs.map (·.2)) → W (.ref C) (some d) H'
/-- what is asked behind a computation -/
def Po {α β : Type} (R : List Addr → Hp → α → β → Prop) (T : Tb) (W : XK) (ρ : List Addr) (H : Hp) (r : Res α) (Q : β → Hp → Prop) : Prop := match r with
  | .ok a s => ∀ (ρ' : List Addr) (H' : Hp) (b : β), Ext T ρ H ρ' H' → Rel T ρ' H' s → R ρ' H' a b → Q b H'
  | .exc e s => PoX T W ρ H e s
  | .fail => False
theorem Po.mono {α β : Type} {R : List Addr → Hp → α → β → Prop} {T : Tb} {W : XK} {ρ ρ' : List Addr} {H H' : Hp} {r : Res α} {Q : β → Hp → Prop} (p : Po R T W ρ H r Q) (e : Ext T ρ H ρ' H') : Po R T W ρ' H' r Q := by
  cases r with
  | ok a s => exact fun ρ2 H2 b e2 => p ρ2 H2 b (e.trans e2)
  | exc x s => exact fun ρ2 H2 C e2 => p ρ2 H2 C (e.trans e2)
  | fail => exact p
/-- the reading of a computation -/
def tG {α β : Type} (R : List Addr → Hp → α → β → Prop) (T : Tb) (W : WX) (m : Lo → M α) : St → Hp → (β → Hp → Prop) → Prop := fun σ H Q =>
  ∃ (ρ : List Addr) (s : Sto) (lo : Lo), Rel T ρ H s ∧ RL T ρ H lo σ ∧ Po R T (fun c d H' => W c d σ H') ρ H (m lo s) Q
abbrev tE (T : Tb) (W : WX) (m : Lo → M Vl) : TE := tG (RV T) T W m
abbrev tA (T : Tb) (W : WX) (m : Lo → M (List Vl)) : TA := tG (RVs T) T W m
abbrev RB : List Addr → Hp → Bool → Bool → Prop := fun _ _ a b => a = b
abbrev tT (T : Tb) (W : WX) (m : Lo → M Bool) : TT := tG RB T W m
/-- the state behind a part -/
structure Bh {α β : Type} (R : List Addr → Hp → α → β → Prop) (T : Tb) (σ : St) (H : Hp) (b : β) (k : List Addr → Sto → Lo → α → Prop) : Prop where
  ex : ∃ (ρ : List Addr) (s : Sto) (lo : Lo) (a : α), Rel T ρ H s ∧ RL T ρ H lo σ ∧ R ρ H a b ∧ k ρ s lo a
/-- THE step: a part, then the rest -/
theorem tG_bnd {α β γ δ : Type} {R : List Addr → Hp → α → β → Prop} {R' : List Addr → Hp → γ → δ → Prop} {T : Tb} {W : WX} {m : Lo → M α} {f : Lo → α → M γ} {σ : St} {H : Hp} {Q : δ → Hp → Prop} {Q' : β → Hp → Prop}
    (h : tG R' T W (fun lo => bnd (m lo) (f lo)) σ H Q)
    (k : ∀ (ρ : List Addr) (s : Sto) (lo : Lo) (a : α) (b : β) (H1 : Hp), Rel T ρ H1 s → RL T ρ H1 lo σ → R ρ H1 a b → Po R' T (fun c d H' => W c d σ H') ρ H1 (f lo a s) Q → Q' b H1) : tG R T W m σ H Q' := by
  obtain ⟨ρ, s, lo, r, rl, p⟩ := h
  refine ⟨ρ, s, lo, r, rl, ?_⟩
  have p : Po R' T _ ρ H (bnd (m lo) (f lo) s) Q := p
  unfold bnd at p
  cases e : m lo s with
  | ok a s1 =>
    rw [e] at p
    exact fun ρ' H' b x r' hb => k ρ' s1 lo a b H' r' (rl.mono x) hb (p.mono x)
  | exc z s1 =>
    rw [e] at p
    exact p
  | fail =>
    rw [e] at p
    exact p
end Sm

/-! S1: expressions: names, constants, operators, tests, displays -/
namespace Sm
open PySem L2

theorem pe_mono {X : Cx} {e : Expr} {t t' : TE} (h : PE X e t) (k : ∀ σ H Q, t' σ H Q → t σ H Q) : PE X e t' := ⟨fun pins s σ H Q I q => h.run pins s σ H Q I (k σ H Q q)⟩
theorem pt_mono {X : Cx} {e : Expr} {t t' : TT} (h : PT X e t) (k : ∀ σ H Q, t' σ H Q → t σ H Q) : PT X e t' := ⟨fun pins s σ H Q I q => h.run pins s σ H Q I (k σ H Q q)⟩
theorem pw_mono {X : Cx} {e : Expr} {t t' : TT} (h : PW X e t) (k : ∀ σ H Q, t' σ H Q → t σ H Q) : PW X e t' := ⟨fun w pins s σ H Q I q => h.run w pins s σ H Q I (k σ H Q q)⟩
theorem pa_mono {X : Cx} {es : List Expr} {t t' : TA} (h : PA X es t) (k : ∀ σ H Q, t' σ H Q → t σ H Q) : PA X es t' := ⟨fun p pins s σ H Q I q => h.run p pins s σ H Q I (k σ H Q q)⟩

/-! ### the combinators -/
abbrev EM := Lo → M Vl
abbrev TM := Lo → M Bool
abbrev AM := Lo → M (List Vl)
abbrev O1 := Vl → Sto → Option (Vl × Sto)
abbrev O2 := Vl → Vl → Sto → Option (Vl × Sto)
abbrev OC := List Vl → Sto → Option (Vl × Sto)
abbrev OMt := Vl → List Vl → Sto → Option (Vl × Sto)
def eVar (i : Nat) : EM := fun lo s => match lo[i]? with
  | some (some v) => .ok v s
  | _ => .fail
def eC (v : Vl) : EM := fun _ s => .ok v s
def eOp1 (f : O1) (a : EM) : EM := fun lo => bnd (a lo) fun x => lift (f x)
def eOp (f : O2) (a b : EM) : EM := fun lo => bnd (a lo) fun x => bnd (b lo) fun y => lift (f x y)
def aNil : AM := fun _ s => .ok [] s
def aCons (a : EM) (r : AM) : AM := fun lo => bnd (a lo) fun x => bnd (r lo) fun xs => ret (x :: xs)
def eCB (f : OC) (a : AM) : EM := fun lo => bnd (a lo) fun xs => lift (f xs)
def eMt (f : OMt) (o : EM) (a : AM) : EM := fun lo => bnd (o lo) fun x => bnd (a lo) fun xs => lift (f x xs)
def tVal (a : EM) : TM := fun lo => bnd (a lo) fun x => match x with
  | .bl b => ret b
  | _ => failM
def tAndM (a b : TM) : TM := fun lo => bnd (a lo) fun x => match x with
  | true => b lo
  | false => ret false
def tOrM (a b : TM) : TM := fun lo => bnd (a lo) fun x => match x with
  | true => ret true
  | false => b lo
def tNotM (a : TM) : TM := fun lo => bnd (a lo) fun x => ret (!x)
def eAndM (a b : EM) : EM := fun lo => bnd (a lo) fun x => match x with
  | .bl true => b lo
  | .bl false => ret (.bl false)
  | _ => failM
def eOrM (a b : EM) : EM := fun lo => bnd (a lo) fun x => match x with
  | .bl false => b lo
  | .bl true => ret (.bl true)
  | _ => failM
def eNotM (a : EM) : EM := fun lo => bnd (a lo) fun x => match x with
  | .bl b => ret (.bl (!b))
  | _ => failM
def eIfM (t : TM) (a b : EM) : EM := fun lo => bnd (t lo) fun x => match x with
  | true => a lo
  | false => b lo
abbrev LIM : Nat := 16777216
theorem lim_eq : sizeLine = LIM := sizeLine_eq
def oTup : OC := fun xs s => if xs.length ≤ LIM then some (.tup xs, s) else none
def oLst : OC := fun xs s => if xs.length ≤ LIM then some (.ref s.length, s ++ [.lst xs]) else none

/-! ### behind an operation -/
def Aft (T : Tb) (ρ : List Addr) (H : Hp) (s : Sto) (v : Vl) (Q : VK) : Prop := ∀ (ρ' : List Addr) (H' : Hp) (z : V), Ext T ρ H ρ' H' → Rel T ρ' H' s → RV T ρ' H' v z → Q z H'
section
variable {T : Tb} {ρ : List Addr} {H : Hp} {s s' : Sto} {v : Vl} {Q : VK}
theorem Aft.here (k : Aft T ρ H s v Q) (r : Rel T ρ H s) {z : V} (h : RV T ρ H v z) : Q z H := k ρ H z .refl r h
theorem Aft.tup {xs : List Vl} {vs : List V} (k : Aft T ρ H s (.tup xs) Q) (r : Rel T ρ H s) (h : RVs T ρ H xs vs) {p : Addr} (hp : H p = none) : Q (.ref p) (upd H p (.tup vs)) :=
  k ρ _ _ (ext_upd hp) (r.laid hp) (.tup (SqT.of upd_same) (h.mono (ext_upd hp)))
theorem Aft.new {b : Ob} {o : HO} (k : Aft T ρ H (s ++ [b]) (.ref s.length) Q) (r : Rel T ρ H s) {p : Addr} (hp : H p = none) (hb : RO T (ρ ++ [p]) (upd H p o) b p) : Q (.ref p) (upd H p o) :=
  k _ _ _ (r.newExt hp) (r.new hp hb) r.newRef
theorem Aft.lst {xs : List Vl} {vs : List V} (k : Aft T ρ H (s ++ [.lst xs]) (.ref s.length) Q) (r : Rel T ρ H s) (h : RVs T ρ H xs vs) {p : Addr} (hp : H p = none) : Q (.ref p) (upd H p (.lst vs)) :=
  k.new r hp ⟨vs, upd_same, h.mono (r.newExt hp)⟩
theorem Aft.set {i : Nat} {b : Ob} {o u : HO} {a : Addr} {v : Vl} {z : V} (k : Aft T ρ H (s.set i b) v Q) (r : Rel T ρ H s) (ha : ρ[i]? = some a) (hu : H a = some u) (nf : ¬ Fixd u) (hb : RO T ρ (upd H a o) b a) (hv : RV T ρ H v z) : Q z (upd H a o) :=
  k _ _ _ (r.setExt ha hu nf) (r.set ha hb) (hv.mono (r.setExt ha hu nf))
end
def rO1 (T : Tb) (f : O1) : V → Hp → VK → Prop := fun x H Q => ∃ ρ s a v s', Rel T ρ H s ∧ RV T ρ H a x ∧ f a s = some (v, s') ∧ Aft T ρ H s' v Q
def rO (T : Tb) (f : O2) : R2 := fun x y H Q => ∃ ρ s a b v s', Rel T ρ H s ∧ RV T ρ H a x ∧ RV T ρ H b y ∧ f a b s = some (v, s') ∧ Aft T ρ H s' v Q
def rC (T : Tb) (f : OC) : List V → Hp → VK → Prop := fun xs H Q => ∃ ρ s as v s', Rel T ρ H s ∧ RVs T ρ H as xs ∧ f as s = some (v, s') ∧ Aft T ρ H s' v Q
def rMt (T : Tb) (f : OMt) : V → List V → Hp → VK → Prop := fun x xs H Q => ∃ ρ s a as v s', Rel T ρ H s ∧ RV T ρ H a x ∧ RVs T ρ H as xs ∧ f a as s = some (v, s') ∧ Aft T ρ H s' v Q
theorem po_lift {T : Tb} {W : XK} {ρ : List Addr} {H : Hp} {s : Sto} {f : Sto → Option (Vl × Sto)} {Q : VK} (p : Po (RV T) T W ρ H (lift f s) Q) : ∃ v s', f s = some (v, s') ∧ Aft T ρ H s' v Q := by
  unfold lift at p
  cases e : f s with
  | none => rw [e] at p; exact p.elim
  | some q =>
    obtain ⟨v, s'⟩ := q
    rw [e] at p
    exact ⟨v, s', rfl, p⟩
theorem po_ret {α β : Type} {R : List Addr → Hp → α → β → Prop} {T : Tb} {W : XK} {ρ : List Addr} {H : Hp} {s : Sto} {a : α} {Q : β → Hp → Prop} (p : Po R T W ρ H (ret a s) Q) (r : Rel T ρ H s) {b : β} (h : R ρ H a b) : Q b H := p ρ H b .refl r h
theorem po_bnd {α β γ δ : Type} {R : List Addr → Hp → α → β → Prop} {R' : List Addr → Hp → γ → δ → Prop} {T : Tb} {W : WX} {m : Lo → M α} {f : α → M γ} {ρ : List Addr} {s : Sto} {lo : Lo} {σ : St} {H : Hp} {Q : δ → Hp → Prop} {Q' : β → Hp → Prop}
    (r : Rel T ρ H s) (rl : RL T ρ H lo σ) (p : Po R' T (fun c d H' => W c d σ H') ρ H (bnd (m lo) f s) Q)
    (k : ∀ (ρ' : List Addr) (s' : Sto) (a : α) (b : β) (H' : Hp), Ext T ρ H ρ' H' → Rel T ρ' H' s' → RL T ρ' H' lo σ → R ρ' H' a b → Po R' T (fun c d H' => W c d σ H') ρ' H' (f a s') Q → Q' b H') : tG R T W m σ H Q' := by
  refine ⟨ρ, s, lo, r, rl, ?_⟩
  unfold bnd at p
  cases e : m lo s with
  | ok a s1 =>
    rw [e] at p
    exact fun ρ' H' b x r' hb => k ρ' s1 a b H' x r' (rl.mono x) hb (p.mono x)
  | exc z s1 => rw [e] at p; exact p
  | fail => rw [e] at p; exact p

section
variable {X : Cx} {T : Tb} {W : WX} {a b c e : Expr} {es : List Expr} {ma mb mc me : EM} {ta tb : TM} {mr : AM} {pos : Pos}
theorem ce_var (i : Nat) {x : Str} (hN : X.N[i]? = some x := by rfl) (hv : Vis X.env.scope x := by first | exact Or.inl rfl | exact Or.inr (Or.inl rfl) | exact Or.inr (Or.inr rfl)) (hd : (x == ("__debug__" : Str)) = false := by decide)
    (hcd : (x == ("__classdict__" : Str)) = false := by decide) : PE X (.Name x pos) (tE T W (eVar i)) :=
  pe_mono (pe_var hN hv hd hcd) fun σ H Q h => by
    obtain ⟨ρ, s, lo, r, rl, p⟩ := h
    have p : Po (RV T) T _ ρ H (eVar i lo s) Q := p
    unfold eVar at p
    split at p
    · rename_i v hv
      obtain ⟨z, h1, h2⟩ := rl.at_ i v hv
      exact ⟨z, h1, p ρ H z .refl r h2⟩
    · exact p.elim
theorem ce_of {v : Vl} {z : V} (h : PE X e (tC z)) (hv : ∀ ρ H, RV T ρ H v z) : PE X e (tE T W (eC v)) :=
  pe_mono h fun σ H Q h => by
    obtain ⟨ρ, s, lo, r, rl, p⟩ := h
    exact p ρ H z .refl r (hv ρ H)
theorem ce_int {i j} : PE X (.Constant (.int i) j pos) (tE T W (eC (.int i))) := ce_of pe_int fun _ _ => .int i
theorem ce_bl {i j} : PE X (.Constant (.bool i) j pos) (tE T W (eC (.bl i))) := ce_of pe_bl fun _ _ => .bl i
theorem ce_non {j} : PE X (.Constant .none j pos) (tE T W (eC .non)) := ce_of pe_non fun _ _ => .non
theorem ce_str {i j} : PE X (.Constant (.str i) j pos) (tE T W (eC (.str i))) := ce_of pe_str fun _ _ => .str i
/-- two parts and an operation of their values -/
theorem top_le {f : O2} {σ : St} {H : Hp} {Q : VK} (h : tE T W (eOp f ma mb) σ H Q) : tOp (rO T f) (tE T W ma) (tE T W mb) σ H Q :=
  tG_bnd (f := fun lo x => bnd (mb lo) fun y => lift (f x y)) h fun ρ s lo x z H1 r rl hx p =>
    po_bnd (m := mb) r rl p fun ρ' s' y z' H' ext r' rl' hy p' => by
      obtain ⟨v, s2, e, k⟩ := po_lift p'
      exact ⟨ρ', s', x, y, v, s2, r', hx.mono ext, hy, e, k⟩
theorem ce_op {op : Operator} {f : O2} (ho : OpR X (binaryOp op) (rO T f)) (ha : PE X a (tE T W ma)) (hb : PE X b (tE T W mb)) : PE X (.BinOp a op b pos) (tE T W (eOp f ma mb)) :=
  pe_mono (pe_op ho ha hb) fun _ _ _ h => top_le h
theorem ce_cmp {op : CmpOp} {f : O2} (ho : OpR X (compareOp op) (rO T f)) (ha : PE X a (tE T W ma)) (hb : PE X b (tE T W mb)) (hm : behindInMarks op b = false := by first | exact nomark _ | rfl) : PE X (.Compare a [op] [b] pos) (tE T W (eOp f ma mb)) :=
  pe_mono (pe_cmpR ho ha hb hm) fun _ _ _ h => top_le h
theorem ce_ix {f : O2} (ho : IxR X (rO T f)) (ha : PE X a (tE T W ma)) (hb : PE X b (tE T W mb)) (hs : PlainIx b := by exact fun _ _ => rfl) : PE X (.Subscript a b pos) (tE T W (eOp f ma mb)) :=
  pe_mono (pe_ix ho ha hb hs) fun _ _ _ h => top_le h
theorem ce_un {op : UnaryOp} {f : O1} (ho : UnR X (unaryOp op) (rO1 T f)) (ha : PE X a (tE T W ma)) : PE X (.UnaryOp op a pos) (tE T W (eOp1 f ma)) :=
  pe_mono (pe_un ho ha) fun σ H Q h =>
    tG_bnd (f := fun lo x => lift (f x)) h fun ρ s lo x z H1 r rl hx p => by
      obtain ⟨v, s2, e, k⟩ := po_lift p
      exact ⟨ρ, s, x, v, s2, r, hx, e, k⟩
/-! ### tests -/
theorem tval_le {σ : St} {H : Hp} {Q : Bool → Hp → Prop} (h : tT T W (tVal ma) σ H Q) : tE T W ma σ H fun x H1 => ∃ k, x = .bl k ∧ Q k H1 :=
  tG_bnd h fun ρ s lo x z H1 r rl hx p => by
    cases hx with
    | bl k => exact ⟨k, rfl, p ρ H1 k .refl r rfl⟩
    | _ => exact p.elim
theorem ct_val (h : PE X e (tE T W me)) (he : ∀ whole, isTrue e X.env whole = (do let v ← whole; standAt e.pos; holding [v] (truthy v)) := by intro _; rfl) : PT X e (tT T W (tVal me)) :=
  pt_mono (pt_val h he) fun _ _ _ h => tval_le h
theorem ct_cmp {op : CmpOp} {f : O2} (ho : OpR X (compareOp op) (rO T f)) (ha : PE X a (tE T W ma)) (hb : PE X b (tE T W mb)) (hm : behindInMarks op b = false := by first | exact nomark _ | rfl) : PT X (.Compare a [op] [b] pos) (tT T W (tVal (eOp f ma mb))) :=
  pt_mono (pt_cmpR ho ha hb hm) fun _ _ _ h => top_le (tval_le h)
theorem ct_not (h : PT X a (tT T W ta)) : PT X (.UnaryOp .Not a pos) (tT T W (tNotM ta)) :=
  pt_mono (pt_not h) fun _ _ _ h => tG_bnd h fun ρ s lo x z H1 r rl hx p => by
    cases hx
    exact po_ret (R := RB) p r rfl
theorem cw_and1 (ha : PT X a (tT T W ta)) : PW X (.BoolOp .And [a] pos) (tT T W ta) := pw_and1 ha
theorem cw_or1 (ha : PT X a (tT T W ta)) : PW X (.BoolOp .Or [a] pos) (tT T W ta) := pw_or1 ha
theorem cw_and (ha : PT X a (tT T W ta)) (hb : PW X (.BoolOp .And (b :: es) pos) (tT T W tb)) : PW X (.BoolOp .And (a :: b :: es) pos) (tT T W (tAndM ta tb)) :=
  pw_mono (pw_and ha hb) fun _ _ _ h => tG_bnd h fun ρ s lo x z H1 r rl hx p => by
    cases hx
    cases x with
    | true => exact ⟨ρ, s, lo, r, rl, p⟩
    | false => exact po_ret (R := RB) p r rfl
theorem cw_or (ha : PT X a (tT T W ta)) (hb : PW X (.BoolOp .Or (b :: es) pos) (tT T W tb)) : PW X (.BoolOp .Or (a :: b :: es) pos) (tT T W (tOrM ta tb)) :=
  pw_mono (pw_or ha hb) fun _ _ _ h => tG_bnd h fun ρ s lo x z H1 r rl hx p => by
    cases hx
    cases x with
    | false => exact ⟨ρ, s, lo, r, rl, p⟩
    | true => exact po_ret (R := RB) p r rfl
/-! ### and, or, not, if as values -/
theorem ce_one {op} (h : PE X a (tE T W ma)) : PE X (.BoolOp op [a] pos) (tE T W ma) := pe_one h
theorem ce_and (ha : PE X a (tE T W ma)) (hb : PE X (.BoolOp .And (b :: es) pos) (tE T W mb)) : PE X (.BoolOp .And (a :: b :: es) pos) (tE T W (eAndM ma mb)) :=
  pe_mono (pe_and ha hb) fun _ _ _ h => tG_bnd h fun ρ s lo x z H1 r rl hx p => by
    cases hx with
    | bl k =>
      cases k with
      | true => exact ⟨true, rfl, ρ, s, lo, r, rl, p⟩
      | false => exact ⟨false, rfl, po_ret (R := RV T) p r (.bl false)⟩
    | _ => exact p.elim
theorem ce_or (ha : PE X a (tE T W ma)) (hb : PE X (.BoolOp .Or (b :: es) pos) (tE T W mb)) : PE X (.BoolOp .Or (a :: b :: es) pos) (tE T W (eOrM ma mb)) :=
  pe_mono (pe_or ha hb) fun _ _ _ h => tG_bnd h fun ρ s lo x z H1 r rl hx p => by
    cases hx with
    | bl k =>
      cases k with
      | false => exact ⟨false, rfl, ρ, s, lo, r, rl, p⟩
      | true => exact ⟨true, rfl, po_ret (R := RV T) p r (.bl true)⟩
    | _ => exact p.elim
theorem ce_not (ha : PE X a (tE T W ma)) : PE X (.UnaryOp .Not a pos) (tE T W (eNotM ma)) :=
  pe_mono (pe_not ha) fun _ _ _ h => tG_bnd h fun ρ s lo x z H1 r rl hx p => by
    cases hx with
    | bl k => exact ⟨k, rfl, po_ret (R := RV T) p r (.bl _)⟩
    | _ => exact p.elim
theorem ce_if (hc : PT X c (tT T W ta)) (ha : PE X a (tE T W ma)) (hb : PE X b (tE T W mb)) : PE X (.IfExp c a b pos) (tE T W (eIfM ta ma mb)) :=
  pe_mono (pe_ifExp hc ha hb) fun _ _ _ h => tG_bnd h fun ρ s lo x z H1 r rl hx p => by
    cases hx
    cases x with
    | true => exact ⟨ρ, s, lo, r, rl, p⟩
    | false => exact ⟨ρ, s, lo, r, rl, p⟩
/-! ### argument lists, displays -/
theorem ca_nil : PA X [] (tA T W aNil) := pa_mono pa_nil fun σ H Q h => by
  obtain ⟨ρ, s, lo, r, rl, p⟩ := h
  exact p ρ H [] .refl r .nil
theorem ca_cons (ha : PE X e (tE T W me)) (hr : PA X es (tA T W mr)) (hs : starEach (e :: es) X.env = (false, eval e X.env) :: starEach es X.env := by rfl) : PA X (e :: es) (tA T W (aCons me mr)) :=
  pa_mono (pa_cons ha hr hs) fun _ _ _ h => tG_bnd (R := RV T) h fun ρ s lo x z H1 r rl hx p =>
    po_bnd (R := RVs T) (m := mr) r rl p fun ρ' s' xs zs H' ext r' rl' hxs p' => po_ret (R := RVs T) p' r' (.cons (hx.mono ext) hxs)
theorem tcb_le {f : OC} {σ : St} {H : Hp} {Q : VK} (h : tE T W (eCB f mr) σ H Q) : tA T W mr σ H fun vs H1 => rC T f vs H1 Q :=
  tG_bnd (R := RVs T) h fun ρ s lo xs zs H1 r rl hx p => by
    obtain ⟨v, s2, e, k⟩ := po_lift p
    exact ⟨ρ, s, xs, v, s2, r, hx, e, k⟩
theorem ce_tup {x1} (h : PA X es (tA T W mr)) : PE X (.Tuple es x1 pos) (tE T W (eCB oTup mr)) :=
  pe_mono (pe_tup h) fun _ _ _ h => tG_bnd (R := RVs T) h fun ρ s lo xs zs H1 r rl hx p => by
    obtain ⟨v, s2, e, k⟩ := po_lift p
    unfold oTup at e
    split at e
    · rename_i hl
      cases e
      exact ⟨by rw [← hx.length, lim_eq]; exact hl, fun q hq => k.tup r hx hq⟩
    · cases e
theorem ce_lst (h : PA X es (tA T W mr)) : PE X (.List es pos) (tE T W (eCB oLst mr)) :=
  pe_mono (pe_lst h) fun _ _ _ h => tG_bnd (R := RVs T) h fun ρ s lo xs zs H1 r rl hx p => by
    obtain ⟨v, s2, e, k⟩ := po_lift p
    unfold oLst at e
    split at e
    · rename_i hl
      cases e
      exact ⟨by rw [← hx.length, lim_eq]; exact hl, fun q hq => k.lst r hx hq⟩
    · cases e
/-! ### built-ins by name; methods of built-in types -/
theorem ce_callB {x : Str} {p : Pos} {id : String} {f : OC} (hc : CallR X (.builtin id) (rC T f)) (hg : Gl X x) (hm : X.mg x = none) (hv : bootBuiltins x = some (.builtin id)) (ha : PA X (e :: es) (tA T W mr)) (hn : x ≠ "__name__" := by decide) (hdb : (x == ("__debug__" : Str)) = false := by decide)
    (he : starEach (e :: es) X.env = (false, eval e X.env) :: starEach es X.env := by rfl) (hpl : (backTo pos (starEach es X.env)).any (·.1) = false := by rfl) : PE X (.Call (.Name x p) (e :: es) [] pos) (tE T W (eCB f mr)) :=
  pe_mono (pe_callB hc hg hm hv ha hn hdb he hpl) fun _ _ _ h => tcb_le h
theorem ce_callTy {x : Str} {p : Pos} {id : String} {f : OC} (hc : CallR X (.type id) (rC T f)) (hg : Gl X x) (hm : X.mg x = none) (hv : bootBuiltins x = some (.type id)) (ha : PA X (e :: es) (tA T W mr)) (hn : x ≠ "__name__" := by decide) (hdb : (x == ("__debug__" : Str)) = false := by decide)
    (he : starEach (e :: es) X.env = (false, eval e X.env) :: starEach es X.env := by rfl) (hpl : (backTo pos (starEach es X.env)).any (·.1) = false := by rfl) : PE X (.Call (.Name x p) (e :: es) [] pos) (tE T W (eCB f mr)) :=
  pe_mono (pe_callTy hc hg hm hv ha hn hdb he hpl) fun _ _ _ h => tcb_le h
end
end Sm

/-! S2: operators on values -/
namespace Sm
open PySem L2

/-! ### values that are known by their form -/
section
variable {T : Tb} {ρ : List Addr} {H : Hp} {z : V}
theorem RV.nonE (h : RV T ρ H .non z) : z = .non := by cases h; rfl
theorem RV.blE {b : Bool} (h : RV T ρ H (.bl b) z) : z = .bl b := by cases h; rfl
theorem RV.intE {i : Int} (h : RV T ρ H (.int i) z) : z = .int i := by cases h; rfl
theorem RV.strE {x : Str} (h : RV T ρ H (.str x) z) : z = .str x := by cases h; rfl
theorem RV.refE {i : Nat} (h : RV T ρ H (.ref i) z) : ∃ a, z = .ref a ∧ ρ[i]? = some a := by cases h; exact ⟨_, rfl, by assumption⟩
theorem RV.tupE {xs : List Vl} (h : RV T ρ H (.tup xs) z) : ∃ a vs, z = .ref a ∧ SqT T.K H a vs ∧ RVs T ρ H xs vs := by cases h; exact ⟨_, _, rfl, by assumption, by assumption⟩
theorem RV.scrE {ns : List Int} (h : RV T ρ H (.scr ns) z) : ∃ a, z = .ref a ∧ SqL T.K H a (ns.map V.int) := by
  cases h with
  | scr h => exact ⟨_, rfl, .inl (.inr ⟨_, h⟩)⟩
  | scrK h => exact ⟨_, rfl, h H⟩
theorem Rel.lst {s : Sto} {i : Nat} {xs : List Vl} {a : Addr} (r : Rel T ρ H s) (h : s[i]? = some (.lst xs)) (ha : ρ[i]? = some a) : ∃ vs, H a = some (.lst vs) ∧ RVs T ρ H xs vs := r.ob i a _ ha h
theorem Rel.dic {s : Sto} {i : Nat} {kvs : List (Key × Vl)} {a : Addr} (r : Rel T ρ H s) (h : s[i]? = some (.dic kvs)) (ha : ρ[i]? = some a) :
    ∃ vs : List (Key × V), H a = some (.dK vs) ∧ vs.map (·.1) = kvs.map (·.1) ∧ RVs T ρ H (kvs.map (·.2)) (vs.map (·.2)) := r.ob i a _ ha h
end

/-! ### ints -/
def opSub : O2
  | .int i, .int j, s => some (.int (i - j), s)
  | _, _, _ => none
def opMul : O2
  | .int i, .int j, s => if (-(2 ^ 64) < i ∧ i < 2 ^ 64) ∨ (-(2 ^ 64) < j ∧ j < 2 ^ 64) then some (.int (i * j), s) else none
  | .ref i, .int k, s => match s[i]? with
    | some (.lst xs) => if 0 ≤ k ∧ k < 2 ^ 60 ∧ xs.length * k.toNat ≤ LIM then some (.ref s.length, s ++ [.lst (List.replicate k.toNat xs).flatten]) else none
    | _ => none
  | _, _, _ => none
def opFdiv : O2
  | .int i, .int j, s => if 0 < j ∧ j < 1073741824 then some (.int (i / j), s) else none
  | _, _, _ => none
def opMod : O2
  | .int i, .int j, s => if 0 < j then some (.int (i % j), s) else none
  | _, _, _ => none
def opPow : O2
  | .int i, .int j, s => if 0 ≤ j ∧ j ≤ 1000000 ∧ i.natAbs < 2 ^ 64 then some (.int (i ^ j.toNat), s) else none
  | _, _, _ => none
def opAdd : O2
  | .int i, .int j, s => some (.int (i + j), s)
  | .str x, .str y, s => if x.length + y.length ≤ LIM then some (.str (x ++ y), s) else none
  | .tup xs, .tup ys, s => if xs.length + ys.length ≤ LIM then some (.tup (xs ++ ys), s) else none
  | .ref i, .ref j, s => match s[i]?, s[j]? with
    | some (.lst xs), some (.lst ys) => if xs.length + ys.length ≤ LIM then some (.ref s.length, s ++ [.lst (xs ++ ys)]) else none
    | _, _ => none
  | _, _, _ => none
def opLt : O2
  | .int i, .int j, s => some (.bl (decide (i < j)), s)
  | _, _, _ => none
def opLe : O2
  | .int i, .int j, s => some (.bl (decide (i ≤ j)), s)
  | _, _, _ => none
def opGt : O2
  | .int i, .int j, s => some (.bl (decide (j < i)), s)
  | _, _, _ => none
def opGe : O2
  | .int i, .int j, s => some (.bl (decide (j ≤ i)), s)
  | _, _, _ => none
def isNon : Vl → Bool
  | .non => true
  | _ => false
def opIsN : O2
  | x, .non, s => some (.bl (isNon x), s)
  | _, _, _ => none
def opNotN : O2
  | x, .non, s => some (.bl (!isNon x), s)
  | _, _, _ => none
def opNeg : O1
  | .int i, s => some (.int (-i), s)
  | _, _ => none
section
variable {X : Cx} {T : Tb}
theorem OpR.imp {f : Value → Value → Sem Value} {r r' : R2} (h : OpR X f r) (k : ∀ x y H Q, r' x y H Q → r x y H Q) : OpR X f r' := fun pins s σ H x y v u Q I rx ry q => h pins s σ H x y v u Q I rx ry (k x y H Q q)
theorem oi {f : Value → Value → Sem Value} {C : Int → Int → Prop} {g : Int → Int → Vl} {gv : Int → Int → V} {op : O2} (hg : ∀ ρ H i j, RV T ρ H (g i j) (gv i j)) (h : OpR X f (rI C gv))
    (hop : ∀ a b s v s', op a b s = some (v, s') → ∃ i j, a = .int i ∧ b = .int j ∧ C i j ∧ v = g i j ∧ s' = s) : OpR X f (rO T op) := OpR.imp h fun x y H Q q => by
  obtain ⟨ρ, s, a, b, v, s', r, ha, hb, e, k⟩ := q
  obtain ⟨i, j, rfl, rfl, c, rfl, rfl⟩ := hop a b s v s' e
  exact ⟨i, j, ha.intE, hb.intE, c, k.here r (hg ρ H i j)⟩
theorem oi0 {f : Value → Value → Sem Value} {g : Int → Int → Vl} {gv : Int → Int → V} {op : O2} (hg : ∀ ρ H i j, RV T ρ H (g i j) (gv i j)) (h : OpR X f (rI0 gv))
    (hop : ∀ a b s v s', op a b s = some (v, s') → ∃ i j, a = .int i ∧ b = .int j ∧ v = g i j ∧ s' = s) : OpR X f (rO T op) := OpR.imp h fun x y H Q q => by
  obtain ⟨ρ, s, a, b, v, s', r, ha, hb, e, k⟩ := q
  obtain ⟨i, j, rfl, rfl, rfl, rfl⟩ := hop a b s v s' e
  exact ⟨i, j, ha.intE, hb.intE, k.here r (hg ρ H i j)⟩
theorem o_sub : OpR X (binaryOp .Sub) (rO T opSub) := oi0 (g := fun i j => .int (i - j)) (fun _ _ i j => .int _) op_sub fun a b s v s' e => by
  cases a <;> cases b <;> simp [opSub] at e
  exact ⟨_, _, rfl, rfl, e.1.symm, e.2.symm⟩
theorem o_lt : OpR X (compareOp .Lt) (rO T opLt) := oi0 (g := fun i j => .bl (decide (i < j))) (fun _ _ i j => .bl _) op_lt fun a b s v s' e => by
  cases a <;> cases b <;> simp [opLt] at e
  exact ⟨_, _, rfl, rfl, e.1.symm, e.2.symm⟩
theorem o_le : OpR X (compareOp .LtE) (rO T opLe) := oi0 (g := fun i j => .bl (decide (i ≤ j))) (fun _ _ i j => .bl _) op_le fun a b s v s' e => by
  cases a <;> cases b <;> simp [opLe] at e
  exact ⟨_, _, rfl, rfl, e.1.symm, e.2.symm⟩
theorem o_gt : OpR X (compareOp .Gt) (rO T opGt) := oi0 (g := fun i j => .bl (decide (j < i))) (fun _ _ i j => .bl _) op_gt fun a b s v s' e => by
  cases a <;> cases b <;> simp [opGt] at e
  exact ⟨_, _, rfl, rfl, e.1.symm, e.2.symm⟩
theorem o_ge : OpR X (compareOp .GtE) (rO T opGe) := oi0 (g := fun i j => .bl (decide (j ≤ i))) (fun _ _ i j => .bl _) op_ge fun a b s v s' e => by
  cases a <;> cases b <;> simp [opGe] at e
  exact ⟨_, _, rfl, rfl, e.1.symm, e.2.symm⟩
theorem o_fdiv : OpR X (binaryOp .FloorDiv) (rO T opFdiv) := oi (C := CDiv) (g := fun i j => .int (i / j)) (fun _ _ i j => .int _) op_fdiv fun a b s v s' e => by
  cases a <;> cases b <;> simp [opFdiv] at e
  exact ⟨_, _, rfl, rfl, e.1, e.2.1.symm, e.2.2.symm⟩
theorem o_mod : OpR X (binaryOp .Mod) (rO T opMod) := oi (C := fun _ j => 0 < j) (g := fun i j => .int (i % j)) (fun _ _ i j => .int _) op_mod fun a b s v s' e => by
  cases a <;> cases b <;> simp [opMod] at e
  exact ⟨_, _, rfl, rfl, e.1, e.2.1.symm, e.2.2.symm⟩
theorem o_pow : OpR X (binaryOp .Pow) (rO T opPow) := oi (C := CPow) (g := fun i j => .int (i ^ j.toNat)) (fun _ _ i j => .int _) op_pow fun a b s v s' e => by
  cases a <;> cases b <;> simp only [opPow] at e <;> try cases e
  split at e
  · rename_i h
    cases e
    exact ⟨_, _, rfl, rfl, h, rfl, rfl⟩
  · cases e
theorem o_neg : UnR X (unaryOp .USub) (rO1 T opNeg) := fun pins s σ H x v Q I rx q => by
  obtain ⟨ρ, st, a, w, s', r, ha, e, k⟩ := q
  cases a <;> simp [opNeg] at e
  obtain ⟨rfl, rfl⟩ := e
  exact un_neg pins s σ H x v Q I rx ⟨_, ha.intE, k.here r (.int _)⟩
theorem o_add (hK : X.K = T.K := by rfl) : OpR X (binaryOp .Add) (rO T opAdd) := fun pins s σ H x y v u Q I rx ry q => by
  obtain ⟨ρ, st, a, b, w, s', r, ha, hb, e, k⟩ := q
  cases a <;> cases b <;> simp only [opAdd] at e <;> try cases e
  · exact op_add pins s σ H x y v u Q I rx ry ⟨_, _, ha.intE, hb.intE, k.here r (.int _)⟩
  · split at e
    · rename_i h
      cases e
      exact op_add_str pins s σ H x y v u Q I rx ry ⟨_, _, ha.strE, hb.strE, by rw [lim_eq]; exact h, k.here r (.str _)⟩
    · cases e
  · split at e
    · rename_i xs ys h
      cases e
      obtain ⟨p, vs, rfl, h1, h2⟩ := ha.tupE
      obtain ⟨p', vs', rfl, h1', h2'⟩ := hb.tupE
      refine op_catA pins s σ H _ _ v u Q I rx ry ⟨p, p', vs, vs', rfl, rfl, by rw [hK]; exact h1, by rw [hK]; exact h1', by rw [← h2.length, ← h2'.length, lim_eq]; exact h, ?_, ?_, ?_⟩
      · intro e
        subst e
        cases h2
        exact k.here r (.tup h1' h2')
      · intro _ e
        subst e
        cases h2'
        rw [List.append_nil] at k
        exact k.here r (.tup h1 h2)
      · intro _ _ q hq
        exact k.tup r (h2.append h2') hq
    · cases e
  · rename_i i j
    split at e
    · rename_i xs ys h1 h2
      split at e
      · rename_i h
        cases e
        obtain ⟨p, rfl, hp⟩ := ha.refE
        obtain ⟨p', rfl, hp'⟩ := hb.refE
        obtain ⟨vs, g1, g2⟩ := r.lst h1 hp
        obtain ⟨vs', g1', g2'⟩ := r.lst h2 hp'
        exact op_cat pins s σ H _ _ v u Q I rx ry ⟨p, p', vs, vs', rfl, rfl, g1, g1', by rw [← g2.length, ← g2'.length, lim_eq]; exact h, fun q hq => k.lst r (g2.append g2') hq⟩
      · cases e
    · cases e
theorem RVs.rep {ρ : List Addr} {H : Hp} {xs : List Vl} {vs : List V} (h : RVs T ρ H xs vs) : ∀ n : Nat, RVs T ρ H (List.replicate n xs).flatten (List.replicate n vs).flatten
  | 0 => .nil
  | n + 1 => by
    rw [List.replicate_succ, List.replicate_succ, List.flatten_cons, List.flatten_cons]
    exact h.append (RVs.rep h n)
theorem o_mul : OpR X (binaryOp .Mult) (rO T opMul) := fun pins s σ H x y v u Q I rx ry q => by
  obtain ⟨ρ, st, a, b, w, s', r, ha, hb, e, k⟩ := q
  cases a <;> cases b <;> simp only [opMul] at e <;> try cases e
  · split at e
    · rename_i h
      cases e
      exact op_mul pins s σ H x y v u Q I rx ry ⟨_, _, ha.intE, hb.intE, h, k.here r (.int _)⟩
    · cases e
  · split at e
    · rename_i xs h1
      split at e
      · rename_i h
        cases e
        obtain ⟨p, rfl, hp⟩ := ha.refE
        obtain ⟨vs, g1, g2⟩ := r.lst h1 hp
        have hz := h.2.1
        exact op_rep pins s σ H _ _ v u Q I rx ry ⟨p, _, vs, rfl, hb.intE, g1, by omega, by omega, by rw [← g2.length, lim_eq]; exact h.2.2, fun q hq => k.lst r (g2.rep _) hq⟩
      · cases e
    · cases e
theorem RV.non_iff {ρ : List Addr} {H : Hp} {a : Vl} {x : V} (h : RV T ρ H a x) : decide (x = .non) = isNon a := by
  cases h <;> simp [isNon]
theorem o_isN : OpR X (compareOp .Is) (rO T opIsN) := fun pins s σ H x y v u Q I rx ry q => by
  obtain ⟨ρ, st, a, b, w, s', r, ha, hb, e, k⟩ := q
  cases b <;> simp only [opIsN] at e <;> try cases e
  exact op_isN pins s σ H x y v u Q I rx ry ⟨hb.nonE, by rw [ha.non_iff]; exact k.here r (.bl _)⟩
theorem o_notN : OpR X (compareOp .IsNot) (rO T opNotN) := fun pins s σ H x y v u Q I rx ry q => by
  obtain ⟨ρ, st, a, b, w, s', r, ha, hb, e, k⟩ := q
  cases b <;> simp only [opNotN] at e <;> try cases e
  refine op_notN pins s σ H x y v u Q I rx ry ⟨hb.nonE, ?_⟩
  rw [ha.non_iff]
  exact k.here r (.bl _)
end

/-! ### data -/
def mapO {α β : Type} (f : α → Option β) : List α → Option (List β)
  | [] => some []
  | x :: xs => match f x, mapO f xs with
    | some y, some ys => some (y :: ys)
    | _, _ => none
def toD : Nat → Sto → Vl → Option PyData
  | 0, _, _ => none
  | n + 1, s, v => match v with
    | .non => some .none
    | .bl b => some (.bool b)
    | .int i => some (.int i)
    | .str x => some (.str x)
    | .tup xs => (mapO (toD n s) xs).map .tuple
    | .ref i => match s[i]? with
      | some (.lst xs) => (mapO (toD n s) xs).map .list
      | _ => none
    | _ => none
section
variable {T : Tb} {ρ : List Addr} {H : Hp} {s : Sto}
theorem toDs_dp {f : Vl → Option PyData} {n : Nat} (hf : ∀ v z d, RV T ρ H v z → f v = some d → Dp T.K H z d ∧ d.depth ≤ n) : ∀ {xs : List Vl} {vs : List V} {ds : List PyData}, RVs T ρ H xs vs → mapO f xs = some ds → DpAll T.K H vs ds ∧ PyData.depthAll ds ≤ n
  | _, _, _, .nil, e => by
    simp only [mapO] at e
    cases e
    exact ⟨.nil, by simp only [PyData.depthAll]; omega⟩
  | _, _, _, .cons h hs, e => by
    simp only [mapO] at e
    split at e
    · rename_i y ys e1 e2
      cases e
      obtain ⟨a1, a2⟩ := hf _ _ _ h e1
      obtain ⟨b1, b2⟩ := toDs_dp hf hs e2
      refine ⟨.cons a1 b1, ?_⟩
      simp only [PyData.depthAll]
      omega
    · cases e
theorem toD_dp (r : Rel T ρ H s) : ∀ (n : Nat) (v : Vl) (z : V) (d : PyData), RV T ρ H v z → toD n s v = some d → Dp T.K H z d ∧ d.depth ≤ n
  | 0, _, _, _, _, e => by cases e
  | n + 1, v, z, d, h, e => by
    have ih := toD_dp r n
    cases v <;> simp only [toD] at e <;> try cases e
    · rw [h.nonE]; exact ⟨.non, by simp only [PyData.depth]; omega⟩
    · rw [h.blE]; exact ⟨.bl _, by simp only [PyData.depth]; omega⟩
    · rw [h.intE]; exact ⟨.int _, by simp only [PyData.depth]; omega⟩
    · rw [h.strE]; exact ⟨.str _, by simp only [PyData.depth]; omega⟩
    · rename_i xs
      cases e1 : mapO (toD n s) xs with
      | none => rw [e1] at e; cases e
      | some ds =>
        rw [e1] at e
        cases e
        obtain ⟨a, vs, rfl, h1, h2⟩ := h.tupE
        obtain ⟨b1, b2⟩ := toDs_dp ih h2 e1
        exact ⟨.tup h1 b1, by simp only [PyData.depth]; omega⟩
    · rename_i i
      split at e
      · rename_i xs hx
        cases e1 : mapO (toD n s) xs with
        | none => rw [e1] at e; cases e
        | some ds =>
          rw [e1] at e
          cases e
          obtain ⟨a, rfl, ha⟩ := h.refE
          obtain ⟨vs, h1, h2⟩ := r.lst hx ha
          obtain ⟨b1, b2⟩ := toDs_dp ih h2 e1
          exact ⟨.lst (SqL.of h1) b1, by simp only [PyData.depth]; omega⟩
      · cases e
end
/-- == -/
def eqS : Vl → Vl → Option Bool
  | .non, .non => some true
  | .int i, .int j => some (i == j)
  | .bl i, .bl j => some (i == j)
  | .str i, .str j => some (i == j)
  | .non, .int _ => some false
  | .non, .str _ => some false
  | .int _, .non => some false
  | .int _, .str _ => some false
  | .str _, .non => some false
  | .str _, .int _ => some false
  | _, _ => none
def eqM (a b : Vl) (s : Sto) : Option Bool := match eqS a b with
  | some k => some k
  | none => match toD 40 s a, toD 40 s b with
    | some d, some e => if d.canLay0 && e.canLay0 then some (PyData.eqv d e) else none
    | _, _ => none
def opEq : O2 := fun a b s => match eqM a b s with
  | some k => some (.bl k, s)
  | none => none
def opNe : O2 := fun a b s => match eqM a b s with
  | some k => some (.bl (!k), s)
  | none => none
section
variable {X : Cx} {T : Tb}
theorem eqS_ok {ρ : List Addr} {H : Hp} {a b : Vl} {x y : V} {k : Bool} (ha : RV T ρ H a x) (hb : RV T ρ H b y) (e : eqS a b = some k) : scal x y = true ∧ decide (x = y) = k := by
  cases ha <;> cases hb <;> simp only [eqS] at e <;> try cases e
  all_goals (refine ⟨rfl, ?_⟩)
  all_goals first
    | (rw [dec_int]; done)
    | (rw [dec_bl]; done)
    | (rw [dec_str]; done)
    | simp
theorem sh40 {d : PyData} (h : d.canLay0 = true) (h2 : d.depth ≤ 40) : SeqAt.shaped d = true := by
  unfold SeqAt.shaped
  rw [h, decide_eq_true (by omega)]
  rfl
theorem o_eq (hu : X.A.units + 64 < cLine) (hK : X.K = T.K := by rfl) : OpR X (compareOp .Eq) (rO T opEq) := fun pins s σ H x y v u Q I rx ry q => by
  obtain ⟨ρ, st, a, b, w, s', r, ha, hb, e, k⟩ := q
  unfold opEq at e
  split at e
  · rename_i c hc
    cases e
    unfold eqM at hc
    split at hc
    · rename_i c' hs
      cases hc
      obtain ⟨h1, h2⟩ := eqS_ok ha hb hs
      exact op_eq pins s σ H x y v u Q I rx ry ⟨h1, by rw [h2]; exact k.here r (.bl _)⟩
    · split at hc
      · rename_i d e hd he
        split at hc
        · rename_i hl
          cases hc
          obtain ⟨l1, l2⟩ := Bool.and_eq_true_iff.mp hl
          obtain ⟨p1, p2⟩ := toD_dp r 40 a x d ha hd
          obtain ⟨q1, q2⟩ := toD_dp r 40 b y e hb he
          exact op_eqD hu pins s σ H x y v u Q I rx ry ⟨d, e, by rw [hK]; exact p1, by rw [hK]; exact q1, sh40 l1 p2, sh40 l2 q2, k.here r (.bl _)⟩
        · cases hc
      · cases hc
  · cases e
theorem o_ne (hu : X.A.units + 64 < cLine) (hK : X.K = T.K := by rfl) : OpR X (compareOp .NotEq) (rO T opNe) := fun pins s σ H x y v u Q I rx ry q => by
  obtain ⟨ρ, st, a, b, w, s', r, ha, hb, e, k⟩ := q
  unfold opNe at e
  split at e
  · rename_i c hc
    cases e
    unfold eqM at hc
    split at hc
    · rename_i c' hs
      cases hc
      obtain ⟨h1, h2⟩ := eqS_ok ha hb hs
      exact op_ne pins s σ H x y v u Q I rx ry ⟨h1, by rw [h2]; exact k.here r (.bl _)⟩
    · split at hc
      · rename_i d e hd he
        split at hc
        · rename_i hl
          cases hc
          obtain ⟨l1, l2⟩ := Bool.and_eq_true_iff.mp hl
          obtain ⟨p1, p2⟩ := toD_dp r 40 a x d ha hd
          obtain ⟨q1, q2⟩ := toD_dp r 40 b y e hb he
          exact op_neD hu pins s σ H x y v u Q I rx ry ⟨d, e, by rw [hK]; exact p1, by rw [hK]; exact q1, sh40 l1 p2, sh40 l2 q2, k.here r (.bl _)⟩
        · cases hc
      · cases hc
  · cases e
end
end Sm

/-! S3: subscripts, slices, in, stores, built-in calls, methods of built-in types -/
namespace Sm
open PySem L2

/-! ### dicts as lists of pairs -/
section
variable {κ : Type} [DecidableEq κ]
def look (kvs : List (κ × Vl)) (k : κ) : Option Vl := match kvs with
  | [] => none
  | p :: r => if p.1 = k then some p.2 else look r k
def hasK (kvs : List (κ × Vl)) (k : κ) : Bool := match kvs with
  | [] => false
  | p :: r => if p.1 = k then true else hasK r k
/-- in its place, or at the end -/
def put (kvs : List (κ × Vl)) (k : κ) (v : Vl) : List (κ × Vl) := match kvs with
  | [] => [(k, v)]
  | p :: r => if p.1 = k then (k, v) :: r else p :: put r k v
variable {T : Tb} {ρ : List Addr} {H : Hp}
theorem look_ok {k : κ} : ∀ {kvs : List (κ × Vl)} {vs : List (κ × V)}, vs.map (·.1) = kvs.map (·.1) → RVs T ρ H (kvs.map (·.2)) (vs.map (·.2)) →
    (look kvs k = none → valV vs k = none) ∧ ∀ v, look kvs k = some v → ∃ z, valV vs k = some z ∧ RV T ρ H v z
  | [], [], _, _ => ⟨fun _ => rfl, fun v e => by simp [look] at e⟩
  | [], _ :: _, e, _ => by simp at e
  | _ :: _, [], e, _ => by simp at e
  | p :: r, q :: t, e, h => by
    simp only [List.map_cons, List.cons.injEq] at e
    rw [List.map_cons, List.map_cons] at h
    cases h with
    | cons h1 h2 =>
      have ih := look_ok (k := k) e.2 h2
      by_cases hk : p.1 = k
      · have hq : q.1 = k := e.1.trans hk
        rw [valV_pos hq]
        refine ⟨fun z => ?_, fun v z => ?_⟩
        · simp only [look, if_pos hk] at z; cases z
        · simp only [look, if_pos hk] at z; cases z; exact ⟨_, rfl, h1⟩
      · have hq : ¬ q.1 = k := fun z => hk (e.1.symm.trans z)
        rw [valV_neg hq]
        simp only [look, if_neg hk]
        exact ih
theorem hasK_look (kvs : List (κ × Vl)) (k : κ) : hasK kvs k = (look kvs k).isSome := by
  induction kvs with
  | nil => rfl
  | cons p r ih =>
    unfold hasK look
    by_cases h : p.1 = k
    · rw [if_pos h, if_pos h]; rfl
    · rw [if_neg h, if_neg h]; exact ih
theorem hasK_ok {k : κ} {kvs : List (κ × Vl)} {vs : List (κ × V)} (e : vs.map (·.1) = kvs.map (·.1)) (h : RVs T ρ H (kvs.map (·.2)) (vs.map (·.2))) : hasK kvs k = (valV vs k).isSome := by
  rw [hasK_look]
  obtain ⟨h1, h2⟩ := look_ok (k := k) e h
  cases q : look kvs k with
  | none => rw [h1 q]; rfl
  | some v => obtain ⟨z, hz, _⟩ := h2 v q; rw [hz]; rfl
theorem putK_cons_eq {k : κ} {q : κ × V} {t : List (κ × V)} {z : V} (nd : q.1 = k) (hn : valV t k = none) : putK (q :: t) k z = (k, z) :: t := by
  unfold putK
  rw [if_pos (by simp [nd])]
  rw [List.map_cons, if_pos nd, nd]
  congr 1
  rw [List.map_congr_left (g := id)]
  · simp
  · intro p hp
    have : ¬ p.1 = k := fun e => by
      have h2 : (valV t k).isSome = true := by
        rw [← valV_any]
        exact List.any_eq_true.mpr ⟨p, hp, by simp [e]⟩
      rw [hn] at h2; cases h2
    rw [if_neg this]; rfl
theorem putK_cons_ne {k : κ} {q : κ × V} {t : List (κ × V)} {z : V} (h : ¬ q.1 = k) : putK (q :: t) k z = q :: putK t k z := by
  unfold putK
  rw [List.any_cons, decide_eq_false h, Bool.false_or]
  split
  · rw [List.map_cons, if_neg h]
  · rfl
theorem put_ok {k : κ} {v : Vl} {z : V} (hv : RV T ρ H v z) : ∀ {kvs : List (κ × Vl)} {vs : List (κ × V)}, (vs.map (·.1)).Nodup → vs.map (·.1) = kvs.map (·.1) → RVs T ρ H (kvs.map (·.2)) (vs.map (·.2)) →
    (putK vs k z).map (·.1) = (put kvs k v).map (·.1) ∧ RVs T ρ H ((put kvs k v).map (·.2)) ((putK vs k z).map (·.2))
  | [], [], _, _, _ => ⟨rfl, .cons hv .nil⟩
  | [], _ :: _, _, e, _ => by simp at e
  | _ :: _, [], _, e, _ => by simp at e
  | p :: r, q :: t, nd, e, h => by
    simp only [List.map_cons, List.cons.injEq] at e
    rw [List.map_cons, List.nodup_cons] at nd
    rw [List.map_cons, List.map_cons] at h
    cases h with
    | cons h1 h2 =>
      by_cases hk : p.1 = k
      · have hq : q.1 = k := e.1.trans hk
        have hn : valV t k = none := by
          cases w : valV t k with
          | none => rfl
          | some u =>
            exfalso
            have h3 : (t.any fun kv => decide (kv.1 = k)) = true := by rw [valV_any, w]; rfl
            obtain ⟨p', hp, e'⟩ := List.any_eq_true.mp h3
            exact nd.1 (by rw [hq, ← of_decide_eq_true e']; exact List.mem_map_of_mem hp)
        rw [putK_cons_eq hq hn]
        simp only [put, if_pos hk]
        exact ⟨by simp [e.2], .cons hv h2⟩
      · have hq : ¬ q.1 = k := fun z => hk (e.1.symm.trans z)
        rw [putK_cons_ne hq]
        simp only [put, if_neg hk]
        obtain ⟨a, b⟩ := put_ok hv nd.2 e.2 h2
        exact ⟨by simp [e.1, a], .cons h1 b⟩
end
def keyOf : Vl → Option Key
  | .int i => some (.inl i)
  | .str x => some (.inr x)
  | _ => none
def keyVl : Key → Vl
  | .inl i => .int i
  | .inr x => .str x
section
variable {T : Tb} {ρ : List Addr} {H : Hp}
theorem keyOf_ok {a : Vl} {x : V} {k : Key} (h : RV T ρ H a x) (e : keyOf a = some k) : x = kV k := by
  cases a <;> simp [keyOf] at e
  · subst e; exact h.intE
  · subst e; exact h.strE
theorem keyVl_ok (k : Key) : RV T ρ H (keyVl k) (kV k) := by
  cases k with
  | inl i => exact .int i
  | inr x => exact .str x
theorem RVs.at : ∀ {xs : List Vl} {vs : List V} {i : Int} {x : Vl}, RVs T ρ H xs vs → atI xs i = some x → ∃ v, atI vs i = some v ∧ RV T ρ H x v := fun {xs vs i x} h e => by
  unfold atI at e ⊢
  rw [← h.length]
  cases q : ixN xs.length i with
  | none => rw [q] at e; cases e
  | some j =>
    rw [q] at e
    exact h.get e
end
/-- the dict's keys are unlike: by the abstract heap -/
theorem dk_nodup {X : Cx} {pins : List (Addr × Obj)} {σ : St} {H : Hp} {s : Shared} {a : Addr} {vs : List (Key × V)} (I : Inv X pins σ H s) (h : H a = some (.dK vs)) : (vs.map (·.1)).Nodup := by
  obtain ⟨_, _, us, rel, dd⟩ := dk_of I.hok h
  have e := rel.keys
  rw [e]
  obtain ⟨_, _, _, _, _, _, _, _, nd⟩ := dd
  exact nd
/-! ### subscripts -/
def opIx : O2
  | .tup xs, .int i, s => (atI xs i).map fun v => (v, s)
  | .scr ns, .int i, s => (atI ns i).map fun v => (.int v, s)
  | .str x, .int i, s => if x.length ≤ LIM then (atI x.cps.toList i).map fun c => (.str ⟨#[c]⟩, s) else none
  | .ref j, y, s => match s[j]? with
    | some (.lst xs) => match y with
      | .int i => (atI xs i).map fun v => (v, s)
      | _ => none
    | some (.dic kvs) => match keyOf y with
      | some k => (look kvs k).map fun v => (v, s)
      | none => none
    | _ => none
  | _, _, _ => none
section
variable {X : Cx} {T : Tb}
theorem o_ix (hu : X.A.units + 1 < cLine) (hK : X.K = T.K := by rfl) : IxR X (rO T opIx) := fun value slice pins s σ H x y v u Q I rx ry q hs => by
  obtain ⟨ρ, st, a, b, w, s', r, ha, hb, e, k⟩ := q
  cases a with
  | tup xs =>
    cases b <;> simp only [opIx] at e <;> try cases e
    obtain ⟨z, hz, e⟩ := Option.map_eq_some_iff.mp e
    cases e
    obtain ⟨p, vs, rfl, h1, h2⟩ := ha.tupE
    obtain ⟨z', h3, h4⟩ := h2.at hz
    exact ix_tup value slice pins s σ H _ y v u Q I rx ry ⟨p, vs, _, z', rfl, hb.intE, by rw [hK]; exact h1, h3, k.here r h4⟩ hs
  | scr ns =>
    cases b <;> simp only [opIx] at e <;> try cases e
    obtain ⟨z, hz, e⟩ := Option.map_eq_some_iff.mp e
    cases e
    obtain ⟨p, rfl, h1⟩ := ha.scrE
    refine ix_list value slice pins s σ H _ y v u Q I rx ry ⟨p, _, _, .int z, rfl, hb.intE, by rw [hK]; exact h1, ?_, k.here r (.int z)⟩ hs
    unfold atI at hz ⊢
    rw [List.length_map]
    cases q : ixN ns.length _ with
    | none => rw [q] at hz; cases hz
    | some j =>
      rw [q] at hz
      have hz : ns[j]? = some z := hz
      show (ns.map V.int)[j]? = some (V.int z)
      rw [List.getElem?_map, hz]; rfl
  | str t =>
    cases b <;> simp only [opIx] at e <;> try cases e
    split at e
    · rename_i hl
      obtain ⟨z, hz, e⟩ := Option.map_eq_some_iff.mp e
      cases e
      exact ix_str value slice pins s σ H x y v u Q I rx ry ⟨t, _, z, ha.strE, hb.intE, by rw [lim_eq]; exact hl, hz, k.here r (.str _)⟩ hs
    · cases e
  | ref j =>
    obtain ⟨p, rfl, hp⟩ := ha.refE
    simp only [opIx] at e
    split at e
    · rename_i xs hx
      split at e
      · obtain ⟨z, hz, e⟩ := Option.map_eq_some_iff.mp e
        cases e
        obtain ⟨vs, h1, h2⟩ := r.lst hx hp
        obtain ⟨z', h3, h4⟩ := h2.at hz
        exact ix_list value slice pins s σ H _ y v u Q I rx ry ⟨p, vs, _, z', rfl, hb.intE, SqL.of h1, h3, k.here r h4⟩ hs
      · cases e
    · rename_i kvs hx
      split at e
      · rename_i key hk
        obtain ⟨z, hz, e⟩ := Option.map_eq_some_iff.mp e
        cases e
        obtain ⟨vs, h1, h2, h3⟩ := r.dic hx hp
        obtain ⟨z', h4, h5⟩ := (look_ok (k := key) h2 h3).2 _ hz
        have ey := keyOf_ok hb hk
        subst ey
        have g : DGet H p (kV key) (some z') := by rw [← h4]; exact DGet.k h1
        obtain rfl : v = Value.ref p := rx
        exact PyProof.Rows.tail_any (dict_typeIs I g) PySem.F.slot_dict_getitem.lookup (d_getItem hu I g ry fun w' s3 I3 rw' => ⟨z', H, I3, rw', k.here r h5⟩) hs
      · cases e
    · cases e
  | _ => simp only [opIx] at e; cases e
end
/-! ### slices -/
def cutL {α : Type} (xs : List α) (lo hi : Option Int) : List α := (xs.drop (HT.sIx xs.length 0 lo)).take (HT.sIx xs.length xs.length hi - HT.sIx xs.length 0 lo)
abbrev OSl := Vl → Option Int → Option Int → Sto → Option (Vl × Sto)
def opSl : OSl
  | .tup xs, lo, hi, s => some (.tup (cutL xs lo hi), s)
  | .scr ns, lo, hi, s => some (.ref s.length, s ++ [.lst ((cutL ns lo hi).map Vl.int)])
  | .str x, lo, hi, s => if x.length ≤ LIM then some (.str (cutS x lo hi), s) else none
  | .ref j, lo, hi, s => match s[j]? with
    | some (.lst xs) => some (.ref s.length, s ++ [.lst (cutL xs lo hi)])
    | _ => none
  | _, _, _, _ => none
def oPart : Option EM → Lo → M (Option Int)
  | none, _ => ret none
  | some m, lo => bnd (m lo) fun x => match x with
    | .int i => ret (some i)
    | _ => failM
def eSl (f : OSl) (a : EM) (l h : Option EM) : EM := fun lo => bnd (a lo) fun x => bnd (oPart l lo) fun i => bnd (oPart h lo) fun j => lift (f x i j)
theorem cutL_map {α β : Type} (f : α → β) (xs : List α) (lo hi : Option Int) : cutL (xs.map f) lo hi = (cutL xs lo hi).map f := by
  unfold cutL
  rw [List.length_map, List.map_take, List.map_drop]
def rSl (T : Tb) (f : OSl) : V → Option Int → Option Int → Hp → VK → Prop := fun x lo hi H Q => ∃ ρ s a v s', Rel T ρ H s ∧ RV T ρ H a x ∧ f a lo hi s = some (v, s') ∧ Aft T ρ H s' v Q
section
variable {X : Cx} {T : Tb} {W : WX}
theorem RVs.cut {ρ : List Addr} {H : Hp} {xs : List Vl} {vs : List V} (h : RVs T ρ H xs vs) (lo hi : Option Int) : RVs T ρ H (cutL xs lo hi) (cutV vs lo hi) := by
  unfold cutL cutV
  rw [h.length]
  exact (h.drop _).take _
theorem RVs.ints {ρ : List Addr} {H : Hp} : ∀ ns : List Int, RVs T ρ H (ns.map Vl.int) (ns.map V.int)
  | [] => .nil
  | n :: ns => .cons (.int n) (RVs.ints ns)
theorem o_sl (hK : X.K = T.K := by rfl) : SlR X (rSl T opSl) := fun pins s σ H x v vl vu lo hi sl Q I rx hs pl pu q => by
  obtain ⟨ρ, st, a, w, s', r, ha, e, k⟩ := q
  cases a with
  | tup xs =>
    simp only [opSl] at e
    cases e
    obtain ⟨p, vs, rfl, h1, h2⟩ := ha.tupE
    refine sl_tupA pins s σ H _ v vl vu lo hi sl Q I rx hs pl pu ⟨p, vs, rfl, by rw [hK]; exact h1, fun hw => ?_, fun _ q hq => k.tup r (h2.cut lo hi) hq⟩
    have : cutL xs lo hi = xs := by
      unfold cutL
      rw [h2.length, hw.1, hw.2]
      rw [List.drop_zero, Nat.sub_zero, ← h2.length, List.take_length]
    rw [this] at k
    exact k.here r (.tup h1 h2)
  | scr ns =>
    simp only [opSl] at e
    cases e
    obtain ⟨p, rfl, h1⟩ := ha.scrE
    refine sl_list pins s σ H _ v vl vu lo hi sl Q I rx hs pl pu ⟨p, _, rfl, by rw [hK]; exact h1, fun q hq => ?_⟩
    refine k.lst r ?_ hq
    rw [← cutL_map]
    exact RVs.cut (RVs.ints ns) lo hi
  | str t =>
    simp only [opSl] at e
    split at e
    · rename_i hl
      cases e
      exact sl_str pins s σ H x v vl vu lo hi sl Q I rx hs pl pu ⟨t, ha.strE, by rw [lim_eq]; exact hl, k.here r (.str _)⟩
    · cases e
  | ref j =>
    simp only [opSl] at e
    split at e
    · rename_i xs hx
      cases e
      obtain ⟨p, rfl, hp⟩ := ha.refE
      obtain ⟨vs, h1, h2⟩ := r.lst hx hp
      exact sl_list pins s σ H _ v vl vu lo hi sl Q I rx hs pl pu ⟨p, vs, rfl, SqL.of h1, fun q hq => k.lst r (h2.cut lo hi) hq⟩
    · cases e
  | _ => simp only [opSl] at e; cases e
/-- a slice's part -/
abbrev tO (T : Tb) (W : WX) (m : Option EM) : TO := tG (fun _ _ a b => a = b) T W (oPart m)
theorem co_none : PO X none (tO T W none) := ⟨fun pins s σ H Q I h => po_none.run pins s σ H Q I (by
  obtain ⟨ρ, st, lo, r, rl, p⟩ := h
  exact p ρ H none .refl r rfl)⟩
theorem co_some {e : Expr} {me : EM} (he : PE X e (tE T W me)) : PO X (some e) (tO T W (some me)) := ⟨fun pins s σ H Q I h => (po_some he).run pins s σ H Q I (by
  refine tG_bnd (R := RV T) h fun ρ st lo x z H1 r rl hx p => ?_
  cases hx with
  | int i => exact ⟨i, rfl, p ρ H1 (some i) .refl r rfl⟩
  | _ => exact p.elim)⟩
theorem ce_slice {e : Expr} {l h : Option Expr} {me : EM} {ml mh : Option EM} {pos p2 : Pos} {f : OSl} (hr : SlR X (rSl T f)) (he : PE X e (tE T W me)) (hl : PO X l (tO T W ml)) (hh : PO X h (tO T W mh)) : PE X (.Subscript e (.Slice l h none p2) pos) (tE T W (eSl f me ml mh)) :=
  pe_mono (pe_slice hr he hl hh) fun σ H Q q => tG_bnd (R := RV T) q fun ρ s lo x z H1 r rl hx p =>
    po_bnd (R := fun _ _ a b => a = b) (m := oPart ml) r rl p fun ρ1 s1 i i' H2 ext1 r1 rl1 hi p1 =>
      po_bnd (R := fun _ _ a b => a = b) (m := oPart mh) r1 rl1 p1 fun ρ2 s2 j j' H3 ext2 r2 rl2 hj p2 => by
        subst hi hj
        obtain ⟨v, s3, e, k⟩ := po_lift p2
        exact ⟨ρ2, s2, x, v, s3, r2, hx.mono (ext1.trans ext2), e, k⟩
end
/-! ### in -/
def flat : Vl → Bool
  | .non => true
  | .bl _ => true
  | .int _ => true
  | .str _ => true
  | _ => false
def eqF : Vl → Vl → Bool
  | .non, .non => true
  | .bl a, .bl b => a == b
  | .bl a, .int b => (if a then 1 else 0) == b
  | .int a, .bl b => a == (if b then 1 else 0)
  | .int a, .int b => a == b
  | .str a, .str b => a == b
  | _, _ => false
def inF (x : Vl) (xs : List Vl) : Bool := xs.any fun y => eqF y x
def inM (x y : Vl) (s : Sto) : Option Bool := match y with
  | .tup ys => if flat x && ys.all flat then some (inF x ys) else none
  | .str b => match x with
    | .str a => match a.cps.toList with
      | [c] => some (decide (c ∈ b.cps.toList))
      | _ => none
    | _ => none
  | .ref j => match s[j]? with
    | some (.lst ys) => if flat x && ys.all flat then some (inF x ys) else none
    | some (.dic kvs) => match keyOf x with
      | some k => some (hasK kvs k)
      | none => none
    | _ => none
  | _ => none
def opIn : O2 := fun x y s => match inM x y s with
  | some b => some (.bl b, s)
  | none => none
def opNotIn : O2 := fun x y s => match inM x y s with
  | some b => some (.bl (!b), s)
  | none => none
section
variable {X : Cx} {T : Tb} {ρ : List Addr} {H : Hp}
theorem flat_ok {a : Vl} {x : V} (h : RV T ρ H a x) (f : flat a = true) : flatV x = true := by
  cases h <;> simp [flat] at f <;> rfl
theorem eqF_ok {a b : Vl} {x y : V} (h : RV T ρ H a x) (g : RV T ρ H b y) (fa : flat a = true) (fb : flat b = true) : eqV x y = eqF a b := by
  cases h <;> simp [flat] at fa <;> cases g <;> simp [flat] at fb <;> rfl
theorem flats_ok : ∀ {xs : List Vl} {vs : List V}, RVs T ρ H xs vs → xs.all flat = true → vs.all flatV = true
  | _, _, .nil, _ => rfl
  | _, _, .cons h hs, e => by
    rw [List.all_cons, Bool.and_eq_true_iff] at e
    rw [List.all_cons, flat_ok h e.1, flats_ok hs e.2]; rfl
theorem inF_ok {a : Vl} {x : V} (h : RV T ρ H a x) (f : flat a = true) : ∀ {xs : List Vl} {vs : List V}, RVs T ρ H xs vs → xs.all flat = true → inV x vs = inF a xs
  | _, _, .nil, _ => rfl
  | _, _, .cons g hs, e => by
    rw [List.all_cons, Bool.and_eq_true_iff] at e
    have ih := inF_ok h f hs e.2
    unfold inV inF at ih ⊢
    rw [List.any_cons, List.any_cons, ih, eqF_ok g h e.1 f]
/-- the four kinds, told apart -/
theorem inM_cases {s : Sto} {a b : Vl} {x y : V} {c : Bool} (r : Rel T ρ H s) (ha : RV T ρ H a x) (hb : RV T ρ H b y) (e : inM a b s = some c) :
    (∃ p vs, y = .ref p ∧ (SqL T.K H p vs ∨ SqT T.K H p vs) ∧ flatV x = true ∧ vs.all flatV = true ∧ inV x vs = c) ∨ (∃ (n : Nat) (z : Str), x = .str ⟨#[n]⟩ ∧ y = .str z ∧ decide (n ∈ z.cps.toList) = c) ∨
    ∃ p o, y = .ref p ∧ DGet H p x o ∧ o.isSome = c := by
  cases b with
  | tup ys =>
    simp only [inM] at e
    split at e
    · rename_i hf
      cases e
      obtain ⟨f1, f2⟩ := Bool.and_eq_true_iff.mp hf
      obtain ⟨p, vs, rfl, h1, h2⟩ := hb.tupE
      exact .inl ⟨p, vs, rfl, .inr h1, flat_ok ha f1, flats_ok h2 f2, inF_ok ha f1 h2 f2⟩
    · cases e
  | str z =>
    simp only [inM] at e
    cases a <;> simp only at e <;> try cases e
    rename_i t
    split at e
    · rename_i c' hc
      cases e
      refine .inr (.inl ⟨c', z, ?_, hb.strE, rfl⟩)
      rw [ha.strE]
      obtain ⟨⟨l⟩⟩ := t
      have hc : l = [c'] := hc
      subst hc; rfl
    · cases e
  | ref j =>
    obtain ⟨p, rfl, hp⟩ := hb.refE
    simp only [inM] at e
    split at e
    · rename_i ys hx
      split at e
      · rename_i hf
        cases e
        obtain ⟨f1, f2⟩ := Bool.and_eq_true_iff.mp hf
        obtain ⟨vs, h1, h2⟩ := r.lst hx hp
        exact .inl ⟨p, vs, rfl, .inl (SqL.of h1), flat_ok ha f1, flats_ok h2 f2, inF_ok ha f1 h2 f2⟩
      · cases e
    · rename_i kvs hx
      split at e
      · rename_i k hk
        cases e
        obtain ⟨vs, h1, h2, h3⟩ := r.dic hx hp
        have ey := keyOf_ok ha hk
        subst ey
        exact .inr (.inr ⟨p, _, rfl, DGet.k h1, (hasK_ok h2 h3).symm⟩)
      · cases e
    · cases e
  | _ => simp only [inM] at e; cases e
theorem o_in (hu : X.A.units + 1 < cLine) (hK : X.K = T.K := by rfl) : OpR X (compareOp .In) (rO T opIn) := fun pins s σ H x y v u Q I rx ry q => by
  obtain ⟨ρ, st, a, b, w, s', r, ha, hb, e, k⟩ := q
  unfold opIn at e
  split at e
  · rename_i c hc
    cases e
    rcases inM_cases r ha hb hc with ⟨p, vs, rfl, h1, h2, h3, h4⟩ | ⟨n, z, rfl, rfl, h4⟩ | ⟨p, o, rfl, g, h4⟩
    · exact op_in_seq pins s σ H x _ v u Q I rx ry ⟨p, vs, rfl, by rw [hK]; exact h1, h2, h3, by rw [if_neg (by decide), h4]; exact k.here r (.bl _)⟩
    · exact op_in_sign pins s σ H _ _ v u Q I rx ry ⟨n, z, rfl, rfl, by rw [h4]; exact k.here r (.bl _)⟩
    · obtain rfl : u = Value.ref p := ry
      exact d_in hu I g rx fun s3 I3 => ⟨.bl o.isSome, H, I3, rfl, by rw [h4]; exact k.here r (.bl _)⟩
  · cases e
theorem o_notIn (hu : X.A.units + 1 < cLine) (hK : X.K = T.K := by rfl) : OpR X (compareOp .NotIn) (rO T opNotIn) := fun pins s σ H x y v u Q I rx ry q => by
  obtain ⟨ρ, st, a, b, w, s', r, ha, hb, e, k⟩ := q
  unfold opNotIn at e
  split at e
  · rename_i c hc
    cases e
    rcases inM_cases r ha hb hc with ⟨p, vs, rfl, h1, h2, h3, h4⟩ | ⟨n, z, rfl, rfl, h4⟩ | ⟨p, o, rfl, g, h4⟩
    · exact op_notIn_seq pins s σ H x _ v u Q I rx ry ⟨p, vs, rfl, by rw [hK]; exact h1, h2, h3, by rw [if_pos rfl, h4]; exact k.here r (.bl _)⟩
    · exact op_notIn_sign pins s σ H _ _ v u Q I rx ry ⟨n, z, rfl, rfl, by rw [h4]; exact k.here r (.bl _)⟩
    · obtain rfl : u = Value.ref p := ry
      exact d_notIn hu I g rx fun s3 I3 => ⟨.bl (!o.isSome), H, I3, rfl, by rw [h4]; exact k.here r (.bl _)⟩
  · cases e
end
end Sm

/-! S4: built-in calls and methods of built-in types -/
namespace Sm
open PySem L2
section
variable {T : Tb} {ρ : List Addr} {H : Hp}
theorem RVs.one {a : Vl} {xs : List V} (h : RVs T ρ H [a] xs) : ∃ x, xs = [x] ∧ RV T ρ H a x := by
  cases h with
  | cons h1 h2 => cases h2; exact ⟨_, rfl, h1⟩
theorem RVs.two {a b : Vl} {xs : List V} (h : RVs T ρ H [a, b] xs) : ∃ x y, xs = [x, y] ∧ RV T ρ H a x ∧ RV T ρ H b y := by
  cases h with
  | cons h1 h2 =>
    obtain ⟨y, rfl, h3⟩ := h2.one
    exact ⟨_, y, rfl, h1, h3⟩
theorem RVs.zero {xs : List V} (h : RVs T ρ H [] xs) : xs = [] := by cases h; rfl
def asInt : Vl → Option Int
  | .int i => some i
  | _ => none
def asBl : Vl → Option Bool
  | .bl i => some i
  | _ => none
def asStr : Vl → Option Str
  | .str i => some i
  | _ => none
theorem asInts_ok : ∀ {xs : List Vl} {vs : List V} {ns : List Int}, RVs T ρ H xs vs → mapO asInt xs = some ns → vs = ns.map V.int
  | _, _, _, .nil, e => by simp [mapO] at e; subst e; rfl
  | _, _, _, .cons h hs, e => by
    simp only [mapO] at e
    split at e
    · rename_i y ys e1 e2
      cases e
      have := asInts_ok hs e2
      subst this
      cases h <;> simp [asInt] at e1
      subst e1; rfl
    · cases e
theorem asBls_ok : ∀ {xs : List Vl} {vs : List V} {ns : List Bool}, RVs T ρ H xs vs → mapO asBl xs = some ns → vs = ns.map V.bl
  | _, _, _, .nil, e => by simp [mapO] at e; subst e; rfl
  | _, _, _, .cons h hs, e => by
    simp only [mapO] at e
    split at e
    · rename_i y ys e1 e2
      cases e
      have := asBls_ok hs e2
      subst this
      cases h <;> simp [asBl] at e1
      subst e1; rfl
    · cases e
theorem asStrs_ok : ∀ {xs : List Vl} {vs : List V} {ns : List Str}, RVs T ρ H xs vs → mapO asStr xs = some ns → vs = ns.map V.str
  | _, _, _, .nil, e => by simp [mapO] at e; subst e; rfl
  | _, _, _, .cons h hs, e => by
    simp only [mapO] at e
    split at e
    · rename_i y ys e1 e2
      cases e
      have := asStrs_ok hs e2
      subst this
      cases h <;> simp [asStr] at e1
      subst e1; rfl
    · cases e
end
theorem mapO_ints (ns : List Int) : mapO asInt (ns.map Vl.int) = some ns := by
  induction ns with
  | nil => rfl
  | cons n ns ih => simp only [List.map_cons, mapO, asInt, ih]
theorem mapO_bls (ns : List Bool) : mapO asBl (ns.map Vl.bl) = some ns := by
  induction ns with
  | nil => rfl
  | cons n ns ih => simp only [List.map_cons, mapO, asBl, ih]
theorem mapO_strs (ns : List Str) : mapO asStr (ns.map Vl.str) = some ns := by
  induction ns with
  | nil => rfl
  | cons n ns ih => simp only [List.map_cons, mapO, asStr, ih]
/-! ### sorting ints -/
def insS (x : Int) : List Int → List Int
  | [] => [x]
  | y :: ys => if x ≤ y then x :: y :: ys else y :: insS x ys
def srt : List Int → List Int
  | [] => []
  | x :: xs => insS x (srt xs)
theorem insS_perm (x : Int) : ∀ ys : List Int, (insS x ys).Perm (x :: ys)
  | [] => .refl _
  | y :: ys => by
    unfold insS
    split
    · exact .refl _
    · exact (List.Perm.cons y (insS_perm x ys)).trans (List.Perm.swap x y ys)
theorem srt_perm : ∀ xs : List Int, (srt xs).Perm xs
  | [] => .refl _
  | x :: xs => (insS_perm x (srt xs)).trans (List.Perm.cons x (srt_perm xs))
theorem insS_mem {x z : Int} {ys : List Int} : z ∈ insS x ys ↔ z = x ∨ z ∈ ys := by
  rw [(insS_perm x ys).mem_iff, List.mem_cons]
theorem insS_sorted (x : Int) : ∀ ys : List Int, ys.Pairwise (· ≤ ·) → (insS x ys).Pairwise (· ≤ ·)
  | [], _ => List.pairwise_singleton _ _
  | y :: ys, h => by
    unfold insS
    split
    · rename_i hle
      refine List.pairwise_cons.mpr ⟨fun z hz => ?_, h⟩
      rcases List.mem_cons.mp hz with rfl | hz
      · exact hle
      · exact Int.le_trans hle ((List.pairwise_cons.mp h).1 z hz)
    · rename_i hle
      refine List.pairwise_cons.mpr ⟨fun z hz => ?_, insS_sorted x ys (List.pairwise_cons.mp h).2⟩
      rcases insS_mem.mp hz with rfl | hz
      · omega
      · exact (List.pairwise_cons.mp h).1 z hz
theorem srt_sorted : ∀ xs : List Int, (srt xs).Pairwise (· ≤ ·)
  | [] => List.Pairwise.nil
  | x :: xs => insS_sorted x _ (srt_sorted xs)
theorem srt_eq {xs ys : List Int} (p : ys.Perm xs) (h : ys.Pairwise (· ≤ ·)) : ys = srt xs := PySem.W.ksm_same (p.trans (srt_perm xs).symm) h (srt_sorted xs)
theorem srt_mem {z : Int} {xs : List Int} : z ∈ srt xs ↔ z ∈ xs := (srt_perm xs).mem_iff
theorem srt_length (xs : List Int) : (srt xs).length = xs.length := (srt_perm xs).length_eq

/-! ### calls -/
def lenM (x : Vl) (s : Sto) : Option Nat := match x with
  | .tup xs => some xs.length
  | .scr ns => some ns.length
  | .str z => if z.length ≤ LIM then some z.length else none
  | .ref j => match s[j]? with
    | some (.lst xs) => some xs.length
    | some (.dic kvs) => some kvs.length
    | _ => none
  | _ => none
def oLen : OC
  | [x], s => (lenM x s).map fun n => (.int n, s)
  | _, _ => none
def oAbs : OC
  | [.int i], s => some (.int (if i < 0 then -i else i), s)
  | _, _ => none
def oInt : OC
  | [.int i], s => some (.int i, s)
  | [.bl b], s => some (.int (if b then 1 else 0), s)
  | _, _ => none
def oStr : OC
  | [.int i], s => if i.natAbs.log2 < 1920 then some (.str (toString i), s) else none
  | _, _ => none
def oMax : OC
  | [.int i, .int j], s => some (.int (if j > i then j else i), s)
  | _, _ => none
def oMin : OC
  | [.int i, .int j], s => some (.int (if j < i then j else i), s)
  | _, _ => none
def oTuple : OC
  | [.tup xs], s => some (.tup xs, s)
  | [.ref j], s => match s[j]? with
    | some (.lst xs) => some (.tup xs, s)
    | _ => none
  | _, _ => none
def oList : OC
  | [.tup xs], s => some (.ref s.length, s ++ [.lst xs])
  | [.ref j], s => match s[j]? with
    | some (.lst xs) => some (.ref s.length, s ++ [.lst xs])
    | some (.dic kvs) => some (.ref s.length, s ++ [.lst (kvs.map fun kv => keyVl kv.1)])
    | _ => none
  | _, _ => none
def lstOf (x : Vl) (s : Sto) : Option (List Vl) := match x with
  | .ref j => match s[j]? with
    | some (.lst xs) => some xs
    | _ => none
  | _ => none
def oSum : OC
  | [x], s => match lstOf x s with
    | some xs => (mapO asInt xs).map fun ns => (.int ns.sum, s)
    | none => none
  | _, _ => none
def oAll : OC
  | [x], s => match lstOf x s with
    | some xs => (mapO asBl xs).map fun ns => (.bl (ns.all id), s)
    | none => none
  | _, _ => none
def oAny : OC
  | [x], s => match lstOf x s with
    | some xs => (mapO asBl xs).map fun ns => (.bl (ns.any id), s)
    | none => none
  | _, _ => none
def oSorted : OC
  | [x], s => match lstOf x s with
    | some xs => (mapO asInt xs).map fun ns => (.ref s.length, s ++ [.lst ((srt ns).map Vl.int)])
    | none => none
  | _, _ => none
def oRepr : OC
  | [x], s => match toD 40 s x with
    | some d => if d.showable && decide (d.shown.length ≤ LIM) then some (.str d.shown, s) else none
    | none => none
  | _, _ => none
section
variable {X : Cx} {T : Tb}
theorem CallR.imp {f : Value} {r r' : List V → Hp → VK → Prop} (h : CallR X f r) (k : ∀ xs H Q, r' xs H Q → r xs H Q) : CallR X f r' := fun pins s σ H xs us Q I rs q => h pins s σ H xs us Q I rs (k xs H Q q)
theorem d_lenC {H : Hp} {a : Addr} {kvs : List (Key × V)} : ∀ (pins : List (Addr × Obj)) (s : Shared) (σ : St) (xs : List V) (us : List Value) (Q : VK), Inv X pins σ H s → Vals xs us → xs = [.ref a] → H a = some (.dK kvs) → Q (.int kvs.length) H →
    wpAny (model X.prog X.w) X.A (call (.builtin "len") us) (EP X pins σ Q) X.xe s := fun pins s σ xs us Q I r e h q => by
  subst e
  cases r with
  | cons r1 r2 =>
    cases r2
    obtain rfl := r1
    exact d_len I (.inl h) fun t s' I' => ⟨.int _, H, I', ⟨t, rfl⟩, q⟩
theorem c_len (hK : X.K = T.K := by rfl) : CallR X (.builtin "len") (rC T oLen) := fun pins s σ H xs us Q I rs q => by
  obtain ⟨ρ, st, as, w, s', r, ha, e, k⟩ := q
  unfold oLen at e
  split at e
  · rename_i x
    obtain ⟨z, rfl, hz⟩ := ha.one
    obtain ⟨n, hn, e⟩ := Option.map_eq_some_iff.mp e
    cases e
    have fin := k.here r (.int (n : Int))
    cases x with
    | tup ys =>
      obtain ⟨p, vs, rfl, h1, h2⟩ := hz.tupE
      cases hn
      rw [h2.length] at fin
      exact call_len_seq pins s σ H _ us Q I rs ⟨p, vs, rfl, .inr (by rw [hK]; exact h1), fin⟩
    | scr ns =>
      obtain ⟨p, rfl, h1⟩ := hz.scrE
      cases hn
      exact call_len_seq pins s σ H _ us Q I rs ⟨p, _, rfl, .inl (by rw [hK]; exact h1), by rw [List.length_map]; exact fin⟩
    | str t =>
      simp only [lenM] at hn
      split at hn
      · rename_i hl
        cases hn
        exact call_len pins s σ H _ us Q I rs ⟨_, _, rfl, by rw [hz.strE]; exact ⟨by rw [lim_eq]; exact hl, rfl⟩, fin⟩
      · cases hn
    | ref j =>
      obtain ⟨p, rfl, hp⟩ := hz.refE
      simp only [lenM] at hn
      split at hn
      · rename_i ys hx
        cases hn
        obtain ⟨vs, h1, h2⟩ := r.lst hx hp
        rw [h2.length] at fin
        exact call_len_seq pins s σ H _ us Q I rs ⟨p, vs, rfl, .inl (SqL.of h1), fin⟩
      · rename_i kvs hx
        cases hn
        obtain ⟨vs, h1, h2, h3⟩ := r.dic hx hp
        have : kvs.length = vs.length := by have := congrArg List.length h2; simpa using this.symm
        rw [this] at fin
        exact d_lenC pins s σ _ us Q I rs rfl h1 fin
      · cases hn
    | _ => cases hn
  · cases e
theorem c_abs : CallR X (.builtin "abs") (rC T oAbs) := CallR.imp call_abs fun xs H Q q => by
  obtain ⟨ρ, st, as, w, s', r, ha, e, k⟩ := q
  unfold oAbs at e
  split at e
  · obtain ⟨z, rfl, hz⟩ := ha.one
    cases e
    exact ⟨_, by rw [hz.intE], k.here r (.int _)⟩
  · cases e
theorem c_int : CallR X (.type "int") (rC T oInt) := CallR.imp call_int1 fun xs H Q q => by
  obtain ⟨ρ, st, as, w, s', r, ha, e, k⟩ := q
  unfold oInt at e
  split at e
  · obtain ⟨z, rfl, hz⟩ := ha.one
    cases e
    exact .inl ⟨_, by rw [hz.intE], k.here r (.int _)⟩
  · obtain ⟨z, rfl, hz⟩ := ha.one
    cases e
    exact .inr ⟨_, by rw [hz.blE], k.here r (.int _)⟩
  · cases e
theorem c_str : CallR X (.type "str") (rC T oStr) := CallR.imp call_str_int fun xs H Q q => by
  obtain ⟨ρ, st, as, w, s', r, ha, e, k⟩ := q
  unfold oStr at e
  split at e
  · split at e
    · rename_i hl
      obtain ⟨z, rfl, hz⟩ := ha.one
      cases e
      exact ⟨_, by rw [hz.intE], hl, k.here r (.str _)⟩
    · cases e
  · cases e
theorem c_max (hc : X.calm = true := by rfl) : CallR X (.builtin "max") (rC T oMax) := CallR.imp (call_max2 hc) fun xs H Q q => by
  obtain ⟨ρ, st, as, w, s', r, ha, e, k⟩ := q
  unfold oMax at e
  split at e
  · obtain ⟨z, z', rfl, hz, hz'⟩ := ha.two
    cases e
    exact ⟨_, _, by rw [hz.intE, hz'.intE], k.here r (.int _)⟩
  · cases e
theorem c_min (hc : X.calm = true := by rfl) : CallR X (.builtin "min") (rC T oMin) := CallR.imp (call_min2 hc) fun xs H Q q => by
  obtain ⟨ρ, st, as, w, s', r, ha, e, k⟩ := q
  unfold oMin at e
  split at e
  · obtain ⟨z, z', rfl, hz, hz'⟩ := ha.two
    cases e
    exact ⟨_, _, by rw [hz.intE, hz'.intE], k.here r (.int _)⟩
  · cases e
theorem c_tuple (hK : X.K = T.K := by rfl) : CallR X (.type "tuple") (rC T oTuple) := CallR.imp call_tuple_of fun xs H Q q => by
  obtain ⟨ρ, st, as, w, s', r, ha, e, k⟩ := q
  unfold oTuple at e
  split at e
  · obtain ⟨z, rfl, hz⟩ := ha.one
    cases e
    obtain ⟨p, vs, rfl, h1, h2⟩ := hz.tupE
    exact ⟨p, vs, rfl, .inr ⟨by rw [hK]; exact h1, k.here r (.tup h1 h2)⟩⟩
  · split at e
    · rename_i xs hx
      cases e
      obtain ⟨z, rfl, hz⟩ := ha.one
      obtain ⟨p, rfl, hp⟩ := hz.refE
      obtain ⟨vs, h1, h2⟩ := r.lst hx hp
      exact ⟨p, vs, rfl, .inl ⟨SqL.of h1, fun q hq => k.tup r h2 hq⟩⟩
    · cases e
  · cases e
theorem keys_ok {ρ : List Addr} {H : Hp} : ∀ {kvs : List (Key × Vl)} {vs : List (Key × V)}, vs.map (·.1) = kvs.map (·.1) → RVs T ρ H (kvs.map fun kv => keyVl kv.1) (vs.map fun kv => kV kv.1)
  | [], [], _ => .nil
  | [], _ :: _, e => by simp at e
  | _ :: _, [], e => by simp at e
  | p :: r, q :: t, e => by
    simp only [List.map_cons, List.cons.injEq] at e
    rw [List.map_cons, List.map_cons, e.1]
    exact .cons (keyVl_ok _) (keys_ok e.2)
theorem c_list (hc : X.calm = true := by rfl) (hK : X.K = T.K := by rfl) : CallR X (.type "list") (rC T oList) := fun pins s σ H xs us Q I rs q => by
  obtain ⟨ρ, st, as, w, s', r, ha, e, k⟩ := q
  unfold oList at e
  split at e
  · obtain ⟨z, rfl, hz⟩ := ha.one
    cases e
    obtain ⟨p, vs, rfl, h1, h2⟩ := hz.tupE
    exact call_list_of pins s σ H _ us Q I rs ⟨p, vs, rfl, .inr (by rw [hK]; exact h1), fun q hq => k.lst r h2 hq⟩
  · obtain ⟨z, rfl, hz⟩ := ha.one
    obtain ⟨p, rfl, hp⟩ := hz.refE
    split at e
    · rename_i xs hx
      cases e
      obtain ⟨vs, h1, h2⟩ := r.lst hx hp
      exact call_list_of pins s σ H _ us Q I rs ⟨p, vs, rfl, .inl (SqL.of h1), fun q hq => k.lst r h2 hq⟩
    · rename_i kvs hx
      cases e
      obtain ⟨vs, h1, h2, h3⟩ := r.dic hx hp
      exact call_list_dK hc pins s σ H _ us Q I rs ⟨p, vs, rfl, h1, fun q hq => k.lst r (keys_ok h2) hq⟩
    · cases e
  · cases e
theorem lstOf_ok {ρ : List Addr} {H : Hp} {s : Sto} {x : Vl} {z : V} {xs : List Vl} (r : Rel T ρ H s) (hz : RV T ρ H x z) (e : lstOf x s = some xs) : ∃ p vs, z = .ref p ∧ H p = some (.lst vs) ∧ RVs T ρ H xs vs := by
  unfold lstOf at e
  split at e
  · split at e
    · rename_i ys hx
      cases e
      obtain ⟨p, rfl, hp⟩ := hz.refE
      obtain ⟨vs, h1, h2⟩ := r.lst hx hp
      exact ⟨p, vs, rfl, h1, h2⟩
    · cases e
  · cases e
theorem c_sum (hc : X.calm = true := by rfl) : CallR X (.builtin "sum") (rC T oSum) := CallR.imp (cr_sum hc) fun xs H Q q => by
  obtain ⟨ρ, st, as, w, s', r, ha, e, k⟩ := q
  unfold oSum at e
  split at e
  · split at e
    · rename_i x xs hx
      obtain ⟨z, rfl, hz⟩ := ha.one
      obtain ⟨ns, hn, e⟩ := Option.map_eq_some_iff.mp e
      cases e
      obtain ⟨p, vs, rfl, h1, h2⟩ := lstOf_ok r hz hx
      rw [asInts_ok h2 hn] at h1
      exact ⟨p, ns, rfl, SqL.of h1, k.here r (.int _)⟩
    · cases e
  · cases e
theorem c_all (hc : X.calm = true := by rfl) : CallR X (.builtin "all") (rC T oAll) := CallR.imp (cr_all hc) fun xs H Q q => by
  obtain ⟨ρ, st, as, w, s', r, ha, e, k⟩ := q
  unfold oAll at e
  split at e
  · split at e
    · rename_i x xs hx
      obtain ⟨z, rfl, hz⟩ := ha.one
      obtain ⟨ns, hn, e⟩ := Option.map_eq_some_iff.mp e
      cases e
      obtain ⟨p, vs, rfl, h1, h2⟩ := lstOf_ok r hz hx
      rw [asBls_ok h2 hn] at h1
      exact ⟨p, ns, rfl, SqL.of h1, k.here r (.bl _)⟩
    · cases e
  · cases e
theorem c_any (hc : X.calm = true := by rfl) : CallR X (.builtin "any") (rC T oAny) := CallR.imp (cr_any hc) fun xs H Q q => by
  obtain ⟨ρ, st, as, w, s', r, ha, e, k⟩ := q
  unfold oAny at e
  split at e
  · split at e
    · rename_i x xs hx
      obtain ⟨z, rfl, hz⟩ := ha.one
      obtain ⟨ns, hn, e⟩ := Option.map_eq_some_iff.mp e
      cases e
      obtain ⟨p, vs, rfl, h1, h2⟩ := lstOf_ok r hz hx
      rw [asBls_ok h2 hn] at h1
      exact ⟨p, ns, rfl, SqL.of h1, k.here r (.bl _)⟩
    · cases e
  · cases e
theorem c_sorted : CallR X (.builtin "sorted") (rC T oSorted) := CallR.imp cr_sortedI fun xs H Q q => by
  obtain ⟨ρ, st, as, w, s', r, ha, e, k⟩ := q
  unfold oSorted at e
  split at e
  · split at e
    · rename_i x xs hx
      obtain ⟨z, rfl, hz⟩ := ha.one
      obtain ⟨ns, hn, e⟩ := Option.map_eq_some_iff.mp e
      cases e
      obtain ⟨p, vs, rfl, h1, h2⟩ := lstOf_ok r hz hx
      rw [asInts_ok h2 hn] at h1
      refine ⟨p, ns, rfl, SqL.of h1, fun ns' q hp hs hq => ?_⟩
      rw [srt_eq hp hs]
      exact k.lst r (RVs.ints _) hq
    · cases e
  · cases e
/-- repr of data -/
theorem dp_noDict {K : PySem.W.Frag} {H : Hp} : ∀ (d : PyData) (v : V), Dp K H v d → d.hasDict = false
  | .none, _, _ => by simp only [PyData.hasDict]
  | .bool _, _, _ => by simp only [PyData.hasDict]
  | .int _, _, _ => by simp only [PyData.hasDict]
  | .str _, _, _ => by simp only [PyData.hasDict]
  | .list ds, _, .lst _ h => by
    simp only [PyData.hasDict]
    exact go ds _ h
  | .tuple ds, _, .tup _ h => by
    simp only [PyData.hasDict]
    exact go ds _ h
where
  go {K : PySem.W.Frag} {H : Hp} : ∀ (ds : List PyData) (vs : List V), DpAll K H vs ds → PyData.hasDictAll ds = false
  | [], _, _ => by simp only [PyData.hasDictAll]
  | d :: ds, _, .cons h hs => by
    simp only [PyData.hasDictAll]
    rw [dp_noDict d _ h, go ds _ hs]
    rfl
theorem c_repr (hg : X.A.guards = some []) (hu : X.A.units + 64 < cLine) (hK : X.K = T.K := by rfl) : CallR X (.builtin "repr") (rC T oRepr) := fun pins s σ H xs us Q I rs q => by
  obtain ⟨ρ, st, as, w, s', r, ha, e, k⟩ := q
  unfold oRepr at e
  split at e
  · rename_i x
    split at e
    · rename_i d hd
      split at e
      · rename_i hb
        cases e
        obtain ⟨hs, hl⟩ := Bool.and_eq_true_iff.mp hb
        have hl := of_decide_eq_true hl
        obtain ⟨z, rfl, hz⟩ := ha.one
        obtain ⟨p1, p2⟩ := toD_dp r 40 x z d hz hd
        have nd := dp_noDict d z p1
        have fin := k.here r (.str d.shown)
        cases rs with
        | cons r1 r2 =>
          cases r2
          rename_i u
          rw [← hK] at p1
          obtain ⟨bs, rd⟩ := Dp.reads I d z u p1 r1
          cases p1 with
          | non =>
            obtain rfl := r1
            simp only [PyData.shown] at fin
            exact PySem.P.repr_of_none ⟨.str _, H, I.tok _, ⟨_, rfl⟩, fin⟩
          | bl b =>
            obtain rfl := r1
            simp only [PyData.shown] at fin
            refine PySem.P.repr_of_bool ⟨.str _, H, I.tok _, ⟨_, rfl⟩, fin⟩
          | int i =>
            obtain ⟨t, rfl⟩ := r1
            simp only [PyData.shown] at fin
            simp only [PyData.showable] at hs
            exact PySem.P.repr_of_int (of_decide_eq_true hs) ⟨.str _, H, I.tok _, ⟨_, rfl⟩, fin⟩
          | str y =>
            obtain ⟨t, rfl⟩ := r1
            simp only [PyData.shown] at fin hl
            exact PySem.P.repr_of_str ⟨.str _, H, I.tok _, ⟨_, rfl⟩, fin⟩ (by rw [lim_eq]; exact hl)
          | lst g1 g2 =>
            obtain rfl := r1
            exact repr_of_reads' rd hs (fun z => by rw [nd] at z; cases z) hg (by omega) (fun _ _ e => e) (fun h' u tk hk => ⟨.str _, H, I.kept (t' := tk) hk, ⟨_, rfl⟩, fin⟩) (by rw [lim_eq]; exact hl)
          | tup g1 g2 =>
            obtain rfl := r1
            exact repr_of_reads' rd hs (fun z => by rw [nd] at z; cases z) hg (by omega) (fun _ _ e => e) (fun h' u tk hk => ⟨.str _, H, I.kept (t' := tk) hk, ⟨_, rfl⟩, fin⟩) (by rw [lim_eq]; exact hl)
      · cases e
    · cases e
  · cases e
end
/-! ### methods of built-in types -/
inductive Kd where
  | list | dict | str
def kd (k : Kd) (x : Vl) (s : Sto) : Bool := match k, x with
  | .str, .str _ => true
  | .list, .ref j => match s[j]? with
    | some (.lst _) => true
    | _ => false
  | .dict, .ref j => match s[j]? with
    | some (.dic _) => true
    | _ => false
  | _, _ => false
def Kd.nm : Kd → String
  | .list => "list"
  | .dict => "dict"
  | .str => "str"
def eBm (t : Kd) (f : OMt) (o : EM) (a : AM) : EM := fun lo => bnd (o lo) fun x s => match kd t x s with
  | true => bnd (a lo) (fun xs => lift (f x xs)) s
  | false => .fail
def eBm0 (t : Kd) (f : OMt) (o : EM) : EM := fun lo => bnd (o lo) fun x s => match kd t x s with
  | true => lift (f x []) s
  | false => .fail
def oAppend : OMt
  | .ref j, [v], s => match s[j]? with
    | some (.lst xs) => if xs.length < LIM then some (.non, s.set j (.lst (xs ++ [v]))) else none
    | _ => none
  | _, _, _ => none
def oExtend : OMt
  | .ref j, [.ref i], s => match s[j]?, s[i]? with
    | some (.lst xs), some (.lst ys) => if xs.length + ys.length ≤ LIM then some (.non, s.set j (.lst (xs ++ ys))) else none
    | _, _ => none
  | _, _, _ => none
def oPop : OMt
  | .ref j, [], s => match s[j]? with
    | some (.lst xs) => match xs[xs.length - 1]? with
      | some v => some (v, s.set j (.lst xs.dropLast))
      | none => none
    | _ => none
  | _, _, _ => none
section
variable {X : Cx} {T : Tb} {W : WX} {o e : Expr} {es : List Expr} {mo : EM} {ma : AM} {name : Str} {apos cpos : Pos} {id : String} {f : OMt} {t : Kd}
theorem kd_ok {ρ : List Addr} {H : Hp} {s : Sto} {x : Vl} {z : V} (r : Rel T ρ H s) (hz : RV T ρ H x z) (h : kd t x s = true) : tyV X.K t.nm z H := by
  cases t <;> cases x <;> simp only [kd] at h <;> try cases h
  · split at h
    · rename_i hx
      obtain ⟨p, rfl, hp⟩ := hz.refE
      obtain ⟨vs, h1, h2⟩ := r.lst hx hp
      exact .inl ⟨rfl, vs, SqL.of h1⟩
    · cases h
  · split at h
    · rename_i hx
      obtain ⟨p, rfl, hp⟩ := hz.refE
      obtain ⟨vs, h1, h2⟩ := r.dic hx hp
      exact .inr (.inr (.inl ⟨rfl, .inl ⟨vs, h1⟩⟩))
    · cases h
  · rw [hz.strE]; exact rfl
theorem ce_bm (pa : PlainAttrs t.nm) (slot : Slot t.nm name id) (hty : typeOf (.builtin id) = pure (.type "method_descriptor")) (hm : MtR X id (rMt T f)) (ho : PE X o (tE T W mo)) (ha : PA X (e :: es) (tA T W ma))
    (hbase : attributeBase o name X.env (eval o X.env) = eval o X.env := by rfl)
    (hfew : ((backTo cpos (starEach (e :: es) X.env)).all (fun x => !x.1) && (backToKw cpos (keywordEach [] X.env)).all (fun x => x.1.isSome)
      && decide ((e :: es).length + ([] : List Keyword).length + (if ([] : List Keyword).isEmpty then 0 else 1) < 30)) = true := by rfl)
    (hline : (apos.endLine == cpos.line) = true := by rfl) (hs : starEach (e :: es) X.env = (false, eval e X.env) :: starEach es X.env := by rfl) (hplain : (backTo cpos (starEach es X.env)).any (·.1) = false := by rfl) :
    PE X (.Call (.Attribute o name apos) (e :: es) [] cpos) (tE T W (eBm t f mo ma)) :=
  pe_mono (pe_bm pa slot hty hm ho ha hbase hfew hline hs hplain) fun σ H Q h => tG_bnd (R := RV T) h fun ρ s lo x z H1 r rl hx p => by
    cases hk : kd t x s with
    | false => simp only [hk] at p; exact p.elim
    | true =>
      simp only [hk] at p
      refine ⟨kd_ok r hx hk, po_bnd (R := RVs T) (m := ma) r rl p fun ρ' s' xs zs H' ext r' rl' hxs p' => ?_⟩
      obtain ⟨v, s3, e, k⟩ := po_lift p'
      exact ⟨ρ', s', x, xs, v, s3, r', hx.mono ext, hxs, e, k⟩
theorem ce_bm0 (pa : PlainAttrs t.nm) (slot : Slot t.nm name id) (hty : typeOf (.builtin id) = pure (.type "method_descriptor")) (hm : MtR X id (rMt T f)) (ho : PE X o (tE T W mo))
    (hbase : attributeBase o name X.env (eval o X.env) = eval o X.env := by rfl) (hline : (apos.endLine == cpos.line) = true := by rfl) : PE X (.Call (.Attribute o name apos) [] [] cpos) (tE T W (eBm0 t f mo)) :=
  pe_mono (pe_bm0 pa slot hty hm ho hbase hline) fun σ H Q h => tG_bnd (R := RV T) h fun ρ s lo x z H1 r rl hx p => by
    cases hk : kd t x s with
    | false => simp only [hk] at p; exact p.elim
    | true =>
      simp only [hk] at p
      obtain ⟨v, s3, e, k⟩ := po_lift p
      exact ⟨kd_ok r hx hk, ρ, s, x, [], v, s3, r, hx, .nil, e, k⟩
theorem MtR.imp {r r' : V → List V → Hp → VK → Prop} (h : MtR X id r) (k : ∀ x xs H Q, r' x xs H Q → r x xs H Q) : MtR X id r' := fun pins s σ H x xs v us Q I rx rs q => h pins s σ H x xs v us Q I rx rs (k x xs H Q q)
theorem m_append : MtR X "list.append" (rMt T oAppend) := MtR.imp mt_append fun x xs H Q q => by
  obtain ⟨ρ, st, a, as, w, s', r, ha, hs, e, k⟩ := q
  unfold oAppend at e
  split at e
  · split at e
    · rename_i v s j ys hx
      split at e
      · rename_i hl
        cases e
        obtain ⟨p, rfl, hp⟩ := ha.refE
        obtain ⟨z, rfl, hz⟩ := hs.one
        obtain ⟨vs, h1, h2⟩ := r.lst hx hp
        refine ⟨p, vs, z, rfl, rfl, h1, by rw [← h2.length, lim_eq]; exact hl, ?_⟩
        exact k.set r hp h1 (fun z => z) ⟨_, upd_same, (h2.append (.cons hz .nil)).mono (r.setExt hp h1)⟩ .non
      · cases e
    · cases e
  · cases e
theorem m_extend : MtR X "list.extend" (rMt T oExtend) := MtR.imp mt_extend fun x xs H Q q => by
  obtain ⟨ρ, st, a, as, w, s', r, ha, hs, e, k⟩ := q
  unfold oExtend at e
  split at e
  · split at e
    · rename_i ys zs hx hy
      split at e
      · rename_i hl
        cases e
        obtain ⟨p, rfl, hp⟩ := ha.refE
        obtain ⟨z, rfl, hz⟩ := hs.one
        obtain ⟨q, rfl, hq⟩ := hz.refE
        obtain ⟨vs, h1, h2⟩ := r.lst hx hp
        obtain ⟨us, h3, h4⟩ := r.lst hy hq
        refine ⟨p, q, vs, us, rfl, rfl, h1, h3, by rw [← h2.length, ← h4.length, lim_eq]; exact hl, ?_⟩
        exact k.set r hp h1 (fun z => z) ⟨_, upd_same, (h2.append h4).mono (r.setExt hp h1)⟩ .non
      · cases e
    · cases e
  · cases e
theorem RVs.dropLast {ρ : List Addr} {H : Hp} {xs : List Vl} {vs : List V} (h : RVs T ρ H xs vs) : RVs T ρ H xs.dropLast vs.dropLast := by
  rw [List.dropLast_eq_take, List.dropLast_eq_take, h.length]
  exact h.take _
theorem m_pop : MtR X "list.pop" (rMt T oPop) := MtR.imp mt_pop fun x xs H Q q => by
  obtain ⟨ρ, st, a, as, w, s', r, ha, hs, e, k⟩ := q
  unfold oPop at e
  split at e
  · split at e
    · rename_i ys hx
      split at e
      · rename_i v hv
        cases e
        obtain ⟨p, rfl, hp⟩ := ha.refE
        rw [hs.zero]
        obtain ⟨vs, h1, h2⟩ := r.lst hx hp
        obtain ⟨z, hz, rz⟩ := h2.get hv
        refine ⟨p, vs, z, rfl, rfl, h1, by rw [← h2.length]; exact hz, ?_⟩
        exact k.set r hp h1 (fun z => z) ⟨_, upd_same, h2.dropLast.mono (r.setExt hp h1)⟩ rz
      · cases e
    · cases e
  · cases e
end
end Sm

/-! S5: statements -/
namespace Sm
open PySem L2

inductive RS where
  | nx (lo : Lo) (s : Sto) | rt (v : Vl) (s : Sto) | bk (lo : Lo) (s : Sto) | ct (lo : Lo) (s : Sto) | exc (e : Ex) (lo : Lo) (s : Sto) | fail
abbrev SM := Lo → Sto → RS
def bndS {α : Type} (m : Lo → M α) (f : Lo → α → Sto → RS) : SM := fun lo s => match m lo s with
  | .ok a s' => f lo a s'
  | .exc e s' => .exc e lo s'
  | .fail => .fail
def sNil : SM := fun lo s => .nx lo s
def sSeq (a b : SM) : SM := fun lo s => match a lo s with
  | .nx lo' s' => b lo' s'
  | .rt v s' => .rt v s'
  | .bk lo' s' => .bk lo' s'
  | .ct lo' s' => .ct lo' s'
  | .exc e lo' s' => .exc e lo' s'
  | .fail => .fail
def sExpr (e : EM) : SM := bndS e fun lo _ s => .nx lo s
def sRet (e : EM) : SM := bndS e fun _ v s => .rt v s
def sRetN : SM := fun _ s => .rt .non s
def sSet (i : Nat) (e : EM) : SM := bndS e fun lo v s => .nx (lo.set i (some v)) s
def sIf (t : TM) (a b : SM) : SM := bndS t fun lo c s => match c with
  | true => a lo s
  | false => b lo s
def sBreak : SM := fun lo s => .bk lo s
def sCont : SM := fun lo s => .ct lo s
/-- a, b = e1, e2 and three -/
def sPar (i j : Nat) (a : AM) : SM := bndS a fun lo vs s => match vs with
  | [v, w] => .nx ((lo.set i (some v)).set j (some w)) s
  | _ => .fail
def sPar3 (i j l : Nat) (a : AM) : SM := bndS a fun lo vs s => match vs with
  | [v, w, x] => .nx (((lo.set i (some v)).set j (some w)).set l (some x)) s
  | _ => .fail

/-- what is asked behind a statement -/
def PoXS (T : Tb) (W : WX) (ρ : List Addr) (H : Hp) (e : Ex) (lo : Lo) (s : Sto) : Prop :=
  ∀ (ρ' : List Addr) (H' : Hp) (σ' : St) (C : Addr), Ext T ρ H ρ' H' → Rel T ρ' H' s → RL T ρ' H' lo σ' → T.cl[e.c]? = some C →
    match e.fs with
    | none => W (.ref C) none σ' H'
    | some fs => ∀ (d : Addr) (vs : List (Str × V)), H' d = some (.xd vs) → vs.map (·.1) = fs.map (·.1) → RVs T ρ' H' (fs.map (·.2)) (vs.map (·.2)) → W (.ref C) (some d) σ' H'
def PoN (T : Tb) (ρ : List Addr) (H : Hp) (lo : Lo) (s : Sto) (Q : St → Hp → Prop) : Prop := ∀ (ρ' : List Addr) (H' : Hp) (σ' : St), Ext T ρ H ρ' H' → Rel T ρ' H' s → RL T ρ' H' lo σ' → Q σ' H'
def PoS (T : Tb) (W : WX) (ρ : List Addr) (H : Hp) (r : RS) (D : Ends) : Prop := match r with
  | .nx lo s => PoN T ρ H lo s D.nx
  | .rt v s => ∀ (ρ' : List Addr) (H' : Hp) (z : V), Ext T ρ H ρ' H' → Rel T ρ' H' s → RV T ρ' H' v z → D.rt z H'
  | .bk lo s => PoN T ρ H lo s D.bk
  | .ct lo s => PoN T ρ H lo s D.ct
  | .exc e lo s => PoXS T W ρ H e lo s
  | .fail => False
theorem PoN.mono {T : Tb} {ρ ρ' : List Addr} {H H' : Hp} {lo : Lo} {s : Sto} {Q : St → Hp → Prop} (p : PoN T ρ H lo s Q) (e : Ext T ρ H ρ' H') : PoN T ρ' H' lo s Q := fun ρ2 H2 σ2 e2 => p ρ2 H2 σ2 (e.trans e2)
theorem PoS.mono {T : Tb} {W : WX} {ρ ρ' : List Addr} {H H' : Hp} {r : RS} {D : Ends} (p : PoS T W ρ H r D) (e : Ext T ρ H ρ' H') : PoS T W ρ' H' r D := by
  cases r with
  | nx lo s => exact PoN.mono (lo := lo) p e
  | rt v s => exact fun ρ2 H2 z e2 => p ρ2 H2 z (e.trans e2)
  | bk lo s => exact PoN.mono (lo := lo) p e
  | ct lo s => exact PoN.mono (lo := lo) p e
  | exc x lo s => exact fun ρ2 H2 σ2 C e2 => p ρ2 H2 σ2 C (e.trans e2)
  | fail => exact p
def tS (T : Tb) (W : WX) (m : SM) : TS := fun D σ H => ∃ (ρ : List Addr) (s : Sto) (lo : Lo), Rel T ρ H s ∧ RL T ρ H lo σ ∧ PoS T W ρ H (m lo s) D
theorem ps_mono {X : Cx} {e : Stmt} {t t' : TS} (h : PS X e t) (k : ∀ D σ H, t' D σ H → t D σ H) : PS X e t' := ⟨fun pins s σ H D I q => h.run pins s σ H D I (k D σ H q)⟩
theorem pss_mono {X : Cx} {e : List Stmt} {t t' : TS} (h : PSs X e t) (k : ∀ D σ H, t' D σ H → t D σ H) : PSs X e t' := ⟨fun pins s σ H D I q => h.run pins s σ H D I (k D σ H q)⟩
/-- a part of a statement, then the rest -/
theorem poS_bnd {α β : Type} {R : List Addr → Hp → α → β → Prop} {T : Tb} {W : WX} {m : Lo → M α} {f : Lo → α → Sto → RS} {ρ : List Addr} {s : Sto} {lo : Lo} {σ : St} {H : Hp} {D : Ends} {Q' : β → Hp → Prop}
    (r : Rel T ρ H s) (rl : RL T ρ H lo σ) (p : PoS T W ρ H (bndS m f lo s) D)
    (k : ∀ (ρ' : List Addr) (s' : Sto) (a : α) (b : β) (H' : Hp), Ext T ρ H ρ' H' → Rel T ρ' H' s' → RL T ρ' H' lo σ → R ρ' H' a b → PoS T W ρ' H' (f lo a s') D → Q' b H') : tG R T W m σ H Q' := by
  refine ⟨ρ, s, lo, r, rl, ?_⟩
  unfold bndS at p
  cases e : m lo s with
  | ok a s1 =>
    rw [e] at p
    exact fun ρ' H' b x r' hb => k ρ' s1 a b H' x r' (rl.mono x) hb (p.mono x)
  | exc z s1 =>
    rw [e] at p
    exact fun ρ' H' C x r' hC => p ρ' H' σ C x r' (rl.mono x) hC
  | fail => rw [e] at p; exact p
theorem tS_bnd {α β : Type} {R : List Addr → Hp → α → β → Prop} {T : Tb} {W : WX} {m : Lo → M α} {f : Lo → α → Sto → RS} {σ : St} {H : Hp} {D : Ends} {Q' : β → Hp → Prop} (h : tS T W (bndS m f) D σ H)
    (k : ∀ (ρ : List Addr) (s : Sto) (lo : Lo) (a : α) (b : β) (H' : Hp), Rel T ρ H' s → RL T ρ H' lo σ → R ρ H' a b → PoS T W ρ H' (f lo a s) D → Q' b H') : tG R T W m σ H Q' := by
  obtain ⟨ρ, s, lo, r, rl, p⟩ := h
  exact poS_bnd r rl p fun ρ' s' a b H' _ r' rl' hb p' => k ρ' s' lo a b H' r' rl' hb p'
section
variable {X : Cx} {T : Tb} {W : WX} {e c : Expr} {st : Stmt} {rest a b : List Stmt} {me : EM} {mt : TM} {ms mr ma mb : SM} {pos : Pos}
theorem cs_nil : PSs X [] (tS T W sNil) := pss_mono pss_nil fun D σ H h => by
  obtain ⟨ρ, s, lo, r, rl, p⟩ := h
  exact p ρ H σ .refl r rl
theorem cs_cons (h1 : PS X st (tS T W ms)) (h2 : PSs X rest (tS T W mr)) : PSs X (st :: rest) (tS T W (sSeq ms mr)) := pss_mono (pss_cons h1 h2) fun D σ H h => by
  obtain ⟨ρ, s, lo, r, rl, p⟩ := h
  refine ⟨ρ, s, lo, r, rl, ?_⟩
  unfold sSeq at p
  cases e : ms lo s with
  | nx lo' s' =>
    rw [e] at p
    exact fun ρ' H' σ' x r' rl' => ⟨ρ', s', lo', r', rl', p.mono x⟩
  | rt v s' => rw [e] at p; exact p
  | bk lo' s' => rw [e] at p; exact p
  | ct lo' s' => rw [e] at p; exact p
  | exc z lo' s' => rw [e] at p; exact p
  | fail => rw [e] at p; exact p
theorem cs_one (h1 : PS X st (tS T W ms)) : PSs X [st] (tS T W ms) := pss_one h1
theorem cs_expr (he : PE X e (tE T W me)) (hs : swapsWith e none pos.line X.env = pure false := by rfl) : PS X (.Expr e pos) (tS T W (sExpr me)) := ps_mono (ps_expr he hs) fun D σ H h =>
  tS_bnd (R := RV T) h fun ρ s lo x z H' r rl hx p => p ρ H' σ .refl r rl
theorem cs_ret (he : PE X e (tE T W me)) : PS X (.Return (some e) pos) (tS T W (sRet me)) := ps_mono (ps_ret he) fun D σ H h =>
  tS_bnd (R := RV T) h fun ρ s lo x z H' r rl hx p => p ρ H' z .refl r hx
theorem cs_retN : PS X (.Return none pos) (tS T W sRetN) := ps_mono ps_retN fun D σ H h => by
  obtain ⟨ρ, s, lo, r, rl, p⟩ := h
  exact p ρ H .non .refl r .non
theorem cs_pass : PS X (.Pass pos) (tS T W sNil) := ps_mono ps_pass fun D σ H h => by
  obtain ⟨ρ, s, lo, r, rl, p⟩ := h
  exact p ρ H σ .refl r rl
theorem cs_break : PS X (.Break pos) (tS T W sBreak) := ps_mono ps_break fun D σ H h => by
  obtain ⟨ρ, s, lo, r, rl, p⟩ := h
  exact p ρ H σ .refl r rl
theorem cs_continue : PS X (.Continue pos) (tS T W sCont) := ps_mono ps_continue fun D σ H h => by
  obtain ⟨ρ, s, lo, r, rl, p⟩ := h
  exact p ρ H σ .refl r rl
theorem cs_if (hc : PT X c (tT T W mt)) (ha : PSs X a (tS T W ma)) (hb : PSs X b (tS T W mb)) : PS X (.If c a b pos) (tS T W (sIf mt ma mb)) := ps_mono (ps_if hc ha hb) fun D σ H h =>
  tS_bnd (R := RB) h fun ρ s lo x z H' r rl hx p => by
    cases hx
    cases x with
    | true => exact ⟨ρ, s, lo, r, rl, p⟩
    | false => exact ⟨ρ, s, lo, r, rl, p⟩
theorem tasg_le {i : Nat} {D : Ends} {σ : St} {H : Hp} (h : tS T W (sSet i me) D σ H) : tAsg (tE T W me) (gName i) D σ H :=
  tS_bnd (R := RV T) h fun ρ s lo x z H' r rl hx p => p ρ H' _ .refl r (rl.set i hx)
theorem cs_set {i : Nat} {x : Str} {pos' : Pos} (hN : X.N.Nodup) (hi : X.N[i]? = some x) (hx : Loc X.env.scope x) (he : PE X e (tE T W me)) (hs : swapsWith e (some (.Name x pos')) pos.line X.env = pure false := by rfl) (hf : X.fn x = true ∨ X.env.scope.names.lookup x = some .local := by first | exact .inl rfl | exact .inr rfl | assumption) :
    PS X (.Assign [.Name x pos'] e pos) (tS T W (sSet i me)) := ps_mono (ps_set hN hi hx he hs hf) fun D σ H h => tasg_le h
theorem cs_par {i j : Nat} {x y : Str} {a b : Expr} {ma : AM} {px py pt : Pos} {kt k2 pt2} (hc : X.calm = true) (hN : X.N.Nodup) (hi : X.N[i]? = some x) (hj : X.N[j]? = some y) (hij : i ≠ j)
    (hx : X.env.scope.names.lookup x = some .local) (hy : X.env.scope.names.lookup y = some .local) (ha : PA X [a, b] (tA T W ma))
    (hw : swappedStores [.Tuple [.Name x px, .Name y py] kt pt] (.Tuple [a, b] k2 pt2) X.env = pure (some [x, y]))
    (hs : swapsWithSole [.Tuple [.Name x px, .Name y py] kt pt] (.Tuple [a, b] k2 pt2) pos.line X.env = pure false := by rfl) :
    PS X (.Assign [.Tuple [.Name x px, .Name y py] kt pt] (.Tuple [a, b] k2 pt2) pos) (tS T W (sPar i j ma)) := ps_mono (ps_par hc hN hi hj hij hx hy ha hw hs) fun D σ H h =>
  tS_bnd (R := RVs T) h fun ρ s lo vs zs H' r rl hx p => by
    cases hx with
    | nil => exact p.elim
    | cons h1 h2 =>
      cases h2 with
      | nil => exact p.elim
      | cons h2 h3 =>
        cases h3 with
        | nil => exact ⟨_, _, rfl, p ρ H' _ .refl r ((rl.set i h1).set j h2)⟩
        | cons h3 h4 => exact p.elim
theorem cs_par3 {i j l : Nat} {x y z : Str} {a b c : Expr} {ma : AM} {px py pz pt : Pos} {kt k2 pt2} (hc : X.calm = true) (hN : X.N.Nodup) (hi : X.N[i]? = some x) (hj : X.N[j]? = some y) (hl : X.N[l]? = some z) (hij : i ≠ j) (hil : i ≠ l) (hjl : j ≠ l)
    (hx : X.env.scope.names.lookup x = some .local) (hy : X.env.scope.names.lookup y = some .local) (hz : X.env.scope.names.lookup z = some .local) (ha : PA X [a, b, c] (tA T W ma))
    (hw : swappedStores [.Tuple [.Name x px, .Name y py, .Name z pz] kt pt] (.Tuple [a, b, c] k2 pt2) X.env = pure (some [x, y, z]))
    (hs : swapsWithSole [.Tuple [.Name x px, .Name y py, .Name z pz] kt pt] (.Tuple [a, b, c] k2 pt2) pos.line X.env = pure false := by rfl) :
    PS X (.Assign [.Tuple [.Name x px, .Name y py, .Name z pz] kt pt] (.Tuple [a, b, c] k2 pt2) pos) (tS T W (sPar3 i j l ma)) := ps_mono (ps_par3 hc hN hi hj hl hij hil hjl hx hy hz ha hw hs) fun D σ H h =>
  tS_bnd (R := RVs T) h fun ρ s lo vs zs H' r rl hx p => by
    cases hx with
    | nil => exact p.elim
    | cons h1 h2 =>
      cases h2 with
      | nil => exact p.elim
      | cons h2 h3 =>
        cases h3 with
        | nil => exact p.elim
        | cons h3 h4 =>
          cases h4 with
          | nil => exact ⟨_, _, _, rfl, p ρ H' _ .refl r (((rl.set i h1).set j h2).set l h3)⟩
          | cons h4 h5 => exact p.elim
end

/-! ### targets -/
abbrev GM := Vl → Lo → M Lo
def gNm (i : Nat) : GM := fun v lo s => .ok (lo.set i (some v)) s
abbrev OSet := Vl → Vl → Vl → Sto → Option Sto
def liftU (f : Sto → Option Sto) (lo : Lo) : M Lo := fun s => match f s with
  | some s' => .ok lo s'
  | none => .fail
def gSb (f : OSet) (o i : EM) : GM := fun v lo => bnd (o lo) fun x => bnd (i lo) fun y => liftU (f x y v) lo
def gNms (js : List Nat) (vs : List Vl) (lo : Lo) : Option Lo := match js, vs with
  | [], [] => some lo
  | j :: js, v :: vs => gNms js vs (lo.set j (some v))
  | _, _ => none
/-- names in brackets -/
def gTp (js : List Nat) : GM := fun v lo s => match v with
  | .tup xs => match gNms js xs lo with
    | some lo' => .ok lo' s
    | none => .fail
  | _ => .fail
/-- the readings of targets -/
abbrev RLo (T : Tb) : List Addr → Hp → Lo → St → Prop := fun ρ H lo σ => RL T ρ H lo σ
def tGt (T : Tb) (W : WX) (g : GM) : TG := fun z σ H Q => ∃ (ρ : List Addr) (s : Sto) (lo : Lo) (v : Vl), Rel T ρ H s ∧ RL T ρ H lo σ ∧ RV T ρ H v z ∧ Po (RLo T) T (fun c d H' => W c d σ H') ρ H (g v lo s) Q
def sAsg (g : GM) (e : EM) : SM := bndS e fun lo v s => match g v lo s with
  | .ok lo' s' => .nx lo' s'
  | .exc x s' => .exc x lo s'
  | .fail => .fail
theorem pg_mono {X : Cx} {e : Expr} {t t' : TG} (h : PG X e t) (k : ∀ v σ H Q, t' v σ H Q → t v σ H Q) : PG X e t' := ⟨fun pins s σ H v u Q I r q => h.run pins s σ H v u Q I r (k v σ H Q q)⟩
def opSet : OSet
  | .ref j, y, v, s => match s[j]? with
    | some (.lst xs) => match y with
      | .int i => match ixN xs.length i with
        | some n => some (s.set j (.lst (xs.set n v)))
        | none => none
      | _ => none
    | some (.dic kvs) => match keyOf y with
      | some k => if kvs.length < LIM then some (s.set j (.dic (put kvs k v))) else none
      | none => none
    | _ => none
  | _, _, _, _ => none
def rSt (T : Tb) (f : OSet) : TSet := fun o i v H Q => ∃ ρ s a b c s', Rel T ρ H s ∧ RV T ρ H a o ∧ RV T ρ H b i ∧ RV T ρ H c v ∧ f a b c s = some s' ∧ ∀ (ρ' : List Addr) (H' : Hp), Ext T ρ H ρ' H' → Rel T ρ' H' s' → Q H'
section
variable {X : Cx} {T : Tb} {W : WX} {o i e tg : Expr} {mo mi me : EM} {g : GM} {f : OSet} {pos : Pos}
theorem cg_name {n : Nat} {x : Str} (hN : X.N.Nodup) (hi : X.N[n]? = some x) (hx : Loc X.env.scope x) (hf : X.fn x = true ∨ X.env.scope.names.lookup x = some .local := by first | exact .inl rfl | exact .inr rfl | assumption) : PG X (.Name x pos) (tGt T W (gNm n)) :=
  pg_mono (pg_name hN hi hx hf) fun v σ H Q h => by
    obtain ⟨ρ, s, lo, x, r, rl, hx, p⟩ := h
    exact p ρ H _ .refl r (rl.set n hx)
theorem cg_sub (ho : PE X o (tE T W mo)) (hi : PE X i (tE T W mi)) (hs : PSet X (rSt T f)) (k : PG X (.Subscript o i pos) (gSub (tE T W mo) (tE T W mi) (rSt T f))) : PG X (.Subscript o i pos) (tGt T W (gSb f mo mi)) :=
  pg_mono k fun v σ H Q h => by
    obtain ⟨ρ, s, lo, x, r, rl, hx, p⟩ := h
    refine po_bnd (R := RV T) (m := mo) r rl p fun ρ1 s1 a z H1 ext1 r1 rl1 ha p1 => po_bnd (R := RV T) (m := mi) r1 rl1 p1 fun ρ2 s2 b y H2 ext2 r2 rl2 hb p2 => ?_
    unfold liftU at p2
    cases e : f a b x s2 with
    | none => rw [e] at p2; exact p2.elim
    | some s3 =>
      rw [e] at p2
      exact ⟨ρ2, s2, a, b, x, s3, r2, ha.mono ext2, hb, hx.mono (ext1.trans ext2), e, fun ρ3 H3 e3 r3 => p2 ρ3 H3 σ e3 r3 (rl2.mono e3)⟩
theorem cs_asg (he : PE X e (tE T W me)) (hg : PG X tg (tGt T W g)) (hs : swapsWithSole [tg] e pos.line X.env = pure false := by rfl) (hw : swappedStores [tg] e X.env = pure none := by rfl)
    (h1 : (assignEach [tg] X.env).map (·.2) = [assign tg X.env] := by rfl) : PS X (.Assign [tg] e pos) (tS T W (sAsg g me)) := ps_mono (ps_asg he hg hs hw h1) fun D σ H h =>
  tS_bnd (R := RV T) h fun ρ s lo x z H' r rl hx p => ⟨ρ, s, lo, x, r, rl, hx, by
    cases e : g x lo s with
    | ok lo' s' =>
      rw [e] at p
      exact fun ρ2 H2 σ2 e2 r2 rl2 => p ρ2 H2 σ2 e2 r2 rl2
    | exc y s' =>
      rw [e] at p
      exact fun ρ2 H2 C e2 r2 hC => p ρ2 H2 σ C e2 r2 (rl.mono e2) hC
    | fail => rw [e] at p; exact p⟩
theorem p_set (hu : X.A.units + 1 < cLine) : PSet X (rSt T opSet) := by
  intro pins s σ H ov iv v ou iu u Q I ro ri rv h
  obtain ⟨ρ, st, a, b, c, s', r, ha, hb, hc, e, k⟩ := h
  unfold opSet at e
  split at e
  · rename_i j y w s0
    obtain ⟨p, rfl, hp⟩ := ha.refE
    split at e
    · rename_i xs hx
      split at e
      · rename_i i
        split at e
        · rename_i n hn
          cases e
          obtain ⟨vs, h1, h2⟩ := r.lst hx hp
          refine set_list pins s σ H _ _ v ou iu u Q I ro ri rv ⟨p, vs, i, n, rfl, hb.intE, h1, by rw [← h2.length]; exact hn, ?_⟩
          exact k ρ _ (r.setExt hp h1) (r.set hp ⟨_, upd_same, (h2.set hc n).mono (r.setExt hp h1)⟩)
        · cases e
      · cases e
    · rename_i kvs hx
      split at e
      · rename_i key hk
        split at e
        · rename_i hl
          cases e
          obtain ⟨vs, h1, h2, h3⟩ := r.dic hx hp
          have ey := keyOf_ok hb hk
          subst ey
          have hlen : vs.length = kvs.length := by have := congrArg List.length h2; simpa using this
          have nd := dk_nodup I h1
          obtain ⟨q1, q2⟩ := put_ok (k := key) hc nd h2 h3
          obtain rfl : ou = Value.ref p := ro
          refine d_setItem hu I (DPut.k (v := v) h1 (by rw [hlen, lim_eq]; exact hl)) ri rv fun s4 I4 => ⟨_, I4, ?_⟩
          exact k ρ _ (r.setExt hp h1) (r.set hp ⟨_, upd_same, q1, q2.mono (r.setExt hp h1)⟩)
        · cases e
      · cases e
    · cases e
  · cases e
end
end Sm

/-! S6: loops and comprehensions -/
namespace Sm
open PySem L2

/-- the i-th item of what is walked: an item, the end, or nothing known -/
abbrev NX := Nat → Sto → Option (Option Vl)
def nxFix (xs : List Vl) : NX := fun i _ => some xs[i]?
def nxLst (j : Nat) : NX := fun i s => match s[j]? with
  | some (.lst xs) => some xs[i]?
  | _ => none
def nxEnum (j : Nat) : NX := fun i s => match s[j]? with
  | some (.lst xs) => match xs[i]? with
    | some v => some (some (.tup [.int (i : Nat), v]))
    | none => some none
  | _ => none
/-- an iterator of the model yields what nx says -/
def ItOk (T : Tb) (J : It) (nx : NX) (ρ : List Addr) (H : Hp) : Prop := ∀ (ρ1 : List Addr) (H1 : Hp) (s : Sto) (i : Nat), Ext T ρ H ρ1 H1 → Rel T ρ1 H1 s → match nx i s with
  | some (some v) => J.go i H1 ∧ ∀ x H2, J.yld i H1 x H2 → Ext T ρ1 H1 ρ1 H2 ∧ Rel T ρ1 H2 s ∧ RV T ρ1 H2 v x
  | some none => J.stop i H1
  | none => True
theorem ItOk.mono {T : Tb} {J : It} {nx : NX} {ρ ρ' : List Addr} {H H' : Hp} (h : ItOk T J nx ρ H) (e : Ext T ρ H ρ' H') : ItOk T J nx ρ' H' := fun ρ1 H1 s i e1 r => h ρ1 H1 s i (e.trans e1) r
abbrev IM := Lo → M NX
abbrev tI (T : Tb) (W : WX) (m : IM) : TI := fun σ H R => tG (fun ρ H nx J => ItOk T J nx ρ H) T W m σ H R
/-- the loop, by fuel -/
def loopN (nx : NX) (g : GM) (b : SM) : Nat → Nat → SM
  | 0, _, _, _ => .fail
  | n + 1, i, lo, s => match nx i s with
    | none => .fail
    | some none => .nx lo s
    | some (some v) => match g v lo s with
      | .fail => .fail
      | .exc e s' => .exc e lo s'
      | .ok lo' s' => match b lo' s' with
        | .nx lo2 s2 => loopN nx g b n (i + 1) lo2 s2
        | .ct lo2 s2 => loopN nx g b n (i + 1) lo2 s2
        | .bk lo2 s2 => .nx lo2 s2
        | .rt v2 s2 => .rt v2 s2
        | .exc e lo2 s2 => .exc e lo2 s2
        | .fail => .fail
def sFor (n : Nat) (m : IM) (g : GM) (b : SM) : SM := bndS m fun lo nx s => loopN nx g b n 0 lo s
/-- the same over items that are known -/
def loopX (g : GM) (b : SM) : List Vl → SM
  | [], lo, s => .nx lo s
  | v :: vs, lo, s => match g v lo s with
    | .fail => .fail
    | .exc e s' => .exc e lo s'
    | .ok lo' s' => match b lo' s' with
      | .nx lo2 s2 => loopX g b vs lo2 s2
      | .ct lo2 s2 => loopX g b vs lo2 s2
      | .bk lo2 s2 => .nx lo2 s2
      | .rt v2 s2 => .rt v2 s2
      | .exc e lo2 s2 => .exc e lo2 s2
      | .fail => .fail
def sForX (m : AM) (g : GM) (b : SM) : SM := bndS m fun lo xs s => loopX g b xs lo s
theorem loopX_eq (g : GM) (b : SM) (all : List Vl) : ∀ (n i : Nat) (lo : Lo) (s : Sto), all.length - i < n → loopN (nxFix all) g b n i lo s = loopX g b (all.drop i) lo s := by
  intro n
  induction n with
  | zero => intro i lo s h; omega
  | succ n ih =>
    intro i lo s h
    unfold loopN
    simp only [nxFix]
    cases e : all[i]? with
    | none =>
      have : all.length ≤ i := List.getElem?_eq_none_iff.mp e
      rw [List.drop_eq_nil_of_le this]
      rfl
    | some v =>
      obtain ⟨hi, hv⟩ := List.getElem?_eq_some_iff.mp e
      rw [List.drop_eq_getElem_cons hi, hv]
      simp only [loopX]
      cases g v lo s with
      | fail => rfl
      | exc e s' => rfl
      | ok lo' s' =>
        simp only
        cases b lo' s' with
        | nx lo2 s2 => exact ih (i + 1) lo2 s2 (by omega)
        | ct lo2 s2 => exact ih (i + 1) lo2 s2 (by omega)
        | bk lo2 s2 => rfl
        | rt v2 s2 => rfl
        | exc e lo2 s2 => rfl
        | fail => rfl
section
variable {X : Cx} {T : Tb} {W : WX} {tg iter : Expr} {body : List Stmt} {m : IM} {ma : AM} {g : GM} {b : SM} {pos : Pos}
theorem loop_le {n : Nat} {D : Ends} {σ : St} {H : Hp} (h : tS T W (sFor n m g b) D σ H) : tFor (tI T W m) (tGt T W g) (tS T W b) D σ H :=
  tS_bnd (R := fun ρ H nx J => ItOk T J nx ρ H) h fun ρ0 s0 lo0 nx J H0 r0 rl0 ok p0 => by
    refine ⟨fun i k σ H => ∃ ρ s lo, Rel T ρ H s ∧ RL T ρ H lo σ ∧ ItOk T J nx ρ H ∧ PoS T W ρ H (loopN nx g b k i lo s) D, ⟨n, ρ0, s0, lo0, r0, rl0, ok, p0⟩, ?_⟩
    rintro i k σ1 H1 ⟨ρ, s, lo, r, rl, ok, p⟩
    cases k with
    | zero => exact p.elim
    | succ k =>
      unfold loopN at p
      have q := ok ρ H1 s i .refl r
      cases e : nx i s with
      | none => simp only [e] at p; exact p.elim
      | some o =>
        simp only [e] at p q
        cases o with
        | none => exact .inl ⟨q, p ρ H1 σ1 .refl r rl⟩
        | some v =>
          obtain ⟨go, yl⟩ := q
          refine .inr ⟨go, fun σ' H' => ∃ ρ s lo, Rel T ρ H' s ∧ RL T ρ H' lo σ' ∧ ItOk T J nx ρ H' ∧ PoS T W ρ H' (loopN nx g b k (i + 1) lo s) D, fun σ' H' h => ⟨k, Nat.lt_succ_self k, h⟩, fun x H2 y => ?_⟩
          obtain ⟨x1, r2, hv⟩ := yl x H2 y
          refine ⟨ρ, s, lo, v, r2, rl.mono x1, hv, ?_⟩
          have p := p.mono x1
          cases e2 : g v lo s with
          | fail => simp only [e2] at p; exact p
          | exc z s' => simp only [e2] at p; exact fun ρ' H' C x r' hC => p ρ' H' σ1 C x r' (rl.mono (x1.trans x)) hC
          | ok lo' s' =>
            simp only [e2] at p
            intro ρ3 H3 σ3 x3 r3 rl3
            refine ⟨ρ3, s', lo', r3, rl3, ?_⟩
            have p := p.mono x3
            have ok3 := ok.mono (x1.trans x3)
            cases e3 : b lo' s' with
            | nx lo2 s2 => simp only [e3] at p; exact fun ρ4 H4 σ4 x4 r4 rl4 => ⟨ρ4, s2, lo2, r4, rl4, ok3.mono x4, p.mono x4⟩
            | ct lo2 s2 => simp only [e3] at p; exact fun ρ4 H4 σ4 x4 r4 rl4 => ⟨ρ4, s2, lo2, r4, rl4, ok3.mono x4, p.mono x4⟩
            | bk lo2 s2 => simp only [e3] at p; exact p
            | rt v2 s2 => simp only [e3] at p; exact p
            | exc z lo2 s2 => simp only [e3] at p; exact p
            | fail => simp only [e3] at p; exact p
theorem cs_for (n : Nat) (hp : PassesOwn (model X.prog X.w) X.A X.env X.xe) (hc : X.calm = true) (hi : PI X tg iter (tI T W m)) (hg : PG X tg (tGt T W g)) (hb : PSs X body (tS T W b))
    (hs : ∀ x, foldedSetIterable iter X.env x = pure x := by intro _; rfl) : PS X (.For tg iter body [] pos) (tS T W (sFor n m g b)) := ps_mono (ps_for hp hc hi hg hb hs) fun D σ H h => loop_le h
/-- what is walked as a list that is known -/
def iFix (ma : AM) : IM := fun lo => bnd (ma lo) fun xs => ret (nxFix xs)
theorem cs_forX (hp : PassesOwn (model X.prog X.w) X.A X.env X.xe) (hc : X.calm = true) (hi : PI X tg iter (tI T W (iFix ma))) (hg : PG X tg (tGt T W g)) (hb : PSs X body (tS T W b))
    (hs : ∀ x, foldedSetIterable iter X.env x = pure x := by intro _; rfl) : PS X (.For tg iter body [] pos) (tS T W (sForX ma g b)) := ps_mono (ps_for hp hc hi hg hb hs) fun D σ H h => by
  obtain ⟨ρ, s, lo, r, rl, p⟩ := h
  unfold sForX bndS at p
  cases e : ma lo s with
  | ok xs s' =>
    refine loop_le (n := xs.length + 1) ⟨ρ, s, lo, r, rl, ?_⟩
    have : sFor (xs.length + 1) (iFix ma) g b lo s = loopX g b xs lo s' := by
      unfold sFor bndS iFix bnd
      rw [e]
      simp only [ret]
      rw [loopX_eq g b xs (xs.length + 1) 0 lo s' (by omega), List.drop_zero]
    rw [this]
    rw [e] at p
    exact p
  | exc z s' =>
    refine loop_le (n := 1) ⟨ρ, s, lo, r, rl, ?_⟩
    have : sFor 1 (iFix ma) g b lo s = .exc z lo s' := by
      unfold sFor bndS iFix bnd
      rw [e]
    rw [this]
    rw [e] at p
    exact p
  | fail =>
    rw [e] at p
    exact p.elim
theorem pi_mono {tg iter : Expr} {t t' : TI} (h : PI X tg iter t) (k : ∀ σ H R, t' σ H R → t σ H R) : PI X tg iter t' := ⟨fun pins s σ H R I q => h.run pins s σ H R I (k σ H R q)⟩
/-- over a tuple -/
def aTup (e : EM) : AM := fun lo => bnd (e lo) fun x => match x with
  | .tup xs => ret xs
  | _ => failM
/-- over range(n), range(a, b) -/
def rng (lo : Int) (n : Nat) : List Vl := (List.range n).map fun i => Vl.int (lo + (i : Nat))
def aRng (a : AM) : AM := fun lo => bnd (a lo) fun xs => match xs with
  | [.int n] => if -(2 ^ 62) ≤ n ∧ n < 2 ^ 62 then ret (rng 0 n.toNat) else failM
  | _ => failM
def aRng2 (a : AM) : AM := fun lo => bnd (a lo) fun xs => match xs with
  | [.int i, .int j] => if -(2 ^ 62) ≤ i ∧ i < 2 ^ 62 ∧ -(2 ^ 62) ≤ j ∧ j < 2 ^ 62 then ret (rng i (j - i).toNat) else failM
  | _ => failM
/-- over a list, enumerate(list): the list's number -/
def iLst (e : EM) : IM := fun lo => bnd (e lo) fun x => match x with
  | .ref j => fun s => match s[j]? with
    | some (.lst _) => .ok (nxLst j) s
    | _ => .fail
  | _ => failM
def iEnm (a : AM) : IM := fun lo => bnd (a lo) fun xs => match xs with
  | [.ref j] => fun s => match s[j]? with
    | some (.lst _) => .ok (nxEnum j) s
    | _ => .fail
  | _ => failM
theorem bnd_bnd {α β γ : Type} (m : M α) (f : α → M β) (g : β → M γ) : bnd (bnd m f) g = bnd m fun x => bnd (f x) g := by
  funext s
  unfold bnd
  cases m s <;> rfl
theorem fix_le {R : It → Hp → Prop} {σ : St} {H : Hp} (h : tI T W (iFix ma) σ H R) : tA T W (fun lo => ma lo) σ H fun vs H1 => ∀ J, (∀ ρ s xs, Rel T ρ H1 s → RVs T ρ H1 xs vs → ItOk T J (nxFix xs) ρ H1) → R J H1 :=
  tG_bnd (R := RVs T) h fun ρ s lo xs vs H1 r rl hx p J hJ => p ρ H1 J .refl r (hJ ρ s xs r hx)
theorem ci_tup {e : Expr} {me : EM} (he : PE X e (tE T W me)) (hK : X.K = T.K := by rfl) : PI X tg e (tI T W (iFix (aTup me))) := pi_mono (pi_tup he) fun σ H R h => by
  obtain ⟨ρ, s, lo, r, rl, p⟩ := h
  refine po_bnd (R := RV T) (m := me) (f := fun x => bnd (match x with | .tup xs => ret xs | _ => failM) fun xs => ret (nxFix xs)) (R' := fun ρ H nx J => ItOk T J nx ρ H) (Q := R) r rl ?_ fun ρ1 s1 x z H1 ext1 r1 rl1 hx p1 => ?_
  · unfold iFix aTup at p
    unfold bnd at p ⊢
    cases e : me lo s <;> rw [e] at p <;> exact p
  · cases hx with
    | tup h1 h2 =>
      rename_i a vs xs
      refine ⟨a, rfl, ⟨vs, by rw [hK]; exact h1⟩, p1 ρ1 H1 _ .refl r1 ?_⟩
      intro ρ2 H2 s2 i e2 r2
      have h1' := e2.tup _ _ h1
      have h2' := h2.mono e2
      rw [← hK] at h1'
      simp only [nxFix]
      cases e : xs[i]? with
      | none =>
        have : xs.length ≤ i := List.getElem?_eq_none_iff.mp e
        exact ⟨vs, h1', by rw [← h2'.length]; exact this⟩
      | some v =>
        obtain ⟨z, hz, rz⟩ := h2'.get e
        refine ⟨⟨vs, z, h1', hz⟩, fun x H3 y => ?_⟩
        obtain ⟨rfl, y⟩ := y
        have := y vs h1'
        rw [hz] at this
        cases this
        exact ⟨.refl, r2, rz⟩
    | _ => exact p1.elim
end
end Sm

/-! S7: what is walked; while; comprehensions -/
namespace Sm
open PySem L2
section
variable {X : Cx} {T : Tb} {W : WX} {tg : Expr} {pos p : Pos}
theorem ok_rng {lo : Int} {n : Nat} {ρ : List Addr} {H : Hp} : ItOk T (Itr lo n) (nxFix (rng lo n)) ρ H := by
  intro ρ1 H1 s i e r
  simp only [nxFix, rng]
  by_cases h : i < n
  · rw [List.getElem?_map, List.getElem?_range h]
    refine ⟨h, fun x H2 y => ?_⟩
    obtain ⟨rfl, rfl⟩ := y
    exact ⟨.refl, r, .int _⟩
  · rw [List.getElem?_eq_none (by simp; omega)]
    exact Nat.le_of_not_lt h
theorem ci_rng1 {a : Expr} {ma : AM} (hg : Gl X "range") (hm : X.mg "range" = none) (ha : PA X [a] (tA T W ma)) (hs : starEach [a] X.env = [(false, eval a X.env)] := by rfl) : PI X tg (.Call (.Name "range" p) [a] [] pos) (tI T W (iFix (aRng ma))) :=
  pi_mono (pi_range1 hg hm ha hs) fun σ H R h => by
    obtain ⟨ρ, s, lo, r, rl, q⟩ := h
    unfold iFix aRng at q
    rw [bnd_bnd] at q
    refine po_bnd (R := RVs T) (m := ma) r rl q fun ρ1 s1 xs zs H1 ext1 r1 rl1 hx p1 => ?_
    split at p1
    · rename_i n
      split at p1
      · rename_i hn
        obtain ⟨z, rfl, hz⟩ := hx.one
        exact ⟨n, by rw [hz.intE], hn.1, hn.2, p1 ρ1 H1 _ .refl r1 ok_rng⟩
      · exact p1.elim
    · exact p1.elim
theorem ci_rng2 {a b : Expr} {ma : AM} (hg : Gl X "range") (hm : X.mg "range" = none) (ha : PA X [a, b] (tA T W ma)) (hs : starEach [a, b] X.env = [(false, eval a X.env), (false, eval b X.env)] := by rfl) (hs2 : starEach [b] X.env = [(false, eval b X.env)] := by rfl) :
    PI X tg (.Call (.Name "range" p) [a, b] [] pos) (tI T W (iFix (aRng2 ma))) :=
  pi_mono (pi_range2 hg hm ha hs hs2) fun σ H R h => by
    obtain ⟨ρ, s, lo, r, rl, q⟩ := h
    unfold iFix aRng2 at q
    rw [bnd_bnd] at q
    refine po_bnd (R := RVs T) (m := ma) r rl q fun ρ1 s1 xs zs H1 ext1 r1 rl1 hx p1 => ?_
    split at p1
    · rename_i i j
      split at p1
      · rename_i hn
        obtain ⟨z, z', rfl, hz, hz'⟩ := hx.two
        exact ⟨i, j, by rw [hz.intE, hz'.intE], hn, p1 ρ1 H1 _ .refl r1 ok_rng⟩
      · exact p1.elim
    · exact p1.elim
theorem ci_lst {e : Expr} {me : EM} (he : PE X e (tE T W me)) (hK : X.K = T.K := by rfl) : PI X tg e (tI T W (iLst me)) := pi_mono (pi_list he) fun σ H R h => by
  obtain ⟨ρ, s, lo, r, rl, q⟩ := h
  refine po_bnd (R := RV T) (m := me) r rl q fun ρ1 s1 x z H1 ext1 r1 rl1 hx p1 => ?_
  cases hx with
  | ref ha =>
    rename_i j a
    simp only at p1
    split at p1
    · rename_i xs hj
      obtain ⟨vs, h1, h2⟩ := r1.lst hj ha
      refine ⟨a, rfl, ⟨vs, SqL.of h1⟩, p1 ρ1 H1 _ .refl r1 ?_⟩
      intro ρ2 H2 s2 i e2 r2
      have ha2 := e2.pre _ _ ha
      unfold nxLst
      cases e : s2[j]? with
      | none => trivial
      | some o =>
        cases o with
        | lst ys =>
          obtain ⟨us, g1, g2⟩ := r2.lst e ha2
          simp only
          cases e3 : ys[i]? with
          | none => exact ⟨us, SqL.of g1, by rw [← g2.length]; exact List.getElem?_eq_none_iff.mp e3⟩
          | some v =>
            obtain ⟨w, hw, rw'⟩ := g2.get e3
            refine ⟨⟨us, w, SqL.of g1, hw⟩, fun x H3 y => ?_⟩
            obtain ⟨rfl, y⟩ := y
            have := y us (SqL.of g1)
            rw [hw] at this
            cases this
            exact ⟨.refl, r2, rw'⟩
        | _ => trivial
    · exact p1.elim
  | _ => exact p1.elim
/-- enumerate(list) -/
theorem ci_enm {e : Expr} {ma : AM} {elts : List Expr} {kk : Nat} {tpos : Pos} (hg : Gl X "enumerate") (hm : X.mg "enumerate" = none) (ha : PA X [e] (tA T W ma)) (hs : starEach [e] X.env = [(false, eval e X.env)] := by rfl) (hK : X.K = T.K := by rfl) :
    PI X (.Tuple elts kk tpos) (.Call (.Name "enumerate" p) [e] [] pos) (tI T W (iEnm ma)) := pi_mono (pi_enum hg hm ha hs) fun σ H R h => by
  obtain ⟨ρ, s, lo, r, rl, q⟩ := h
  refine po_bnd (R := RVs T) (m := ma) r rl q fun ρ1 s1 xs zs H1 ext1 r1 rl1 hx p1 => ?_
  split at p1
  · rename_i j
    obtain ⟨z, rfl, hz⟩ := hx.one
    obtain ⟨a, rfl, ha⟩ := hz.refE
    split at p1
    · rename_i ys hj
      obtain ⟨vs, h1, h2⟩ := r1.lst hj ha
      refine ⟨a, vs, rfl, SqL.of h1, p1 ρ1 H1 _ .refl r1 ?_⟩
      intro ρ2 H2 s2 i e2 r2
      have ha2 := e2.pre _ _ ha
      unfold nxEnum
      cases e : s2[j]? with
      | none => trivial
      | some o =>
        cases o with
        | lst ys =>
          obtain ⟨us, g1, g2⟩ := r2.lst e ha2
          simp only
          cases e3 : ys[i]? with
          | none => exact ⟨us, SqL.of g1, by rw [← g2.length]; exact List.getElem?_eq_none_iff.mp e3⟩
          | some v =>
            obtain ⟨w, hw, rw'⟩ := g2.get e3
            refine ⟨⟨us, w, SqL.of g1, hw⟩, fun x H3 y => ?_⟩
            obtain ⟨q, u, rfl, hq, rfl, y⟩ := y
            have := y us (SqL.of g1)
            rw [hw] at this
            cases this
            exact ⟨ext_upd hq, r2.laid hq, .tup (SqT.of upd_same) (.cons (.int _) (.cons (rw'.mono (ext_upd hq)) .nil))⟩
        | _ => trivial
    · exact p1.elim
  · exact p1.elim
end
/-! ### while -/
def loopW (t : TM) (b : SM) : Nat → SM
  | 0, _, _ => .fail
  | n + 1, lo, s => match t lo s with
    | .fail => .fail
    | .exc e s' => .exc e lo s'
    | .ok false s' => .nx lo s'
    | .ok true s' => match b lo s' with
      | .nx lo2 s2 => loopW t b n lo2 s2
      | .ct lo2 s2 => loopW t b n lo2 s2
      | .bk lo2 s2 => .nx lo2 s2
      | .rt v2 s2 => .rt v2 s2
      | .exc e lo2 s2 => .exc e lo2 s2
      | .fail => .fail
section
variable {X : Cx} {T : Tb} {W : WX} {c : Expr} {body : List Stmt} {mt : TM} {b : SM} {pos : Pos}
theorem cs_while (n : Nat) (hp : PassesOwn (model X.prog X.w) X.A X.env X.xe) (hc : PT X c (tT T W mt)) (hb : PSs X body (tS T W b)) : PS X (.While c body [] pos) (tS T W (loopW mt b n)) :=
  ps_mono (ps_while hp hc hb) fun D σ H h => by
    obtain ⟨ρ, s, lo, r, rl, p⟩ := h
    refine ⟨fun k σ H => ∃ ρ s lo, Rel T ρ H s ∧ RL T ρ H lo σ ∧ PoS T W ρ H (loopW mt b k lo s) D, ⟨n, ρ, s, lo, r, rl, p⟩, ?_⟩
    rintro k σ1 H1 ⟨ρ, s, lo, r, rl, p⟩
    cases k with
    | zero => exact p.elim
    | succ k =>
      unfold loopW at p
      refine ⟨ρ, s, lo, r, rl, ?_⟩
      cases e : mt lo s with
      | fail => simp only [e] at p; exact p
      | exc z s' => simp only [e] at p; exact fun ρ' H' C x r' hC => p ρ' H' σ1 C x r' (rl.mono x) hC
      | ok c s' =>
        intro ρ2 H2 c' x2 r2 ec
        cases ec
        cases c with
        | false =>
          simp only [e] at p
          exact p ρ2 H2 σ1 x2 r2 (rl.mono x2)
        | true =>
          simp only [e] at p
          refine ⟨fun σ' H' => ∃ ρ s lo, Rel T ρ H' s ∧ RL T ρ H' lo σ' ∧ PoS T W ρ H' (loopW mt b k lo s) D, fun σ' H' h => ⟨k, Nat.lt_succ_self k, h⟩, ρ2, s', lo, r2, rl.mono x2, ?_⟩
          have p := p.mono x2
          cases e3 : b lo s' with
          | nx lo2 s2 => simp only [e3] at p; exact fun ρ4 H4 σ4 x4 r4 rl4 => ⟨ρ4, s2, lo2, r4, rl4, p.mono x4⟩
          | ct lo2 s2 => simp only [e3] at p; exact fun ρ4 H4 σ4 x4 r4 rl4 => ⟨ρ4, s2, lo2, r4, rl4, p.mono x4⟩
          | bk lo2 s2 => simp only [e3] at p; exact p
          | rt v2 s2 => simp only [e3] at p; exact p
          | exc z lo2 s2 => simp only [e3] at p; exact p
          | fail => simp only [e3] at p; exact p
end
/-! ### targets of several names -/
def gNs : List Nat → TGs
  | [] => gNil
  | j :: js => gCons (gName j) (gNs js)
section
variable {X : Cx} {T : Tb} {W : WX} {pos : Pos}
theorem gNs_ok {ρ : List Addr} {H : Hp} {Q : St → Hp → Prop} : ∀ {js : List Nat} {xs : List Vl} {vs : List V} {lo lo' : Lo} {σ : St}, RVs T ρ H xs vs → RL T ρ H lo σ → gNms js xs lo = some lo' → (∀ σ', RL T ρ H lo' σ' → Q σ' H) → gNs js vs σ H Q
  | [], [], _, _, _, _, .nil, rl, e, k => by
    cases e
    exact ⟨rfl, k _ rl⟩
  | [], _ :: _, _, _, _, _, _, _, e, _ => by cases e
  | _ :: _, [], _, _, _, _, _, _, e, _ => by cases e
  | j :: js, x :: xs, _, lo, lo', σ, .cons h hs, rl, e, k => ⟨_, _, rfl, gNs_ok hs (rl.set j h) (show gNms js xs (lo.set j (some x)) = some lo' from e) k⟩
theorem gNms_len : ∀ {js : List Nat} {xs : List Vl} {lo lo' : Lo}, gNms js xs lo = some lo' → xs.length = js.length
  | [], [], _, _, _ => rfl
  | [], _ :: _, _, _, e => by cases e
  | _ :: _, [], _, _, e => by cases e
  | j :: js, x :: xs, lo, lo', e => by
    rw [List.length_cons, List.length_cons, gNms_len (show gNms js xs (lo.set j (some x)) = some lo' from e)]
theorem cg_tup {es : List Expr} {k : Nat} {js : List Nat} (h : PG X (.Tuple es k pos) (gTup X.K js.length (gNs js))) (hK : X.K = T.K := by rfl) : PG X (.Tuple es k pos) (tGt T W (gTp js)) := pg_mono h fun z σ H Q h => by
  obtain ⟨ρ, s, lo, v, r, rl, hv, p⟩ := h
  unfold gTp at p
  split at p
  · rename_i xs
    split at p
    · rename_i lo' e
      obtain ⟨a, vs, rfl, h1, h2⟩ := hv.tupE
      exact ⟨a, vs, rfl, by rw [hK]; exact h1, by rw [← h2.length]; exact gNms_len e, gNs_ok h2 rl e fun σ' rl' => p ρ H σ' .refl r rl'⟩
    · exact p.elim
  · exact p.elim
end
/-! ### comprehensions -/
def wipeL (lo : Lo) : List Nat → Lo
  | [] => lo
  | v :: vs => (wipeL lo vs).set v none
abbrev GL := Vl → Lo → Option Lo
def glN (j : Nat) : GL := fun v lo => some (lo.set j (some v))
def glT (js : List Nat) : GL := fun v lo => match v with
  | .tup xs => gNms js xs lo
  | _ => none
def tTrue : TM := fun _ => ret true
/-- one turn: kept or not -/
def lcStep (t : TM) (e : EM) (d : Nat) (lo : Lo) (s : Sto) : Option Sto := match t lo s with
  | .ok false s1 => some s1
  | .ok true s1 => match e lo s1 with
    | .ok y s2 => match s2[d]? with
      | some (.lst acc) => if acc.length < LIM then some (s2.set d (.lst (acc ++ [y]))) else none
      | _ => none
    | _ => none
  | _ => none
def lcN (nx : NX) (g : GL) (t : TM) (e : EM) (d : Nat) (lo : Lo) : Nat → Nat → Sto → Option Sto
  | 0, _, _ => none
  | n + 1, i, s => match nx i s with
    | none => none
    | some none => some s
    | some (some v) => match g v lo with
      | none => none
      | some lo' => match lcStep t e d lo' s with
        | none => none
        | some s' => lcN nx g t e d lo n (i + 1) s'
def lcX (g : GL) (t : TM) (e : EM) (d : Nat) (lo : Lo) : List Vl → Sto → Option Sto
  | [], s => some s
  | v :: vs, s => match g v lo with
    | none => none
    | some lo' => match lcStep t e d lo' s with
      | none => none
      | some s' => lcX g t e d lo vs s'
def eLc (n : Nat) (m : IM) (g : GL) (t : TM) (e : EM) (vs : List Nat) : EM := fun lo => bnd (m lo) fun nx s => match lcN nx g t e s.length (wipeL lo vs) n 0 (s ++ [.lst []]) with
  | some s' => .ok (.ref s.length) s'
  | none => .fail
def eLcX (m : AM) (g : GL) (t : TM) (e : EM) (vs : List Nat) : EM := fun lo => bnd (m lo) fun xs s => match lcX g t e s.length (wipeL lo vs) xs (s ++ [.lst []]) with
  | some s' => .ok (.ref s.length) s'
  | none => .fail
theorem lcX_eq (g : GL) (t : TM) (e : EM) (d : Nat) (lo : Lo) (all : List Vl) : ∀ (n i : Nat) (s : Sto), all.length - i < n → lcN (nxFix all) g t e d lo n i s = lcX g t e d lo (all.drop i) s := by
  intro n
  induction n with
  | zero => intro i s h; omega
  | succ n ih =>
    intro i s h
    unfold lcN
    simp only [nxFix]
    cases h1 : all[i]? with
    | none =>
      have : all.length ≤ i := List.getElem?_eq_none_iff.mp h1
      rw [List.drop_eq_nil_of_le this]
      rfl
    | some v =>
      obtain ⟨hi, hv⟩ := List.getElem?_eq_some_iff.mp h1
      rw [List.drop_eq_getElem_cons hi, hv]
      simp only [lcX]
      cases g v lo with
      | none => rfl
      | some lo' =>
        simp only
        cases lcStep t e d lo' s with
        | none => rfl
        | some s' => exact ih (i + 1) s' (by omega)
theorem wipe_get (σ : St) (i : Nat) : ∀ vs : List Nat, (wipe σ vs)[i]? = if i ∈ vs ∧ i < σ.length then some none else σ[i]?
  | [] => by simp [wipe]
  | v :: vs => by
    unfold wipe
    rw [List.getElem?_set, wipe_get σ i vs, wipe_length]
    by_cases h : v = i
    · subst h
      by_cases h2 : v < σ.length
      · rw [if_pos rfl, if_pos h2, if_pos ⟨List.mem_cons_self .., h2⟩]
      · rw [if_pos rfl, if_neg h2, if_neg (fun z => h2 z.2)]
        rw [List.getElem?_eq_none (by omega)]
    · rw [if_neg h]
      by_cases h3 : i ∈ vs ∧ i < σ.length
      · rw [if_pos h3, if_pos ⟨List.mem_cons_of_mem _ h3.1, h3.2⟩]
      · rw [if_neg h3, if_neg]
        rintro ⟨a, b⟩
        rcases List.mem_cons.mp a with q | q
        · exact h q.symm
        · exact h3 ⟨q, b⟩
theorem wipe_set {σ : St} {vs : List Nat} {j : Nat} {x : Option V} (hj : j ∈ vs) : wipe (σ.set j x) vs = wipe σ vs := by
  apply List.ext_getElem?
  intro i
  rw [wipe_get, wipe_get, List.length_set]
  by_cases h : i ∈ vs ∧ i < σ.length
  · rw [if_pos h, if_pos h]
  · rw [if_neg h, if_neg h]
    by_cases e : j = i
    · subst e
      have : ¬ j < σ.length := fun z => h ⟨hj, z⟩
      rw [List.getElem?_eq_none (by rw [List.length_set]; omega), List.getElem?_eq_none (by omega)]
    · rw [List.getElem?_set_ne e]
theorem wipe_wipe (σ : St) (vs : List Nat) : wipe (wipe σ vs) vs = wipe σ vs := by
  apply List.ext_getElem?
  intro i
  rw [wipe_get, wipe_get, wipe_length]
  split <;> rfl
section
variable {X : Cx} {T : Tb} {W : WX} {pos : Pos}
abbrev WF : WX := fun _ _ _ _ => False
theorem RL.wipe {ρ : List Addr} {H : Hp} {lo : Lo} {σ : St} (rl : RL T ρ H lo σ) : ∀ vs : List Nat, RL T ρ H (wipeL lo vs) (wipe σ vs)
  | [] => rl
  | v :: vs => by
    have ih := RL.wipe rl vs
    unfold wipeL L2.wipe
    refine ⟨by rw [List.length_set, List.length_set]; exact ih.len, fun i x h => ?_⟩
    by_cases e : v = i
    · subst e
      by_cases hv : v < (wipeL lo vs).length
      · rw [List.getElem?_set_self hv] at h; cases h
      · rw [List.getElem?_eq_none (by rw [List.length_set]; omega)] at h; cases h
    · rw [List.getElem?_set_ne e] at h ⊢
      exact ih.at_ i x h
/-- how a comprehension's target stores: the reading gt and the pure gl agree, and stay within the own slots -/
def TgOk (T : Tb) (gt : TG) (gl : GL) (vs : List Nat) : Prop := ∀ (ρ : List Addr) (H : Hp) (lo lo' : Lo) (σ : St) (v : Vl) (z : V) (Q : St → Hp → Prop), RL T ρ H lo (wipe σ vs) → RV T ρ H v z → gl v lo = some lo' →
  (∀ σ', RL T ρ H lo' σ' → L2.wipe σ' vs = L2.wipe σ vs → Q σ' H) → gt z (L2.wipe σ vs) H Q
theorem tg_name {j : Nat} {vs : List Nat} (hj : j ∈ vs) : TgOk T (gName j) (glN j) vs := fun ρ H lo lo' σ v z Q rl hv e k => by
  cases e
  exact k _ (rl.set j hv) (by rw [wipe_set hj, wipe_wipe])
theorem gNs_w {ρ : List Addr} {H : Hp} {Q : St → Hp → Prop} {ws : List Nat} {σ0 : St} : ∀ {js : List Nat} {xs : List Vl} {vs : List V} {lo lo' : Lo} {σ : St}, (∀ j ∈ js, j ∈ ws) → RVs T ρ H xs vs → RL T ρ H lo σ → L2.wipe σ ws = σ0 → gNms js xs lo = some lo' → (∀ σ', RL T ρ H lo' σ' → L2.wipe σ' ws = σ0 → Q σ' H) → gNs js vs σ H Q
  | [], [], _, _, _, _, _, .nil, rl, hw, e, k => by
    cases e
    exact ⟨rfl, k _ rl hw⟩
  | [], _ :: _, _, _, _, _, _, _, _, _, e, _ => by cases e
  | _ :: _, [], _, _, _, _, _, _, _, _, e, _ => by cases e
  | j :: js, x :: xs, _, lo, lo', σ, hj, .cons h hs, rl, hw, e, k => ⟨_, _, rfl, gNs_w (fun i hi => hj i (List.mem_cons_of_mem _ hi)) hs (rl.set j h) (by rw [wipe_set (hj j (List.mem_cons_self ..))]; exact hw) (show gNms js xs (lo.set j (some x)) = some lo' from e) k⟩
theorem tg_tup {js vs : List Nat} {K : PySem.W.Frag} (hj : ∀ j ∈ js, j ∈ vs) (hK : K = T.K) : TgOk T (gTup K js.length (gNs js)) (glT js) vs := fun ρ H lo lo' σ v z Q rl hv e k => by
  unfold glT at e
  split at e
  · rename_i xs
    obtain ⟨a, us, rfl, h1, h2⟩ := hv.tupE
    exact ⟨a, us, rfl, by rw [hK]; exact h1, by rw [← h2.length]; exact gNms_len e, gNs_w hj h2 rl (wipe_wipe σ vs) e k⟩
  · cases e
theorem lc_le {n : Nat} {m : IM} {gl : GL} {gt : TG} {mt : TM} {me : EM} {vs : List Nat} {σ : St} {H : Hp} {Q : VK} (hg : TgOk T gt gl vs) (h : tE T W (eLc n m gl mt me vs) σ H Q) : tLc (tI T W m) gt (tT T WF mt) (tE T WF me) vs σ H Q :=
  tG_bnd (R := fun ρ H nx J => ItOk T J nx ρ H) h fun ρ0 s0 lo0 nx J H0 r0 rl0 ok0 p0 => by
    intro D hD
    have xD : Ext T ρ0 H0 (ρ0 ++ [D]) (upd H0 D (.lst [])) := r0.newExt hD
    have rD : Rel T (ρ0 ++ [D]) (upd H0 D (.lst [])) (s0 ++ [.lst []]) := r0.new hD ⟨[], upd_same, .nil⟩
    have aD : (ρ0 ++ [D])[s0.length]? = some D := by rw [← r0.len, List.getElem?_append_right (Nat.le_refl _)]; simp
    cases e0 : lcN nx gl mt me s0.length (wipeL lo0 vs) n 0 (s0 ++ [.lst []]) with
    | none => rw [e0] at p0; exact p0.elim
    | some s9 =>
      rw [e0] at p0
      refine ⟨fun i k H => ∃ ρ s, Ext T (ρ0 ++ [D]) (upd H0 D (.lst [])) ρ H ∧ Rel T ρ H s ∧ lcN nx gl mt me s0.length (wipeL lo0 vs) k i s = some s9, ⟨n, _, _, .refl, rD, e0⟩, ?_⟩
      rintro i k H1 ⟨ρ, s, x, r, e⟩
      have hd := x.pre _ _ aD
      cases k with
      | zero => cases e
      | succ k =>
        unfold lcN at e
        have q := ok0 ρ H1 s i (xD.trans x) r
        cases e1 : nx i s with
        | none => simp only [e1] at e; cases e
        | some o =>
          simp only [e1] at e q
          cases o with
          | none =>
            cases e
            exact .inl ⟨q, p0 ρ H1 (.ref D) (xD.trans x) r (.ref hd)⟩
          | some v =>
            obtain ⟨go, yl⟩ := q
            cases e2 : gl v (wipeL lo0 vs) with
            | none => simp only [e2] at e; cases e
            | some lo' =>
              simp only [e2] at e
              cases e3 : lcStep mt me s0.length lo' s with
              | none => simp only [e3] at e; cases e
              | some s' =>
                simp only [e3] at e
                refine .inr ⟨go, fun H => ∃ ρ, Ext T (ρ0 ++ [D]) (upd H0 D (.lst [])) ρ H ∧ Rel T ρ H s', fun H' ⟨ρ', x', r'⟩ => ⟨k, Nat.lt_succ_self k, ρ', s', x', r', e⟩, fun z H2 y => ?_⟩
                obtain ⟨x1, r2, hv⟩ := yl z H2 y
                have x2 := x.trans x1
                refine hg ρ H2 (wipeL lo0 vs) lo' σ v z _ ((rl0.mono (xD.trans x2)).wipe vs) hv e2 fun σ' rl' hw => ⟨hw, ?_⟩
                unfold lcStep at e3
                refine ⟨ρ, s, lo', r2, rl', ?_⟩
                cases e4 : mt lo' s with
                | fail => simp only [e4] at e3; cases e3
                | exc z s1 => simp only [e4] at e3; cases e3
                | ok c s1 =>
                  intro ρ3 H3 c' x3 r3 ec
                  cases ec
                  cases c with
                  | false =>
                    simp only [e4] at e3
                    cases e3
                    exact ⟨ρ3, x2.trans x3, r3⟩
                  | true =>
                    simp only [e4] at e3
                    refine ⟨ρ3, s1, lo', r3, rl'.mono x3, ?_⟩
                    cases e5 : me lo' s1 with
                    | fail => simp only [e5] at e3; cases e3
                    | exc z s2 => simp only [e5] at e3; cases e3
                    | ok w s2 =>
                      simp only [e5] at e3
                      intro ρ4 H4 zw x4 r4 hw4
                      split at e3
                      · rename_i acc hacc
                        split at e3
                        · rename_i hl
                          cases e3
                          have hd4 := (x1.trans (x3.trans x4)).pre _ _ hd
                          obtain ⟨us, g1, g2⟩ := r4.lst hacc hd4
                          refine ⟨us, g1, by rw [← g2.length, lim_eq]; exact hl, ρ4, (x2.trans (x3.trans x4)).trans (r4.setExt hd4 g1), r4.set hd4 ⟨_, upd_same, (g2.append (.cons hw4 .nil)).mono (r4.setExt hd4 g1)⟩⟩
                        · cases e3
                      · cases e3
/-- the tests of a comprehension -/
theorem cts_nil : PTs X [] (tT T WF tTrue) := ⟨fun pins s σ H Q I h => pts_nil.run pins s σ H Q I (by
  obtain ⟨ρ, st, lo, r, rl, p⟩ := h
  exact p ρ H true .refl r rfl)⟩
theorem cts_one {c : Expr} {mt : TM} (h : PT X c (tT T WF mt)) : PTs X [c] (tT T WF mt) := pts_one h
theorem lcx_le {ma : AM} {gl : GL} {gt : TG} {mt : TM} {me : EM} {vs : List Nat} {σ : St} {H : Hp} {Q : VK} (hg : TgOk T gt gl vs) (h : tE T W (eLcX ma gl mt me vs) σ H Q) : tLc (tI T W (iFix ma)) gt (tT T WF mt) (tE T WF me) vs σ H Q := by
  obtain ⟨ρ, s, lo, r, rl, p⟩ := h
  unfold eLcX bnd at p
  cases e : ma lo s with
  | ok xs s' =>
    refine lc_le (n := xs.length + 1) hg ⟨ρ, s, lo, r, rl, ?_⟩
    have : eLc (xs.length + 1) (iFix ma) gl mt me vs lo s = (match lcX gl mt me s'.length (wipeL lo vs) xs (s' ++ [.lst []]) with | some s2 => .ok (.ref s'.length) s2 | none => .fail) := by
      unfold eLc iFix bnd
      simp only [e, ret]
      rw [lcX_eq gl mt me s'.length (wipeL lo vs) xs (xs.length + 1) 0 _ (by omega), List.drop_zero]
    rw [this]
    simp only [e] at p
    exact p
  | exc z s' =>
    refine lc_le (n := 1) hg ⟨ρ, s, lo, r, rl, ?_⟩
    have : eLc 1 (iFix ma) gl mt me vs lo s = .exc z s' := by
      unfold eLc iFix bnd
      simp only [e]
    rw [this]
    simp only [e] at p
    exact p
  | fail => simp only [e] at p; exact p.elim
end
end Sm

/-! S8: comprehensions as expressions; defs and their calls; attributes -/
namespace Sm
open PySem PySem.Spec PyProof.Rows L2
section
variable {X : Cx} {T : Tb} {W : WX} {elt tg iter : Expr} {ifs : List Expr} {scope : Scope} {own : List (Str × Nat)} {pos spos py : Pos} {m : IM} {ma : AM} {gt : TG} {gl : GL} {mt : TM} {me : EM}
theorem ce_lc (n : Nat) (hc : X.calm = true) (hN : X.N.Nodup) (hi : PI X tg iter (tI T W m)) (ok : BlkOk X.N X.env.scope scope own) (ho : TgOk T gt gl (own.map (·.2)))
    (hg : ∀ s H C cl fp, PG (X.blk s H scope (compEnvC scope cl C X.env) fp) tg gt) (ht : ∀ s H C cl fp, PTs (X.blk s H scope (compEnvC scope cl C X.env) fp) ifs (tT T WF mt))
    (he : ∀ s H C cl fp, PE (X.blk s H scope (compEnvC scope cl C X.env) fp) elt (tE T WF me)) (hs : ∀ x, foldedSetIterable iter X.env x = pure x := by intro _; rfl) :
    PE X (.ListComp elt [⟨tg, iter, ifs, 0⟩] scope pos) (tE T W (eLc n m gl mt me (own.map (·.2)))) := pe_mono (pe_lc hc hN hi ok hg ht he hs) fun _ _ _ h => lc_le ho h
theorem ce_lcX (hc : X.calm = true) (hN : X.N.Nodup) (hi : PI X tg iter (tI T W (iFix ma))) (ok : BlkOk X.N X.env.scope scope own) (ho : TgOk T gt gl (own.map (·.2)))
    (hg : ∀ s H C cl fp, PG (X.blk s H scope (compEnvC scope cl C X.env) fp) tg gt) (ht : ∀ s H C cl fp, PTs (X.blk s H scope (compEnvC scope cl C X.env) fp) ifs (tT T WF mt))
    (he : ∀ s H C cl fp, PE (X.blk s H scope (compEnvC scope cl C X.env) fp) elt (tE T WF me)) (hs : ∀ x, foldedSetIterable iter X.env x = pure x := by intro _; rfl) :
    PE X (.ListComp elt [⟨tg, iter, ifs, 0⟩] scope pos) (tE T W (eLcX ma gl mt me (own.map (·.2)))) := pe_mono (pe_lc hc hN hi ok hg ht he hs) fun _ _ _ h => lcx_le ho h
/-- y = [..] on one line -/
theorem cs_setLc (n : Nat) {i : Nat} {y : Str} (hc : X.calm = true) (hN : X.N.Nodup) (hy : X.N[i]? = some y) (hyl : X.env.scope.names.lookup y = some .local)
    (hsw : swapsWith (.ListComp elt [⟨tg, iter, ifs, 0⟩] scope pos) (some (.Name y py)) spos.line X.env = pure true) (hi : PI X tg iter (tI T W m)) (ok : BlkOk X.N X.env.scope scope own) (ho : TgOk T gt gl (own.map (·.2)))
    (hg : ∀ s H C cl fp, PG (X.blk s H scope (compEnvC scope cl C X.env) fp) tg gt) (ht : ∀ s H C cl fp, PTs (X.blk s H scope (compEnvC scope cl C X.env) fp) ifs (tT T WF mt))
    (he : ∀ s H C cl fp, PE (X.blk s H scope (compEnvC scope cl C X.env) fp) elt (tE T WF me)) (hs : ∀ x, foldedSetIterable iter X.env x = pure x := by intro _; rfl) :
    PS X (.Assign [.Name y py] (.ListComp elt [⟨tg, iter, ifs, 0⟩] scope pos) spos) (tS T W (sSet i (eLc n m gl mt me (own.map (·.2))))) := ps_mono (ps_setLc hc hN hy hyl hsw hi ok hg ht he hs) fun _ _ _ h => lc_le ho (tasg_le h)
theorem cs_setLcX {i : Nat} {y : Str} (hc : X.calm = true) (hN : X.N.Nodup) (hy : X.N[i]? = some y) (hyl : X.env.scope.names.lookup y = some .local)
    (hsw : swapsWith (.ListComp elt [⟨tg, iter, ifs, 0⟩] scope pos) (some (.Name y py)) spos.line X.env = pure true) (hi : PI X tg iter (tI T W (iFix ma))) (ok : BlkOk X.N X.env.scope scope own) (ho : TgOk T gt gl (own.map (·.2)))
    (hg : ∀ s H C cl fp, PG (X.blk s H scope (compEnvC scope cl C X.env) fp) tg gt) (ht : ∀ s H C cl fp, PTs (X.blk s H scope (compEnvC scope cl C X.env) fp) ifs (tT T WF mt))
    (he : ∀ s H C cl fp, PE (X.blk s H scope (compEnvC scope cl C X.env) fp) elt (tE T WF me)) (hs : ∀ x, foldedSetIterable iter X.env x = pure x := by intro _; rfl) :
    PS X (.Assign [.Name y py] (.ListComp elt [⟨tg, iter, ifs, 0⟩] scope pos) spos) (tS T W (sSet i (eLcX ma gl mt me (own.map (·.2))))) := ps_mono (ps_setLc hc hN hy hyl hsw hi ok hg ht he hs) fun _ _ _ h => lcx_le ho (tasg_le h)
end

/-! ### defs -/
/-- a def's promise where no repr runs around -/
structure FnG (P : Program) (w : World) (K : PySem.W.Frag) (mg : Str → Option Value) (base : Heap) (k : Nat) (f : Addr) (fd : FuncData) (ps : List Str) (sp : Sp) : Prop where
  len : ∀ vs H Q E, sp vs H Q E → vs.length = ps.length
  run : ∀ (A : Around) (outer : List Env) (s : Shared) (H : Hp) (args : Args) (us : List Value) (vs : List V) (Q : VK) (E : XK), Room k A → A.guards = some [] → Env0 P w K mg base A outer s H → BindsTo s fd args (ps.zip us) → Vals vs us → sp vs H Q E →
    codeAny (model P w) A (.call (.ref f) args) (CR (L2.CX P w) outer P w H s Q E) s
theorem FnG.mono {P : Program} {w : World} {K : PySem.W.Frag} {mg : Str → Option Value} {base : Heap} {j k : Nat} {f : Addr} {fd : FuncData} {ps : List Str} {sp : Sp} (F : FnG P w K mg base j f fd ps sp) (h : j ≤ k) : FnG P w K mg base k f fd ps sp :=
  ⟨F.len, fun A outer s H args us vs Q E hr => F.run A outer s H args us vs Q E (hr.mono h)⟩
/-- a def by its body -/
theorem fnG_of {P : Program} {w : World} {K : PySem.W.Frag} {mg : Str → Option Value} {base : Heap} {k : Nat} {x qual : Str} {st : Stmt} {f : Addr} {fd : FuncData} {N ps : List Str} {sp : Sp} (F : Fun K x qual st f fd) (S : FnScope N ps (defScope st)) (len : ∀ vs H Q E, sp vs H Q E → vs.length = ps.length)
    (hbody : ∀ (cdv : Value) (A : Around) (outer : List Env) (s : Shared) (H : Hp) (vs : List V) (Q : VK) (E : XK), Room k (A.deeper (envOfC qual (defScope st) s.heap.objs.size f cdv)) → A.guards = some [] → sp vs H Q E →
      ∃ t, PSs (cxOf (L2.CX P w) P w K mg base N qual (defScope st) f cdv A outer s H E) (defBody st) t ∧ t { nx := fun _ H' => Q .non H', rt := Q } (L2.start N vs) H) : FnG P w K mg base (k + 1) f fd ps sp := by
  obtain ⟨oc, od, kV, doc, pm, an, cdv, ct, osl, rfl, lk, hcd⟩ := F.ex
  refine ⟨len, fun A outer s H args us vs Q E hr hg e0 hb r hsp => ?_⟩
  have inK : K.In s.heap := e0.mod.kin.keeps fun b o e => (e0.bs b o e).1
  have nl : s.heap.NoLimit := e0.mod.nolimit.keeps fun b o e => (e0.bs b o e).1
  have kinds : ∀ y ∈ ps.zip us, (defScope st).names.lookup y.1 = some .local ∨ ((defScope st).names.lookup y.1 = some .cell ∧ ((cellsFrom (s.heap.objs.size + 1) (defScope st).names []).lookup y.1).isSome = true) := by
    rintro ⟨n, v⟩ hy
    exact (S.par n (List.of_mem_zip hy).1).imp id fun q => ⟨q, PySem.W.cellsFrom_some _ _ _ (.inl q)⟩
  refine codeAny_call_function hr.depth (inK _ _ lk) rfl S.co S.gen rfl (PySem.W.codeRec_of inK hcd) (hb _ _ _ _ (wpAny_newFunctionEnv_cells S.kind kinds fun env he s1 y => ?_))
  subst he
  refine ⟨nl.keeps y.toInCall.keep, codeAny_func ?_⟩
  obtain ⟨t, ht, hq⟩ := hbody cdv A outer s H vs Q E (hr.deeper _) hg hsp
  refine wpAny_mono (ht.run [] s1 (L2.start N vs) H _ (inv_start S hr.hd e0 (len _ _ _ _ hsp) r y) hq) (fun fl s' hs => ?_) fun e s' hs => hs
  cases fl with
  | ret u => obtain ⟨v, σ', H', J, rv, q⟩ := hs; exact ⟨v, H', J.os, J.bare, J.base, J.hok, rv, q⟩
  | next => obtain ⟨σ', H', J, q⟩ := hs; exact ⟨V.non, H', J.os, J.bare, J.base, J.hok, rfl, q⟩
  | brk => obtain ⟨_, _, _, q⟩ := hs; exact q.elim
  | cont => obtain ⟨_, _, _, q⟩ := hs; exact q.elim
/-- the promise of a pure function -/
def SpM (T : Tb) (n : Nat) (m : List Vl → M Vl) : Sp := fun vs H Q E => ∃ (ρ : List Addr) (s : Sto) (as : List Vl), Rel T ρ H s ∧ RVs T ρ H as vs ∧ as.length = n ∧ Po (RV T) T E ρ H (m as s) Q
/-- a body as a function; n: how many names -/
def fnM (n : Nat) (b : SM) : List Vl → M Vl := fun as s => match b (as.map some ++ List.replicate (n - as.length) none) s with
  | .nx _ s' => .ok .non s'
  | .rt v s' => .ok v s'
  | .exc e _ s' => .exc e s'
  | _ => .fail
theorem rl_start {T : Tb} {ρ : List Addr} {H : Hp} {as : List Vl} {vs : List V} {N : List Str} (h : RVs T ρ H as vs) : RL T ρ H (as.map some ++ List.replicate (N.length - as.length) none) (L2.start N vs) := by
  refine ⟨?_, fun i x e => ?_⟩
  · unfold L2.start
    simp only [List.length_append, List.length_map, List.length_replicate, h.length]
  · by_cases hi : i < as.length
    · rw [List.getElem?_append_left (by simpa using hi), List.getElem?_map] at e
      cases q : as[i]? with
      | none => rw [q] at e; cases e
      | some y =>
        rw [q] at e
        cases e
        obtain ⟨z, h1, h2⟩ := h.get q
        refine ⟨z, ?_, h2⟩
        unfold L2.start
        rw [List.getElem?_append_left (by rw [List.length_map, ← h.length]; exact hi), List.getElem?_map, h1]; rfl
    · rw [List.getElem?_append_right (by simpa using hi), List.getElem?_replicate] at e
      split at e <;> cases e
theorem fn_body {T : Tb} {N : List Str} {n : Nat} {b : SM} {vs : List V} {H : Hp} {Q : VK} {E : XK} (h : SpM T n (fnM N.length b) vs H Q E) : tS T (fun c d _ H' => E c d H') b { nx := fun _ H' => Q .non H', rt := Q } (L2.start N vs) H := by
  obtain ⟨ρ, s, as, r, hv, hl, p⟩ := h
  refine ⟨ρ, s, _, r, rl_start hv, ?_⟩
  unfold fnM at p
  cases e : b (as.map some ++ List.replicate (N.length - as.length) none) s with
  | nx lo s' => rw [e] at p; exact fun ρ' H' σ' x r' _ => p ρ' H' .non x r' .non
  | rt v s' => rw [e] at p; exact p
  | exc z lo s' => rw [e] at p; exact fun ρ' H' σ' C x r' _ hC => p ρ' H' C x r' hC
  | bk lo s' => rw [e] at p; exact p.elim
  | ct lo s' => rw [e] at p; exact p.elim
  | fail => rw [e] at p; exact p.elim
/-- a def of the text computes the pure function of its body -/
theorem fn_sim {P : Program} {w : World} {K : PySem.W.Frag} {mg : Str → Option Value} {base : Heap} {k n : Nat} {x qual : Str} {st : Stmt} {f : Addr} {fd : FuncData} {N ps : List Str} {T : Tb} {b : SM} (F : Fun K x qual st f fd) (S : FnScope N ps (defScope st)) (hn : n = ps.length)
    (body : ∀ (cdv : Value) (A : Around) (outer : List Env) (s : Shared) (H : Hp) (E : XK), Room k (A.deeper (envOfC qual (defScope st) s.heap.objs.size f cdv)) → A.guards = some [] →
      PSs (cxOf (L2.CX P w) P w K mg base N qual (defScope st) f cdv A outer s H E) (defBody st) (tS T (fun c d _ H' => E c d H') b)) : FnG P w K mg base (k + 1) f fd ps (SpM T n (fnM N.length b)) :=
  fnG_of F S (fun vs H Q E ⟨ρ, s, as, r, hv, hl, p⟩ => by rw [← hv.length, hl, hn]) fun cdv A outer s H vs Q E hr hg h => ⟨_, body cdv A outer s H E hr hg, fn_body h⟩

/-! ### calls of defs -/
section
variable {X : Cx} {T : Tb} {W : WX} {k n : Nat} {f : Addr} {fd : FuncData} {ps : List Str} {mf : List Vl → M Vl} {x : Str} {p pos apos : Pos} {e o : Expr} {es : List Expr} {ma : AM} {mo : EM} {ds : List Value} {dvs : List V} {das : List Vl}
def eCall (mf : List Vl → M Vl) (a : AM) : EM := fun lo => bnd (a lo) mf
/-- with defaults das behind the arguments -/
def eCallD (mf : List Vl → M Vl) (das : List Vl) (a : AM) : EM := fun lo => bnd (a lo) fun as => mf (as ++ das)
theorem run_G {sp : Sp} {pins : List (Addr × Obj)} {σ : L2.St} {H : Hp} {s : Shared} {Q : VK} {us : List Value} {vs : List V} (F : FnG X.prog X.w X.K X.mg X.base k f fd ps sp) (hr : Room k X.A) (hg : X.A.guards = some []) (hb : Binds X.K fd ps ds) (hd : Vals dvs ds) (tk : Takes X W)
    (I : Inv X pins σ H s) (r : Vals vs us) (h : sp (vs ++ dvs) H Q fun c d H' => W c d σ H') : wpAny (model X.prog X.w) X.A (call (.ref f) us) (EP X pins σ Q) X.xe s := by
  have r2 : Vals (vs ++ dvs) (us ++ ds) := r.append hd
  refine wpAny_call (codeAny_mono (F.run X.A X.stack s H ⟨us, []⟩ (us ++ ds) (vs ++ dvs) Q _ hr hg I.env0 (hb s us I.kIn (by rw [← r2.length]; exact F.len _ _ _ _ h)) r2 h) fun z s' hq => ?_)
  cases z with
  | error y => exact tk y s' (XE.of_call I (fun _ _ _ q => q) hq)
  | ok fl =>
    cases fl with
    | ret u => exact I.after hq
    | next => exact hq.elim
    | brk => exact hq.elim
    | cont => exact hq.elim
theorem spM_of {ρ : List Addr} {s : Sto} {as : List Vl} {vs : List V} {H : Hp} {Q : VK} {E : XK} (r : Rel T ρ H s) (hv : RVs T ρ H as vs) (hl : as.length = n) (p : Po (RV T) T E ρ H (mf as s) Q) : SpM T n mf vs H Q E := ⟨ρ, s, as, r, hv, hl, p⟩
/-- the number of arguments is checked in the pure function -/
def arg (n : Nat) (mf : List Vl → M Vl) : List Vl → M Vl := fun as s => if as.length = n then mf as s else .fail
theorem ce_call (F : FnG X.prog X.w X.K X.mg X.base k f fd ps (SpM T n mf)) (hr : Room k X.A) (hgd : X.A.guards = some []) (hg : Gl X x) (hm : X.mg x = some (.ref f)) (hk : PySem.W.keepIn X.K (.ref f) = true) (hb : Binds X.K fd ps []) (tk : Takes X W) (ha : PA X (e :: es) (tA T W ma))
    (hdb : (x == ("__debug__" : Str)) = false := by decide) (he : starEach (e :: es) X.env = (false, eval e X.env) :: starEach es X.env := by rfl) (hpl : (backTo pos (starEach es X.env)).any (·.1) = false := by rfl) :
    PE X (.Call (.Name x p) (e :: es) [] pos) (tE T W (eCall (arg n mf) ma)) := by
  refine ⟨fun pins s σ H Q I h => wpAny_Call_Name_kw (ld_glob I hg hm ?_ hdb)⟩
  have h : tA T W ma σ H fun vs H1 => SpM T n mf (vs ++ []) H1 Q fun c d H' => W c d σ H' := tG_bnd (R := RVs T) h fun ρ s lo xs zs H1 r rl hx q => by
    unfold arg at q
    split at q
    · rename_i hl
      rw [List.append_nil]
      exact spM_of r hx hl q
    · exact q.elim
  refine PySem.W.callWith_K (h₀ := X.base) I.ok.mod.kin hk (thn (ha.run pos pins s σ H _ I h) fun us s1 ⟨vs, H1, I1, r, q⟩ => ⟨I1.kIn, ?_⟩) he hpl
  exact run_G F hr hgd hb .nil tk I1 r q
theorem ce_call0 (F : FnG X.prog X.w X.K X.mg X.base k f fd ps (SpM T 0 mf)) (hr : Room k X.A) (hgd : X.A.guards = some []) (hg : Gl X x) (hm : X.mg x = some (.ref f)) (hk : PySem.W.keepIn X.K (.ref f) = true) (hb : Binds X.K fd ps []) (tk : Takes X W)
    (hdb : (x == ("__debug__" : Str)) = false := by decide) : PE X (.Call (.Name x p) [] [] pos) (tE T W (eCall mf aNil)) := by
  refine ⟨fun pins s σ H Q I h => wpAny_Call_Name_kw (ld_glob I hg hm ?_ hdb)⟩
  obtain ⟨ρ, st, lo, r, rl, q⟩ := h
  exact PySem.W.callWith_K0 I.kIn hk (run_G (us := []) (vs := []) F hr hgd hb .nil tk I .nil (spM_of (as := []) r .nil rfl q))
end
end Sm

/-! S9: the end of a law: from the pure function of the law to the row -/
namespace Sm
open PySem PySem.Spec PyProof.Rows L2
/-- nothing is tracked but the script -/
def H0 (K : PySem.W.Frag) (a : Addr) (ob : Obj) (ns : List Int) : Hp := fun b => if b = a ∧ (K.lookup a).isNone = true then some (.frz ob (.lst (ns.map V.int))) else none
theorem H0_some {K : PySem.W.Frag} {a b : Addr} {ob : Obj} {ns : List Int} {u : HO} (h : H0 K a ob ns b = some u) : b = a ∧ K.lookup a = none ∧ u = .frz ob (.lst (ns.map V.int)) := by
  unfold H0 at h
  split at h
  · rename_i q
    cases h
    refine ⟨q.1, ?_, rfl⟩
    cases e : K.lookup a with
    | none => rfl
    | some o => rw [e] at q; exact absurd q.2 (by simp)
  · cases h
theorem law_G {P : Program} {w : World} {T : Tb} {mg mb : Str → Option Value} {k : Nat} {fa a : Addr} {fd : FuncData} {x : Str} {m : List Vl → M Vl} {s₁ : Shared} {vs : List Value} {ns : List Int} {st : Sto}
    (KX : T.K.In s₁.heap) (hns : s₁.heap.Ns mainGlobals mg) (hb : s₁.heap.Ns builtinsNs mb) (hbb : ∀ x : Str, x ≠ "__name__" → mb x = bootBuiltins x) (hlim : s₁.heap.NoLimit) (hg : s₁.gens = #[])
    (ha : s₁.heap.get? a = some { cls := .type "list", data := .seq vs.toArray }) (hi : IntsAre vs ns) (hl : ns.length ≤ sizeLine) (hr : Room k callerA)
    (F : ∀ base : Heap, T.K.In base → base.Ns mainGlobals mg → FnG P w T.K mg base k fa fd [x] (SpM T 1 m)) (hbind : ∀ (s : Shared) (u : Value), BindsTo s fd ⟨[u], []⟩ [(x, u)])
    (hm : m [.scr ns] [] = .ok (.bl true) st) :
    codeAny (model P w) callerA (.call (.ref fa) ⟨[.ref a], []⟩) (fun r s' => r = .ok (.ret (.bool true)) ∧ OldK s₁.heap s'.heap ∧ s'.os = s₁.os ∧ AllBare s'.gens) s₁ := by
  have rv := vals_ints hi
  let ob : Obj := { cls := .type "list", data := .seq vs.toArray }
  let H := H0 T.K a ob ns
  have out : ∀ {b : Addr} {o : Obj}, s₁.heap.get? b = some o → b ≠ a → (hidT s₁.heap H).get? b = some o := fun {b o} e n => hidT_get e (by
    cases q : H b with
    | none => rfl
    | some u => exact absurd (H0_some q).1 n)
  have nd : ∀ {b : Addr} {m : Str → Option Value}, s₁.heap.Ns b m → (hidT s₁.heap H).Ns b m := fun {b m} ⟨o, es, ep, e, d, r⟩ => ⟨o, es, ep, out e (fun z => by
    subst z
    rw [ha] at e
    cases e
    have d : Data.seq vs.toArray _ = Data.dict es ep := d
    cases d), d, r⟩
  have inB : T.K.In (hidT s₁.heap H) := fun b o e => hidT_get (KX b o e) (by
    cases q : H b with
    | none => rfl
    | some u =>
      obtain ⟨rfl, h2, _⟩ := H0_some q
      rw [h2] at e
      cases e)
  have md : Mod T.K mg (hidT s₁.heap H) := ⟨inB, nd hns, ⟨mb, nd hb, hbb⟩, let ⟨mc, h1, h2⟩ := hlim; ⟨mc, nd h1, h2⟩⟩
  have hok : HOk P w H s₁.heap := fun b u q => by
    obtain ⟨rfl, h2, rfl⟩ := H0_some q
    exact ⟨ha, by rw [List.length_map]; exact hl, vs, _, rv, ha⟩
  have e0 : Env0 P w T.K mg (hidT s₁.heap H) callerA [] s₁ H := ⟨rfl, md, fun b o e => of_hidT e, Nat.le_of_eq (hidT_size _ _), trivial, fun b hb => absurd hb (List.not_mem_nil), hok, .of_eq hg⟩
  have rs : RV T [] H (.scr ns) (.ref a) := by
    cases q : T.K.lookup a with
    | none => exact .scr (o := ob) (by show H0 T.K a ob ns a = _; unfold H0; rw [if_pos ⟨rfl, by rw [q]; rfl⟩])
    | some o =>
      have e := KX a o q
      rw [ha] at e
      cases e
      exact .scrK fun H' => .inr ⟨_, vs.toArray, _, q, rfl, rfl, rfl, by rw [List.size_toArray, ← rv.length, List.length_map]; exact hl, by simpa using rv⟩
  have sp : SpM T 1 m [.ref a] H (fun v _ => v = .bl true) fun _ _ _ => False := ⟨[], [], [.scr ns], ⟨rfl, List.nodup_nil, fun i a o h _ => by simp at h⟩, .cons rs .nil, rfl, by
    rw [hm]
    exact fun ρ' H' z _ _ hz => hz.blE⟩
  refine codeAny_mono ((F _ inB (nd hns)).run callerA [] s₁ H ⟨[.ref a], []⟩ [.ref a] [.ref a] _ _ hr rfl e0 (hbind s₁ (.ref a)) (.cons rfl .nil) sp) fun r s' h => ?_
  cases r with
  | error e =>
    obtain ⟨_, _, _, _, _, _, _, _, _, _, _, _, z⟩ := h
    exact z.elim
  | ok fl =>
    cases fl with
    | next => exact h.elim
    | brk => exact h.elim
    | cont => exact h.elim
    | ret u =>
      obtain ⟨v, H', os, bare, un, hok', r', q⟩ := h
      have q : v = .bl true := q
      subst q
      obtain rfl : u = Value.bool true := r'
      refine ⟨rfl, OldK.of_keep fun b o e => ?_, os, bare⟩
      cases q : H b with
      | none => exact un.keep b o e q (fun z => absurd z (List.not_mem_nil)) (List.not_mem_nil)
      | some u =>
        obtain ⟨rfl, h2, rfl⟩ := H0_some q
        have z2 := un.frzs b _ _ q
        obtain ⟨e2, _⟩ := hok' b _ z2
        rw [ha] at e
        cases e
        exact e2
/-- the goal that the head leaves, from the law's pure function -/
theorem walk_G {l : PySem.W.OpenLaw} {n k : Nat} {q : Program} {loose : List Str} {XP : (Str → Option Value) → Heap → Prop} {YP : World → Heap → Prop} {d : DefRec} {K : Params → PySem.W.Frag} {x : Str} {m : List Vl → M Vl}
    (hn : l.most = some n) (hn2 : n ≤ sizeLine) (hdf : d.params.defaults = []) (hr : Room k callerA) (hY : ∀ (w : World) (h : Heap), YP w h → (K w.params).In h)
    (F : ∀ (w : World) (mg : Str → Option Value) (fa : Addr) (h : Heap), (K w.params).In h → h.Ns mainGlobals mg → mg d.name = some (.ref fa) → ∃ (T : Tb) (fd : FuncData), T.K = K w.params ∧ (∀ (s : Shared) (u : Value), BindsTo s fd ⟨[u], []⟩ [(x, u)]) ∧
        ∀ base : Heap, T.K.In base → base.Ns mainGlobals mg → FnG l.prog w T.K mg base k fa fd [x] (SpM T 1 m))
    (hm : ∀ ns : List Int, ns.length ≤ n → ∃ st, m [.scr ns] [] = .ok (.bl true) st) :
    PySem.W.WalkO q loose XP YP l.row.toRowW d [] (fun f vs => PySem.call f vs) := by
  refine Att.attach_call hn hdf fun w s₀ s₁ mg mb fa o pm cd doc a vs ns G Y ho hd hcd hmg hobj hints hlen hg => ?_
  obtain ⟨T, fd, eT, hb, hF⟩ := F w mg fa _ (hY w _ Y) G.T.g hmg
  obtain ⟨st, e⟩ := hm ns hlen
  exact law_G (by rw [eT]; exact hY w _ Y) G.T.g G.T.b G.T.builtins G.T.nolimit hg hobj hints (Nat.le_trans hlen hn2) hr hF hb e
end Sm

/-! S10: objects: fields, methods, making -/
namespace Sm
open PySem PySem.Spec PyProof.Rows L2
def putS (f : Str) (v : Vl) : List (Str × Vl) → List (Str × Vl)
  | [] => [(f, v)]
  | (g, x) :: r => if g = f then (g, v) :: r else (g, x) :: putS f v r
def getS (fs : List (Str × Vl)) (f : Str) : Option Vl := match fs with
  | [] => none
  | (g, x) :: r => if g = f then some x else getS r f
section
variable {T : Tb} {ρ : List Addr} {H : Hp}
theorem lookup_step {α : Type} (f g : Str) (x : α) (r : List (Str × α)) : List.lookup f ((g, x) :: r) = if g = f then some x else List.lookup f r := by
  by_cases h : g = f
  · subst h
    rw [if_pos rfl]
    simp [List.lookup]
  · rw [if_neg h]
    have : (f == g) = false := by
      cases e : (f == g) with
      | false => rfl
      | true => exact absurd (eq_of_beq e).symm h
    simp [List.lookup, this]
theorem getS_ok {f : Str} : ∀ {fs : List (Str × Vl)} {vs : List (Str × V)}, vs.map (·.1) = fs.map (·.1) → RVs T ρ H (fs.map (·.2)) (vs.map (·.2)) →
    (getS fs f = none → vs.lookup f = none) ∧ ∀ v, getS fs f = some v → ∃ z, vs.lookup f = some z ∧ RV T ρ H v z
  | [], [], _, _ => ⟨fun _ => rfl, fun v e => by simp [getS] at e⟩
  | [], _ :: _, e, _ => by simp at e
  | _ :: _, [], e, _ => by simp at e
  | (g, x) :: r, (g', z) :: t, e, h => by
    simp only [List.map_cons, List.cons.injEq] at e
    rw [List.map_cons, List.map_cons] at h
    obtain ⟨e1, e2⟩ := e
    subst e1
    cases h with
    | cons h1 h2 =>
      have ih := getS_ok (f := f) e2 h2
      rw [lookup_step]
      unfold getS
      by_cases hk : g' = f
      · rw [if_pos hk, if_pos hk]
        refine ⟨(fun q => nomatch q), fun v q => ?_⟩
        cases q
        exact ⟨z, rfl, h1⟩
      · rw [if_neg hk, if_neg hk]
        exact ih
theorem putS_ok {f : Str} {v : Vl} {z : V} (hv : RV T ρ H v z) : ∀ {fs : List (Str × Vl)} {vs : List (Str × V)}, vs.map (·.1) = fs.map (·.1) → RVs T ρ H (fs.map (·.2)) (vs.map (·.2)) →
    (putF f z vs).map (·.1) = (putS f v fs).map (·.1) ∧ RVs T ρ H ((putS f v fs).map (·.2)) ((putF f z vs).map (·.2))
  | [], [], _, _ => ⟨rfl, .cons hv .nil⟩
  | [], _ :: _, e, _ => by simp at e
  | _ :: _, [], e, _ => by simp at e
  | (g, x) :: r, (g', y) :: t, e, h => by
    simp only [List.map_cons, List.cons.injEq] at e
    rw [List.map_cons, List.map_cons] at h
    obtain ⟨e1, e2⟩ := e
    subst e1
    cases h with
    | cons h1 h2 =>
      unfold putF putS
      by_cases hk : g' = f
      · rw [if_pos hk, if_pos hk]
        exact ⟨by simp [e2], .cons hv h2⟩
      · rw [if_neg hk, if_neg hk]
        obtain ⟨a, b⟩ := putS_ok hv e2 h2
        exact ⟨by simp [a], .cons h1 b⟩
theorem Rel.ins {s : Sto} {i c : Nat} {fs : List (Str × Vl)} {a : Addr} (r : Rel T ρ H s) (h : s[i]? = some (.ins c fs)) (ha : ρ[i]? = some a) :
    ∃ (C dx : Addr) (vs : List (Str × V)), T.cl[c]? = some C ∧ H a = some (.ins C dx vs) ∧ vs.map (·.1) = fs.map (·.1) ∧ RVs T ρ H (fs.map (·.2)) (vs.map (·.2)) := r.ob i a _ ha h
end
/-- e.f, of an object of one of the classes cs -/
def eFld (cs : List Nat) (f : Str) (o : EM) : EM := fun lo => bnd (o lo) fun x s => match x with
  | .ref j => match s[j]? with
    | some (.ins c fs) => if c ∈ cs then match getS fs f with
        | some v => .ok v s
        | none => .fail
      else .fail
    | _ => .fail
  | _ => .fail
/-- e.f = v -/
def setFld (cs : List Nat) (f : Str) (x v : Vl) (s : Sto) : Option Sto := match x with
  | .ref j => match s[j]? with
    | some (.ins c fs) => if c ∈ cs ∧ fs.length < 1000 then some (s.set j (.ins c (putS f v fs))) else none
    | _ => none
  | _ => none
def sFldM (cs : List Nat) (f : Str) (o e : EM) : SM := bndS e fun lo v s => bndS o (fun lo x s => match setFld cs f x v s with
  | some s' => .nx lo s'
  | none => .fail) lo s
/-- the classes cs have no attribute f of their own -/
def FldOk (T : Tb) (cs : List Nat) (f : Str) : Prop := ∀ c ∈ cs, ∀ C, T.cl[c]? = some C → Cls T.K C ∧ NoAttr T.K C f
/-- o.m(..): the method by the object's class -/
abbrev MTab := Nat → Option (List Vl → M Vl)
def eMeth (m : Str) (tab : MTab) (o : EM) (a : AM) : EM := fun lo => bnd (o lo) fun x s => match x with
  | .ref j => match s[j]? with
    | some (.ins c fs) => match tab c, getS fs m with
      | some mf, none => bnd (a lo) (fun as => mf (.ref j :: as)) s
      | _, _ => .fail
    | _ => .fail
  | _ => .fail
section
variable {X : Cx} {T : Tb} {W : WX} {o e value : Expr} {es : List Expr} {f : Str} {pos pos' apos : Pos} {mo me : EM} {ma : AM} {cs : List Nat}
theorem ce_fld (ok : FldOk T cs f) (he : PE X e (tE T W me)) (hb : attributeBase e f X.env (eval e X.env) = eval e X.env := by rfl) (hK : X.K = T.K := by rfl) : PE X (.Attribute e f pos) (tE T W (eFld cs f me)) :=
  pe_mono (pe_fld he hb) fun σ H Q h => tG_bnd (R := RV T) h fun ρ s lo x z H1 r rl hx p => by
    cases hx with
    | ref ha =>
      simp only at p
      split at p
      · rename_i c fs hj
        split at p
        · rename_i hc
          split at p
          · rename_i v hv
            obtain ⟨C, dx, vs, h1, h2, h3, h4⟩ := r.ins hj ha
            obtain ⟨w, h5, h6⟩ := (getS_ok (f := f) h3 h4).2 v hv
            obtain ⟨k1, k2⟩ := ok c hc C h1
            rw [hK]
            exact ⟨_, C, dx, vs, w, rfl, h2, k1, k2, h5, p ρ H1 w .refl r h6⟩
          · exact p.elim
        · exact p.elim
      · exact p.elim
    | _ => exact p.elim
theorem cs_fld (ok : FldOk T cs f) (ho : PE X o (tE T W mo)) (hv : PE X value (tE T W me)) (hs : swapsWith value (some (.Attribute o f pos')) pos.line X.env = pure false := by rfl) (hK : X.K = T.K := by rfl) :
    PS X (.Assign [.Attribute o f pos'] value pos) (tS T W (sFldM cs f mo me)) := ps_mono (ps_fld ho hv hs) fun D σ H h =>
  tS_bnd (R := RV T) h fun ρ s lo v z H1 r rl hv p => poS_bnd (R := RV T) r rl p fun ρ' s' x y H' ext r' rl' hx p' => by
    unfold setFld at p'
    cases hx with
    | ref ha =>
      simp only at p'
      split at p'
      · rename_i sf e
        split at e
        · rename_i c fs hj
          split at e
          · rename_i hc
            cases e
            obtain ⟨C, dx, vs, h1, h2, h3, h4⟩ := r'.ins hj ha
            obtain ⟨k1, k2⟩ := ok c hc.1 C h1
            obtain ⟨g1, g2⟩ := putS_ok (f := f) (hv.mono ext) h3 h4
            have hlen : vs.length = fs.length := by have := congrArg List.length h3; simpa using this
            rw [hK]
            refine ⟨_, C, dx, vs, rfl, h2, k1, k2, by rw [hlen]; exact hc.2, ?_⟩
            exact p' ρ' _ σ (r'.setExt ha h2) (r'.set ha ⟨C, dx, _, h1, upd_same, g1, g2.mono (r'.setExt ha h2)⟩) (rl'.mono (r'.setExt ha h2))
          · cases e
        · cases e
      · exact p'.elim
    | _ => exact p'.elim
/-- the methods m of the classes of tab -/
def MethOk (X : Cx) (T : Tb) (m : Str) (k n : Nat) (tab : MTab) : Prop := ∀ c mf, tab c = some mf → ∀ C, T.cl[c]? = some C → ∃ (f : Addr) (fd : FuncData) (ps : List Str), Cls T.K C ∧ Meth T.K C m f ∧ FnG X.prog X.w X.K X.mg X.base k f fd ps (SpM T (n + 1) mf) ∧ Binds X.K fd ps []
def tabA (n : Nat) (tab : MTab) : MTab := fun c => (tab c).map (arg (n + 1))
theorem ce_meth {m : Str} {k n : Nat} {tab : MTab} {pl : Sem Bool} (ok : MethOk X T m k n tab) (hr : Room k X.A) (hgd : X.A.guards = some []) (tk : Takes X W) (ho : PE X o (tE T W mo)) (ha : PA X (e :: es) (tA T W ma))
    (hst : starEach (e :: es) X.env = (false, eval e X.env) :: starEach es X.env := by rfl) (hpl : (backTo pos (starEach es X.env)).any (·.1) = false := by rfl)
    (ht : eval (.Call (.Attribute o m apos) (e :: es) [] pos) X.env = (do let ov ← eval o X.env; standAt apos.atName; let (f, first) ← holding [ov] (getMethod ov m pl); callWith pos f first (backTo pos (starEach (e :: es) X.env)) (backToKw pos (keywordEach [] X.env))) := by rfl)
    (hK : X.K = T.K := by rfl) : PE X (.Call (.Attribute o m apos) (e :: es) [] pos) (tE T W (eMeth m (tabA n tab) mo ma)) := by
  refine ⟨fun pins s σ H Q I h => ?_⟩
  have h : tE T W mo σ H fun x H1 => ∃ (a C dx f : Addr) (fs : List (Str × V)) (mf : List Vl → M Vl) (fd : FuncData) (ps : List Str), x = .ref a ∧ H1 a = some (.ins C dx fs) ∧ Cls T.K C ∧ Meth T.K C m f ∧ fs.lookup m = none ∧ FnG X.prog X.w X.K X.mg X.base k f fd ps (SpM T (n + 1) mf) ∧ Binds X.K fd ps [] ∧
      tA T W ma σ H1 fun vs H2 => SpM T (n + 1) mf (.ref a :: vs ++ []) H2 Q fun c d H' => W c d σ H' := tG_bnd (R := RV T) h fun ρ s lo x z H1 r rl hx p => by
    cases hx with
    | ref hρ =>
      rename_i j a
      simp only at p
      split at p
      · rename_i c fs hj
        split at p
        · rename_i mf hm hg
          unfold tabA at hm
          obtain ⟨mf0, hm0, rfl⟩ := Option.map_eq_some_iff.mp hm
          obtain ⟨C, dx, vs, h1, h2, h3, h4⟩ := r.ins hj hρ
          obtain ⟨f, fd, ps, k1, k2, k3, k4⟩ := ok c mf0 hm0 C h1
          refine ⟨a, C, dx, f, vs, mf0, fd, ps, rfl, h2, k1, k2, (getS_ok (f := m) h3 h4).1 hg, k3, k4, po_bnd (R := RVs T) (m := ma) r rl p fun ρ' s' as zs H' ext r' rl' has p' => ?_⟩
          unfold arg at p'
          split at p'
          · rename_i hl
            rw [List.append_nil]
            exact spM_of r' (.cons (.ref (ext.pre _ _ hρ)) has) hl p'
          · exact p'.elim
        · exact p.elim
      · exact p.elim
    | _ => exact p.elim
  refine PySem.W.methodCall_KW (pl := pl) (thn (ho.run pins s σ H _ I h) fun u s1 ⟨x, H1, I1, rx, a, C, dx, f, fs, mf, fd, ps, ex, ea, cl, mt, l, F, hb, q⟩ => ?_) ht
  subst ex
  obtain rfl : u = Value.ref a := rx
  rw [← hK] at cl mt
  refine getmeth_ok I1 ea cl mt l ?_
  refine PySem.W.callWith_K (first := [.ref a]) (h₀ := X.base) I.ok.mod.kin mt.kp (thn (ha.run pos pins s1 σ H1 _ I1 q) fun us s2 ⟨vs, H2, I2, r, q2⟩ => ⟨I2.kIn, ?_⟩) hst hpl
  exact run_G (us := .ref a :: us) (vs := .ref a :: vs) F hr hgd hb .nil tk I2 (.cons rfl r) q2
theorem ce_meth0 {m : Str} {k : Nat} {tab : MTab} {pl : Sem Bool} (ok : MethOk X T m k 0 tab) (hr : Room k X.A) (hgd : X.A.guards = some []) (tk : Takes X W) (ho : PE X o (tE T W mo))
    (ht : eval (.Call (.Attribute o m apos) [] [] pos) X.env = (do let ov ← eval o X.env; standAt apos.atName; let (f, first) ← holding [ov] (getMethod ov m pl); callWith pos f first (backTo pos (starEach [] X.env)) (backToKw pos (keywordEach [] X.env))) := by rfl)
    (hK : X.K = T.K := by rfl) : PE X (.Call (.Attribute o m apos) [] [] pos) (tE T W (eMeth m (tabA 0 tab) mo aNil)) := by
  refine ⟨fun pins s σ H Q I h => ?_⟩
  have h : tE T W mo σ H fun x H1 => ∃ (a C dx f : Addr) (fs : List (Str × V)) (mf : List Vl → M Vl) (fd : FuncData) (ps : List Str), x = .ref a ∧ H1 a = some (.ins C dx fs) ∧ Cls T.K C ∧ Meth T.K C m f ∧ fs.lookup m = none ∧ FnG X.prog X.w X.K X.mg X.base k f fd ps (SpM T (0 + 1) mf) ∧ Binds X.K fd ps [] ∧
      SpM T (0 + 1) mf [.ref a] H1 Q fun c d H' => W c d σ H' := tG_bnd (R := RV T) h fun ρ s lo x z H1 r rl hx p => by
    cases hx with
    | ref hρ =>
      rename_i j a
      simp only at p
      split at p
      · rename_i c fs hj
        split at p
        · rename_i mf hm hg
          unfold tabA at hm
          obtain ⟨mf0, hm0, rfl⟩ := Option.map_eq_some_iff.mp hm
          obtain ⟨C, dx, vs, h1, h2, h3, h4⟩ := r.ins hj hρ
          obtain ⟨f, fd, ps, k1, k2, k3, k4⟩ := ok c mf0 hm0 C h1
          exact ⟨a, C, dx, f, vs, mf0, fd, ps, rfl, h2, k1, k2, (getS_ok (f := m) h3 h4).1 hg, k3, k4, spM_of r (.cons (.ref hρ) .nil) rfl p⟩
        · exact p.elim
      · exact p.elim
    | _ => exact p.elim
  refine PySem.W.methodCall_KW (pl := pl) (thn (ho.run pins s σ H _ I h) fun u s1 ⟨x, H1, I1, rx, a, C, dx, f, fs, mf, fd, ps, ex, ea, cl, mt, l, F, hb, q⟩ => ?_) ht
  subst ex
  obtain rfl : u = Value.ref a := rx
  rw [← hK] at cl mt
  refine getmeth_ok I1 ea cl mt l ?_
  exact PySem.W.callWith_K0 (first := [.ref a]) I1.kIn mt.kp (run_G (us := [.ref a]) (vs := [.ref a]) F hr hgd hb .nil tk I1 (.cons rfl .nil) (by rw [List.append_nil]; exact q))
end
/-! ### making -/
/-- C(..): a new object of class c, then __init__ -/
def eMake (c : Nat) (mi : List Vl → M Vl) (a : AM) : EM := fun lo => bnd (a lo) fun as s => match mi (.ref s.length :: as) (s ++ [.ins c []]) with
  | .ok .non s' => .ok (.ref s.length) s'
  | .ok _ _ => .fail
  | .exc e s' => .exc e s'
  | .fail => .fail
theorem under_guards {A : Around} {C : Addr} {us : List Value} (h : A.guards = some []) : (A.under (.builtin "type.__call__" ⟨.ref C :: us, []⟩)).guards = some [] := by
  simp [Around.under, Code.guards, Code.isGuard, guardIds, pushGuards, h]
section
variable {X : Cx} {T : Tb} {W : WX} {e : Expr} {es : List Expr} {p pos : Pos} {ma : AM} {C f : Addr} {fd : FuncData} {ps : List Str} {k n c : Nat} {mi : List Vl → M Vl} {x : Str}
theorem run_mk {pins : List (Addr × Obj)} {σ : L2.St} {H : Hp} {s : Shared} {Q : VK} {us : List Value} {vs : List V} (M : Mk X.K C f) (F : FnG X.prog X.w X.K X.mg X.base k f fd ps (SpM T (n + 1) mi)) (hr : Room (k + 1) X.A) (hgd : X.A.guards = some []) (hb : Binds X.K fd ps []) (tk : Takes X W) (hc : T.cl[c]? = some C)
    (I : Inv X pins σ H s) (r : Vals vs us)
    (h : ∃ (ρ : List Addr) (st : Sto) (as : List Vl), Rel T ρ H st ∧ RVs T ρ H as vs ∧ as.length = n ∧ Po (RV T) T (fun c d H' => W c d σ H') ρ H (match mi (.ref st.length :: as) (st ++ [.ins c []]) with
      | .ok .non s' => .ok (.ref st.length) s'
      | .ok _ _ => .fail
      | .exc e s' => .exc e s'
      | .fail => (.fail : Res Vl)) Q) : wpAny (model X.prog X.w) X.A (call (.ref C) us) (EP X pins σ Q) X.xe s := by
  obtain ⟨ρ, st, as, rel, has, hl, p⟩ := h
  have f1 : H (s.heap.objs.size + 1) = none := I.hok.fresh (Nat.le_succ _)
  have f0 : H s.heap.objs.size = none := I.hok.fresh (Nat.le_refl _)
  have ne : s.heap.objs.size + 1 ≠ s.heap.objs.size := Nat.succ_ne_self _
  have I2 := Inv.made (C := C) I
  have r2 : Vals (V.ref (s.heap.objs.size + 1) :: vs) (Value.ref (s.heap.objs.size + 1) :: us) := .cons rfl r
  -- the new object in the pure store
  have relD : Rel T ρ (upd H s.heap.objs.size (.own (s.heap.objs.size + 1))) st := rel.laid f0
  have f1' : upd H s.heap.objs.size (.own (s.heap.objs.size + 1)) (s.heap.objs.size + 1) = none := by rw [upd_ne ne]; exact f1
  have ext : Ext T ρ H (ρ ++ [s.heap.objs.size + 1]) (upd (upd H s.heap.objs.size (.own (s.heap.objs.size + 1))) (s.heap.objs.size + 1) (.ins C s.heap.objs.size [])) := (ext_upd f0).trans (relD.newExt f1')
  have relN : Rel T (ρ ++ [s.heap.objs.size + 1]) (upd (upd H s.heap.objs.size (.own (s.heap.objs.size + 1))) (s.heap.objs.size + 1) (.ins C s.heap.objs.size [])) (st ++ [.ins c []]) := relD.new f1' ⟨C, _, [], hc, upd_same, rfl, .nil⟩
  have sp : SpM T (n + 1) mi (V.ref (s.heap.objs.size + 1) :: vs) (upd (upd H s.heap.objs.size (.own (s.heap.objs.size + 1))) (s.heap.objs.size + 1) (.ins C s.heap.objs.size [])) (fun v H2 => v = .non ∧ Q (.ref (s.heap.objs.size + 1)) H2) fun c d H' => W c d σ H' := by
    refine ⟨_, _, .ref st.length :: as, relN, .cons rel.newRef (has.mono ext), by rw [List.length_cons, hl], ?_⟩
    cases e : mi (.ref st.length :: as) (st ++ [.ins c []]) with
    | fail => rw [e] at p; exact p
    | exc z s' => rw [e] at p; exact fun ρ' H' D x' => p ρ' H' D (ext.trans x')
    | ok v s' =>
      rw [e] at p
      intro ρ' H' z x' r' hz
      cases v <;> try exact p.elim
      exact ⟨hz.nonE, p ρ' H' _ (ext.trans x') r' (.ref (x'.pre _ _ (by rw [← rel.len, List.getElem?_append_right (Nat.le_refl _)]; simp)))⟩
  refine wpAny_call (make_map (f := f) I.kIn M.makes M.init (beq_iff_eq.mp M.fn) (codeAny_mono (F.run _ X.stack _ _ ⟨Value.ref (s.heap.objs.size + 1) :: us, []⟩ _ _ _ _ (hr.make C us []) (under_guards hgd) (I2.env0.make C us []) (by
    have := hb _ (Value.ref (s.heap.objs.size + 1) :: us) I2.kIn (by rw [List.append_nil, ← r2.length]; exact F.len _ _ _ _ sp)
    rw [List.append_nil] at this
    exact this) r2 sp) fun z s' hq => ?_))
  cases z with
  | error y => exact tk y s' (XE.of_call I2 (fun _ _ _ q => q) hq)
  | ok fl =>
    cases fl with
    | ret u =>
      obtain ⟨v, H', I3, rv, ev, q3⟩ := I2.after hq
      subst ev
      exact ⟨rv, ⟨V.ref (s.heap.objs.size + 1), H', I3, rfl, q3⟩⟩
    | next => exact hq.elim
    | brk => exact hq.elim
    | cont => exact hq.elim
def argI (n : Nat) (mf : List Vl → M Vl) : List Vl → M Vl := fun as s => if as.length = n + 1 then mf as s else .fail
theorem ce_make (M : Mk X.K C f) (F : FnG X.prog X.w X.K X.mg X.base k f fd ps (SpM T (n + 1) mi)) (hr : Room (k + 1) X.A) (hgd : X.A.guards = some []) (hg : Gl X x) (hm : X.mg x = some (.ref C)) (hb : Binds X.K fd ps []) (tk : Takes X W) (hc : T.cl[c]? = some C) (ha : PA X (e :: es) (tA T W ma))
    (hdb : (x == ("__debug__" : Str)) = false := by decide) (he : starEach (e :: es) X.env = (false, eval e X.env) :: starEach es X.env := by rfl) (hpl : (backTo pos (starEach es X.env)).any (·.1) = false := by rfl) :
    PE X (.Call (.Name x p) (e :: es) [] pos) (tE T W (eMake c (argI n mi) ma)) := by
  refine ⟨fun pins s σ H Q I h => wpAny_Call_Name_kw (ld_glob I hg hm ?_ hdb)⟩
  have h : tA T W ma σ H fun vs H1 => ∃ (ρ : List Addr) (st : Sto) (as : List Vl), Rel T ρ H1 st ∧ RVs T ρ H1 as vs ∧ as.length = n ∧ Po (RV T) T (fun c d H' => W c d σ H') ρ H1 (match mi (.ref st.length :: as) (st ++ [.ins c []]) with
      | .ok .non s' => .ok (.ref st.length) s'
      | .ok _ _ => .fail
      | .exc e s' => .exc e s'
      | .fail => (.fail : Res Vl)) Q := tG_bnd (R := RVs T) h fun ρ s lo xs zs H1 r rl hx q => by
    unfold argI at q
    split at q
    · rename_i q1
      split at q1
      · rename_i hl
        refine ⟨ρ, s, xs, r, hx, by simpa using hl, ?_⟩
        rw [q1]
        exact q
      · cases q1
    · exact q.elim
    · rename_i q1
      split at q1
      · rename_i hl
        refine ⟨ρ, s, xs, r, hx, by simpa using hl, ?_⟩
        rw [q1]
        exact q
      · cases q1
    · exact q.elim
  refine PySem.W.callWith_K (h₀ := X.base) I.ok.mod.kin M.kp (thn (ha.run pos pins s σ H _ I h) fun us s1 ⟨vs, H1, I1, r, q⟩ => ⟨I1.kIn, ?_⟩) he hpl
  exact run_mk M F hr hgd hb tk hc I1 r q
theorem ce_make0 (M : Mk X.K C f) (F : FnG X.prog X.w X.K X.mg X.base k f fd ps (SpM T (0 + 1) mi)) (hr : Room (k + 1) X.A) (hgd : X.A.guards = some []) (hg : Gl X x) (hm : X.mg x = some (.ref C)) (hb : Binds X.K fd ps []) (tk : Takes X W) (hc : T.cl[c]? = some C)
    (hdb : (x == ("__debug__" : Str)) = false := by decide) : PE X (.Call (.Name x p) [] [] pos) (tE T W (eMake c mi aNil)) := by
  refine ⟨fun pins s σ H Q I h => wpAny_Call_Name_kw (ld_glob I hg hm ?_ hdb)⟩
  obtain ⟨ρ, st, lo, r, rl, q⟩ := h
  exact PySem.W.callWith_K0 I.kIn M.kp (run_mk (us := []) (vs := []) M F hr hgd hb tk hc I .nil ⟨ρ, st, [], r, .nil, rfl, q⟩)
end
end Sm

/-! S11: sets of ints: set(list), sorted(set) -/
namespace L2
open PySem PySem.Spec PyProof.Rows
abbrev set0 (w : World) : Obj := { cls := .type "set", dict := none, data := .set #[] 0 (.fresh 0 0 (!w.params.followText "set-order")) }
section
variable {P : Program} {w : World} {A : Around} {E : Value → Shared → Prop} {s : Shared}
/-- set(l), l a list of ints -/
theorem call_set_lst {l : Addr} {items : Array Value} (ns : List Int) {Q : Value → Shared → Prop} (hh : A.handled = none) (hl : s.heap.IsList l items) (hit : IntsAre items.toList ns) (hb : ns.length + 1 < scanBound)
    (h : ∀ (h' : Heap) (tk c : Nat), SetR w h' s.heap.objs.size (fun j => decide (j ∈ ns)) c → (∀ b o, s.heap.get? b = some o → h'.get? b = some o) → Q (.ref s.heap.objs.size) { s with heap := h', toks := tk }) :
    wpAny (model P w) A (call (.type "set") [.ref l]) Q E s := by
  have hz : items.size = ns.length := by rw [← Array.length_toList]; exact hit.length
  obtain ⟨c, tl, hmro⟩ := F.called_set.mro
  have hmade := F.called_set.made
  have hsub := F.called_set.sub
  have h1 := F.called_set.notType
  have h2 := F.called_set.canCreate
  have hct := F.typeCall_set_1 (.ref l)
  refine wpAny_call (codeAny_of_tree (show wpAny _ _ (callAny (.type "set") _) _ _ _ from wpAny_pure ⟨Code.quiet_builtin _ (by decide +kernel), codeAny_builtin F.entry_type_call ?_⟩))
  rw [Around.under_plain (weight_type_call_type "set" [.ref l] []) rfl]
  repeat (any_goals (first | assumption | wp_step))
  refine codeAny_mono (code_set_led1 (.ref l) (E := E) (Q₁ := fun obj s₁ => obj = .ref s.heap.objs.size ∧ s₁ = { s with heap := s.heap.push (set0 w) }) ⟨rfl, rfl⟩) fun r s₁ hr => ?_
  cases r with
  | error e => exact hr
  | ok fl =>
    cases fl with
    | ret obj =>
      obtain ⟨rfl, rfl⟩ := hr
      have hS : (s.heap.push (set0 w)).get? s.heap.objs.size = some (set0 w) := Heap.get?_push_size _ rfl
      have hT : Shared.TypeIs { s with heap := s.heap.push (set0 w) } (.ref s.heap.objs.size) "set" := ⟨_, hS, rfl⟩
      have hli := F.called_set.init.lookup
      have hbi := F.called_set.init.bind (.ref s.heap.objs.size)
      repeat (any_goals (first | assumption | wp_step))
      refine codeAny_mono (codeAny_call_builtin (R := wants (fun r s₂ => r = .none ∧ ∃ h' tk c, s₂ = { s with heap := h', toks := tk } ∧ SetR w h' s.heap.objs.size (fun j => decide (j ∈ ns)) c ∧ ∀ b o, s.heap.get? b = some o → h'.get? b = some o) E) F.called_set.init.plain F.entry_set_init (check_set_init_1 hT ?_)) fun r₂ s₂ hr₂ => ?_
      · obtain ⟨⟨oc, od, oda, osl⟩, ho, hc, nl, hd⟩ := hl
        obtain rfl : oc = _ := hc
        obtain rfl : oda = _ := hd
        have hS2 := F.sub_list_set
        have hF2 := F.sub_list_frozenset
        have hne : (Value.type "list" == Value.type "dict") = false := by decide
        have ho' := Heap.get?_push_of_some (set0 w) ho
        have hl1 : (s.heap.push (set0 w)).IsList l items := ⟨_, ho', rfl, nl, rfl⟩
        unfold Builtin.«set.__init__» noKeywords Builtin.Frozenset.updateFrom
        generalize hPI : pyIter = PI
        wp_walk
        subst hPI
        refine wpAny_pyIter_list hl1 (wpAny_bind (wpAny_runValue ?_))
        have lS : l < s.heap.objs.size := Heap.lt_size ho
        have eS : (s.heap.push (set0 w)).objs.size = s.heap.objs.size + 1 := Heap.size_push ..
        refine set_update_ints ((Walks.list (A := A.in1.in1.in1) (by simp [hh]) (s.heap.push (set0 w)).objs.size l (by rw [eS]; exact Nat.ne_of_lt (Nat.lt_succ_of_lt lS)) items).toS) s.heap.objs.size (by rw [eS]; simp only [List.mem_cons, List.not_mem_nil, or_false, not_or]; exact ⟨Nat.ne_of_lt (Nat.lt_succ_self _), Nat.ne_of_gt lS⟩) ns hz hb (fun i v hv => ?_) (items.size - 0) 0 _ (by omega) (Nat.zero_le _)
          ⟨⟨_, Heap.get?_push_size _ rfl, rfl, rfl⟩, (hl1.push _)⟩ ⟨0, Nat.le_refl 0, setR_new_at (Heap.get?_push_of_some _ hS)⟩ fun s' c' hm hc' hS' => ?_
        · have hi : i < ns.length := by rw [← hz]; exact (Array.getElem?_eq_some_iff.mp hv).1
          obtain ⟨t, e⟩ := PyProof.Rows.IntsAre.int_at hit i v (by rw [Array.getElem?_toList]; exact hv)
          exact ⟨ns[i], t, List.getElem?_eq_getElem hi, by rw [e, List.getD_eq_getElem?_getD, List.getElem?_eq_getElem hi] <;> rfl⟩
        · obtain ⟨h', g2, d', tk', os'⟩ := s'
          obtain rfl : g2 = s.gens := hm.gens
          obtain rfl : d' = s.drawn := hm.drawn
          obtain rfl : os' = s.os := hm.os
          refine wpAny_pure (show wpAny _ _ (ret Value.none) _ _ _ from wpAny_pure ⟨rfl, h', tk', c', rfl, hS', fun b o e => ?_⟩)
          have lb : b < s.heap.objs.size := Heap.lt_size e
          exact hm.heap b o (by rw [eS]; simp only [List.mem_cons, List.not_mem_nil, or_false, not_or]; exact ⟨Nat.ne_of_lt lb, Nat.ne_of_lt (Nat.lt_succ_of_lt lb)⟩) (Heap.get?_push_of_some _ (Heap.get?_push_of_some _ e))
      · cases r₂ with
        | error e => exact hr₂
        | ok fl₂ =>
          cases fl₂ with
          | ret r =>
            obtain ⟨rfl, h', tk, c', rfl, hS', hk'⟩ := hr₂
            repeat (any_goals (first | assumption | wp_step))
            exact h _ _ _ hS' hk'
          | _ => exact hr₂.elim
    | _ => exact hr.elim
end
theorem nodup_len {α : Type} [DecidableEq α] : ∀ (a b : List α), a.Nodup → b.Nodup → (∀ x, x ∈ a ↔ x ∈ b) → a.length = b.length := fun a b ha hb h => by
  exact ((List.perm_ext_iff_of_nodup ha hb).mpr h).length_eq
theorem SetR.size {w : World} {h : Heap} {a : Addr} {S : Int → Bool} {n : Nat} (R : SetR w h a S n) {xs : List Int} (nd : xs.Nodup) (hS : ∀ k, S k = true ↔ k ∈ xs) : n = xs.length := by
  obtain ⟨o, es, ep, t, h1, h2, h3, h4, h5, h6, h7, h8, h9, _⟩ := R
  rw [← h9, ← Array.length_toList, ← List.length_map (f := keyOf) (as := es.toList)]
  exact nodup_len _ _ h5 nd fun x => (h6 x).symm.trans (hS x)
end L2
namespace Sm
open PySem PySem.Spec PyProof.Rows L2
/-- the unlike ones of a list, each at its last place -/
def ddup : List Int → List Int
  | [] => []
  | x :: xs => if x ∈ xs then ddup xs else x :: ddup xs
theorem mem_ddup {x : Int} : ∀ {xs : List Int}, x ∈ ddup xs ↔ x ∈ xs
  | [] => Iff.rfl
  | y :: ys => by
    unfold ddup
    split
    · rename_i h
      rw [mem_ddup, List.mem_cons]
      exact ⟨.inr, fun q => q.elim (fun z => by rw [z]; exact h) id⟩
    · rw [List.mem_cons, List.mem_cons, mem_ddup]
theorem ddup_nodup : ∀ xs : List Int, (ddup xs).Nodup
  | [] => List.nodup_nil
  | y :: ys => by
    unfold ddup
    split
    · exact ddup_nodup ys
    · rename_i h
      exact List.nodup_cons.mpr ⟨fun z => h (mem_ddup.mp z), ddup_nodup ys⟩
def oSet : OC
  | [x], s => match lstOf x s with
    | some xs => match mapO asInt xs with
      | some ns => if ns.length < 4000 then some (.ref s.length, s ++ [.set (ddup ns)]) else none
      | none => none
    | none => none
  | _, _ => none
/-- sorted of a list or of a set of ints -/
def oSortS : OC
  | [.ref j], s => match s[j]? with
    | some (.lst xs) => (mapO asInt xs).map fun ns => (.ref s.length, s ++ [.lst ((srt ns).map Vl.int)])
    | some (.set xs) => if xs.length < 64 then some (.ref s.length, s ++ [.lst ((srt xs).map Vl.int)]) else none
    | _ => none
  | _, _ => none
section
variable {X : Cx} {T : Tb}
theorem c_set (hc : X.calm = true := by rfl) (hw : X.w = T.w := by rfl) : CallR X (.type "set") (rC T oSet) := fun pins s σ H xs us Q I rs q => by
  obtain ⟨ρ, st, as, v, s', r, ha, e, k⟩ := q
  unfold oSet at e
  split at e
  · split at e
    · rename_i x ys hx
      split at e
      · rename_i ns hn
        split at e
        · rename_i hl
          cases e
          obtain ⟨z, rfl, hz⟩ := ha.one
          obtain ⟨p, vs, rfl, h1, h2⟩ := lstOf_ok r hz hx
          have ev := asInts_ok h2 hn
          subst ev
          obtain ⟨its, rv, pl, hsz⟩ := I.list (SqL.of h1)
          cases rs with
          | cons r1 r2 =>
            cases r2
            obtain rfl := r1
            refine call_set_lst ns (I.ok.hd hc) pl.isList (by simpa using rv.ints) (by unfold scanBound; omega) fun h' tk c R hk => ?_
            have hp : H s.heap.objs.size = none := I.hok.fresh (Nat.le_refl _)
            have hsize : c = (ddup ns).length := R.size (ddup_nodup ns) fun j => by rw [mem_ddup]; exact decide_eq_true_iff
            subst hsize
            have I' := I.laid (a := s.heap.objs.size) (t' := tk) hk (Nat.le_refl _) (setO_new (P := X.prog) (H := upd H s.heap.objs.size (SetO X.w s.heap.objs.size (fun j => decide (j ∈ ns)) (ddup ns).length)) R)
            refine ⟨.ref s.heap.objs.size, _, I', rfl, ?_⟩
            rw [hw]
            exact k.new r hp ⟨ddup_nodup ns, _, fun j => by rw [mem_ddup]; exact decide_eq_true_iff, upd_same⟩
        · cases e
      · cases e
    · cases e
  · cases e
theorem lt_le {l : List Int} (h : l.Pairwise (· < ·)) : l.Pairwise (· ≤ ·) := h.imp fun q => Int.le_of_lt q
theorem lt_nodup {l : List Int} (h : l.Pairwise (· < ·)) : l.Nodup := h.imp fun q => Int.ne_of_lt q
theorem c_sortS (hc : X.calm = true := by rfl) (hw : X.w = T.w := by rfl) : CallR X (.builtin "sorted") (rC T oSortS) := fun pins s σ H xs us Q I rs q => by
  obtain ⟨ρ, st, as, v, s', r, ha, e, k⟩ := q
  unfold oSortS at e
  split at e
  · rename_i s0 j
    split at e
    · rename_i ys hy
      exact c_sorted pins s σ H xs us Q I rs ⟨ρ, _, [.ref j], v, s', r, ha, by simp only [oSorted, lstOf, hy]; exact e, k⟩
    · rename_i ys hy
      split at e
      · rename_i hl
        cases e
        obtain ⟨z, rfl, hz⟩ := ha.one
        obtain ⟨p, rfl, hp⟩ := hz.refE
        obtain ⟨nd, S, hS, hH⟩ := r.ob _ _ _ hp hy
        refine cr_sortedSet hc pins s σ H _ us Q I rs ⟨p, S, _, rfl, by rw [hw]; exact hH, hl, fun ns q h1 h2 h3 hq => ?_⟩
        have : ns = srt ys := srt_eq ((List.perm_ext_iff_of_nodup (lt_nodup h1) nd).mpr fun a => (h2 a).trans (hS a)) (lt_le h1)
        rw [this]
        exact k.lst r (RVs.ints _) hq
      · cases e
    · cases e
  · cases e
end
end Sm

/-! S12: dicts: displays, their values walked and listed -/
namespace Sm
open PySem PySem.Spec PyProof.Rows L2
def eDict0 : EM := fun _ s => .ok (.ref s.length) (s ++ [.dic []])
/-- the pairs of a display -/
def dpM : List (EM × EM) → Lo → M (List (Vl × Vl))
  | [], _ => ret []
  | (k, v) :: r, lo => bnd (k lo) fun x => bnd (v lo) fun y => bnd (dpM r lo) fun ps => ret ((x, y) :: ps)
def keyP (p : Vl × Vl) : Option (Key × Vl) := match keyOf p.1 with
  | some k => some (k, p.2)
  | none => none
def mergeP (kvs more : List (Key × Vl)) : List (Key × Vl) := more.foldl (fun acc kv => put acc kv.1 kv.2) kvs
def eDict (ps : List (EM × EM)) : EM := fun lo s => match dpM ps lo (s ++ [.dic []]) with
  | .ok prs s' => match s'[s.length]?, mapO keyP prs with
    | some (.dic []), some kvs => if kvs.length ≤ 15 then .ok (.ref s.length) (s'.set s.length (.dic (mergeP [] kvs))) else .fail
    | _, _ => .fail
  | .exc e s' => .exc e s'
  | .fail => .fail
def RP (T : Tb) : List Addr → Hp → List (Vl × Vl) → List (V × V) → Prop := fun ρ H ps qs => RVs T ρ H (ps.map (·.1)) (qs.map (·.1)) ∧ RVs T ρ H (ps.map (·.2)) (qs.map (·.2))
section
variable {X : Cx} {T : Tb} {W : WX} {pos : Pos}
theorem ce_dict0 : PE X (.Dict [] [] pos) (tE T W eDict0) := pe_mono pe_dnewK fun σ H Q h => by
  obtain ⟨ρ, s, lo, r, rl, p⟩ := h
  exact fun q hq => p (ρ ++ [q]) _ _ (r.newExt hq) (r.new (b := .dic []) hq ⟨[], upd_same, rfl, .nil⟩) r.newRef
theorem pairs_le {σ : L2.St} : ∀ {ps : List (EM × EM)} {H : Hp} {Q : List (V × V) → Hp → Prop}, tG (RP T) T W (dpM ps) σ H Q → tPairs (ps.map fun p => (tE T W p.1, tE T W p.2)) σ H Q
  | [], H, Q, h => by
    obtain ⟨ρ, s, lo, r, rl, p⟩ := h
    exact p ρ H [] .refl r ⟨.nil, .nil⟩
  | (k, v) :: ps, H, Q, h => tG_bnd (R := RV T) h fun ρ s lo x z H1 r rl hx p => po_bnd (R := RV T) (m := v) r rl p fun ρ1 s1 y z1 H2 e1 r1 rl1 hy p1 =>
      pairs_le (po_bnd (R := RP T) (m := dpM ps) r1 rl1 p1 fun ρ2 s2 prs qs H3 e2 r2 rl2 hp p2 => p2 ρ2 H3 _ .refl r2 ⟨.cons (hx.mono (e1.trans e2)) hp.1, .cons (hy.mono e2) hp.2⟩)
theorem keyP_ok {ρ : List Addr} {H : Hp} : ∀ {ps : List (Vl × Vl)} {qs : List (V × V)} {kvs : List (Key × Vl)}, RP T ρ H ps qs → mapO keyP ps = some kvs → ∃ vs : List (Key × V), qs = vs.map (fun kv => (kV kv.1, kv.2)) ∧ vs.map (·.1) = kvs.map (·.1) ∧ RVs T ρ H (kvs.map (·.2)) (vs.map (·.2))
  | [], [], _, _, e => by
    simp only [mapO] at e
    cases e
    exact ⟨[], rfl, rfl, .nil⟩
  | [], _ :: _, _, h, _ => by cases h.1
  | _ :: _, [], _, h, _ => by cases h.1
  | (a, b) :: ps, (x, y) :: qs, kvs, h, e => by
    obtain ⟨h1, h2⟩ := h
    rw [List.map_cons, List.map_cons] at h1 h2
    cases h1 with
    | cons a1 a2 =>
      cases h2 with
      | cons b1 b2 =>
        simp only [mapO] at e
        split at e
        · rename_i kv kvs' e1 e2
          cases e
          unfold keyP at e1
          split at e1
          · rename_i k hk
            cases e1
            obtain ⟨vs, rfl, g2, g3⟩ := keyP_ok ⟨a2, b2⟩ e2
            refine ⟨(k, y) :: vs, ?_, by simp [g2], .cons b1 g3⟩
            have := keyOf_ok a1 hk
            simp only at this
            rw [this]; rfl
          · cases e1
        · cases e
theorem putK_nodup {kvs : List (Key × V)} {k : Key} {v : V} (h : (kvs.map (·.1)).Nodup) : ((putK kvs k v).map (·.1)).Nodup := by
  unfold putK
  split
  · have : (kvs.map fun kv => if kv.1 = k then (kv.1, v) else kv).map (·.1) = kvs.map (·.1) := by
      rw [List.map_map]
      apply List.map_congr_left
      intro p _
      simp only [Function.comp]
      split <;> rfl
    rw [this]; exact h
  · rename_i hn
    rw [List.map_append, List.nodup_append]
    refine ⟨h, by simp, fun a ha b hb => ?_⟩
    simp at hb
    subst hb
    intro e
    subst e
    obtain ⟨p, hp, e⟩ := List.mem_map.mp ha
    exact hn (List.any_eq_true.mpr ⟨p, hp, by simp [e]⟩)
theorem merge_ok {ρ : List Addr} {H : Hp} : ∀ {more : List (Key × Vl)} {ms : List (Key × V)} {kvs : List (Key × Vl)} {vs : List (Key × V)}, ms.map (·.1) = more.map (·.1) → RVs T ρ H (more.map (·.2)) (ms.map (·.2)) → (vs.map (·.1)).Nodup → vs.map (·.1) = kvs.map (·.1) → RVs T ρ H (kvs.map (·.2)) (vs.map (·.2)) →
    (mergeK vs ms).map (·.1) = (mergeP kvs more).map (·.1) ∧ RVs T ρ H ((mergeP kvs more).map (·.2)) ((mergeK vs ms).map (·.2))
  | [], [], _, _, _, _, _, e, h => ⟨e, h⟩
  | [], _ :: _, _, _, e, _, _, _, _ => by simp at e
  | _ :: _, [], _, _, e, _, _, _, _ => by simp at e
  | (k, v) :: more, (k', z) :: ms, kvs, vs, e, h, nd, e2, h2 => by
    simp only [List.map_cons, List.cons.injEq] at e
    rw [List.map_cons, List.map_cons] at h
    obtain ⟨e1, e3⟩ := e
    subst e1
    cases h with
    | cons a b =>
      obtain ⟨g1, g2⟩ := put_ok (k := k') a nd e2 h2
      exact merge_ok (more := more) (ms := ms) (kvs := put kvs k' v) (vs := putK vs k' z) e3 b (putK_nodup nd) g1 g2
theorem ce_dict {keys : List (Option Expr)} {values : List Expr} {ps : List (EM × EM)} (h : PPs X pos keys values (ps.map fun p => (tE T W p.1, tE T W p.2))) (hall : keys.all (·.isSome) = true := by rfl) (hl : keys.length = values.length := by rfl) (h0 : keys ≠ [] := by exact fun z => nomatch z)
    (h15 : keys.length ≤ 15 := by decide) : PE X (.Dict keys values pos) (tE T W (eDict ps)) := pe_mono (pe_disp h hall hl h0 h15) fun σ H Q h => by
  obtain ⟨ρ, s, lo, r, rl, p⟩ := h
  intro q hq
  have xD : Ext T ρ H (ρ ++ [q]) (upd H q (.dK [])) := r.newExt hq
  have aD : (ρ ++ [q])[s.length]? = some q := by rw [← r.len, List.getElem?_append_right (Nat.le_refl _)]; simp
  refine pairs_le ⟨ρ ++ [q], s ++ [.dic []], lo, r.new (b := .dic []) hq ⟨[], upd_same, rfl, .nil⟩, rl.mono xD, ?_⟩
  unfold eDict at p
  cases e : dpM ps lo (s ++ [.dic []]) with
  | fail => rw [e] at p; exact p
  | exc z s' => rw [e] at p; exact fun ρ' H' C x => p ρ' H' C (xD.trans x)
  | ok prs s' =>
    rw [e] at p
    intro ρ' H' qs x r' hp
    simp only at p
    split at p
    · rename_i kvs hd hk
      split at p
      · rename_i hn
        have aD' := x.pre _ _ aD
        obtain ⟨vs0, g1, g2, _⟩ := r'.dic hd aD'
        have : vs0 = [] := by simpa using g2
        subst this
        obtain ⟨vs, rfl, k2, k3⟩ := keyP_ok hp hk
        refine ⟨g1, vs, rfl, ?_, ?_⟩
        · have : vs.length = kvs.length := by have := congrArg List.length k2; simpa using this
          rw [this]; exact hn
        · obtain ⟨m1, m2⟩ := merge_ok (kvs := []) (vs := []) k2 k3 (by simp) rfl .nil
          exact p ρ' _ _ ((xD.trans x).trans (r'.setExt aD' g1)) (r'.set aD' ⟨_, upd_same, m1, m2.mono (r'.setExt aD' g1)⟩) (.ref aD')
      · exact p.elim
    · exact p.elim
/-! ### the values of a dict, walked in a comprehension: it is locked meanwhile -/
def nxVals (j : Nat) : NX := fun i s => match s[j]? with
  | some (.fdic kvs) => match kvs[i]? with
    | some kv => some (some kv.2)
    | none => some none
  | _ => none
def iVal (e : EM) : IM := fun lo => bnd (e lo) fun x => match x with
  | .ref j => fun s => match s[j]? with
    | some (.fdic _) => .ok (nxVals j) s
    | _ => .fail
  | _ => failM
/-- c run while the dict of e is locked -/
def eLock (e c : EM) : EM := fun lo s => match e lo s with
  | .ok (.ref j) _ => match s[j]? with
    | some (.dic kvs) => match c lo (s.set j (.fdic kvs)) with
      | .ok v s' => match s'[j]? with
        | some (.fdic _) => .ok v (s'.set j (.dic kvs))
        | _ => .fail
      | _ => .fail
    | _ => .fail
  | _ => .fail
theorem RVs.vals_at {ρ : List Addr} {H : Hp} {kvs : List (Key × Vl)} {vs : List (Key × V)} {i : Nat} {kv : Key × Vl} (e : vs.map (·.1) = kvs.map (·.1)) (h : RVs T ρ H (kvs.map (·.2)) (vs.map (·.2))) (hi : kvs[i]? = some kv) : ∃ z, vs[i]? = some (kv.1, z) ∧ RV T ρ H kv.2 z := by
  obtain ⟨z, h1, h2⟩ := h.get (i := i) (x := kv.2) (by rw [List.getElem?_map, hi]; rfl)
  rw [List.getElem?_map] at h1
  cases q : vs[i]? with
  | none => rw [q] at h1; cases h1
  | some p =>
    rw [q] at h1
    have h1 : p.2 = z := Option.some.inj h1
    have e' : (vs.map (·.1))[i]? = (kvs.map (·.1))[i]? := by rw [e]
    rw [List.getElem?_map, List.getElem?_map, q, hi] at e'
    have e' : p.1 = kv.1 := Option.some.inj e'
    refine ⟨z, ?_, h2⟩
    rw [← h1, ← e']
theorem ci_vals {tg e : Expr} {me : EM} {apos cpos : Pos} (he : PE X e (tE T W me)) (hbase : attributeBase e "values" X.env (eval e X.env) = eval e X.env := by rfl) (hline : (apos.endLine == cpos.line) = true := by rfl) : PI X tg (.Call (.Attribute e "values" apos) [] [] cpos) (tI T W (iVal me)) :=
  pi_mono (pi_values he hbase hline) fun σ H R h => by
    obtain ⟨ρ, s, lo, r, rl, q⟩ := h
    refine po_bnd (R := RV T) (m := me) r rl q fun ρ1 s1 x z H1 ext1 r1 rl1 hx p1 => ?_
    cases hx with
    | ref ha =>
      rename_i j a
      simp only at p1
      split at p1
      · rename_i kvs hj
        obtain ⟨o, vs, h1, h2, h3⟩ := r1.ob _ _ _ ha hj
        refine ⟨a, o, vs, rfl, h1, p1 ρ1 H1 _ .refl r1 ?_⟩
        intro ρ2 H2 s2 i e2 r2
        have ha2 := e2.pre _ _ ha
        have hfz := e2.frd _ _ _ h1
        unfold nxVals
        cases e : s2[j]? with
        | none => trivial
        | some ob =>
          cases ob with
          | fdic kvs2 =>
            obtain ⟨o', vs', g1, g2, g3⟩ := r2.ob _ _ _ ha2 e
            rw [hfz] at g1
            cases g1
            simp only
            have hlen : vs.length = kvs2.length := by have := congrArg List.length g2; simpa using this
            cases e3 : kvs2[i]? with
            | none => exact ⟨hfz, by rw [hlen]; exact List.getElem?_eq_none_iff.mp e3⟩
            | some kv =>
              obtain ⟨w, hw, rw'⟩ := RVs.vals_at g2 g3 e3
              refine ⟨⟨hfz, by rw [hlen]; exact (List.getElem?_eq_some_iff.mp e3).1⟩, fun x H3 y => ?_⟩
              obtain ⟨rfl, k, y⟩ := y
              rw [hw] at y
              cases y
              exact ⟨.refl, r2, rw'⟩
          | _ => trivial
      · exact p1.elim
    | _ => exact p1.elim
theorem lock_le {e c : EM} {t : TE} {σ : L2.St} {H : Hp} {Q : VK} (hc : ∀ H Q, tE T W c σ H Q → t σ H Q) (h : tE T W (eLock e c) σ H Q) : tLockE t σ H Q := by
  obtain ⟨ρ, s, lo, r, rl, p⟩ := h
  unfold eLock at p
  split at p
  · rename_i j s1 e1
    split at p
    · rename_i kvs hj
      split at p
      · rename_i v s' e2
        split at p
        · rename_i kvs' hj'
          obtain ⟨a, ha, _⟩ := r.at hj
          obtain ⟨vs, h1, h2, h3⟩ := r.dic hj ha
          refine ⟨a, .dK vs, h1, trivial, fun od => hc _ _ ?_⟩
          have x1 : Ext T ρ H ρ (upd H a (.frz od (.dK vs))) := r.setExt ha h1
          refine ⟨ρ, s.set j (.fdic kvs), lo, r.set ha ⟨od, vs, upd_same, h2, h3.mono x1⟩, rl.mono x1, ?_⟩
          rw [e2]
          intro ρ' H' z x' r' hz
          have hfz : H' a = some (.frz od (.dK vs)) := x'.frd _ _ _ upd_same
          refine ⟨hfz, ?_⟩
          have ha' := x'.pre _ _ ha
          have e0 : Ext0 T ρ' H' ρ' (upd H' a (.dK vs)) := ext0_set hfz fun z => z
          have e1 : Ext0 T ρ H ρ' (upd H' a (.dK vs)) := ⟨fun i b q => x'.pre i b q, fun b us q => e0.tup _ _ (x'.tup _ _ (x1.tup _ _ q)), fun b o u q => e0.frz _ _ _ (x'.frz _ _ _ (x1.frz _ _ _ q))⟩
          refine p ρ' _ z ⟨e1, fun b o u q => ?_⟩ (r'.set ha' ⟨vs, upd_same, h2, h3.mono0 e1⟩) (hz.mono0 e0)
          have nb : b ≠ a := fun z => by subst z; rw [h1] at q; cases q
          rw [upd_ne nb]
          exact x'.frd _ _ _ (x1.frd _ _ _ q)
        · exact p.elim
      · exact p.elim
    · exact p.elim
  · exact p.elim
theorem ce_lock {e : EM} {c : EM} {ex : Expr} (h : PE X ex (tE T W c)) : PE X ex (tE T W (eLock e c)) := pe_mono (pe_lock h) fun σ H Q q => lock_le (fun _ _ z => z) q
/-- list(d.values()) -/
def eListVals (e : EM) : EM := fun lo => bnd (e lo) fun x s => match x with
  | .ref j => match s[j]? with
    | some (.dic kvs) => .ok (.ref s.length) (s ++ [.lst (kvs.map (·.2))])
    | _ => .fail
  | _ => .fail
theorem vals_kv {kvs : List (Key × V)} {us : List (Key × Value)} {acc : Array Value} (r : KV kvs us) (h : ItemsOf (fun i v => ∃ k, us[i]? = some (k, v)) acc us.length) : Vals (kvs.map (·.2)) acc.toList := by
  refine vals_of_at (by rw [List.length_map]; exact (Paired.length r).trans (h.1.symm.trans Array.length_toList.symm)) fun j x u h1 h2 => ?_
  obtain ⟨k, hk⟩ := h.2 j u (by rw [← Array.getElem?_toList]; exact h2)
  rw [List.getElem?_map] at h1
  cases q : kvs[j]? with
  | none => rw [q] at h1; cases h1
  | some p =>
    rw [q] at h1
    cases h1
    obtain ⟨u', e1, e2⟩ := kv_get r (k := p.1) (v := p.2) q
    rw [hk] at e1
    cases e1
    exact e2
theorem ce_listVals {e : Expr} {me : EM} {p pos apos cpos : Pos} (hc : X.calm = true) (hg : Gl X "list") (hm : X.mg "list" = none) (he : PE X e (tE T W me)) (hbase : attributeBase e "values" X.env (eval e X.env) = eval e X.env := by rfl) (hline : (apos.endLine == cpos.line) = true := by rfl)
    (hs : starEach [Expr.Call (.Attribute e "values" apos) [] [] cpos] X.env = (false, eval (Expr.Call (.Attribute e "values" apos) [] [] cpos) X.env) :: starEach [] X.env := by rfl) (hpl : (backTo pos (starEach [] X.env)).any (·.1) = false := by rfl) :
    PE X (.Call (.Name "list" p) [.Call (.Attribute e "values" apos) [] [] cpos] [] pos) (tE T W (eListVals me)) := by
  refine ⟨fun pins s σ H Q I h => wpAny_Call_Name_kw (ld_blt I hg hm (show bootBuiltins "list" = some (.type "list") by decide +kernel) (callWith_type1 ?_ hs hpl))⟩
  have h : tE T W me σ H fun x H1 => ∃ (d : Addr) (vs : List (Key × V)), x = .ref d ∧ H1 d = some (.dK vs) ∧ ∀ q, H1 q = none → Q (.ref q) (upd H1 q (.lst (vs.map (·.2)))) := tG_bnd (R := RV T) h fun ρ s lo x z H1 r rl hx p => by
    cases hx with
    | ref ha =>
      simp only at p
      split at p
      · rename_i kvs hj
        obtain ⟨vs, h1, h2, h3⟩ := r.dic hj ha
        exact ⟨_, vs, rfl, h1, fun q hq => Aft.lst p r h3 hq⟩
      · exact p.elim
    | _ => exact p.elim
  rw [hs]
  refine Calls.spliced_cons (wpAny_Call_method (T := "dict") (id := "dict.values") hbase rfl hline F.plainAttrs_dict F.slot_dict_values F.type_dict_values (thn (he.run pins s σ H _ I h) fun u s1 ⟨x, H1, I1, rx, d, vs, ex, hd, q⟩ => ?_))
  subst ex
  obtain rfl : u = Value.ref d := rx
  obtain ⟨z, lo, us, rk, hD⟩ := dk_of I1.hok hd
  obtain ⟨ep, hat⟩ := hD.dictAt
  refine ⟨hat.dictOf.typeIs, hat.dictOf.mapOf.noDict, ?_⟩
  show wpAny _ _ (callWith cpos (.builtin "dict.values") [.ref d] [] []) _ X.xe s1
  refine method_meetsIn F.slot_dict_values F.entry_dict_values rfl (PySem.evalArgs_none ⟨rfl, hat.dictOf.typeIs, F.args_dict_values_1 _, _, meets_dict_values (mixKind X.prog X.w) d lo, ⟨us, hat.dictOf⟩, Calls.spliced_nil ?_⟩)
  have I2 : Inv X pins σ H1 { s1 with heap := s1.heap.push { cls := .type "dict_values", data := .fields #[.ref d] } } := I1.kept (t' := s1.toks) fun b ob q => Heap.get?_push_of_some _ q
  refine PySem.W.kdl_call (PySem.W.kdl_values (knd := mixKind X.prog X.w) (r := s1.heap.objs.size) (d := d) (kvs := us) (ep := ep)) (I.ok.hd hc) ⟨⟨_, Heap.get?_push_size _ rfl, rfl, rfl⟩, hat.push _⟩ (by rw [← Paired.length rk]; exact z) fun h' tk acc c hk hS hacc => ?_
  have hf := I2.hok.fresh (Nat.le_refl _)
  refine ⟨.ref _, _, I2.laid (o := .lst (vs.map (·.2))) (t' := tk) hk (Nat.le_refl _) ⟨by rw [List.length_map]; exact z, acc.toList, c, vals_kv rk hacc, by rw [Array.toArray_toList]; exact hS⟩, rfl, q _ hf⟩
end
end Sm

/-! S18: walls (code that the pure program never reaches), recursion -/
namespace Sm
open PySem L2
section
variable {X : Cx} {T : Tb} {W : WX}
def eFail : EM := fun _ => failM
def sFail : SM := fun _ _ => .fail
theorem tG_fail {α β : Type} {R : List Addr → Hp → α → β → Prop} {σ : St} {H : Hp} {Q : β → Hp → Prop} (h : tG R T W (fun _ => failM) σ H Q) : False := by
  obtain ⟨ρ, s, lo, _, _, p⟩ := h
  exact p
theorem ce_fail {e : Expr} : PE X e (tE T W eFail) := ⟨fun pins s σ H Q I h => (tG_fail h).elim⟩
theorem cs_fail {st : Stmt} : PS X st (tS T W sFail) := ⟨fun pins s σ H D I h => by
  obtain ⟨ρ, s, lo, _, _, p⟩ := h
  exact p.elim⟩
end
def mFail : List Vl → M Vl := fun _ => failM
theorem fnG_fail {P : Program} {w : World} {K : PySem.W.Frag} {mg : Str → Option Value} {base : Heap} {k n : Nat} {f : Addr} {fd : FuncData} {ps : List Str} {T : Tb} : FnG P w K mg base k f fd ps (SpM T n mFail) :=
  ⟨fun vs H Q E ⟨_, _, _, _, _, _, p⟩ => p.elim, fun A outer s H args us vs Q E _ _ _ _ _ ⟨_, _, _, _, _, _, p⟩ => p.elim⟩
end Sm

/-! S19: making objects of classes without an __init__ -/
namespace Sm
open PySem L2 PySem.W
structure MkB (K : PySem.W.Frag) (C : Addr) : Prop where
  makes : PySem.W.makesIn K C = true
  init : PySem.W.findIn K (.ref C) "__init__" = some (some (.builtin "object.__init__"))
  top : PySem.W.mroIn K C (.type "object") = some true
  kp : PySem.W.keepIn K (.ref C) = true
/-- object.__init__ of a new object -/
theorem oiK {K : PySem.W.Frag} {P : Program} {w : World} {A : Around} {C y : Addr} {o : Obj} {R : Result → Shared → Prop} {s : Shared} (B : MkB K C) (X : K.In s.heap) (ho : s.heap.get? y = some o) (hc : o.cls = .ref C) (q : R (.ok (.ret (.ref y))) s) :
    codeAny (model P w) A (.call (.builtin "object.__init__") ⟨[.ref y], []⟩) (PySem.W.InitBack y R) s := by
  have t1 : Looks (model P w) s.heap (typeOf (.ref y)) (.ref C) := NwA.type_at ho hc
  have t2 : Looks (model P w) s.heap (isInstance (.ref y) (.type "object")) true := t1.andThen (looks_mroIn X B.top)
  refine codeAny_call_builtin oi_plain entry_oi (@check_slot (model P w) _ _ _ "object.__init__" "object" "__init__" (.ref y) [] [] _ oi_kind oi_split t2 (NwA.oi_args_any (.ref y) [] []) ?_)
  obtain ⟨hh, g, d, t, os⟩ := s
  rw [oi_run]
  exact wpAny_pure (And.intro rfl q)
def eMakeB (c : Nat) : EM := fun _ s => .ok (.ref s.length) (s ++ [.ins c []])
theorem ce_makeB {X : Cx} {T : Tb} {W : WX} {p pos : Pos} {C : Addr} {c : Nat} {x : Str} (B : MkB X.K C) (hg : Gl X x) (hm : X.mg x = some (.ref C)) (hc : T.cl[c]? = some C)
    (hdb : (x == ("__debug__" : Str)) = false := by decide) : PE X (.Call (.Name x p) [] [] pos) (tE T W (eMakeB c)) := by
  refine ⟨fun pins s σ H Q I h => wpAny_Call_Name_kw (ld_glob I hg hm ?_ hdb)⟩
  obtain ⟨ρ, st, lo, rel, rl, q⟩ := h
  refine PySem.W.callWith_K0 I.kIn B.kp ?_
  have f1 : H (s.heap.objs.size + 1) = none := I.hok.fresh (Nat.le_succ _)
  have f0 : H s.heap.objs.size = none := I.hok.fresh (Nat.le_refl _)
  have ne : s.heap.objs.size + 1 ≠ s.heap.objs.size := Nat.succ_ne_self _
  have I2 := Inv.made (C := C) I
  have relD : Rel T ρ (upd H s.heap.objs.size (.own (s.heap.objs.size + 1))) st := rel.laid f0
  have f1' : upd H s.heap.objs.size (.own (s.heap.objs.size + 1)) (s.heap.objs.size + 1) = none := by rw [upd_ne ne]; exact f1
  have ext : Ext T ρ H (ρ ++ [s.heap.objs.size + 1]) (upd (upd H s.heap.objs.size (.own (s.heap.objs.size + 1))) (s.heap.objs.size + 1) (.ins C s.heap.objs.size [])) := (ext_upd f0).trans (relD.newExt f1')
  have relN : Rel T (ρ ++ [s.heap.objs.size + 1]) (upd (upd H s.heap.objs.size (.own (s.heap.objs.size + 1))) (s.heap.objs.size + 1) (.ins C s.heap.objs.size [])) (st ++ [.ins c []]) := relD.new f1' ⟨C, _, [], hc, upd_same, rfl, .nil⟩
  have hQ := q _ _ (V.ref (s.heap.objs.size + 1)) ext relN rel.newRef
  refine wpAny_call (make_map0 I.kIn B.makes B.init (fun self => Looks.of_pure (oi_bind self)) (oiK (o := PySem.W.instObj C s.heap.objs.size) B I2.kIn ?_ rfl ?_))
  · exact Heap.get?_push_size (h := s.heap.push PySem.W.emptyDict) (o := PySem.W.instObj C s.heap.objs.size) rfl |> fun e => by
      have l : (s.heap.push PySem.W.emptyDict).objs.size = s.heap.objs.size + 1 := by simp [Heap.push]
      rw [l] at e
      exact e
  · exact ⟨V.ref (s.heap.objs.size + 1), _, I2, rfl, hQ⟩
end Sm

/-! S22: defs with a star parameter, objects made by such an __init__; objects that are called -/
namespace Sm
open PySem PySem.Spec PyProof.Rows L2
/-- a def's promise at any number of arguments -/
def FnV (P : Program) (w : World) (K : PySem.W.Frag) (mg : Str → Option Value) (base : Heap) (k : Nat) (f : Addr) (sp : Sp) : Prop :=
  ∀ (A : Around) (outer : List Env) (s : Shared) (H : Hp) (us : List Value) (vs : List V) (Q : VK) (E : XK), Room k A → A.guards = some [] → Env0 P w K mg base A outer s H → Vals vs us → sp vs H Q E →
    codeAny (model P w) A (.call (.ref f) ⟨us, []⟩) (CR (L2.CX P w) outer P w H s Q E) s
theorem FnV.mono {P : Program} {w : World} {K : PySem.W.Frag} {mg : Str → Option Value} {base : Heap} {j k : Nat} {f : Addr} {sp : Sp} (F : FnV P w K mg base j f sp) (h : j ≤ k) : FnV P w K mg base k f sp := fun A outer s H us vs Q E hr => F A outer s H us vs Q E (hr.mono h)
def SpV (T : Tb) (m : List Vl → M Vl) : Sp := fun vs H Q E => ∃ (ρ : List Addr) (s : Sto) (as : List Vl), Rel T ρ H s ∧ RVs T ρ H as vs ∧ Po (RV T) T E ρ H (m as s) Q
/-- n parameters, the rest a tuple -/
def starM (n : Nat) (mf : List Vl → M Vl) : List Vl → M Vl := fun as s => if n ≤ as.length ∧ as.length ≤ LIM then mf (as.take n ++ [.tup (as.drop n)]) s else .fail
/-- how a def with a star parameter binds -/
def BindV (fd : FuncData) (ps : List Str) (pv : Str) : Prop := ∀ us rest : List Value, us.length = ps.length → bindArgs fd ⟨us ++ rest, []⟩ = (newTuple rest >>= fun t => pure (ps.zip us ++ [(pv, t)]))
theorem Fun.bindV {K : PySem.W.Frag} {x qual : Str} {st : Stmt} {f : Addr} {fd : FuncData} {ps : List Str} {pv : Str} (F : Fun K x qual st f fd)
    (h : ∀ (kV doc pm : Value) (an : Option Addr) (cdv ct : Value) (us rest : List Value), us.length = ps.length → bindArgs (PySem.W.fnOf x qual (defArgs st) (defBody st) (defScope st) .none kV doc pm an cdv ct) ⟨us ++ rest, []⟩ = (newTuple rest >>= fun t => pure (ps.zip us ++ [(pv, t)]))) : BindV fd ps pv := by
  obtain ⟨oc, od, kV, doc, pm, an, cdv, ct, osl, rfl, lk, hcd⟩ := F.ex
  exact h kV doc pm an cdv ct
theorem fn_simV {P : Program} {w : World} {K : PySem.W.Frag} {mg : Str → Option Value} {base : Heap} {k n : Nat} {x qual : Str} {st : Stmt} {f : Addr} {fd : FuncData} {N ps : List Str} {pv : Str} {T : Tb} {b : SM} (F : Fun K x qual st f fd) (S : FnScope N (ps ++ [pv]) (defScope st)) (hn : n = ps.length) (hb : BindV fd ps pv)
    (body : ∀ (cdv : Value) (A : Around) (outer : List Env) (s : Shared) (H : Hp) (E : XK), Room k (A.deeper (envOfC qual (defScope st) s.heap.objs.size f cdv)) → A.guards = some [] →
      PSs (cxOf (L2.CX P w) P w K mg base N qual (defScope st) f cdv A outer s H E) (defBody st) (tS T (fun c d _ H' => E c d H') b)) : FnV P w K mg base (k + 1) f (SpV T (starM n (fnM N.length b))) := by
  obtain ⟨oc, od, kV, doc, pm, an, cdv, ct, osl, rfl, lk, hcd⟩ := F.ex
  intro A outer s H us vs Q E hr hg e0 r ⟨ρ, sto, as, rel, has, p⟩
  unfold starM at p
  split at p
  · rename_i hl
    have hvl : as.length = vs.length := has.length
    have hsp : vs.take n ++ vs.drop n = vs := List.take_append_drop n vs
    have r' : Vals (vs.take n ++ vs.drop n) us := by rw [hsp]; exact r
    obtain ⟨u1, u2, eu, r1, r2⟩ := StX.vals_split r'
    subst eu
    have hlw : (vs.take n).length = ps.length := by rw [List.length_take]; omega
    have hl1 : u1.length = ps.length := by rw [← r1.length]; exact hlw
    have hz : (vs.drop n).length ≤ sizeLine := by rw [List.length_drop, lim_eq]; omega
    have hl2 : u2.length ≤ sizeLine := by rw [← r2.length]; exact hz
    have hnn : H s.heap.objs.size = Option.none := e0.hok.fresh (Nat.le_refl _)
    refine StX.run_bnd lk hcd S hr e0 (G := fun xs H2 => ∃ p, H p = Option.none ∧ xs = vs.take n ++ [V.ref p] ∧ H2 = upd H p (.tup (vs.drop n))) (fun A' Ex Q' h => ?_) fun s2 H2 xs ⟨a, hp, ex, eH⟩ hr' => ?_
    · rw [hb u1 u2 hl1]
      refine wpAny_bind (wpAny_newTuple (wpAny_pure ?_) hl2)
      have new : ObjOk P w (upd H s.heap.objs.size (.tup (vs.drop n))) (s.heap.push ({ cls := .type "tuple", data := .seq u2.toArray } : Obj)) s.heap.objs.size (.tup (vs.drop n)) := ⟨hz, u2, r2, ⟨_, Heap.get?_push_size _ rfl, rfl, _, rfl⟩⟩
      have un := StX.un_laid (fs := frs outer) (s := s) (o := ({ cls := .type "tuple", data := .seq u2.toArray } : Obj)) (u := .tup (vs.drop n)) hnn
      have z := h _ _ (vs.take n ++ [V.ref s.heap.objs.size]) (u1 ++ [Value.ref s.heap.objs.size]) (StX.env0_laid e0 new) un rfl (fun e s' => StX.cxUp outer s H _ _ E e s' un (fun b o q => Heap.get?_push_of_some _ q) rfl) (r1.append (.cons rfl .nil))
        (by rw [List.length_append, List.length_append, hlw] <;> rfl) ⟨_, hnn, rfl, rfl⟩
      rw [List.zip_append hl1.symm] at z
      exact z
    · subst ex eH
      refine ⟨_, body cdv A outer s2 _ E hr' hg, fn_body (n := n + 1) ?_⟩
      have ext : Ext T ρ H ρ (upd H a (.tup (vs.drop n))) := ext_upd hp
      exact ⟨ρ, sto, as.take n ++ [.tup (as.drop n)], rel.laid hp, ((has.take n).mono ext).append (.cons (.tup (.inl (.inl upd_same)) ((has.drop n).mono ext)) .nil), by simp; omega, p.mono ext⟩
  · exact p.elim
section
variable {X : Cx} {T : Tb} {W : WX} {e : Expr} {es : List Expr} {p pos : Pos} {ma : AM} {C f : Addr} {k c : Nat} {mi : List Vl → M Vl} {x : Str}
theorem run_mkV {pins : List (Addr × Obj)} {σ : L2.St} {H : Hp} {s : Shared} {Q : VK} {us : List Value} {vs : List V} (M : Mk X.K C f) (F : FnV X.prog X.w X.K X.mg X.base k f (SpV T mi)) (hr : Room (k + 1) X.A) (hgd : X.A.guards = some []) (tk : Takes X W) (hc : T.cl[c]? = some C)
    (I : Inv X pins σ H s) (r : Vals vs us)
    (h : ∃ (ρ : List Addr) (st : Sto) (as : List Vl), Rel T ρ H st ∧ RVs T ρ H as vs ∧ Po (RV T) T (fun c d H' => W c d σ H') ρ H (match mi (.ref st.length :: as) (st ++ [.ins c []]) with
      | .ok .non s' => .ok (.ref st.length) s'
      | .ok _ _ => .fail
      | .exc e s' => .exc e s'
      | .fail => (.fail : Res Vl)) Q) : wpAny (model X.prog X.w) X.A (call (.ref C) us) (EP X pins σ Q) X.xe s := by
  obtain ⟨ρ, st, as, rel, has, p⟩ := h
  have f1 : H (s.heap.objs.size + 1) = none := I.hok.fresh (Nat.le_succ _)
  have f0 : H s.heap.objs.size = none := I.hok.fresh (Nat.le_refl _)
  have ne : s.heap.objs.size + 1 ≠ s.heap.objs.size := Nat.succ_ne_self _
  have I2 := Inv.made (C := C) I
  have r2 : Vals (V.ref (s.heap.objs.size + 1) :: vs) (Value.ref (s.heap.objs.size + 1) :: us) := .cons rfl r
  have relD : Rel T ρ (upd H s.heap.objs.size (.own (s.heap.objs.size + 1))) st := rel.laid f0
  have f1' : upd H s.heap.objs.size (.own (s.heap.objs.size + 1)) (s.heap.objs.size + 1) = none := by rw [upd_ne ne]; exact f1
  have ext : Ext T ρ H (ρ ++ [s.heap.objs.size + 1]) (upd (upd H s.heap.objs.size (.own (s.heap.objs.size + 1))) (s.heap.objs.size + 1) (.ins C s.heap.objs.size [])) := (ext_upd f0).trans (relD.newExt f1')
  have relN : Rel T (ρ ++ [s.heap.objs.size + 1]) (upd (upd H s.heap.objs.size (.own (s.heap.objs.size + 1))) (s.heap.objs.size + 1) (.ins C s.heap.objs.size [])) (st ++ [.ins c []]) := relD.new f1' ⟨C, _, [], hc, upd_same, rfl, .nil⟩
  have sp : SpV T mi (V.ref (s.heap.objs.size + 1) :: vs) (upd (upd H s.heap.objs.size (.own (s.heap.objs.size + 1))) (s.heap.objs.size + 1) (.ins C s.heap.objs.size [])) (fun v H2 => v = .non ∧ Q (.ref (s.heap.objs.size + 1)) H2) fun c d H' => W c d σ H' := by
    refine ⟨_, _, .ref st.length :: as, relN, .cons rel.newRef (has.mono ext), ?_⟩
    cases e : mi (.ref st.length :: as) (st ++ [.ins c []]) with
    | fail => rw [e] at p; exact p
    | exc z s' => rw [e] at p; exact fun ρ' H' D x' => p ρ' H' D (ext.trans x')
    | ok v s' =>
      rw [e] at p
      intro ρ' H' z x' r' hz
      cases v <;> try exact p.elim
      exact ⟨hz.nonE, p ρ' H' _ (ext.trans x') r' (.ref (x'.pre _ _ (by rw [← rel.len, List.getElem?_append_right (Nat.le_refl _)]; simp)))⟩
  refine wpAny_call (make_map (f := f) I.kIn M.makes M.init (beq_iff_eq.mp M.fn) (codeAny_mono (F _ X.stack _ _ (Value.ref (s.heap.objs.size + 1) :: us) _ _ _ (hr.make C us []) (under_guards hgd) (I2.env0.make C us []) r2 sp) fun z s' hq => ?_))
  cases z with
  | error y => exact tk y s' (XE.of_call I2 (fun _ _ _ q => q) hq)
  | ok fl =>
    cases fl with
    | ret u =>
      obtain ⟨v, H', I3, rv, ev, q3⟩ := I2.after hq
      subst ev
      exact ⟨rv, ⟨V.ref (s.heap.objs.size + 1), H', I3, rfl, q3⟩⟩
    | next => exact hq.elim
    | brk => exact hq.elim
    | cont => exact hq.elim
theorem ce_makeV (M : Mk X.K C f) (F : FnV X.prog X.w X.K X.mg X.base k f (SpV T mi)) (hr : Room (k + 1) X.A) (hgd : X.A.guards = some []) (hg : Gl X x) (hm : X.mg x = some (.ref C)) (tk : Takes X W) (hc : T.cl[c]? = some C) (ha : PA X (e :: es) (tA T W ma))
    (hdb : (x == ("__debug__" : Str)) = false := by decide) (he : starEach (e :: es) X.env = (false, eval e X.env) :: starEach es X.env := by rfl) (hpl : (backTo pos (starEach es X.env)).any (·.1) = false := by rfl) :
    PE X (.Call (.Name x p) (e :: es) [] pos) (tE T W (eMake c mi ma)) := by
  refine ⟨fun pins s σ H Q I h => wpAny_Call_Name_kw (ld_glob I hg hm ?_ hdb)⟩
  have h : tA T W ma σ H fun vs H1 => ∃ (ρ : List Addr) (st : Sto) (as : List Vl), Rel T ρ H1 st ∧ RVs T ρ H1 as vs ∧ Po (RV T) T (fun c d H' => W c d σ H') ρ H1 (match mi (.ref st.length :: as) (st ++ [.ins c []]) with
      | .ok .non s' => .ok (.ref st.length) s'
      | .ok _ _ => .fail
      | .exc e s' => .exc e s'
      | .fail => (.fail : Res Vl)) Q := tG_bnd (R := RVs T) h fun ρ s lo xs zs H1 r rl hx q => ⟨ρ, s, xs, r, hx, q⟩
  refine PySem.W.callWith_K (h₀ := X.base) I.ok.mod.kin M.kp (thn (ha.run pos pins s σ H _ I h) fun us s1 ⟨vs, H1, I1, r, q⟩ => ⟨I1.kIn, ?_⟩) he hpl
  exact run_mkV M F hr hgd tk hc I1 r q
theorem ce_makeV0 (M : Mk X.K C f) (F : FnV X.prog X.w X.K X.mg X.base k f (SpV T mi)) (hr : Room (k + 1) X.A) (hgd : X.A.guards = some []) (hg : Gl X x) (hm : X.mg x = some (.ref C)) (tk : Takes X W) (hc : T.cl[c]? = some C)
    (hdb : (x == ("__debug__" : Str)) = false := by decide) : PE X (.Call (.Name x p) [] [] pos) (tE T W (eMake c mi aNil)) := by
  refine ⟨fun pins s σ H Q I h => wpAny_Call_Name_kw (ld_glob I hg hm ?_ hdb)⟩
  obtain ⟨ρ, st, lo, r, rl, q⟩ := h
  exact PySem.W.callWith_K0 I.kIn M.kp (run_mkV (us := []) (vs := []) M F hr hgd tk hc I .nil ⟨ρ, st, [], r, .nil, q⟩)
end
/-! ### objects that are called -/
def eCallO (tab : MTab) (o : EM) (a : AM) : EM := fun lo => bnd (o lo) fun x s => match x with
  | .ref j => bnd (a lo) (fun as s => match s[j]? with
    | some (.ins c fs) => match tab c with
      | some mf => mf (.ref j :: as) s
      | none => .fail
    | _ => .fail) s
  | _ => .fail
def CallOk (X : Cx) (T : Tb) (k n : Nat) (tab : MTab) : Prop := ∀ c mf, tab c = some mf → ∀ C, T.cl[c]? = some C → ∃ (f : Addr) (fd : FuncData) (ps : List Str), StX.CallO T.K C f ∧ FnG X.prog X.w X.K X.mg X.base k f fd ps (SpM T (n + 1) mf) ∧ Binds X.K fd ps []
section
variable {X : Cx} {T : Tb} {W : WX} {k n : Nat} {f : Addr} {fd : FuncData} {ps : List Str} {mf : List Vl → M Vl} {pos : Pos} {e o : Expr} {es : List Expr} {ma : AM} {mo : EM} {ds : List Value} {dvs : List V}
theorem code_G {sp : Sp} {pins : List (Addr × Obj)} {σ : L2.St} {H : Hp} {s : Shared} {Q : VK} {us : List Value} {vs : List V} (F : FnG X.prog X.w X.K X.mg X.base k f fd ps sp) (hr : Room k X.A) (hg : X.A.guards = some []) (hb : Binds X.K fd ps ds) (hd : Vals dvs ds) (tk : Takes X W)
    (I : Inv X pins σ H s) (r : Vals vs us) (h : sp (vs ++ dvs) H Q fun c d H' => W c d σ H') :
    codeAny (model X.prog X.w) X.A (.call (.ref f) ⟨us, []⟩) (fun r s' => match r with | .ok (.ret v) => EP X pins σ Q v s' | .ok _ => False | .error e => X.xe e s') s := by
  have r2 : Vals (vs ++ dvs) (us ++ ds) := r.append hd
  refine codeAny_mono (F.run X.A X.stack s H ⟨us, []⟩ (us ++ ds) (vs ++ dvs) Q _ hr hg I.env0 (hb s us I.kIn (by rw [← r2.length]; exact F.len _ _ _ _ h)) r2 h) fun z s' hq => ?_
  cases z with
  | error y => exact tk y s' (XE.of_call I (fun _ _ _ q => q) hq)
  | ok fl =>
    cases fl with
    | ret u => exact I.after hq
    | next => exact hq.elim
    | brk => exact hq.elim
    | cont => exact hq.elim
theorem ce_callO {tab : MTab} (ok : CallOk X T k n tab) (hr : Room k X.A) (hgd : X.A.guards = some []) (tk : Takes X W) (ho : PE X o (tE T W mo)) (ha : PA X (e :: es) (tA T W ma))
    (ht : eval (.Call o (e :: es) [] pos) X.env = (do callWith pos (← eval o X.env) [] (backTo pos (starEach (e :: es) X.env)) (backToKw pos (keywordEach [] X.env))) := by rfl)
    (he : starEach (e :: es) X.env = (false, eval e X.env) :: starEach es X.env := by rfl) (hpl : (backTo pos (starEach es X.env)).any (·.1) = false := by rfl) (hK : X.K = T.K := by rfl) :
    PE X (.Call o (e :: es) [] pos) (tE T W (eCallO (tabA n tab) mo ma)) := by
  refine ⟨fun pins s σ H Q I h => ?_⟩
  have h : tE T W mo σ H fun x H1 => ∃ a, x = V.ref a ∧ tA T W ma σ H1 fun vs H2 => ∃ (C dx f : Addr) (fs : List (Str × V)) (mf : List Vl → M Vl) (fd : FuncData) (ps : List Str), H2 a = some (.ins C dx fs) ∧ StX.CallO T.K C f ∧ FnG X.prog X.w X.K X.mg X.base k f fd ps (SpM T (n + 1) mf) ∧ Binds X.K fd ps [] ∧
      SpM T (n + 1) mf (.ref a :: vs ++ []) H2 Q fun c d H' => W c d σ H' := tG_bnd (R := RV T) h fun ρ s lo x z H1 r rl hx p => by
    cases hx with
    | ref hρ =>
      rename_i j a
      refine ⟨a, rfl, po_bnd (R := RVs T) (m := ma) r rl p fun ρ' s' as zs H' ext r' rl' has p' => ?_⟩
      split at p'
      · rename_i c fs hj
        split at p'
        · rename_i mf hm
          unfold tabA at hm
          obtain ⟨mf0, hm0, rfl⟩ := Option.map_eq_some_iff.mp hm
          obtain ⟨C, dx, vs, h1, h2, h3, h4⟩ := r'.ins hj (ext.pre _ _ hρ)
          obtain ⟨f, fd, ps, k2, k3, k4⟩ := ok c mf0 hm0 C h1
          refine ⟨C, dx, f, vs, mf0, fd, ps, h2, k2, k3, k4, ?_⟩
          unfold arg at p'
          split at p'
          · rename_i hl
            rw [List.append_nil]
            exact spM_of r' (.cons (.ref (ext.pre _ _ hρ)) has) hl p'
          · exact p'.elim
        · exact p'.elim
      · exact p'.elim
    | _ => exact p.elim
  refine Call_ (thn (ho.run pins s σ H _ I h) fun u s1 ⟨y, H1, I1, ry, a, ey, q⟩ => ?_) ht
  subst ey
  obtain rfl : u = Value.ref a := ry
  refine StX.callO_with (thn (ha.run pos pins s1 σ H1 _ I1 q) fun us s2 ⟨vs, H2, I2, r, C, dx, f, fs, mf, fd, ps, hi, co, F, hb, q2⟩ => ?_) he hpl
  obtain ⟨ox, od, J, hd⟩ := StX.insC_at (C := C) I2 (.inr ⟨dx, fs, hi⟩)
  rw [← hK] at co
  exact ⟨⟨C, ox, od, J, hd⟩, wpAny_call (PySem.W.kco_code I2.kIn J hd co.at_ co.fn co.fi (code_G (us := .ref a :: us) (vs := .ref a :: vs) F hr hgd hb .nil tk I2 (.cons rfl r) q2))⟩
end
end Sm

/-! S20: str.join, dict(d), sorted(d) -/
namespace Sm
open PySem L2
section
variable {X : Cx} {T : Tb}
/-- x.join(list of strs) -/
def oJoin : OMt
  | .str a, [x], s => match lstOf x s with
    | some xs => match mapO asStr xs with
      | some ys => if (ys.map (·.length)).sum + ys.length * a.length ≤ LIM then some (.str (Txt.join a ys), s) else none
      | none => none
    | none => none
  | _, _, _ => none
theorem m_join : MtR X "str.join" (rMt T oJoin) := MtR.imp mt_join fun x xs H Q q => by
  obtain ⟨ρ, st, a, as, w, s', r, ha, hs, e, k⟩ := q
  unfold oJoin at e
  split at e
  · split at e
    · rename_i ys hx
      split at e
      · rename_i zs hz
        split at e
        · rename_i hl
          cases e
          obtain ⟨z, rfl, hz'⟩ := hs.one
          obtain ⟨p, vs, rfl, h1, h2⟩ := lstOf_ok r hz' hx
          have ev := asStrs_ok h2 hz
          subst ev
          cases ha
          exact ⟨_, p, zs, rfl, rfl, .inl (SqL.of h1), hl, k.here r (.str _)⟩
        · cases e
      · cases e
    · cases e
  · cases e
/-- dict(d) -/
def oDict : OC
  | [.ref j], s => match s[j]? with
    | some (.dic kvs) => some (.ref s.length, s ++ [.dic kvs])
    | _ => none
  | _, _ => none
theorem c_dict : CallR X (.type "dict") (rC T oDict) := CallR.imp call_dictD fun xs H Q q => by
  obtain ⟨ρ, st, as, w, s', r, ha, e, k⟩ := q
  unfold oDict at e
  split at e
  · split at e
    · rename_i kvs hx
      cases e
      obtain ⟨z, rfl, hz⟩ := ha.one
      obtain ⟨p, rfl, hp⟩ := hz.refE
      obtain ⟨vs, h1, h2, h3⟩ := r.dic hx hp
      exact ⟨p, vs, rfl, .inl h1, fun q hq => k.new r hq ⟨vs, upd_same, h2, h3.mono (r.newExt hq)⟩⟩
    · cases e
  · cases e
end
end Sm

/-! S21: texts in order; sorted of lists, sets and dicts -/
namespace Sm
open PySem L2 PySem.Spec
theorem lt_irr : ∀ a : List Nat, ltCps a a = false
  | [] => rfl
  | x :: a => by simp [ltCps, lt_irr a]
theorem lt_anti : ∀ a b : List Nat, ltCps a b = false → ltCps b a = false → a = b
  | [], [], _, _ => rfl
  | [], _ :: _, h, _ => by simp [ltCps] at h
  | _ :: _, [], _, h => by simp [ltCps] at h
  | x :: a, y :: b, h1, h2 => by
    simp [ltCps] at h1 h2
    have e : x = y := Nat.le_antisymm h2.1 h1.1
    subst e
    rw [lt_anti a b (h1.2 rfl) (h2.2 rfl)]
theorem lt_asym : ∀ a b : List Nat, ltCps a b = true → ltCps b a = false
  | [], [], h => by simp [ltCps] at h
  | [], _ :: _, _ => by simp [ltCps]
  | _ :: _, [], h => by simp [ltCps] at h
  | x :: a, y :: b, h => by
    simp [ltCps] at h ⊢
    rcases h with h | ⟨rfl, h⟩
    · exact ⟨by omega, fun e => by omega⟩
    · exact ⟨Nat.le_refl _, fun _ => lt_asym a b h⟩
/-- a ≤ b is: not b < a -/
theorem le_trans3 : ∀ a b c : List Nat, ltCps b a = false → ltCps c b = false → ltCps c a = false
  | [], _, [], _, _ => rfl
  | [], [], _ :: _, _, _ => by simp [ltCps]
  | [], _ :: _, _ :: _, _, _ => by simp [ltCps]
  | _ :: _, [], _, h, _ => by simp [ltCps] at h
  | _ :: _, _ :: _, [], _, h => by simp [ltCps] at h
  | x :: a, y :: b, z :: c, h1, h2 => by
    simp [ltCps] at h1 h2 ⊢
    refine ⟨by omega, fun e => ?_⟩
    have e1 : y = x := by omega
    have e2 : z = y := by omega
    exact le_trans3 a b c (h1.2 e1) (h2.2 e2)
abbrev leS (a b : Str) : Prop := ltCps b.cps.toList a.cps.toList = false
theorem leS_total (a b : Str) : leS a b ∨ leS b a := by
  cases h : ltCps b.cps.toList a.cps.toList with
  | false => exact .inl h
  | true => exact .inr (lt_asym _ _ h)
def insT (x : Str) : List Str → List Str
  | [] => [x]
  | y :: ys => if ltCps y.cps.toList x.cps.toList then y :: insT x ys else x :: y :: ys
def srtT : List Str → List Str
  | [] => []
  | x :: xs => insT x (srtT xs)
theorem insT_perm (x : Str) : ∀ ys : List Str, (insT x ys).Perm (x :: ys)
  | [] => .refl _
  | y :: ys => by
    unfold insT
    split
    · exact (List.Perm.cons y (insT_perm x ys)).trans (List.Perm.swap x y ys)
    · exact .refl _
theorem srtT_perm : ∀ xs : List Str, (srtT xs).Perm xs
  | [] => .refl _
  | x :: xs => (insT_perm x (srtT xs)).trans (List.Perm.cons x (srtT_perm xs))
theorem insT_sorted (x : Str) : ∀ ys : List Str, ys.Pairwise leS → (insT x ys).Pairwise leS
  | [], _ => List.pairwise_singleton _ _
  | y :: ys, h => by
    have h' := List.pairwise_cons.mp h
    unfold insT
    split
    · rename_i q
      refine List.pairwise_cons.mpr ⟨fun z hz => ?_, insT_sorted x ys h'.2⟩
      rcases List.mem_cons.mp ((insT_perm x ys).mem_iff.mp hz) with rfl | hz
      · exact lt_asym _ _ q
      · exact h'.1 z hz
    · rename_i q
      have q : leS x y := by simpa using q
      refine List.pairwise_cons.mpr ⟨fun z hz => ?_, h⟩
      rcases List.mem_cons.mp hz with rfl | hz
      · exact q
      · exact le_trans3 _ _ _ q (h'.1 z hz)
theorem srtT_sorted : ∀ xs : List Str, (srtT xs).Pairwise leS
  | [] => List.Pairwise.nil
  | x :: xs => insT_sorted x _ (srtT_sorted xs)
theorem rising_pw : ∀ (p : Str) (l : List Str), PyProof.Rows.risingS p l = true → (p :: l).Pairwise leS
  | p, [], _ => List.pairwise_singleton _ _
  | p, x :: r, h => by
    simp [PyProof.Rows.risingS] at h
    have ih := rising_pw x r h.2
    refine List.pairwise_cons.mpr ⟨fun z hz => ?_, ih⟩
    rcases List.mem_cons.mp hz with rfl | hz
    · exact h.1
    · exact le_trans3 _ _ _ h.1 ((List.pairwise_cons.mp ih).1 z hz)
theorem sortedS_pw : ∀ {l : List Str}, PyProof.Rows.sortedS l = true → l.Pairwise leS
  | [], _ => List.Pairwise.nil
  | x :: r, h => rising_pw x r h
theorem str_ext {a b : Str} (h : a.cps.toList = b.cps.toList) : a = b := by
  cases a; cases b
  simp at h
  rw [h]
theorem same_sorted : ∀ {a b : List Str}, a.Perm b → a.Pairwise leS → b.Pairwise leS → a = b
  | [], b, p, _, _ => by rw [List.nil_perm.mp p]
  | x :: a, [], p, _, _ => by have := p.length_eq; simp at this
  | x :: a, y :: b, p, ha, hb => by
    have ha' := List.pairwise_cons.mp ha
    have hb' := List.pairwise_cons.mp hb
    have e : x = y := by
      have h1 : leS x y := by
        rcases List.mem_cons.mp (p.mem_iff.mpr (List.mem_cons_self ..)) with q | q
        · rw [q]; exact lt_irr _
        · exact ha'.1 y q
      have h2 : leS y x := by
        rcases List.mem_cons.mp (p.mem_iff.mp (List.mem_cons_self ..)) with q | q
        · rw [q]; exact lt_irr _
        · exact hb'.1 x q
      exact str_ext (lt_anti _ _ h2 h1)
    subst e
    rw [same_sorted (List.Perm.cons_inv p) ha'.2 hb'.2]
theorem srtT_eq {xs ys : List Str} (p : ys.Perm xs) (h : PyProof.Rows.sortedS ys = true) : ys = srtT xs := same_sorted (p.trans (srtT_perm xs).symm) (sortedS_pw h) (srtT_sorted xs)
/-- all keys texts -/
def strKeys : List (Key × Vl) → Option (List Str)
  | [] => some []
  | (.inr x, _) :: r => (strKeys r).map (x :: ·)
  | _ => none
theorem strKeys_ok : ∀ {kvs : List (Key × Vl)} {ks : List Str}, strKeys kvs = some ks → kvs.map (·.1) = ks.map Sum.inr
  | [], ks, h => by cases h; rfl
  | (.inl _, _) :: _, ks, h => by cases h
  | (.inr x, _) :: r, ks, h => by
    unfold strKeys at h
    cases e : strKeys r with
    | none => rw [e] at h; cases h
    | some l =>
      rw [e] at h
      cases h
      simp [strKeys_ok e]
/-- sorted of ints (list, set), of texts (list, keys of a dict) -/
def oSort : OC
  | [.ref j], s => match s[j]? with
    | some (.lst xs) => match mapO asInt xs with
      | some ns => some (.ref s.length, s ++ [.lst ((srt ns).map Vl.int)])
      | none => match mapO asStr xs with
        | some zs => if zs.length < 64 then some (.ref s.length, s ++ [.lst ((srtT zs).map Vl.str)]) else none
        | none => none
    | some (.set xs) => if xs.length < 64 then some (.ref s.length, s ++ [.lst ((srt xs).map Vl.int)]) else none
    | some (.dic kvs) => match strKeys kvs with
      | some ks => if ks.length < 64 then some (.ref s.length, s ++ [.lst ((srtT ks).map Vl.str)]) else none
      | none => none
    | _ => none
  | _, _ => none
theorem RVs.strs {T : Tb} {ρ : List Addr} {H : Hp} : ∀ zs : List Str, RVs T ρ H (zs.map Vl.str) (zs.map V.str)
  | [] => .nil
  | z :: zs => .cons (.str z) (RVs.strs zs)
section
variable {X : Cx} {T : Tb}
theorem c_sort (hc : X.calm = true := by rfl) (hw : X.w = T.w := by rfl) : CallR X (.builtin "sorted") (rC T oSort) := fun pins s σ H xs us Q I rs q => by
  obtain ⟨ρ, st, as, v, s', r, ha, e, k⟩ := q
  have base : oSortS as st = some (v, s') → _ := fun e' => c_sortS (T := T) hc hw pins s σ H xs us Q I rs ⟨ρ, st, as, v, s', r, ha, e', k⟩
  unfold oSort at e
  split at e
  · rename_i j
    split at e
    · rename_i ys hx
      split at e
      · rename_i ns hn
        exact base (by simp only [oSortS, hx, hn, Option.map]; exact e)
      · split at e
        · rename_i zs hz
          split at e
          · rename_i hl
            cases e
            obtain ⟨z, rfl, hz'⟩ := ha.one
            obtain ⟨p, rfl, hp⟩ := hz'.refE
            obtain ⟨vs, h1, h2⟩ := r.lst hx hp
            have ev := asStrs_ok h2 hz
            subst ev
            exact cr_sortedS pins s σ H _ us Q I rs ⟨p, zs, rfl, SqL.of h1, hl, fun ys q hp' hs hq => by
              rw [srtT_eq hp' hs]
              exact k.lst r (RVs.strs _) hq⟩
          · cases e
        · cases e
    · rename_i ys hx
      split at e
      · rename_i hl
        exact base (by simp only [oSortS, hx, if_pos hl]; exact e)
      · cases e
    · rename_i kvs hx
      split at e
      · rename_i ks hk
        split at e
        · rename_i hl
          cases e
          obtain ⟨z, rfl, hz'⟩ := ha.one
          obtain ⟨p, rfl, hp⟩ := hz'.refE
          obtain ⟨vs, h1, h2, h3⟩ := r.dic hx hp
          exact call_sortedD hc pins s σ H _ us Q I rs ⟨p, vs, ks, rfl, .inl h1, h2.trans (strKeys_ok hk), hl, fun ys q hp' hs hq => by
            rw [srtT_eq hp' hs]
            exact k.lst r (RVs.strs _) hq⟩
        · cases e
      · cases e
    · cases e
  · cases e
end
end Sm

/-! S25: targets within targets, op=, chains of comparisons, isinstance, get, setdefault, dict(pairs), len of own objects -/
namespace Sm
open PySem L2
/-! ### targets -/
def gAll : List GM → List Vl → Lo → Sto → Option (Lo × Sto)
  | [], [], lo, s => some (lo, s)
  | g :: gs, v :: vs, lo, s => match g v lo s with
    | .ok lo' s' => gAll gs vs lo' s'
    | _ => none
  | _, _, _, _ => none
def gTs (gs : List GM) : GM := fun v lo s => match v with
  | .tup xs => match gAll gs xs lo s with
    | some (lo', s') => .ok lo' s'
    | none => .fail
  | _ => .fail
def tGts (T : Tb) (gs : List GM) : TGs := fun zs σ H Q => ∃ (ρ : List Addr) (s : Sto) (lo : Lo) (vs : List Vl) (lo' : Lo) (s' : Sto), Rel T ρ H s ∧ RL T ρ H lo σ ∧ RVs T ρ H vs zs ∧ gAll gs vs lo s = some (lo', s') ∧ PoN T ρ H lo' s' Q
theorem pgs_mono {X : Cx} {es : List Expr} {t t' : TGs} (h : PGs X es t) (k : ∀ v σ H Q, t' v σ H Q → t v σ H Q) : PGs X es t' := ⟨fun pins s σ H v u Q I r q => h.run pins s σ H v u Q I r (k v σ H Q q)⟩
theorem gAll_len : ∀ {gs : List GM} {vs : List Vl} {lo : Lo} {s : Sto} {r : Lo × Sto}, gAll gs vs lo s = some r → vs.length = gs.length
  | [], [], _, _, _, _ => rfl
  | [], _ :: _, _, _, _, h => by cases h
  | _ :: _, [], _, _, _, h => by cases h
  | g :: gs, v :: vs, lo, s, r, h => by
    unfold gAll at h
    split at h
    · rw [List.length_cons, List.length_cons, gAll_len h]
    · cases h
section
variable {X : Cx} {T : Tb} {W : WX} {e : Expr} {es : List Expr} {g : GM} {gs : List GM} {pos : Pos} {kk : Nat}
theorem cgs_nil : PGs X [] (tGts T []) := pgs_mono pgs_nil fun zs σ H Q h => by
  obtain ⟨ρ, s, lo, vs, lo', s', r, rl, hv, e, p⟩ := h
  cases vs with
  | cons => cases e
  | nil =>
    cases e
    cases hv
    exact ⟨rfl, p ρ H σ .refl r rl⟩
theorem cgs_cons (h1 : PG X e (tGt T W g)) (h2 : PGs X es (tGts T gs)) (hs : (assignEach (e :: es) X.env).map (·.2) = assign e X.env :: (assignEach es X.env).map (·.2) := by rfl) : PGs X (e :: es) (tGts T (g :: gs)) :=
  pgs_mono (pgs_cons h1 h2 hs) fun zs σ H Q h => by
    obtain ⟨ρ, s, lo, vs, lo', s', r, rl, hv, e, p⟩ := h
    cases hv with
    | nil => cases e
    | cons h1 h2 =>
      rename_i x z xs zs
      refine ⟨z, zs, rfl, ρ, s, lo, x, r, rl, h1, ?_⟩
      unfold gAll at e
      split at e
      · rename_i lo1 s1 hg
        rw [hg]
        exact fun ρ' H' σ' ext r' rl' => ⟨ρ', s1, lo1, xs, lo', s', r', rl', h2.mono ext, e, p.mono ext⟩
      · cases e
theorem cg_tups (h : PGs X es (tGts T gs)) (hc : X.calm = true := by rfl) (hn : (assignEach es X.env).length = gs.length := by rfl) (hst : (assignEach es X.env).findIdx? (·.1) = none := by rfl) (hK : X.K = T.K := by rfl) : PG X (.Tuple es kk pos) (tGt T W (gTs gs)) :=
  pg_mono (pg_tup hc h hn hst) fun z σ H Q h => by
    obtain ⟨ρ, s, lo, v, r, rl, hv, p⟩ := h
    unfold gTs at p
    cases v <;> try exact p.elim
    rename_i xs
    obtain ⟨a, vs, rfl, h1, h2⟩ := hv.tupE
    simp only at p
    split at p
    · rename_i lo' s' hg
      refine ⟨a, vs, rfl, by rw [hK]; exact h1, by rw [← h2.length]; exact gAll_len hg, ρ, s, lo, xs, lo', s', r, rl, h2, hg, ?_⟩
      exact fun ρ' H' σ' ext r' rl' => p ρ' H' σ' ext r' rl'
    · exact p.elim
end
/-! ### x op= e -/
def sAug (i : Nat) (f : O2) (e : EM) : SM := fun lo s => match lo[i]? with
  | some (some x) => bndS e (fun lo v s => match f x v s with
    | some (z, s') => .nx (lo.set i (some z)) s'
    | none => .fail) lo s
  | _ => .fail
def opIAdd : O2 := fun a b s => match a, b with
  | .int i, .int j => some (.int (i + j), s)
  | .str i, .str j => if i.length + j.length ≤ LIM then some (.str (i ++ j), s) else none
  | _, _ => none
def opISub : O2 := fun a b s => match a, b with
  | .int i, .int j => some (.int (i - j), s)
  | _, _ => none
section
variable {X : Cx} {T : Tb} {W : WX} {e : Expr} {me : EM} {f : O2} {op : Operator} {pos pos' : Pos}
theorem io_add : OpR X (inplaceOp .Add) (rO T opIAdd) := by
  intro pins s σ H x y v u Q I rx ry q
  obtain ⟨ρ, st, a, b, w, s', r, ha, hb, e, k⟩ := q
  unfold opIAdd at e
  split at e
  · cases e
    rw [ha.intE] at rx
    rw [hb.intE] at ry
    exact iop_add pins s σ H _ _ v u Q I rx ry ⟨_, _, rfl, rfl, k.here r (.int _)⟩
  · split at e
    · rename_i hl
      cases e
      rw [ha.strE] at rx
      rw [hb.strE] at ry
      exact iop_add_str pins s σ H _ _ v u Q I rx ry ⟨_, _, rfl, rfl, by rw [lim_eq]; exact hl, k.here r (.str _)⟩
    · cases e
  · cases e
theorem io_sub : OpR X (inplaceOp .Sub) (rO T opISub) := by
  intro pins s σ H x y v u Q I rx ry q
  obtain ⟨ρ, st, a, b, w, s', r, ha, hb, e, k⟩ := q
  unfold opISub at e
  split at e
  · cases e
    rw [ha.intE] at rx
    rw [hb.intE] at ry
    exact iop_sub pins s σ H _ _ v u Q I rx ry ⟨_, _, rfl, rfl, k.here r (.int _)⟩
  · cases e
theorem cs_aug {i : Nat} {x : Str} (hN : X.N.Nodup) (hi : X.N[i]? = some x) (hx : Loc X.env.scope x) (ho : OpR X (inplaceOp op) (rO T f)) (he : PE X e (tE T W me))
    (hf : X.fn x = true ∨ X.env.scope.names.lookup x = some .local := by first | exact .inl rfl | exact .inr rfl | assumption) : PS X (.AugAssign (.Name x pos') op e pos) (tS T W (sAug i f me)) :=
  ps_mono (ps_aug hN hi hx he ho hf) fun D σ H h => by
    obtain ⟨ρ, s, lo, r, rl, p⟩ := h
    unfold sAug at p
    split at p
    · rename_i x hx
      obtain ⟨z, hz, hv⟩ := rl.at_ i x hx
      refine ⟨z, hz, poS_bnd (R := RV T) r rl p fun ρ' s' a b H' ext r' rl' hb p' => ?_⟩
      split at p'
      · rename_i w s2 hw
        exact ⟨ρ', s', x, a, w, s2, r', hv.mono ext, hb, hw, fun ρ2 H2 u e2 r2 hu => p' ρ2 H2 _ e2 r2 ((rl'.mono e2).set i hu)⟩
      · exact p'.elim
    · exact p.elim
end
/-- o.f op= e -/
def sFldA (cs : List Nat) (f : Str) (op : O2) (o e : EM) : SM := bndS o fun lo x s => match x with
  | .ref j => match s[j]? with
    | some (.ins c fs) => if c ∈ cs then match getS fs f with
        | some v => bndS e (fun lo y s => match op v y s with
          | some (z, s') => match setFld cs f (.ref j) z s' with
            | some s2 => match s'[j]? with
              | some (.ins c' _) => if c' = c then .nx lo s2 else .fail
              | _ => .fail
            | none => .fail
          | none => .fail) lo s
        | none => .fail
      else .fail
    | _ => .fail
  | _ => .fail
section
variable {X : Cx} {T : Tb} {W : WX} {o value : Expr} {mo me : EM} {op : O2} {oper : Operator} {cs : List Nat} {f : Str} {pos tpos : Pos}
theorem cs_fldA (ok : FldOk T cs f) (hop : OpR X (inplaceOp oper) (rO T op)) (ho : PE X o (tE T W mo)) (hv : PE X value (tE T W me)) (hK : X.K = T.K := by rfl) :
    PS X (.AugAssign (.Attribute o f tpos) oper value pos) (tS T W (sFldA cs f op mo me)) := ps_mono (ps_fldaug ho hv hop) fun D σ H h =>
  tS_bnd (R := RV T) h fun ρ s lo x z H' r rl hx p => by
    cases x <;> try exact p.elim
    rename_i j
    simp only at p
    obtain ⟨a, rfl, ha⟩ := hx.refE
    split at p
    · rename_i c fs hj
      split at p
      · rename_i hc
        split at p
        · rename_i v hv
          obtain ⟨C, dx, vs, h1, h2, h3, h4⟩ := r.ins hj ha
          obtain ⟨w, hw, hvw⟩ := (getS_ok (f := f) h3 h4).2 v hv
          refine ⟨a, C, dx, vs, w, rfl, h2, by rw [hK]; exact (ok c hc C h1).1, by rw [hK]; exact (ok c hc C h1).2, hw, poS_bnd (R := RV T) r rl p fun ρ1 s1 y u H1 ext1 r1 rl1 hy p1 => ?_⟩
          split at p1
          · rename_i q s2 hq
            split at p1
            · rename_i s3 h3'
              split at p1
              · rename_i c' fs' hj'
                split at p1
                · rename_i ec
                  subst ec
                  refine ⟨ρ1, s1, v, y, q, s2, r1, hvw.mono ext1, hy, hq, fun ρ2 H2 t e2 r2 ht => ?_⟩
                  have ha2 := e2.pre _ _ (ext1.pre _ _ ha)
                  obtain ⟨C', dx', vs', k1, k2, k3, k4⟩ := r2.ins hj' ha2
                  obtain rfl : C' = C := Option.some.inj (k1.symm.trans h1)
                  unfold setFld at h3'
                  simp only [hj'] at h3'
                  split at h3'
                  · rename_i hcl
                    cases h3'
                    have hlen : vs'.length = fs'.length := by have := congrArg List.length k3; simpa using this
                    refine ⟨dx', vs', k2, by rw [hlen]; exact hcl.2, ?_⟩
                    obtain ⟨q1, q2⟩ := putS_ok (f := f) ht k3 k4
                    exact p1 ρ2 _ σ (e2.trans (r2.setExt ha2 k2)) (r2.set ha2 ⟨C', dx', _, k1, upd_same, q1, q2.mono (r2.setExt ha2 k2)⟩) ((rl1.mono e2).mono (r2.setExt ha2 k2))
                  · cases h3'
                · exact p1.elim
              · exact p1.elim
            · exact p1.elim
          · exact p1.elim
        · exact p.elim
      · exact p.elim
    · exact p.elim
end
/-! ### a op b op' c -/
def eChain (f f' : O2) (a b c : EM) : EM := fun lo => bnd (a lo) fun x => bnd (b lo) fun y => bnd (lift (f x y)) fun z => match z with
  | .bl true => bnd (c lo) fun w => lift (f' y w)
  | .bl false => ret (.bl false)
  | _ => failM
section
variable {X : Cx} {T : Tb} {W : WX} {a b c : Expr} {ma mb mc : EM} {f f' : O2} {op op' : CmpOp} {pos : Pos}
theorem chain_le {σ : L2.St} {H : Hp} {Q : VK} (h : tE T W (eChain f f' ma mb mc) σ H Q) : tChain (rO T f) (rO T f') (tE T W ma) (tE T W mb) (tE T W mc) σ H Q :=
  tG_bnd (f := fun lo x => bnd (mb lo) fun y => bnd (lift (f x y)) fun z => match z with | .bl true => bnd (mc lo) fun w => lift (f' y w) | .bl false => ret (.bl false) | _ => failM) h fun ρ s lo x z H1 r rl hx p =>
    po_bnd (m := mb) r rl p fun ρ1 s1 y z' H2 ext1 r1 rl1 hy p1 => by
      unfold bnd lift at p1
      cases e : f x y s1 with
      | none => rw [e] at p1; exact p1.elim
      | some q =>
        obtain ⟨v, s2⟩ := q
        rw [e] at p1
        refine ⟨ρ1, s1, x, y, v, s2, r1, hx.mono ext1, hy, e, fun ρ3 H3 t e3 r3 ht => ?_⟩
        cases v <;> try exact p1.elim
        rename_i k
        refine ⟨k, ht.blE, ?_⟩
        cases k with
        | false =>
          simp only [Bool.false_eq_true, if_false]
          exact p1 ρ3 H3 _ e3 r3 (.bl false)
        | true =>
          simp only [if_true]
          refine po_bnd (m := mc) r3 (rl1.mono e3) (p1.mono e3) fun ρ4 s4 u t' H4 ext4 r4 rl4 hu p4 => ?_
          obtain ⟨v', s5, e5, k5⟩ := po_lift p4
          exact ⟨ρ4, s4, y, u, v', s5, r4, (hy.mono e3).mono ext4, hu, e5, k5⟩
theorem ce_chain (ho : OpR X (compareOp op) (rO T f)) (ho' : OpR X (compareOp op') (rO T f')) (ha : PE X a (tE T W ma)) (hb : PE X b (tE T W mb)) (hc : PE X c (tE T W mc)) (hm : lastMarks [op, op'] [b, c] = false := by with_unfolding_all rfl) :
    PE X (.Compare a [op, op'] [b, c] pos) (tE T W (eChain f f' ma mb mc)) := pe_mono (pe_chain ho ho' ha hb hc hm) fun _ _ _ h => chain_le h
theorem ct_chain (ho : OpR X (compareOp op) (rO T f)) (ho' : OpR X (compareOp op') (rO T f')) (ha : PE X a (tE T W ma)) (hb : PE X b (tE T W mb)) (hc : PE X c (tE T W mc)) (hm : lastMarks [op, op'] [b, c] = false := by with_unfolding_all rfl) :
    PT X (.Compare a [op, op'] [b, c] pos) (tT T W (tVal (eChain f f' ma mb mc))) := pt_mono (pt_chain ho ho' ha hb hc hm) fun _ _ _ h => chain_le (tval_le h)
end
/-! ### isinstance(x, T) -/
def tyN (x : Vl) (s : Sto) : Option String := match x with
  | .non => some "NoneType"
  | .bl _ => some "bool"
  | .int _ => some "int"
  | .str _ => some "str"
  | .tup _ => some "tuple"
  | .ref j => match s[j]? with
    | some (.lst _) => some "list"
    | some (.dic _) => some "dict"
    | some (.dit _) => some "dict"
    | _ => none
  | _ => none
def isB (t n : String) : Option Bool :=
  if n = "int" then (if t = "int" ∨ t = "bool" then some true else some false)
  else if n = "bool" ∨ n = "str" ∨ n = "tuple" ∨ n = "list" ∨ n = "dict" then some (decide (t = n)) else none
def oIsi : OC
  | [x, .ty n], s => match tyN x s with
    | some t => match isB t n with
      | some b => some (.bl b, s)
      | none => none
    | none => none
  | _, _ => none
theorem isB_ok {t n : String} {b : Bool} (ht : t ∈ ["NoneType", "bool", "int", "str", "tuple", "list", "dict"]) (h : isB t n = some b) : kitB t n = some b := by
  have hn : n ∈ ["int", "bool", "str", "tuple", "list", "dict"] := by
    unfold isB at h
    split at h
    · rename_i q; subst q; simp
    · split at h
      · rename_i q; simp only [List.mem_cons, List.not_mem_nil, or_false]; exact .inr q
      · cases h
  have all : ∀ t ∈ ["NoneType", "bool", "int", "str", "tuple", "list", "dict"], ∀ n ∈ ["int", "bool", "str", "tuple", "list", "dict"], kitB t n = isB t n := by decide +kernel
  rw [all t ht n hn]; exact h
section
variable {X : Cx} {T : Tb} {W : WX}
theorem tyN_ok {ρ : List Addr} {H : Hp} {s : Sto} {x : Vl} {z : V} {t : String} (r : Rel T ρ H s) (hz : RV T ρ H x z) (h : tyN x s = some t) : TyX T.K H z (.type t) ∧ t ∈ ["NoneType", "bool", "int", "str", "tuple", "list", "dict"] := by
  unfold tyN at h
  cases x with
  | non => cases h; rw [hz.nonE]; exact ⟨.base .non, by simp⟩
  | bl b => cases h; rw [hz.blE]; exact ⟨.base (.bl b), by simp⟩
  | int i => cases h; rw [hz.intE]; exact ⟨.base (.int i), by simp⟩
  | str y => cases h; rw [hz.strE]; exact ⟨.base (.str y), by simp⟩
  | tup xs =>
    cases h
    obtain ⟨a, vs, rfl, h1, h2⟩ := hz.tupE
    refine ⟨?_, by simp⟩
    rcases h1 with (h1 | ⟨o, h1⟩) | h1
    · exact .base (.tup h1)
    · exact .fTuple h1
    · obtain ⟨o, items, n, k1, k2, k3⟩ := h1
      exact .kTuple k1 k2
  | ref j =>
    obtain ⟨a, rfl, ha⟩ := hz.refE
    simp only at h
    split at h
    · rename_i xs hj
      cases h
      obtain ⟨vs, h1, _⟩ := r.lst hj ha
      exact ⟨.base (.lst h1), by simp⟩
    · rename_i xs hj
      cases h
      obtain ⟨vs, h1, _⟩ := r.dic hj ha
      exact ⟨.base (.dK h1), by simp⟩
    · rename_i xs hj
      cases h
      obtain ⟨vs, h1, _⟩ := r.ob j a _ ha hj
      exact ⟨.base (.dT h1), by simp⟩
    · cases h
  | scr ns => cases h
  | ty n => cases h
  | fn i => cases h
theorem c_isi (hK : X.K = T.K := by rfl) : CallR X (.builtin "isinstance") (rC T oIsi) := CallR.imp call_isi fun xs H Q q => by
  obtain ⟨ρ, st, as, w, s', r, ha, e, k⟩ := q
  unfold oIsi at e
  split at e
  · split at e
    · rename_i x n _ t ht
      split at e
      · rename_i b hb
        cases e
        obtain ⟨z, y, rfl, hz, hy⟩ := ha.two
        cases hy
        obtain ⟨h1, h2⟩ := tyN_ok r hz ht
        exact ⟨z, _, _, _, b, rfl, .ty n, by rw [hK]; exact h1, kit_ty (isB_ok h2 hb), k.here r (.bl b)⟩
      · cases e
    · cases e
  · cases e
theorem ce_ty {x : Str} {n : String} {pos : Pos} (hg : Gl X x) (hm : X.mg x = none) (hv : bootBuiltins x = some (.type n)) (hn : x ≠ "__name__" := by decide) (hdb : (x == ("__debug__" : Str)) = false := by decide) : PE X (.Name x pos) (tE T W (eC (.ty n))) :=
  ce_of (z := .ty n) (pe_bltn hg hm hv rfl hn hdb) fun _ _ => .ty n
end
/-! ### d.get(k), d.get(k, x), d.setdefault(k, x) -/
def isDic (j : Nat) (s : Sto) : Bool := match s[j]? with
  | some (.dic _) => true
  | _ => false
def eDGet1 (d k : EM) : EM := fun lo => bnd (d lo) fun x s => match x with
  | .ref j => if isDic j s then bnd (k lo) (fun y s => match s[j]?, keyOf y with
    | some (.dic kvs), some key => .ok ((look kvs key).getD .non) s
    | _, _ => .fail) s else .fail
  | _ => .fail
def eDGet2 (d k v : EM) : EM := fun lo => bnd (d lo) fun x s => match x with
  | .ref j => if isDic j s then bnd (k lo) (fun y => bnd (v lo) fun z s => match s[j]?, keyOf y with
    | some (.dic kvs), some key => .ok ((look kvs key).getD z) s
    | _, _ => .fail) s else .fail
  | _ => .fail
def eDSet (d k v : EM) : EM := fun lo => bnd (d lo) fun x s => match x with
  | .ref j => if isDic j s then bnd (k lo) (fun y => bnd (v lo) fun z s => match s[j]?, keyOf y with
    | some (.dic kvs), some key => if kvs.length < LIM then (match look kvs key with
      | some w => .ok w s
      | none => .ok z (s.set j (.dic (put kvs key z)))) else .fail
    | _, _ => .fail) s else .fail
  | _ => .fail
theorem put_none {κ : Type} [DecidableEq κ] {k : κ} {v : Vl} : ∀ {kvs : List (κ × Vl)}, look kvs k = none → put kvs k v = kvs ++ [(k, v)]
  | [], _ => rfl
  | p :: r, h => by
    unfold look at h
    split at h
    · cases h
    · rename_i q
      unfold put
      rw [if_neg q, put_none h]
      rfl
theorem putK_none {κ : Type} [DecidableEq κ] {k : κ} {z : V} {vs : List (κ × V)} (h : valV vs k = none) : putK vs k z = vs ++ [(k, z)] := by
  unfold putK
  rw [if_neg]
  rw [valV_any, h]
  exact Bool.noConfusion
theorem RVs.snoc {T : Tb} {ρ : List Addr} {H : Hp} {xs : List Vl} {vs : List V} {x : Vl} {v : V} (h : RVs T ρ H xs vs) (hx : RV T ρ H x v) : RVs T ρ H (xs ++ [x]) (vs ++ [v]) := h.append (.cons hx .nil)
section
variable {X : Cx} {T : Tb} {W : WX} {o e f : Expr} {apos cpos : Pos} {md mk mv : EM}
theorem isDic_ok {ρ : List Addr} {H : Hp} {s : Sto} {j : Nat} {a : Addr} (r : Rel T ρ H s) (ha : ρ[j]? = some a) (h : isDic j s = true) : IsD H a := by
  unfold isDic at h
  split at h
  · rename_i kvs hj
    obtain ⟨vs, h1, _⟩ := r.dic hj ha
    exact .inl ⟨vs, .inl h1⟩
  · cases h
theorem ce_dget1 (hu : X.A.units + 1 < cLine) (ho : PE X o (tE T W md)) (he : PE X e (tE T W mk)) (m : M1 X o "get" apos e cpos) : PE X (.Call (.Attribute o "get" apos) [e] [] cpos) (tE T W (eDGet1 md mk)) :=
  pe_mono (pe_dget1 hu ho he m) fun σ H Q h => tG_bnd (R := RV T) h fun ρ s lo x z H1 r rl hx p => by
    cases x <;> try exact p.elim
    rename_i j
    obtain ⟨a, rfl, ha⟩ := hx.refE
    simp only at p
    split at p
    · rename_i hd
      refine ⟨a, rfl, isDic_ok r ha hd, po_bnd (R := RV T) (m := mk) r rl p fun ρ' s' y w H' ext r' rl' hy p' => ?_⟩
      split at p'
      · rename_i kvs key hj hk
        obtain ⟨vs, h1, h2, h3⟩ := r'.dic hj (ext.pre _ _ ha)
        have ey := keyOf_ok hy hk
        subst ey
        refine ⟨_, DGet.k h1, ?_⟩
        obtain ⟨q1, q2⟩ := look_ok (k := key) h2 h3
        cases q : look kvs key with
        | none => rw [q1 q]; rw [q] at p'; exact p' ρ' H' _ .refl r' .non
        | some v => obtain ⟨z, hz, hv⟩ := q2 v q; rw [hz]; rw [q] at p'; exact p' ρ' H' _ .refl r' hv
      · exact p'.elim
    · exact p.elim
theorem ce_dget2 (hu : X.A.units + 1 < cLine) (ho : PE X o (tE T W md)) (he : PE X e (tE T W mk)) (hf : PE X f (tE T W mv)) (m : M2 X o "get" apos e f cpos) : PE X (.Call (.Attribute o "get" apos) [e, f] [] cpos) (tE T W (eDGet2 md mk mv)) :=
  pe_mono (pe_dget2 hu ho he hf m) fun σ H Q h => tG_bnd (R := RV T) h fun ρ s lo x z H1 r rl hx p => by
    cases x <;> try exact p.elim
    rename_i j
    obtain ⟨a, rfl, ha⟩ := hx.refE
    simp only at p
    split at p
    · rename_i hd
      refine ⟨a, rfl, isDic_ok r ha hd, po_bnd (R := RV T) (m := mk) r rl p fun ρ' s' y w H' ext r' rl' hy p' => po_bnd (R := RV T) (m := mv) r' rl' p' fun ρ2 s2 dv w2 H2 ext2 r2 rl2 hd2 p2 => ?_⟩
      split at p2
      · rename_i kvs key hj hk
        obtain ⟨vs, h1, h2, h3⟩ := r2.dic hj (ext2.pre _ _ (ext.pre _ _ ha))
        have ey := keyOf_ok (hy.mono ext2) hk
        subst ey
        refine ⟨_, DGet.k h1, ?_⟩
        obtain ⟨q1, q2⟩ := look_ok (k := key) h2 h3
        cases q : look kvs key with
        | none => rw [q1 q]; rw [q] at p2; exact p2 ρ2 H2 _ .refl r2 hd2
        | some v => obtain ⟨z, hz, hv⟩ := q2 v q; rw [hz]; rw [q] at p2; exact p2 ρ2 H2 _ .refl r2 hv
      · exact p2.elim
    · exact p.elim
theorem ce_dsetd (ho : PE X o (tE T W md)) (he : PE X e (tE T W mk)) (hf : PE X f (tE T W mv)) (m : M2 X o "setdefault" apos e f cpos) : PE X (.Call (.Attribute o "setdefault" apos) [e, f] [] cpos) (tE T W (eDSet md mk mv)) :=
  ⟨fun pins s σ H Q I h => (pe_dsetd ho he hf m).run pins s σ H Q I (tG_bnd (R := RV T) h fun ρ s lo x z H1 r rl hx p => by
    cases x <;> try exact p.elim
    rename_i j
    obtain ⟨a, rfl, ha⟩ := hx.refE
    simp only at p
    split at p
    · rename_i hd
      refine ⟨a, rfl, isDic_ok r ha hd, po_bnd (R := RV T) (m := mk) r rl p fun ρ' s' y w H' ext r' rl' hy p' => po_bnd (R := RV T) (m := mv) r' rl' p' fun ρ2 s2 dv w2 H2 ext2 r2 rl2 hd2 p2 => ?_⟩
      split at p2
      · rename_i kvs key hj hk
        have ha2 := ext2.pre _ _ (ext.pre _ _ ha)
        obtain ⟨vs, h1, h2, h3⟩ := r2.dic hj ha2
        have ey := keyOf_ok (hy.mono ext2) hk
        obtain ⟨q1, q2⟩ := look_ok (k := key) h2 h3
        have hlen : vs.length = kvs.length := by have := congrArg List.length h2; simpa using this
        split at p2
        · rename_i hl
          refine ⟨vs, key, h1, ey, by rw [hlen, lim_eq]; exact hl, fun v' hv' => ?_, fun hn => ?_⟩
          · cases q : look kvs key with
            | none => rw [q1 q] at hv'; cases hv'
            | some v =>
              obtain ⟨z, hz, hv⟩ := q2 v q
              rw [hz] at hv'
              cases hv'
              rw [q] at p2
              exact p2 ρ2 H2 _ .refl r2 hv
          · cases q : look kvs key with
            | some v => obtain ⟨z, hz, hv⟩ := q2 v q; rw [hz] at hn; cases hn
            | none =>
              rw [q] at p2
              refine p2 ρ2 _ _ (r2.setExt ha2 h1) (r2.set ha2 ⟨putK vs key w2, upd_same, ?_, ?_⟩) (hd2.mono (r2.setExt ha2 h1))
              · rw [putK_none hn, put_none q]; simp [h2]
              · rw [putK_none hn, put_none q]
                simp only [List.map_append, List.map_cons, List.map_nil]
                exact (h3.snoc hd2).mono (r2.setExt ha2 h1)
        · exact p2.elim
      · exact p2.elim
    · exact p.elim)⟩
end
end Sm

/-! S26: len of own objects, dict(list of pairs), min and max of a list of ints -/
namespace Sm
open PySem L2 PySem.W
section
variable {prog : Program} {w : World} {A : Around} {E : Value → Shared → Prop} {s : Shared} {K : Frag} {x C f : Addr} {ox : Obj} {od : Option Obj}
theorem len_own {Q : Value → Shared → Prop} (X : K.In s.heap) (I : InstAt s.heap x ox C od) (hs : findIn K (.ref C) "__len__" = some (some (.ref f))) (hf : isFn K (.ref f) = true)
    (h : wpAny (model prog w) A.in1 (call (.ref f) [.ref x]) (fun v s' => ∃ n t, v = .int n t ∧ 0 ≤ n ∧ n < 2 ^ 62 ∧ ∀ t' k, Q (.int n t') { s' with toks := k }) E s) :
    wpAny (model prog w) A (call (.builtin "len") [.ref x]) Q E s := by
  refine Calls.call_function_entry kind_len plain_len entry_len (args_len1 _) ?_
  unfold Builtin.«len»
  refine wpAny_bind (m := oneArg "len" _) (wpAny_pure (wpAny_bind (m := callSpecial? (.ref x) (Str.ofString "__len__")) ?_))
  refine special_fn X I hs (beq_iff_eq.mp hf) (wpAny_mono h (fun r s' hr => ?_) fun _ _ y => y)
  obtain ⟨n, t, rfl, h0, h1, hq⟩ := hr
  refine wpAny_bind (wpAny_holding (wpAny_pure (wpAny_bind (wpAny_letGo ?_))))
  have a1 : ¬ n < 0 := by omega
  have a2 : ¬ n ≥ 2 ^ 63 := by omega
  simp only [a1, a2, if_false]
  exact wpAny_bind (wpAny_mkInt (wpAny_pure ⟨_, rfl, hq _ _⟩))
end
structure LenO (K : PySem.W.Frag) (C f : Addr) : Prop where
  at_ : PySem.W.findIn K (.ref C) "__len__" = some (some (.ref f))
  fn : PySem.W.isFn K (.ref f) = true
def eLenO (tab : MTab) (o : EM) : EM := fun lo => bnd (o lo) fun x s => match x with
  | .ref j => match s[j]? with
    | some (.ins c fs) => match tab c with
      | some mf => match mf [.ref j] s with
        | .ok (.int n) s' => if 0 ≤ n ∧ n < 2 ^ 62 then .ok (.int n) s' else .fail
        | .exc e s' => .exc e s'
        | _ => .fail
      | none => .fail
    | _ => .fail
  | _ => .fail
def LenOk (X : Cx) (T : Tb) (k : Nat) (tab : MTab) : Prop := ∀ c mf, tab c = some mf → ∀ C, T.cl[c]? = some C → ∃ (f : Addr) (fd : FuncData) (ps : List Str), LenO T.K C f ∧ FnG X.prog X.w X.K X.mg X.base k f fd ps (SpM T 1 mf) ∧ Binds X.K fd ps []
section
variable {X : Cx} {T : Tb} {W : WX} {k : Nat} {p pos : Pos} {o : Expr} {mo : EM}
theorem ce_lenO {tab : MTab} (ok : LenOk X T k tab) (hr : Room (k + 1) X.A) (hgd : X.A.guards = some []) (tk : Takes X W) (hg : Gl X "len") (hm : X.mg "len" = none) (ho : PE X o (tE T W mo))
    (he : starEach [o] X.env = (false, eval o X.env) :: starEach [] X.env := by rfl) (hpl : (backTo pos (starEach [] X.env)).any (·.1) = false := by rfl) (hK : X.K = T.K := by rfl) :
    PE X (.Call (.Name "len" p) [o] [] pos) (tE T W (eLenO tab mo)) := by
  have key : ∀ (pins : List (Addr × Obj)) (s : Shared) (σ : L2.St) (H : Hp) (xs : List V) (us : List Value) (Q : VK), Inv X pins σ H s → Vals xs us →
      (∃ (ρ : List Addr) (st : Sto) (x : Vl) (z : V), xs = [z] ∧ Rel T ρ H st ∧ RV T ρ H x z ∧ Po (RV T) T (fun c d H' => W c d σ H') ρ H ((match x with
        | .ref j => match st[j]? with
          | some (.ins c fs) => match tab c with
            | some mf => match mf [.ref j] st with
              | .ok (.int n) s' => if 0 ≤ n ∧ n < 2 ^ 62 then .ok (.int n) s' else .fail
              | .exc e s' => .exc e s'
              | _ => .fail
            | none => .fail
          | _ => .fail
        | _ => .fail : Res Vl)) Q) → wpAny (model X.prog X.w) X.A (call (.builtin "len") us) (EP X pins σ Q) X.xe s := by
    rintro pins s σ H xs us Q I rs ⟨ρ, st, x, z, rfl, r, hx, p⟩
    obtain ⟨u, rfl, ru⟩ := vals1 rs
    cases x <;> try exact p.elim
    rename_i j
    obtain ⟨a, rfl, ha⟩ := hx.refE
    obtain rfl : u = Value.ref a := ru
    simp only at p
    split at p
    · rename_i c fs hj
      split at p
      · rename_i mf hmf
        obtain ⟨C, dx, vs, h1, h2, h3, h4⟩ := r.ins hj ha
        obtain ⟨f, fd, ps, lo, F, hb⟩ := ok c mf hmf C h1
        obtain ⟨ox, od, J, hd⟩ := StX.insC_at (C := C) I (.inr ⟨dx, vs, h2⟩)
        rw [← hK] at lo
        have sp : SpM T 1 mf [V.ref a] H (fun v H' => ∃ n, v = .int n ∧ 0 ≤ n ∧ n < 2 ^ 62 ∧ Q (.int n) H') fun c d H' => W c d σ H' := by
          refine spM_of r (.cons hx .nil) rfl ?_
          cases e : mf [.ref j] st with
          | fail => rw [e] at p; exact p.elim
          | exc x s' => rw [e] at p; exact p
          | ok v s' =>
            rw [e] at p
            cases v <;> try exact p.elim
            rename_i n
            simp only at p
            split at p
            · rename_i hn
              intro ρ' H' z ext r' hz
              exact ⟨n, hz.intE, hn.1, hn.2, p ρ' H' _ ext r' (.int n)⟩
            · exact p.elim
        refine len_own I.kIn J lo.at_ lo.fn (wpAny_call (codeAny_mono (F.run X.A.in1 X.stack s H ⟨[.ref a], []⟩ [.ref a] [.ref a] _ _ hr.in1 hgd I.env0.in1 (hb s [.ref a] I.kIn (F.len _ _ _ _ sp)) (.cons rfl .nil) sp) fun z s' hq => ?_))
        cases z with
        | error y => exact tk y s' (XE.of_call I (fun _ _ _ q => q) hq)
        | ok fl =>
          cases fl with
          | ret u =>
            obtain ⟨v, H', I3, rv, n, rfl, h0, h1', q⟩ := I.after hq
            obtain ⟨t, rfl⟩ := rv
            exact ⟨n, t, rfl, h0, h1', fun t' k' => ⟨.int n, H', I3.tok k', ⟨t', rfl⟩, q⟩⟩
          | next => exact hq.elim
          | brk => exact hq.elim
          | cont => exact hq.elim
      · exact p.elim
    · exact p.elim
  have ha : PA X [o] (tA T W (aCons mo aNil)) := ca_cons ho ca_nil he
  refine ⟨fun pins s σ H Q I h => wpAny_Call_Name_kw (ld_blt (u := .builtin "len") I hg hm (by decide +kernel) ?_ (by decide) (by decide))⟩
  refine PyProof.Rows.callWith_builtin1 (thn (ha.run pos pins s σ H (fun vs H1 => ∃ (ρ : List Addr) (st : Sto) (x : Vl) (z : V), vs = [z] ∧ Rel T ρ H1 st ∧ RV T ρ H1 x z ∧ Po (RV T) T (fun c d H' => W c d σ H') ρ H1 ((match x with
        | .ref j => match st[j]? with
          | some (.ins c fs) => match tab c with
            | some mf => match mf [.ref j] st with
              | .ok (.int n) s' => if 0 ≤ n ∧ n < 2 ^ 62 then .ok (.int n) s' else .fail
              | .exc e s' => .exc e s'
              | _ => .fail
            | none => .fail
          | _ => .fail
        | _ => .fail : Res Vl)) Q) I ?_) fun us s1 ⟨vs, H1, I1, r1, q1⟩ => key pins s1 σ H1 vs us Q I1 r1 q1) he hpl
  obtain ⟨ρ, st, lo, r, rl, q⟩ := h
  refine ⟨ρ, st, lo, r, rl, ?_⟩
  have q : Po (RV T) T _ ρ H (bnd (mo lo) _ st) Q := q
  unfold aCons bnd
  unfold bnd at q
  cases e : mo lo st with
  | fail => rw [e] at q; exact q
  | exc x s' => rw [e] at q; exact q
  | ok v s' =>
    rw [e] at q
    intro ρ' H' zs ext r' hzs
    obtain ⟨z, rfl, hz⟩ := hzs.one
    exact ⟨ρ', s', v, z, rfl, r', hz, q.mono ext⟩
end
/-! ### dict(list of pairs), min, max -/
def asPr : Vl → Option (Key × Vl)
  | .tup [k, v] => match keyOf k with
    | some key => some (key, v)
    | none => none
  | _ => none
def oDictP : OC
  | [x], s => match lstOf x s with
    | some xs => match mapO asPr xs with
      | some kvs => some (.ref s.length, s ++ [.dic (mergeP [] kvs)])
      | none => none
    | none => none
  | _, _ => none
section
variable {X : Cx} {T : Tb}
theorem asPr_ok {ρ : List Addr} {H : Hp} : ∀ {xs : List Vl} {vs : List V} {kvs : List (Key × Vl)}, RVs T ρ H xs vs → mapO asPr xs = some kvs → ∃ (ps : List Addr) (ms : List (Key × V)), vs = ps.map V.ref ∧ Paired (fun p kv => SqT T.K H p [kV kv.1, kv.2]) ps ms ∧ ms.map (·.1) = kvs.map (·.1) ∧ RVs T ρ H (kvs.map (·.2)) (ms.map (·.2))
  | _, _, _, .nil, h => by
    cases h
    exact ⟨[], [], rfl, .nil, rfl, .nil⟩
  | _, _, kvs, .cons (x := x) (v := v) (xs := xs) (vs := vs) h1 h2, h => by
    unfold mapO at h
    cases e : asPr x with
    | none => simp only [e] at h; cases h
    | some kv =>
      simp only [e] at h
      cases e2 : mapO asPr xs with
      | none => simp only [e2] at h; cases h
      | some ks =>
        simp only [e2] at h
        cases h
        obtain ⟨ps, ms, rfl, q1, q2, q3⟩ := asPr_ok h2 e2
        unfold asPr at e
        split at e
        · rename_i a b
          split at e
          · rename_i key hk
            cases e
            obtain ⟨p, us, rfl, s1, s2⟩ := h1.tupE
            obtain ⟨u1, u2, rfl, r1, r2⟩ := s2.two
            have ek := keyOf_ok r1 hk
            subst ek
            exact ⟨p :: ps, (key, u2) :: ms, rfl, .cons s1 q1, by simp [q2], .cons r2 q3⟩
          · cases e
        · cases e
theorem c_dictP (hc : X.calm = true := by rfl) (hK : X.K = T.K := by rfl) : CallR X (.type "dict") (rC T oDictP) := CallR.imp (call_dictP hc) fun xs H Q q => by
  obtain ⟨ρ, st, as, w, s', r, ha, e, k⟩ := q
  unfold oDictP at e
  split at e
  · split at e
    · rename_i ys hx
      split at e
      · rename_i kvs hz
        cases e
        obtain ⟨z, rfl, hz'⟩ := ha.one
        obtain ⟨p, vs, rfl, h1, h2⟩ := lstOf_ok r hz' hx
        obtain ⟨ps, ms, rfl, q1, q2, q3⟩ := asPr_ok h2 hz
        refine ⟨p, ps, ms, rfl, SqL.of h1, by rw [hK]; exact q1, fun q hq => ?_⟩
        obtain ⟨m1, m2⟩ := merge_ok (kvs := []) (vs := []) q2 q3 (by simp) rfl .nil
        exact k.new r hq ⟨_, upd_same, m1, m2.mono (r.newExt hq)⟩
      · cases e
    · cases e
  · cases e
end
end Sm

/-! S27: enumerate(tuple); min and max of a list of ints -/
namespace Sm
open PySem L2 PyProof.Rows
open AutoSeq1 (wpAny_loadPart')
section
variable {prog : Program} {w : World} {A : Around} {E : Value → Shared → Prop} {s : Shared}
theorem meets_enumT (l : Addr) (its : Array Value) (n : Nat) (dct : Option Addr) (sl : Array (Option Value)) :
    Meets (Builtin.«enumerate.__new__» ⟨[.type "enumerate", .ref l], []⟩) (fun _ R s => s.heap.get? l = some { cls := .type "tuple", dict := dct, data := .seq its n, slots := sl } ∧
      R (.ok (.ret (.ref (s.heap.push { cls := .type "tuple_iterator", data := .fields #[.ref l, .int 0 0] }).objs.size)))
        { s with heap := (s.heap.push { cls := .type "tuple_iterator", data := .fields #[.ref l, .int 0 0] }).push { cls := .type "enumerate", data := .fields #[.none, .bool false, .ref s.heap.objs.size, rawInt 0, .none, .none] } }) :=
  .of_wp fun prog w A R s h => by
    obtain ⟨hp, g, d, tk, os⟩ := s
    obtain ⟨hl, hR⟩ := h
    have hsub := sub_enumerate
    have hT : Heap.IsTuple (Shared.heap ⟨hp, g, d, tk, os⟩) l its := ⟨_, hl, rfl, n, rfl⟩
    wp_walk using wpAny_loadPart' hl
    refine wpAny_stack_any fun st => wpAny_pure ?_
    split
    · rename_i c _ _ _ _ _
      cases (c == Value.type "enumerate") <;> (wp_walk using wpAny_loadPart' hl, wpAny_pyIter_tuple hT; exact ⟨_, rfl, hR⟩)
    · wp_walk using wpAny_loadPart' hl, wpAny_pyIter_tuple hT
      exact ⟨_, rfl, hR⟩
theorem call_enumT {l : Addr} {its : Array Value} {Q : Value → Shared → Prop} (hL : s.heap.IsTuple l its)
    (h : ∀ h', IsEnum h' (s.heap.objs.size + 1) s.heap.objs.size 0 .none → h'.IsTupleIter s.heap.objs.size l 0 → (∀ b o, s.heap.get? b = some o → h'.get? b = some o) → Q (.ref (s.heap.objs.size + 1)) { s with heap := h' }) :
    wpAny (model prog w) A (call (.type "enumerate") [.ref l]) Q E s := by
  obtain ⟨⟨c, dct, dt, sl⟩, hl, hc, n, hd⟩ := hL
  replace hc : c = .type "tuple" := hc
  replace hd : dt = .seq its n := hd
  subst hc hd
  refine callType_new F.called_enumerate (by decide) (F.typeCall_enumerate_1 _) (F.newCall_enumerate_1 _) (fun obj => F.args_object_init_2 obj _) F.entry_enumerate_new (meets_enumT l its n dct sl) ⟨hl, ?_⟩
  have hz : (s.heap.push { cls := .type "tuple_iterator", data := .fields #[.ref l, .int 0 0] }).objs.size = s.heap.objs.size + 1 := Heap.size_push ..
  show _ ∧ _
  rw [hz]
  have he : IsEnum ((s.heap.push { cls := .type "tuple_iterator", data := .fields #[.ref l, .int 0 0] }).push { cls := .type "enumerate", data := .fields #[.none, .bool false, .ref s.heap.objs.size, rawInt 0, .none, .none] }) (s.heap.objs.size + 1) s.heap.objs.size 0 .none := by
    have q := Heap.get?_push_size (s.heap.push { cls := .type "tuple_iterator", data := .fields #[.ref l, .int 0 0] }) (o := { cls := .type "enumerate", data := .fields #[.none, .bool false, .ref s.heap.objs.size, rawInt 0, .none, .none] }) rfl
    rw [hz] at q
    exact q
  exact ⟨⟨_, he, rfl⟩, h _ he ⟨_, Heap.get?_push_of_some _ (Heap.get?_push_size _ rfl), rfl, rfl⟩ fun b o x => Heap.get?_push_of_some _ (Heap.get?_push_of_some _ x)⟩
end
def IteT (K : PySem.W.Frag) (a : Addr) (n : Nat) : It where
  go := fun i H => ∃ (xs : List V) (x : V), SqT K H a xs ∧ xs[i]? = some x ∧ xs.length = n
  yld := fun i H v H' => ∃ T x, v = .ref T ∧ H T = none ∧ H' = upd H T (.tup [.int (i : Nat), x]) ∧ ∀ xs, SqT K H a xs → xs[i]? = some x
  stop := fun i H => ∃ xs : List V, SqT K H a xs ∧ xs.length = n ∧ n ≤ i
theorem IsTup.tuple {h : Heap} {a : Addr} {its : Array Value} (x : IsTup h a its) : h.IsTuple a its := x
theorem turn_enumT {P : Program} {w : World} {K : PySem.W.Frag} {elts : List Expr} {kk : Nat} {tpos : Pos} (a e it : Addr) (n : Nat) :
    Turn P w K (.Tuple elts kk tpos) (IteT K a n) [e, it] e (fun i h => (∃ old, IsEnum h e it ((i : Nat) : Int) old) ∧ h.IsTupleIter it a i ∧ e ≠ it ∧ i ≤ n) where
  mem := List.mem_cons_self ..
  obj := fun i h st b hb => by
    obtain ⟨⟨old, he⟩, ⟨o, ho, hc, hd⟩, _⟩ := st
    rcases List.mem_cons.mp hb with rfl | hb
    · exact ⟨_, he, fun v q => nomatch q⟩
    · obtain rfl : b = it := by simpa using hb
      exact ⟨o, ho, fun v q => by rw [hd] at q; cases q⟩
  keep := fun i h h' st k => by
    obtain ⟨⟨old, he⟩, hi, hne, hn⟩ := st
    exact ⟨⟨old, k e (List.mem_cons_self ..) _ he⟩, hi.at fun o q => k it (List.mem_cons_of_mem _ (List.mem_cons_self ..)) o q, hne, hn⟩
  item := by
    intro X hP hw hK hc i pins s σ H E I hf st hg
    subst hP hw hK
    obtain ⟨⟨old, he⟩, hit, hne, hn⟩ := st
    obtain ⟨xs, x, hq, hx, hxn⟩ := hg
    obtain ⟨its, rv, p, hz⟩ := I.tuple hq
    obtain ⟨u, hu, ru⟩ := rv.get hx
    have lte : e < s.heap.objs.size := Heap.lt_size he
    have lti : it < s.heap.objs.size := by obtain ⟨_, q, _⟩ := hit; exact Heap.lt_size q
    have hai : a ≠ it := by
      rintro rfl
      obtain ⟨o1, q1, c1, _⟩ := hit
      obtain ⟨o2, q2, c2, _⟩ := p
      rw [q1] at q2; cases q2; rw [c1] at c2; exact absurd c2 (by decide)
    have hae : e ≠ a := by
      rintro rfl
      obtain ⟨o2, q2, c2, _⟩ := p
      have q1 : s.heap.get? e = some _ := he
      rw [q1] at q2; cases q2; exact absurd (show Value.type "enumerate" = Value.type "tuple" from c2) (by decide)
    have iu : its.toArray[i]? = some u := by simpa using hu
    have ilt : i < its.toArray.size := (Array.getElem?_eq_some_iff.mp iu).1
    refine wpAny_pyNext_enum_itemD (Draws.tuple (A := X.A.in1) (I.ok.hd hc) it a hai its.toArray) he ⟨hit, p⟩ ilt hne (by simp [hne, hae]) fun y h' tk hy ho st' hT hsz hk => ?_
    have hy : its.toArray[i]? = some y := hy
    obtain rfl : u = y := Option.some.inj (iu.symm.trans hy)
    refine ⟨_, rfl, wpAny_letOwnedTupleGo_enum (s := { s with heap := h', toks := tk + 1 }) ho fun h2 he2 sb => ?_⟩
    have hT2 : h2.get? s.heap.objs.size = some { cls := .type "tuple", data := .seq #[.int i tk, u] } := (sb.2 _ (Nat.ne_of_gt lte)).trans hT
    have new : ObjOk X.prog X.w (upd H s.heap.objs.size (.tup [.int (i : Nat), x])) h2 s.heap.objs.size (.tup [.int (i : Nat), x]) :=
      ⟨Nat.le_trans (show 2 ≤ 16 by decide) (by rw [sizeLine_eq]; decide), [.int i tk, u], .cons ⟨_, rfl⟩ (.cons ru .nil), ⟨_, hT2, rfl, _, rfl⟩⟩
    have kp : ∀ b ob, b ∉ [e, it] → s.heap.get? b = some ob → h2.get? b = some ob := fun b ob hb q => by
      simp only [List.mem_cons, List.not_mem_nil, or_false, not_or] at hb
      exact (sb.2 b hb.1).trans (hk b ob hb.1 hb.2 q)
    have I1 := I.turnedNew (ch := [e, it]) (t' := tk + 1) kp hf (Nat.le_refl _) new
    have e1 : ((i + 1 : Nat) : Int) = (i : Int) + 1 := by omega
    refine ⟨.ref s.heap.objs.size, _, I1, rfl, ⟨_, x, rfl, I.hok.fresh (Nat.le_refl _), rfl, fun ys hy => by rw [I.tuple_inj hy hq]; exact hx⟩, ⟨⟨u, by rw [e1]; exact he2⟩, st'.1.at fun o q => (sb.2 it (Ne.symm hne)).trans q, hne, by have := (List.getElem?_eq_some_iff.mp hx).1; omega⟩, fun b hb => ?_⟩
    have hb' : b < s.heap.objs.size := by
      simp only [List.mem_cons, List.not_mem_nil, or_false] at hb
      rcases hb with rfl | rfl
      · exact lte
      · exact lti
    rw [upd_ne (Nat.ne_of_lt hb')]
    exact (hf b hb).1
  done := by
    intro X hP hw hK hc i pins s σ H E I hf st hg
    subst hP hw hK
    obtain ⟨⟨old, he⟩, hit, hne, hn⟩ := st
    obtain ⟨xs, hq, hxn, hx⟩ := hg
    obtain ⟨its, rv, p, hz⟩ := I.tuple hq
    have hai : a ≠ it := by
      rintro rfl
      obtain ⟨o1, q1, c1, _⟩ := hit
      obtain ⟨o2, q2, c2, _⟩ := p
      rw [q1] at q2; cases q2; rw [c1] at c2; exact absurd c2 (by decide)
    obtain ⟨f0, f1, f2, f3, f4, f5⟩ := hf it (List.mem_cons_of_mem _ (List.mem_cons_self ..))
    have hl := rv.length
    have ei : i = its.toArray.size := by simp; omega
    refine wpAny_pyNext_enum_endD (Draws.tuple (A := X.A.in1) (I.ok.hd hc) it a hai its.toArray) he ⟨ei ▸ hit, p⟩ fun h' eb => ⟨rfl, ?_⟩
    exact I.turned (t' := s.toks) (fun b o hb q => eb b o hb q) f0 f1 f3 f4 f5
  self := fun A i s Q E st h => by
    obtain ⟨⟨_, he⟩, _⟩ := st
    exact wpAny_pyIter_enum he h
def iEnumT (K : PySem.W.Frag) (ta : TA) : TI := fun σ H R => ta σ H fun vs H1 => ∃ a xs, vs = [.ref a] ∧ SqT K H1 a xs ∧ R (IteT K a xs.length) H1
theorem pi_enumT {X : Cx} {e : Expr} {ta : TA} {p pos tpos : Pos} {elts : List Expr} {kk : Nat} (hg : Gl X "enumerate") (hm : X.mg "enumerate" = none) (ha : PA X [e] ta) (hs : starEach [e] X.env = [(false, eval e X.env)] := by rfl) :
    PI X (.Tuple elts kk tpos) (.Call (.Name "enumerate" p) [e] [] pos) (iEnumT X.K ta) := by
  refine ⟨fun pins s σ H R I h => Call_ (ld_blt I hg hm boot_enumerate (PyProof.Rows.callWith_type1 (thn (ha.run pos pins s σ H _ I h) fun us s1 ⟨vs, H1, I1, r1, q1⟩ => ?_) hs rfl))⟩
  obtain ⟨a, xs, rfl, hq, q⟩ := q1
  cases r1 with
  | cons r rr =>
    cases rr
    cases r
    obtain ⟨its, rv, p', hz⟩ := I1.tuple hq
    refine call_enumT p' fun h' he hit hk => wpAny_pyIter_enum he ?_
    have I2 : Inv X pins σ H1 { s1 with heap := h' } := I1.kept (t' := s1.toks) hk
    refine ⟨s1.heap.objs.size + 1, _, _, _, H1, rfl, I2, turn_enumT a (s1.heap.objs.size + 1) s1.heap.objs.size xs.length, ⟨⟨.none, he⟩, hit, Nat.succ_ne_self _, Nat.zero_le _⟩, fun b hb => ?_, q⟩
    have hle : s1.heap.objs.size ≤ b := by
      simp only [List.mem_cons, List.not_mem_nil, or_false] at hb
      rcases hb with rfl | rfl
      · exact Nat.le_succ _
      · exact Nat.le_refl _
    exact I1.fpOk hle (I1.hok.fresh hle)
/-! ### its reading -/
def enmL (xs : List Vl) : List Vl := xs.zipIdx.map fun p => .tup [.int (p.2 : Nat), p.1]
theorem enmL_get {xs : List Vl} {i : Nat} : (enmL xs)[i]? = (xs[i]?).map fun v => .tup [.int (i : Nat), v] := by
  unfold enmL
  rw [List.getElem?_map, List.getElem?_zipIdx]
  cases xs[i]? <;> simp
def aEnm (e : AM) : AM := fun lo => bnd (e lo) fun as => match as with
  | [.tup xs] => ret (enmL xs)
  | _ => failM
section
variable {X : Cx} {T : Tb} {W : WX} {p pos : Pos}
theorem ci_enmT {e : Expr} {ma : AM} {elts : List Expr} {kk : Nat} {tpos : Pos} (hg : Gl X "enumerate") (hm : X.mg "enumerate" = none) (ha : PA X [e] (tA T W ma)) (hs : starEach [e] X.env = [(false, eval e X.env)] := by rfl) (hK : X.K = T.K := by rfl) :
    PI X (.Tuple elts kk tpos) (.Call (.Name "enumerate" p) [e] [] pos) (tI T W (iFix (aEnm ma))) := pi_mono (pi_enumT hg hm ha hs) fun σ H R h => by
  obtain ⟨ρ, s, lo, r, rl, q⟩ := h
  refine po_bnd (R := RVs T) (m := ma) (f := fun as => bnd (match as with | [.tup xs] => ret (enmL xs) | _ => failM) fun xs => ret (nxFix xs)) (R' := fun ρ H nx J => ItOk T J nx ρ H) (Q := R) r rl ?_ fun ρ1 s1 as zs H1 ext1 r1 rl1 hx p1 => ?_
  · unfold iFix aEnm at q
    unfold bnd at q ⊢
    cases e : ma lo s <;> rw [e] at q <;> exact q
  · split at p1
    · rename_i xs
      obtain ⟨z, rfl, hz⟩ := hx.one
      obtain ⟨a, vs, rfl, h1, h2⟩ := hz.tupE
      rw [← hK] at h1
      refine ⟨a, vs, rfl, h1, p1 ρ1 H1 _ .refl r1 ?_⟩
      intro ρ2 H2 s2 i e2 r2
      have h1' := e2.tup _ _ (hK ▸ h1)
      have h2' := h2.mono e2
      rw [← hK] at h1'
      simp only [nxFix, enmL_get]
      cases e : xs[i]? with
      | none =>
        have : xs.length ≤ i := List.getElem?_eq_none_iff.mp e
        exact ⟨vs, h1', rfl, by rw [← h2'.length]; exact this⟩
      | some v =>
        obtain ⟨u, hu, ru⟩ := h2'.get e
        refine ⟨⟨vs, u, h1', hu, rfl⟩, fun x H3 y => ?_⟩
        obtain ⟨t, w, rfl, ht, rfl, y⟩ := y
        have := y vs h1'
        rw [hu] at this
        cases this
        exact ⟨ext_upd ht, r2.laid ht, .tup (SqT.of upd_same) (.cons (.int _) (.cons (ru.mono (ext_upd ht)) .nil))⟩
    · exact p1.elim
end
/-! ### min, max of a list of ints -/
def maxL : List Int → Int
  | [] => 0
  | [x] => x
  | x :: xs => max x (maxL xs)
def minL : List Int → Int
  | [] => 0
  | [x] => x
  | x :: xs => min x (minL xs)
theorem maxL_ok : ∀ {xs : List Int}, 0 < xs.length → maxL xs ∈ xs ∧ ∀ y ∈ xs, y ≤ maxL xs
  | [x], _ => by simp [maxL]
  | x :: y :: xs, _ => by
    have ih := maxL_ok (xs := y :: xs) (by simp)
    have e : maxL (x :: y :: xs) = max x (maxL (y :: xs)) := rfl
    rw [e]
    refine ⟨?_, fun z hz => ?_⟩
    · rcases Int.le_total x (maxL (y :: xs)) with q | q
      · rw [Int.max_eq_right q]; exact List.mem_cons_of_mem _ ih.1
      · rw [Int.max_eq_left q]; exact List.mem_cons_self ..
    · rcases List.mem_cons.mp hz with rfl | hz
      · omega
      · have := ih.2 z hz; omega
theorem minL_ok : ∀ {xs : List Int}, 0 < xs.length → minL xs ∈ xs ∧ ∀ y ∈ xs, minL xs ≤ y
  | [x], _ => by simp [minL]
  | x :: y :: xs, _ => by
    have ih := minL_ok (xs := y :: xs) (by simp)
    have e : minL (x :: y :: xs) = min x (minL (y :: xs)) := rfl
    rw [e]
    refine ⟨?_, fun z hz => ?_⟩
    · rcases Int.le_total x (minL (y :: xs)) with q | q
      · rw [Int.min_eq_left q]; exact List.mem_cons_self ..
      · rw [Int.min_eq_right q]; exact List.mem_cons_of_mem _ ih.1
    · rcases List.mem_cons.mp hz with rfl | hz
      · omega
      · have := ih.2 z hz; omega
def oMaxL : OC
  | [x], s => match lstOf x s with
    | some xs => match mapO asInt xs with
      | some ns => if 0 < ns.length then some (.int (maxL ns), s) else none
      | none => none
    | none => none
  | _, _ => none
def oMinL : OC
  | [x], s => match lstOf x s with
    | some xs => match mapO asInt xs with
      | some ns => if 0 < ns.length then some (.int (minL ns), s) else none
      | none => none
    | none => none
  | _, _ => none
section
variable {X : Cx} {T : Tb}
theorem c_maxL (hc : X.calm = true := by rfl) : CallR X (.builtin "max") (rC T oMaxL) := CallR.imp (cr_max hc) fun xs H Q q => by
  obtain ⟨ρ, st, as, w, s', r, ha, e, k⟩ := q
  unfold oMaxL at e
  split at e
  · split at e
    · rename_i ys hx
      split at e
      · rename_i ns hz
        split at e
        · rename_i hl
          cases e
          obtain ⟨z, rfl, hz'⟩ := ha.one
          obtain ⟨p, vs, rfl, h1, h2⟩ := lstOf_ok r hz' hx
          have ev := asInts_ok h2 hz
          subst ev
          refine ⟨p, ns, rfl, SqL.of h1, hl, fun m hm hy => ?_⟩
          obtain ⟨m1, m2⟩ := maxL_ok hl
          have : m = maxL ns := Int.le_antisymm (m2 m hm) (hy _ m1)
          rw [this]
          exact k.here r (.int _)
        · cases e
      · cases e
    · cases e
  · cases e
theorem c_minL (hc : X.calm = true := by rfl) : CallR X (.builtin "min") (rC T oMinL) := CallR.imp (cr_min hc) fun xs H Q q => by
  obtain ⟨ρ, st, as, w, s', r, ha, e, k⟩ := q
  unfold oMinL at e
  split at e
  · split at e
    · rename_i ys hx
      split at e
      · rename_i ns hz
        split at e
        · rename_i hl
          cases e
          obtain ⟨z, rfl, hz'⟩ := ha.one
          obtain ⟨p, vs, rfl, h1, h2⟩ := lstOf_ok r hz' hx
          have ev := asInts_ok h2 hz
          subst ev
          refine ⟨p, ns, rfl, SqL.of h1, hl, fun m hm hy => ?_⟩
          obtain ⟨m1, m2⟩ := minL_ok hl
          have : m = minL ns := Int.le_antisymm (hy _ m1) (m2 m hm)
          rw [this]
          exact k.here r (.int _)
        · cases e
      · cases e
    · cases e
  · cases e
end
end Sm

/-! S28: defs with defaults -/
namespace Sm
open PySem PySem.Spec PyProof.Rows L2
/-- a def with defaults by its body -/
theorem fnG_ofD {P : Program} {w : World} {K : PySem.W.Frag} {mg : Str → Option Value} {base : Heap} {k : Nat} {x qual : Str} {st : Stmt} {f : Addr} {fd : FuncData} {N ps : List Str} {sp : Sp} {dvs : List V} {kws : List (Str × V)} (F : FunD K x qual (defArgs st) (defBody st) (defScope st) dvs kws f fd) (S : FnScope N ps (defScope st)) (len : ∀ vs H Q E, sp vs H Q E → vs.length = ps.length)
    (hbody : ∀ (cdv : Value) (A : Around) (outer : List Env) (s : Shared) (H : Hp) (vs : List V) (Q : VK) (E : XK), Room k (A.deeper (envOfC qual (defScope st) s.heap.objs.size f cdv)) → A.guards = some [] → sp vs H Q E →
      ∃ t, PSs (cxOf (L2.CX P w) P w K mg base N qual (defScope st) f cdv A outer s H E) (defBody st) t ∧ t { nx := fun _ H' => Q .non H', rt := Q } (L2.start N vs) H) : FnG P w K mg base (k + 1) f fd ps sp := by
  obtain ⟨oc, od, dV, kV, doc, pm, an, cdv, ct, osl, rfl, lk, hcd, _, _⟩ := F.ex
  refine ⟨len, fun A outer s H args us vs Q E hr hg e0 hb r hsp => ?_⟩
  have inK : K.In s.heap := e0.mod.kin.keeps fun b o e => (e0.bs b o e).1
  have nl : s.heap.NoLimit := e0.mod.nolimit.keeps fun b o e => (e0.bs b o e).1
  have kinds : ∀ y ∈ ps.zip us, (defScope st).names.lookup y.1 = some .local ∨ ((defScope st).names.lookup y.1 = some .cell ∧ ((cellsFrom (s.heap.objs.size + 1) (defScope st).names []).lookup y.1).isSome = true) := by
    rintro ⟨n, v⟩ hy
    exact (S.par n (List.of_mem_zip hy).1).imp id fun q => ⟨q, PySem.W.cellsFrom_some _ _ _ (.inl q)⟩
  refine codeAny_call_function hr.depth (inK _ _ lk) rfl S.co S.gen rfl (PySem.W.codeRec_of inK hcd) (hb _ _ _ _ (wpAny_newFunctionEnv_cells S.kind kinds fun env he s1 y => ?_))
  subst he
  refine ⟨nl.keeps y.toInCall.keep, codeAny_func ?_⟩
  obtain ⟨t, ht, hq⟩ := hbody cdv A outer s H vs Q E (hr.deeper _) hg hsp
  refine wpAny_mono (ht.run [] s1 (L2.start N vs) H _ (inv_start S hr.hd e0 (len _ _ _ _ hsp) r y) hq) (fun fl s' hs => ?_) fun e s' hs => hs
  cases fl with
  | ret u => obtain ⟨v, σ', H', J, rv, q⟩ := hs; exact ⟨v, H', J.os, J.bare, J.base, J.hok, rv, q⟩
  | next => obtain ⟨σ', H', J, q⟩ := hs; exact ⟨V.non, H', J.os, J.bare, J.base, J.hok, rfl, q⟩
  | brk => obtain ⟨_, _, _, q⟩ := hs; exact q.elim
  | cont => obtain ⟨_, _, _, q⟩ := hs; exact q.elim
theorem fn_simD {P : Program} {w : World} {K : PySem.W.Frag} {mg : Str → Option Value} {base : Heap} {k n : Nat} {x qual : Str} {st : Stmt} {f : Addr} {fd : FuncData} {N ps : List Str} {T : Tb} {b : SM} {dvs : List V} {kws : List (Str × V)} (F : FunD K x qual (defArgs st) (defBody st) (defScope st) dvs kws f fd) (S : FnScope N ps (defScope st)) (hn : n = ps.length)
    (body : ∀ (cdv : Value) (A : Around) (outer : List Env) (s : Shared) (H : Hp) (E : XK), Room k (A.deeper (envOfC qual (defScope st) s.heap.objs.size f cdv)) → A.guards = some [] →
      PSs (cxOf (L2.CX P w) P w K mg base N qual (defScope st) f cdv A outer s H E) (defBody st) (tS T (fun c d _ H' => E c d H') b)) : FnG P w K mg base (k + 1) f fd ps (SpM T n (fnM N.length b)) :=
  fnG_ofD F S (fun vs H Q E ⟨ρ, s, as, r, hv, hl, p⟩ => by rw [← hv.length, hl, hn]) fun cdv A outer s H vs Q E hr hg h => ⟨_, body cdv A outer s H E hr hg, fn_body h⟩
/-- how it binds where the last parameters are not given -/
structure BindD (K : PySem.W.Frag) (fd : FuncData) (ps : List Str) (das : List Vl) : Prop where
  ex : ∃ (ds : List Value) (dvs : List V), Vals dvs ds ∧ Binds K fd ps ds ∧ ∀ (T : Tb) (ρ : List Addr) (H : Hp), T.K = K → RVs T ρ H das dvs
theorem bindD_of {K : PySem.W.Frag} {fd : FuncData} {ps : List Str} {das : List Vl} {dvs : List V} (h : ∃ ds, Vals dvs ds ∧ Binds K fd ps ds) (hv : ∀ (T : Tb) (ρ : List Addr) (H : Hp), T.K = K → RVs T ρ H das dvs) : BindD K fd ps das := by
  obtain ⟨ds, h1, h2⟩ := h
  exact ⟨ds, dvs, h1, h2, hv⟩
def dflM (n : Nat) (das : List Vl) (mf : List Vl → M Vl) : List Vl → M Vl := fun as s => if as.length + das.length = n then mf (as ++ das) s else .fail
theorem fnV_dfl {P : Program} {w : World} {mg : Str → Option Value} {base : Heap} {k n : Nat} {f : Addr} {fd : FuncData} {ps : List Str} {T : Tb} {mf : List Vl → M Vl} {das : List Vl} (F : FnG P w T.K mg base k f fd ps (SpM T n mf)) (hb : BindD T.K fd ps das) : FnV P w T.K mg base k f (SpV T (dflM n das mf)) := by
  intro A outer s H us vs Q E hr hg e0 r ⟨ρ, sto, as, rel, has, p⟩
  unfold dflM at p
  split at p
  · rename_i hl
    obtain ⟨ds, dvs, rd, hb, hv⟩ := hb.ex
    have inK : T.K.In s.heap := e0.mod.kin.keeps fun b o e => (e0.bs b o e).1
    have hv := hv T ρ H rfl
    have sp : SpM T n mf (vs ++ dvs) H Q E := ⟨ρ, sto, as ++ das, rel, has.append hv, by rw [List.length_append]; exact hl, p⟩
    have r2 : Vals (vs ++ dvs) (us ++ ds) := r.append rd
    exact F.run A outer s H ⟨us, []⟩ (us ++ ds) (vs ++ dvs) Q E hr hg e0 (hb s us inK (by rw [← r2.length]; exact F.len _ _ _ _ sp)) r2 sp
  · exact p.elim
section
variable {X : Cx} {T : Tb} {W : WX} {k : Nat} {f : Addr} {mf : List Vl → M Vl} {x : Str} {p pos : Pos} {e : Expr} {es : List Expr} {ma : AM}
theorem run_V {pins : List (Addr × Obj)} {σ : L2.St} {H : Hp} {s : Shared} {Q : VK} {us : List Value} {vs : List V} {sp : Sp} (F : FnV X.prog X.w X.K X.mg X.base k f sp) (hr : Room k X.A) (hg : X.A.guards = some []) (tk : Takes X W)
    (I : Inv X pins σ H s) (r : Vals vs us) (h : sp vs H Q fun c d H' => W c d σ H') : wpAny (model X.prog X.w) X.A (call (.ref f) us) (EP X pins σ Q) X.xe s := by
  refine wpAny_call (codeAny_mono (F X.A X.stack s H us vs Q _ hr hg I.env0 r h) fun z s' hq => ?_)
  cases z with
  | error y => exact tk y s' (XE.of_call I (fun _ _ _ q => q) hq)
  | ok fl =>
    cases fl with
    | ret u => exact I.after hq
    | next => exact hq.elim
    | brk => exact hq.elim
    | cont => exact hq.elim
theorem ce_callV (F : FnV X.prog X.w X.K X.mg X.base k f (SpV T mf)) (hr : Room k X.A) (hgd : X.A.guards = some []) (hg : Gl X x) (hm : X.mg x = some (.ref f)) (hk : PySem.W.keepIn X.K (.ref f) = true) (tk : Takes X W) (ha : PA X (e :: es) (tA T W ma))
    (hdb : (x == ("__debug__" : Str)) = false := by decide) (he : starEach (e :: es) X.env = (false, eval e X.env) :: starEach es X.env := by rfl) (hpl : (backTo pos (starEach es X.env)).any (·.1) = false := by rfl) :
    PE X (.Call (.Name x p) (e :: es) [] pos) (tE T W (eCall mf ma)) := by
  refine ⟨fun pins s σ H Q I h => wpAny_Call_Name_kw (ld_glob I hg hm ?_ hdb)⟩
  have h : tA T W ma σ H fun vs H1 => SpV T mf vs H1 Q fun c d H' => W c d σ H' := tG_bnd (R := RVs T) h fun ρ s lo xs zs H1 r rl hx q => ⟨ρ, s, xs, r, hx, q⟩
  exact PySem.W.callWith_K (h₀ := X.base) I.ok.mod.kin hk (thn (ha.run pos pins s σ H _ I h) fun us s1 ⟨vs, H1, I1, r, q⟩ => ⟨I1.kIn, run_V F hr hgd tk I1 r q⟩) he hpl
end
/-- a written empty tuple -/
theorem empty_rv {T : Tb} {ρ : List Addr} {H : Hp} {a : Addr} {od : Option Addr} {n : Nat} {sl : Array (Option Value)} (h : T.K.lookup a = some ⟨.type "tuple", od, .seq #[] n, sl⟩) : RV T ρ H (.tup []) (.ref a) :=
  .tup (.inr ⟨_, _, _, h, rfl, rfl, Nat.zero_le _, .nil⟩) .nil
end Sm

/-! S31: a list unpacked into targets -/
namespace Sm
open PySem L2
def gUl (gs : List GM) : GM := fun v lo s => match v with
  | .ref j => match s[j]? with
    | some (.lst xs) => match gAll gs xs lo s with
      | some (lo', s') => .ok lo' s'
      | none => .fail
    | _ => .fail
  | _ => .fail
section
variable {X : Cx} {T : Tb} {W : WX} {es : List Expr} {gs : List GM} {pos : Pos} {kk : Nat}
theorem cg_unl (h : PGs X es (tGts T gs)) (hc : X.calm = true := by rfl) (hn : (assignEach es X.env).length = gs.length := by rfl) (hst : (assignEach es X.env).findIdx? (·.1) = none := by rfl) : PG X (.Tuple es kk pos) (tGt T W (gUl gs)) :=
  pg_mono (pg_unl hc h hn hst) fun z σ H Q h => by
    obtain ⟨ρ, s, lo, v, r, rl, hv, p⟩ := h
    unfold gUl at p
    cases v <;> try exact p.elim
    rename_i j
    obtain ⟨a, rfl, ha⟩ := hv.refE
    simp only at p
    split at p
    · rename_i xs hj
      obtain ⟨vs, h1, h2⟩ := r.lst hj ha
      split at p
      · rename_i lo' s' hg
        refine ⟨a, vs, rfl, SqL.of h1, by rw [← h2.length]; exact gAll_len hg, ρ, s, lo, xs, lo', s', r, rl, h2, hg, ?_⟩
        exact fun ρ' H' σ' ext r' rl' => p ρ' H' σ' ext r' rl'
      · exact p.elim
    · exact p.elim
end
end Sm

/-! S34: f-strings, x or y of lists, split() -/
namespace Sm
open PySem L2
/-- {x}: a text or an int -/
def fmtM (x : Vl) : M Vl := fun s => match x with
  | .str y => if y.length ≤ LIM then .ok (.str y) s else .fail
  | .int i => if i.natAbs.log2 < 1920 then .ok (.str (Str.ofString (toString i))) s else .fail
  | _ => .fail
def eFmt (m : EM) : EM := fun lo => bnd (m lo) fmtM
/-- the parts of a text one behind the other -/
def jnd : List EM → Str → EM
  | [], acc => fun _ => ret (.str acc)
  | m :: ms, acc => fun lo => bnd (m lo) fun x s => match x with
    | .str y => if (acc ++ y).length ≤ LIM then jnd ms (acc ++ y) lo s else .fail
    | _ => .fail
def eJnd (ms : List EM) : EM := jnd ms Str.empty
/-- x or y, x a list -/
def eOrL (a b : EM) : EM := fun lo => bnd (a lo) fun x s => match lstOf x s with
  | some xs => if xs.isEmpty = true then b lo s else .ok x s
  | none => .fail
/-- x.split() -/
def oSplit0 : OMt
  | .str a, [], s => if a.length + 2 ≤ LIM then some (.ref s.length, s ++ [.lst ((Txt.words a).map Vl.str)]) else none
  | _, _, _ => none
/-- str(x): texts, ints, tuples -/
def oStrD : OC
  | [.str y], s => some (.str y, s)
  | [.int i], s => if i.natAbs.log2 < 1920 then some (.str (Str.ofString (toString i)), s) else none
  | [.tup xs], s => match toD 40 s (.tup xs) with
    | some d => if d.showable && decide (d.shown.length ≤ LIM) then some (.str d.shown, s) else none
    | none => none
  | _, _ => none
section
variable {X : Cx} {T : Tb} {W : WX} {a b e : Expr} {ma mb m : EM} {pos : Pos} {rest es : List Expr} {ms : List EM}
theorem ce_fmt (h : PE X e (tE T W m)) : PE X (.FormattedValue e (-1) none pos) (tE T W (eFmt m)) :=
  pe_mono (pe_fmt h) fun σ H Q h => tG_bnd h fun ρ s lo x z H1 r rl hx p => by
    unfold fmtM at p
    cases hx with
    | str y =>
      by_cases q : y.length ≤ LIM
      · simp only [if_pos q] at p
        exact .inl ⟨y, rfl, by rw [lim_eq]; exact q, p ρ H1 _ .refl r (.str y)⟩
      · simp only [if_neg q] at p
        exact p.elim
    | int i =>
      by_cases q : i.natAbs.log2 < 1920
      · simp only [if_pos q] at p
        exact .inr ⟨i, rfl, q, p ρ H1 _ .refl r (.str _)⟩
      · simp only [if_neg q] at p
        exact p.elim
    | _ => exact p.elim
theorem cj_nil : PJ X [] (([] : List EM).map (tE T W)) := .nil
theorem cj_cons (h : PE X e (tE T W m)) (r : PJ X es (ms.map (tE T W))) : PJ X (e :: es) ((m :: ms).map (tE T W)) := .cons h r
theorem jnd_le : ∀ (ms : List EM) (acc : Str) (σ : L2.St) (H : Hp) (Q : VK), tE T W (jnd ms acc) σ H Q → tJs (ms.map (tE T W)) acc σ H fun out H1 => Q (.str out) H1
  | [], acc, σ, H, Q, h => by
    obtain ⟨ρ, s, lo, r, rl, p⟩ := h
    exact po_ret (R := RV T) p r (.str acc)
  | m :: ms, acc, σ, H, Q, h => tG_bnd (f := fun lo x s => match x with | .str y => if (acc ++ y).length ≤ LIM then jnd ms (acc ++ y) lo s else .fail | _ => .fail) h fun ρ s lo x z H1 r rl hx p => by
    cases hx with
    | str y =>
      by_cases q : (acc ++ y).length ≤ LIM
      · simp only [if_pos q] at p
        exact ⟨y, rfl, by rw [lim_eq]; exact q, jnd_le ms (acc ++ y) σ H1 Q ⟨ρ, s, lo, r, rl, p⟩⟩
      · simp only [if_neg q] at p
        exact p.elim
    | _ => exact p.elim
theorem ce_jnd {v1 v2 : Expr} (h : PJ X (v1 :: v2 :: rest) (ms.map (tE T W))) : PE X (.JoinedStr (v1 :: v2 :: rest) pos) (tE T W (eJnd ms)) :=
  pe_mono (pe_joined h) fun σ H Q h => jnd_le ms _ σ H Q h
theorem ce_jnd1 (h : PE X e (tE T W m)) : PE X (.JoinedStr [e] pos) (tE T W m) := pe_joined1 h
theorem ce_orL (ha : PE X a (tE T W ma)) (hb : PE X (.BoolOp .Or (b :: rest) pos) (tE T W mb)) (hK : X.K = T.K := by rfl) : PE X (.BoolOp .Or (a :: b :: rest) pos) (tE T W (eOrL ma mb)) :=
  pe_mono (pe_orT ha hb) fun _ _ _ h => tG_bnd (f := fun lo x s => match lstOf x s with | some xs => if xs.isEmpty = true then mb lo s else .ok x s | none => .fail) h fun ρ s lo x z H1 r rl hx p => by
    cases e : lstOf x s with
    | none => rw [e] at p; exact p.elim
    | some xs =>
      rw [e] at p
      obtain ⟨q, vs, rfl, h1, h2⟩ := lstOf_ok r hx e
      refine ⟨!vs.isEmpty, .inl ⟨vs, by rw [hK]; exact SqL.of h1, rfl⟩, ?_⟩
      have hl := h2.length
      cases xs with
      | nil =>
        cases vs with
        | nil => exact ⟨ρ, s, lo, r, rl, p⟩
        | cons => simp at hl
      | cons y ys =>
        cases vs with
        | nil => simp at hl
        | cons u us =>
          exact p ρ H1 _ .refl r hx
theorem m_split0 : MtR X "str.split" (rMt T oSplit0) := MtR.imp mt_words fun x xs H Q q => by
  obtain ⟨ρ, st, a, as, w, s', r, ha, hs, e, k⟩ := q
  unfold oSplit0 at e
  split at e
  · split at e
    · rename_i hl
      cases e
      cases ha
      cases hs
      refine ⟨_, rfl, rfl, by rw [lim_eq]; exact hl, fun p hp => ?_⟩
      exact k.lst r (RVs.strs _) hp
    · cases e
  · cases e
theorem c_strD (hg : X.A.guards = some []) (hu : X.A.units + 64 < cLine) (hK : X.K = T.K := by rfl) : CallR X (.type "str") (rC T oStrD) := fun pins s σ H xs us Q I rs q => by
  obtain ⟨ρ, st, as, w, s', r, ha, e, k⟩ := q
  unfold oStrD at e
  split at e
  · cases e
    obtain ⟨z, rfl, hz⟩ := ha.one
    cases hz
    exact SkE.call_str_str pins s σ H _ us Q I rs ⟨_, rfl, k.here r (.str _)⟩
  · split at e
    · rename_i hl
      cases e
      obtain ⟨z, rfl, hz⟩ := ha.one
      cases hz
      exact call_str_int pins s σ H _ us Q I rs ⟨_, rfl, hl, k.here r (.str _)⟩
    · cases e
  · rename_i xs0
    split at e
    · rename_i d hd
      split at e
      · rename_i hb
        cases e
        obtain ⟨hs, hl⟩ := Bool.and_eq_true_iff.mp hb
        have hl := of_decide_eq_true hl
        obtain ⟨z, rfl, hz⟩ := ha.one
        obtain ⟨p1, p2⟩ := toD_dp r 40 _ z d hz hd
        have nd := dp_noDict d z p1
        have fin := k.here r (.str d.shown)
        cases rs with
        | cons r1 r2 =>
          cases r2
          rename_i u
          rw [← hK] at p1
          obtain ⟨bs, rd⟩ := Dp.reads I d z u p1 r1
          cases hz with
          | tup g1 g2 =>
            obtain rfl := r1
            exact str_of_reads rd hs (fun z => by rw [nd] at z; cases z) hg (by omega) (fun _ _ e => e) (fun h' u tk hk => ⟨.str _, H, I.kept (t' := tk) hk, ⟨_, rfl⟩, fin⟩) (by rw [lim_eq]; exact hl)
      · cases e
    · cases e
  · cases e
end
end Sm

namespace K06
open PySem PySem.Spec PyProof.Rows L2 Sm
def top (i : Nat) : Stmt := PySem.Challenge.pw_maybegone_k06_texts_of_programs.main.body.getD i (.Pass ⟨0, 0, 0, 0⟩)
abbrev st_inner_blocks : Stmt := top 1
abbrev st_test_text : Stmt := top 4
abbrev st_statement_text : Stmt := top 5
abbrev st_block_lines : Stmt := top 6
abbrev st_program_text : Stmt := top 7
abbrev st__law_deck : Stmt := top 9
abbrev st__law_draw : Stmt := top 10
abbrev st__law_one : Stmt := top 11
abbrev st__law_kept : Stmt := top 12
abbrev st__law_name : Stmt := top 13
abbrev st__law_word : Stmt := top 14
abbrev st__law_pool : Stmt := top 15
abbrev st__law_any_test : Stmt := top 16
abbrev st__law_row : Stmt := top 17
abbrev st__law_rows : Stmt := top 18
abbrev st__law_inner : Stmt := top 19
abbrev st__law_free : Stmt := top 20
abbrev st__law_blocks : Stmt := top 21
abbrev st__law_test_text : Stmt := top 22
abbrev st__law_line : Stmt := top 23
abbrev st__law_lines : Stmt := top 24
abbrev st__law_all_lines : Stmt := top 25
abbrev st_law : Stmt := top 26
/-! the pure functions -/
def b_inner_blocks : SM := (sSeq (sIf (tVal (eOp opEq (eOp opIx (eVar 0) (eC (.int 0))) (eC (.str "if")))) (sRet (eSl opSl (eVar 0) (some (eC (.int 2))) none)) sNil)
  (sRet (eIfM (tVal (eOp opEq (eOp opIx (eVar 0) (eC (.int 0))) (eC (.str "repeat")))) (eSl opSl (eVar 0) (some (eC (.int 2))) none) (eCB oTup aNil))))
def m_inner_blocks : List Vl → M Vl := fnM 1 b_inner_blocks
def b_test_text : SM := (sSeq (sSet 1 (eC (.str "")))
  (sSeq (loopW (tVal (eOp opEq (eOp opIx (eVar 0) (eC (.int 0))) (eC (.str "not")))) (sSeq (sAug 1 opIAdd (eC (.str "not ")))
  (sSet 0 (eOp opIx (eVar 0) (eC (.int 1))))) 100000)
  (sSeq (sIf (tVal (eOp opEq (eOp opIx (eVar 0) (eC (.int 0))) (eC (.str "same")))) (sRet (eJnd [(eFmt (eVar 1)), (eFmt (eOp opIx (eVar 0) (eC (.int 1)))), (eC (.str " is ")), (eFmt (eOp opIx (eVar 0) (eC (.int 2))))])) sNil)
  (sSeq (sIf (tVal (eOp opEq (eOp opIx (eVar 0) (eC (.int 0))) (eC (.str "full")))) (sRet (eJnd [(eFmt (eVar 1)), (eC (.str "full ")), (eFmt (eOp opIx (eVar 0) (eC (.int 1)))), (eC (.str ".")), (eFmt (eOp opIx (eVar 0) (eC (.int 2))))])) sNil)
  (sRet (eJnd [(eFmt (eVar 1)), (eFmt (eOp opIx (eVar 0) (eC (.int 0)))), (eC (.str " ")), (eFmt (eOp opIx (eVar 0) (eC (.int 1))))]))))))
def m_test_text : List Vl → M Vl := fnM 2 b_test_text
def b_statement_text : SM := (sSeq (sSet 1 (eOp opIx (eVar 0) (eC (.int 0))))
  (sSeq (sIf (tVal (eOp opIn (eVar 1) (eCB oTup (aCons (eC (.str "ask")) (aCons (eC (.str "if")) aNil))))) (sRet (eJnd [(eFmt (eVar 1)), (eC (.str " ")), (eFmt (eCall (arg 1 m_test_text) (aCons (eOp opIx (eVar 0) (eC (.int 1))) aNil)))])) sNil)
  (sSeq (sIf (tVal (eOp opEq (eVar 1) (eC (.str "name")))) (sRet (eJnd [(eFmt (eOp opIx (eVar 0) (eC (.int 1)))), (eC (.str " = ")), (eFmt (eOp opIx (eVar 0) (eC (.int 2))))])) sNil)
  (sSeq (sIf (tVal (eOp opEq (eVar 1) (eC (.str "take")))) (sRet (eJnd [(eFmt (eOp opIx (eVar 0) (eC (.int 1)))), (eC (.str " = ")), (eFmt (eOp opIx (eVar 0) (eC (.int 2)))), (eC (.str ".")), (eFmt (eOp opIx (eVar 0) (eC (.int 3))))])) sNil)
  (sSeq (sIf (tVal (eOp opIn (eVar 1) (eCB oTup (aCons (eC (.str "hold")) (aCons (eC (.str "weak")) aNil))))) (sSeq (sSet 2 (eIfM (tVal (eOp opEq (eVar 1) (eC (.str "hold")))) (eC (.str "=")) (eC (.str "~"))))
  (sRet (eJnd [(eFmt (eOp opIx (eVar 0) (eC (.int 1)))), (eC (.str ".")), (eFmt (eOp opIx (eVar 0) (eC (.int 2)))), (eC (.str " ")), (eFmt (eVar 2)), (eC (.str " ")), (eFmt (eOp opIx (eVar 0) (eC (.int 3))))]))) sNil)
  (sSeq (sIf (tVal (eOp opEq (eVar 1) (eC (.str "cut")))) (sRet (eJnd [(eC (.str "cut ")), (eFmt (eOp opIx (eVar 0) (eC (.int 1)))), (eC (.str ".")), (eFmt (eOp opIx (eVar 0) (eC (.int 2))))])) sNil)
  (sSeq (sIf (tVal (eOp opEq (eVar 1) (eC (.str "wish")))) (sRet (eJnd [(eC (.str "wish ")), (eFmt (eOp opIx (eVar 0) (eC (.int 1)))), (eC (.str " ")), (eFmt (eOp opIx (eVar 0) (eC (.int 2))))])) sNil)
  (sRet (eJnd [(eFmt (eVar 1)), (eC (.str " ")), (eFmt (eOp opIx (eVar 0) (eC (.int 1))))])))))))))
def m_statement_text : List Vl → M Vl := fnM 3 b_statement_text
def b_block_lines (R : Nat → List Vl → M Vl) : SM := (sSeq (sSet 2 (eCB oLst aNil))
  (sSeq (sForX (aTup (eVar 0)) (gNm 3)
  (sSeq (sExpr (eBm .list oAppend (eVar 2) (aCons (eOp opAdd (eVar 1) (eCall (arg 1 m_statement_text) (aCons (eVar 3) aNil))) aNil)))
  (sSeq (sSet 4 (eCall (arg 1 m_inner_blocks) (aCons (eVar 3) aNil)))
  (sSeq (sIf (tVal (eOp opNe (eVar 4) (eCB oTup aNil))) (sExpr (eBm .list oExtend (eVar 2) (aCons (eOrL (eCall (arg 2 (R 0)) (aCons (eOp opIx (eVar 4) (eC (.int 0))) (aCons (eOp opAdd (eVar 1) (eC (.str "  "))) aNil))) (eCB oLst (aCons (eOp opAdd (eOp opAdd (eVar 1) (eC (.str "  "))) (eC (.str "pass"))) aNil))) aNil))) sNil)
  (sIf (tAndM (tVal (eOp opEq (eCB oLen (aCons (eVar 4) aNil)) (eC (.int 2)))) (tVal (eOp opNe (eOp opIx (eVar 4) (eC (.int 1))) (eCB oTup aNil)))) (sSeq (sExpr (eBm .list oAppend (eVar 2) (aCons (eOp opAdd (eVar 1) (eC (.str "else"))) aNil)))
  (sExpr (eBm .list oExtend (eVar 2) (aCons (eCall (arg 2 (R 0)) (aCons (eOp opIx (eVar 4) (eC (.int 1))) (aCons (eOp opAdd (eVar 1) (eC (.str "  "))) aNil))) aNil)))) sNil)))))
  (sRet (eVar 2))))
def R0 : Nat → Nat → List Vl → M Vl
  | 0, _ => mFail
  | n + 1, 0 => fnM 5 (b_block_lines (R0 n))
  | _ + 1, _ => mFail
def m_block_lines : List Vl → M Vl := R0 12 0
def b_program_text : SM := (sRet (eBm .str oJoin (eC (.str "\n")) (aCons (eOp opAdd (eCB oLst (aCons (eJnd [(eC (.str "givens ")), (eFmt (eOp opIx (eVar 0) (eC (.int 0))))]) aNil)) (eCall (arg 2 m_block_lines) (aCons (eOp opIx (eVar 0) (eC (.int 1))) (aCons (eC (.str "")) aNil)))) aNil)))
def m_program_text : List Vl → M Vl := fnM 1 b_program_text
def b__law_deck : SM := (sRet (eCB oLst (aCons (eLc 100000 (iLst (eSl opSl (eVar 0) none (some (eC (.int 63))))) (glN 1) tTrue (eCB oAbs (aCons (eVar 1) aNil)) [1]) (aCons (eC (.int 0)) aNil))))
def m__law_deck : List Vl → M Vl := fnM 2 b__law_deck
def b__law_draw : SM := (sSeq (sAsg (gSb opSet (eVar 0) (eC (.int 1))) (eOp opAdd (eOp opIx (eVar 0) (eC (.int 1))) (eC (.int 1))))
  (sSeq (sAsg (gTp [3, 4]) (eCB oTup (aCons (eC (.int 0)) (aCons (eOp1 opNeg (eC (.int 1))) aNil))))
  (sSeq (sIf (tVal (eOp opGt (eCB oLen (aCons (eOp opIx (eVar 0) (eC (.int 0))) aNil)) (eC (.int 0)))) (sSeq (sSet 4 (eOp opMod (eCB oInt (aCons (eOp opIx (eVar 0) (eC (.int 1))) aNil)) (eCB oLen (aCons (eOp opIx (eVar 0) (eC (.int 0))) aNil))))
  (sSet 3 (eOp opIx (eOp opIx (eVar 0) (eC (.int 0))) (eVar 4)))) sNil)
  (sSeq (sIf (tVal (eOp opGe (eVar 3) (eOp opPow (eC (.int 10)) (eC (.int 18))))) (sSeq (sAsg (gSb opSet (eOp opIx (eVar 0) (eC (.int 0))) (eVar 4)) (eOp opFdiv (eCB oInt (aCons (eVar 3) aNil)) (eVar 1)))
  (sRet (eOp opMod (eCB oInt (aCons (eVar 3) aNil)) (eVar 1)))) sNil)
  (sSeq (sSet 2 (eOp opAdd (eOp opAdd (eOp opMod (eCB oInt (aCons (eVar 3) aNil)) (eC (.int 2147483563))) (eOp opMul (eC (.int 8117)) (eOp opIx (eVar 0) (eC (.int 1))))) (eC (.int 3))))
  (sRet (eOp opMod (eCB oInt (aCons (eOp opMod (eCB oInt (aCons (eOp opPow (eVar 2) (eC (.int 5))) aNil)) (eC (.int 2147483629))) aNil)) (eVar 1))))))))
def m__law_draw : List Vl → M Vl := fnM 5 b__law_draw
def b__law_one : SM := (sRet (eOp opIx (eVar 1) (eCall (arg 2 m__law_draw) (aCons (eVar 0) (aCons (eCB oLen (aCons (eVar 1) aNil)) aNil)))))
def m__law_one : List Vl → M Vl := fnM 2 b__law_one
def b__law_kept : SM := (sSeq (sSet 0 (eC (.str "as ask cut drop else full given hold if keep make not pass repeat same say set take weak wish wished")))
  (sRet (eBm0 .str oSplit0 (eVar 0))))
def m__law_kept : List Vl → M Vl := fnM 1 b__law_kept
def b__law_name : SM := (sSeq (sSet 1 (eC (.str "abcdefghijklmnopqrstuvwxyz")))
  (sSeq (sSet 2 (eCall (arg 2 m__law_one) (aCons (eVar 0) (aCons (eVar 1) aNil))))
  (sSeq (sForX (aRng (aCons (eCall (arg 2 m__law_one) (aCons (eVar 0) (aCons (eCB oLst (aCons (eC (.int 0)) (aCons (eC (.int 1)) (aCons (eC (.int 7)) (aCons (eCall (arg 2 m__law_draw) (aCons (eVar 0) (aCons (eC (.int 8)) aNil))) aNil))))) aNil))) aNil)) (gNm 3)
  (sSet 2 (eOp opAdd (eVar 2) (eCall (arg 2 m__law_one) (aCons (eVar 0) (aCons (eOp opAdd (eVar 1) (eC (.str "0123456789"))) aNil))))))
  (sRet (eIfM (tVal (eOp opNotIn (eVar 2) (eCall m__law_kept aNil))) (eVar 2) (eOp opAdd (eSl opSl (eVar 2) none (some (eC (.int 7)))) (eC (.str "0"))))))))
def m__law_name : List Vl → M Vl := fnM 4 b__law_name
def b__law_word : SM := (sSeq (sSet 1 (eC (.str "0123456789abcdefghijklmnopqrstuvwxyz")))
  (sRet (eBm .str oJoin (eC (.str "")) (aCons (eLcX (aRng (aCons (eCall (arg 2 m__law_one) (aCons (eVar 0) (aCons (eCB oLst (aCons (eC (.int 1)) (aCons (eC (.int 2)) (aCons (eC (.int 8)) (aCons (eOp opAdd (eC (.int 1)) (eCall (arg 2 m__law_draw) (aCons (eVar 0) (aCons (eC (.int 8)) aNil)))) aNil))))) aNil))) aNil)) (glN 2) tTrue (eCall (arg 2 m__law_one) (aCons (eVar 0) (aCons (eVar 1) aNil))) [2]) aNil))))
def m__law_word : List Vl → M Vl := fnM 3 b__law_word
def b__law_pool : SM := (sSeq (sSet 1 (eLcX (aRng (aCons (eOp opAdd (eC (.int 1)) (eCall (arg 2 m__law_draw) (aCons (eVar 0) (aCons (eC (.int 5)) aNil)))) aNil)) (glN 2) tTrue (eCall (arg 1 m__law_name) (aCons (eVar 0) aNil)) [2]))
  (sRet (eCB oLst (aCons (eVar 1) (aCons (eLcX (aRng (aCons (eOp opAdd (eC (.int 1)) (eCall (arg 2 m__law_draw) (aCons (eVar 0) (aCons (eC (.int 4)) aNil)))) aNil)) (glN 2) tTrue (eCall (arg 1 m__law_word) (aCons (eVar 0) aNil)) [2]) (aCons (eCall (arg 2 m__law_draw) (aCons (eVar 0) (aCons (eC (.int 4)) aNil))) aNil))))))
def m__law_pool : List Vl → M Vl := fnM 3 b__law_pool
def b__law_any_test : SM := (sSeq (sPar3 5 6 7 (aCons (eCall (arg 2 m__law_one) (aCons (eVar 0) (aCons (eOp opIx (eVar 1) (eC (.int 0))) aNil))) (aCons (eCall (arg 2 m__law_one) (aCons (eVar 0) (aCons (eOp opIx (eVar 1) (eC (.int 0))) aNil))) (aCons (eCall (arg 2 m__law_one) (aCons (eVar 0) (aCons (eOp opIx (eVar 1) (eC (.int 1))) aNil))) aNil))))
  (sSeq (sSet 2 (eCB oLst (aCons (eCB oTup (aCons (eC (.str "set")) (aCons (eVar 5) aNil))) (aCons (eCB oTup (aCons (eC (.str "same")) (aCons (eVar 5) (aCons (eVar 6) aNil)))) (aCons (eCB oTup (aCons (eC (.str "full")) (aCons (eVar 5) (aCons (eVar 6) aNil)))) (aCons (eCB oTup (aCons (eC (.str "wished")) (aCons (eVar 7) aNil))) aNil))))))
  (sSeq (sIf (tVal (eOp opGt (eOp opIx (eVar 1) (eC (.int 2))) (eC (.int 0)))) (sExpr (eBm .list oAppend (eVar 2) (aCons (eCB oTup (aCons (eC (.str "given")) (aCons (eCall (arg 2 m__law_draw) (aCons (eVar 0) (aCons (eOp opIx (eVar 1) (eC (.int 2))) aNil))) aNil))) aNil))) sNil)
  (sSeq (sSet 3 (eCall (arg 2 m__law_one) (aCons (eVar 0) (aCons (eVar 2) aNil))))
  (sSeq (sForX (aRng (aCons (eCall (arg 2 m__law_one) (aCons (eVar 0) (aCons (eCB oLst (aCons (eC (.int 0)) (aCons (eC (.int 0)) (aCons (eC (.int 1)) (aCons (eC (.int 2)) (aCons (eC (.int 3)) aNil)))))) aNil))) aNil)) (gNm 4)
  (sSet 3 (eCB oTup (aCons (eC (.str "not")) (aCons (eVar 3) aNil)))))
  (sRet (eVar 3)))))))
def m__law_any_test : List Vl → M Vl := fnM 8 b__law_any_test
def b__law_row : SM := (sSeq (sPar3 3 4 5 (aCons (eCall (arg 2 m__law_one) (aCons (eVar 0) (aCons (eOp opIx (eVar 1) (eC (.int 0))) aNil))) (aCons (eCall (arg 2 m__law_one) (aCons (eVar 0) (aCons (eOp opIx (eVar 1) (eC (.int 0))) aNil))) (aCons (eCall (arg 2 m__law_one) (aCons (eVar 0) (aCons (eOp opIx (eVar 1) (eC (.int 0))) aNil))) aNil))))
  (sSeq (sPar 6 7 (aCons (eCall (arg 2 m__law_one) (aCons (eVar 0) (aCons (eOp opIx (eVar 1) (eC (.int 0))) aNil))) (aCons (eCall (arg 2 m__law_one) (aCons (eVar 0) (aCons (eOp opIx (eVar 1) (eC (.int 1))) aNil))) aNil)))
  (sSeq (sSet 2 (eCB oLst (aCons (eCB oTup (aCons (eC (.str "make")) (aCons (eVar 3) aNil))) (aCons (eCB oTup (aCons (eC (.str "keep")) (aCons (eVar 3) aNil))) (aCons (eCB oTup (aCons (eC (.str "drop")) (aCons (eVar 3) aNil))) (aCons (eCB oTup (aCons (eC (.str "wish")) (aCons (eVar 3) (aCons (eVar 7) aNil)))) (aCons (eCB oTup (aCons (eC (.str "name")) (aCons (eVar 3) (aCons (eVar 4) aNil)))) (aCons (eCB oTup (aCons (eC (.str "hold")) (aCons (eVar 3) (aCons (eVar 6) (aCons (eVar 4) aNil))))) aNil))))))))
  (sSeq (sSet 2 (eOp opAdd (eVar 2) (eCB oLst (aCons (eCB oTup (aCons (eC (.str "weak")) (aCons (eVar 3) (aCons (eVar 6) (aCons (eVar 4) aNil))))) (aCons (eCB oTup (aCons (eC (.str "cut")) (aCons (eVar 3) (aCons (eVar 6) aNil)))) (aCons (eCB oTup (aCons (eC (.str "take")) (aCons (eVar 5) (aCons (eVar 3) (aCons (eVar 6) aNil))))) (aCons (eCB oTup (aCons (eC (.str "say")) (aCons (eVar 7) aNil))) aNil)))))))
  (sRet (eCall (arg 2 m__law_one) (aCons (eVar 0) (aCons (eOp opAdd (eVar 2) (eCB oLst (aCons (eCB oTup (aCons (eC (.str "ask")) (aCons (eCall (arg 2 m__law_any_test) (aCons (eVar 0) (aCons (eVar 1) aNil))) aNil))) aNil))) aNil))))))))
def m__law_row : List Vl → M Vl := fnM 8 b__law_row
def b__law_rows (R : Nat → List Vl → M Vl) : SM := (sSeq (sSet 5 (eCB oLst aNil))
  (sSeq (sForX (aRng (aCons (eCall (arg 2 m__law_draw) (aCons (eVar 0) (aCons (eIfM (tVal (eOp opEq (eVar 3) (eC (.int 0)))) (eCall (arg 2 m__law_one) (aCons (eVar 0) (aCons (eCB oLst (aCons (eC (.int 3)) (aCons (eC (.int 6)) (aCons (eC (.int 31)) aNil)))) aNil))) (eC (.int 4))) aNil))) aNil)) (gNm 6)
  (sSeq (sSet 7 (eCall (arg 2 m__law_draw) (aCons (eVar 0) (aCons (eC (.int 6)) aNil))))
  (sIf (tAndM (tVal (eOp opGt (eOp opIx (eVar 2) (eC (.int 0))) (eC (.int 0)))) (tVal (eOp opGe (eOp opIx (eVar 2) (eC (.int 1))) (eVar 4)))) (sSeq (sAsg (gTs [(gSb opSet (eVar 2) (eC (.int 0))), (gSb opSet (eVar 2) (eC (.int 1)))]) (eCB oTup (aCons (eOp opSub (eOp opIx (eVar 2) (eC (.int 0))) (eC (.int 1))) (aCons (eOp opSub (eOp opIx (eVar 2) (eC (.int 1))) (eVar 4)) aNil))))
  (sIf (tVal (eOp opLt (eVar 7) (eC (.int 4)))) (sExpr (eBm .list oAppend (eVar 5) (aCons (eCall (arg 2 m__law_row) (aCons (eVar 0) (aCons (eVar 1) aNil))) aNil))) (sIf (tVal (eOp opEq (eVar 7) (eC (.int 4)))) (sSeq (sSet 8 (eCall (arg 2 m__law_draw) (aCons (eVar 0) (aCons (eC (.int 13)) aNil))))
  (sExpr (eBm .list oAppend (eVar 5) (aCons (eCB oTup (aCons (eC (.str "repeat")) (aCons (eVar 8) (aCons (eCall (arg 5 (R 1)) (aCons (eVar 0) (aCons (eVar 1) (aCons (eVar 2) (aCons (eVar 3) (aCons (eOp opMul (eVar 4) (eVar 8)) aNil)))))) aNil)))) aNil)))) (sSeq (sPar 9 10 (aCons (eCall (arg 2 m__law_any_test) (aCons (eVar 0) (aCons (eVar 1) aNil))) (aCons (eCall (arg 5 (R 1)) (aCons (eVar 0) (aCons (eVar 1) (aCons (eVar 2) (aCons (eVar 3) (aCons (eVar 4) aNil)))))) aNil)))
  (sExpr (eBm .list oAppend (eVar 5) (aCons (eCB oTup (aCons (eC (.str "if")) (aCons (eVar 9) (aCons (eVar 10) (aCons (eCall (arg 5 (R 1)) (aCons (eVar 0) (aCons (eVar 1) (aCons (eVar 2) (aCons (eVar 3) (aCons (eVar 4) aNil)))))) aNil))))) aNil))))))) sNil)))
  (sRet (eCB oTuple (aCons (eVar 5) aNil)))))
def b__law_inner (R : Nat → List Vl → M Vl) : SM := (sRet (eIfM (tVal (eOp opLt (eVar 3) (eC (.int 4)))) (eCall (arg 5 (R 0)) (aCons (eVar 0) (aCons (eVar 1) (aCons (eVar 2) (aCons (eOp opAdd (eVar 3) (eC (.int 1))) (aCons (eVar 4) aNil)))))) (eCB oTup aNil)))
def R1 : Nat → Nat → List Vl → M Vl
  | 0, _ => mFail
  | n + 1, 0 => fnM 11 (b__law_rows (R1 n))
  | n + 1, 1 => fnM 5 (b__law_inner (R1 n))
  | _ + 1, _ => mFail
def m__law_rows : List Vl → M Vl := R1 12 0
def m__law_inner : List Vl → M Vl := R1 12 1
def b__law_free : SM := (sSeq (sSet 2 (eCall (arg 1 m__law_pool) (aCons (eVar 0) aNil)))
  (sRet (eCB oTup (aCons (eCB oTup (aCons (eOp opIx (eVar 2) (eC (.int 2))) (aCons (eCall (arg 5 m__law_rows) (aCons (eVar 0) (aCons (eVar 2) (aCons (eCB oLst (aCons (eVar 1) (aCons (eC (.int 200)) aNil))) (aCons (eC (.int 0)) (aCons (eC (.int 1)) aNil)))))) aNil))) (aCons (eVar 2) aNil)))))
def m__law_free : List Vl → M Vl := fnM 3 b__law_free
def b__law_blocks : SM := (sSeq (sSet 1 (eAndM (eCB oIsi (aCons (eVar 0) (aCons (eC (.ty "tuple")) aNil))) (eAndM (eOp opGt (eCB oLen (aCons (eVar 0) aNil)) (eC (.int 2))) (eOrM (eOp opEq (eOp opIx (eVar 0) (eC (.int 0))) (eC (.str "if"))) (eOp opEq (eOp opIx (eVar 0) (eC (.int 0))) (eC (.str "repeat")))))))
  (sRet (eIfM (tVal (eVar 1)) (eLcX (aTup (eSl opSl (eVar 0) (some (eC (.int 2))) none)) (glN 2) (tVal (eCB oIsi (aCons (eVar 2) (aCons (eC (.ty "tuple")) aNil)))) (eVar 2) [2]) (eCB oLst aNil))))
def m__law_blocks : List Vl → M Vl := fnM 3 b__law_blocks
def b__law_test_text (R : Nat → List Vl → M Vl) : SM := (sSeq (sIf (tVal (eOp opEq (eOp opIx (eVar 0) (eC (.int 0))) (eC (.str "not")))) (sRet (eOp opAdd (eC (.str "not ")) (eCall (arg 1 (R 0)) (aCons (eOp opIx (eVar 0) (eC (.int 1))) aNil)))) sNil)
  (sSeq (sIf (tVal (eOp opEq (eOp opIx (eVar 0) (eC (.int 0))) (eC (.str "same")))) (sRet (eOp opAdd (eOp opAdd (eOp opIx (eVar 0) (eC (.int 1))) (eC (.str " is "))) (eOp opIx (eVar 0) (eC (.int 2))))) sNil)
  (sSeq (sIf (tVal (eOp opEq (eOp opIx (eVar 0) (eC (.int 0))) (eC (.str "full")))) (sRet (eOp opAdd (eOp opAdd (eOp opAdd (eC (.str "full ")) (eOp opIx (eVar 0) (eC (.int 1)))) (eC (.str "."))) (eOp opIx (eVar 0) (eC (.int 2))))) sNil)
  (sRet (eOp opAdd (eOp opAdd (eOp opIx (eVar 0) (eC (.int 0))) (eC (.str " "))) (eCB oStrD (aCons (eOp opIx (eVar 0) (eC (.int 1))) aNil)))))))
def R2 : Nat → Nat → List Vl → M Vl
  | 0, _ => mFail
  | n + 1, 0 => fnM 1 (b__law_test_text (R2 n))
  | _ + 1, _ => mFail
def m__law_test_text : List Vl → M Vl := R2 12 0
def b__law_line : SM := (sSeq (sPar 1 2 (aCons (eOp opIx (eVar 0) (eC (.int 0))) (aCons (eLcX (aTup (eSl opSl (eVar 0) (some (eC (.int 1))) none)) (glN 3) tTrue (eCB oStrD (aCons (eVar 3) aNil)) [3]) aNil)))
  (sSeq (sIf (tOrM (tVal (eOp opEq (eVar 1) (eC (.str "ask")))) (tVal (eOp opEq (eVar 1) (eC (.str "if"))))) (sRet (eOp opAdd (eOp opAdd (eVar 1) (eC (.str " "))) (eCall (arg 1 m__law_test_text) (aCons (eOp opIx (eVar 0) (eC (.int 1))) aNil)))) sNil)
  (sSeq (sIf (tVal (eOp opEq (eVar 1) (eC (.str "repeat")))) (sRet (eOp opAdd (eC (.str "repeat ")) (eOp opIx (eVar 2) (eC (.int 0))))) sNil)
  (sSeq (sIf (tVal (eOp opEq (eVar 1) (eC (.str "name")))) (sRet (eOp opAdd (eOp opAdd (eOp opIx (eVar 2) (eC (.int 0))) (eC (.str " = "))) (eOp opIx (eVar 2) (eC (.int 1))))) sNil)
  (sSeq (sIf (tVal (eOp opEq (eVar 1) (eC (.str "take")))) (sRet (eOp opAdd (eOp opAdd (eOp opAdd (eOp opAdd (eOp opIx (eVar 2) (eC (.int 0))) (eC (.str " = "))) (eOp opIx (eVar 2) (eC (.int 1)))) (eC (.str "."))) (eOp opIx (eVar 2) (eC (.int 2))))) sNil)
  (sSeq (sIf (tOrM (tVal (eOp opEq (eVar 1) (eC (.str "hold")))) (tVal (eOp opEq (eVar 1) (eC (.str "weak"))))) (sRet (eOp opAdd (eOp opAdd (eOp opAdd (eOp opAdd (eOp opIx (eVar 2) (eC (.int 0))) (eC (.str "."))) (eOp opIx (eVar 2) (eC (.int 1)))) (eIfM (tVal (eOp opEq (eVar 1) (eC (.str "hold")))) (eC (.str " = ")) (eC (.str " ~ ")))) (eOp opIx (eVar 2) (eC (.int 2))))) sNil)
  (sRet (eIfM (tVal (eOp opEq (eVar 1) (eC (.str "cut")))) (eOp opAdd (eOp opAdd (eOp opAdd (eC (.str "cut ")) (eOp opIx (eVar 2) (eC (.int 0)))) (eC (.str "."))) (eOp opIx (eVar 2) (eC (.int 1)))) (eBm .str oJoin (eC (.str " ")) (aCons (eOp opAdd (eCB oLst (aCons (eVar 1) aNil)) (eVar 2)) aNil))))))))))
def m__law_line : List Vl → M Vl := fnM 4 b__law_line
def b__law_lines (R : Nat → List Vl → M Vl) : SM := (sSeq (sSet 2 (eCB oLst aNil))
  (sSeq (sForX (aTup (eVar 0)) (gNm 3)
  (sSeq (sExpr (eBm .list oAppend (eVar 2) (aCons (eOp opAdd (eVar 1) (eCall (arg 1 m__law_line) (aCons (eVar 3) aNil))) aNil)))
  (sSeq (sSet 4 (eCall (arg 1 m__law_blocks) (aCons (eVar 3) aNil)))
  (sForX (aRng (aCons (eCB oLen (aCons (eVar 4) aNil)) aNil)) (gNm 5)
  (sSeq (sSet 6 (eCall (arg 2 (R 0)) (aCons (eOp opIx (eVar 4) (eVar 5)) (aCons (eOp opAdd (eVar 1) (eC (.str "  "))) aNil))))
  (sSeq (sIf (tAndM (tVal (eOp opEq (eVar 5) (eC (.int 0)))) (tVal (eOp opEq (eVar 6) (eCB oLst aNil)))) (sSet 6 (eCB oLst (aCons (eOp opAdd (eVar 1) (eC (.str "  pass"))) aNil))) sNil)
  (sSet 2 (eOp opAdd (eOp opAdd (eVar 2) (eIfM (tAndM (tVal (eOp opEq (eVar 5) (eC (.int 1)))) (tVal (eOp opNe (eVar 6) (eCB oLst aNil)))) (eCB oLst (aCons (eOp opAdd (eVar 1) (eC (.str "else"))) aNil)) (eCB oLst aNil))) (eVar 6)))))))))
  (sRet (eVar 2))))
def R3 : Nat → Nat → List Vl → M Vl
  | 0, _ => mFail
  | n + 1, 0 => fnM 7 (b__law_lines (R3 n))
  | _ + 1, _ => mFail
def m__law_lines : List Vl → M Vl := R3 12 0
def b__law_all_lines : SM := (sRet (eOp opAdd (eCB oLst (aCons (eOp opAdd (eC (.str "givens ")) (eCB oStrD (aCons (eOp opIx (eVar 0) (eC (.int 0))) aNil))) aNil)) (eCall (arg 2 m__law_lines) (aCons (eOp opIx (eVar 0) (eC (.int 1))) (aCons (eC (.str "")) aNil)))))
def m__law_all_lines : List Vl → M Vl := fnM 1 b__law_all_lines
def b_law : SM := (sSeq (sSet 1 (eCall (arg 1 m__law_deck) (aCons (eVar 0) aNil)))
  (sSeq (sForX (aRng (aCons (eC (.int 2)) aNil)) (gNm 2)
  (sSeq (sAsg (gTp [4, 5]) (eCall (arg 2 m__law_free) (aCons (eVar 1) (aCons (eOp opAdd (eC (.int 1)) (eCall (arg 2 m__law_draw) (aCons (eVar 1) (aCons (eC (.int 30)) aNil)))) aNil))))
  (sSeq (sSet 3 (eBm .str oJoin (eC (.str "\n")) (aCons (eCall (arg 1 m__law_all_lines) (aCons (eVar 4) aNil)) aNil)))
  (sIf (tVal (eOp opNe (eCB oRepr (aCons (eCB oLst (aCons (eCall (arg 1 m_program_text) (aCons (eVar 4) aNil)) (aCons (eCall (arg 1 m_program_text) (aCons (eVar 4) aNil)) aNil))) aNil)) (eCB oRepr (aCons (eCB oLst (aCons (eVar 3) (aCons (eVar 3) aNil))) aNil)))) (sRet (eC (.bl false))) sNil))))
  (sRet (eC (.bl true)))))
def m_law : List Vl → M Vl := fnM 6 b_law
/-! what the top has left -/
structure TX (K : PySem.W.Frag) (mg : Str → Option Value) where
  f_inner_blocks : Addr
  d_inner_blocks : FuncData
  F_inner_blocks : Fun K "inner_blocks" "inner_blocks" st_inner_blocks f_inner_blocks d_inner_blocks
  b_inner_blocks : Binds K d_inner_blocks ["statement"] []
  g_inner_blocks : mg "inner_blocks" = some (.ref f_inner_blocks)
  f_test_text : Addr
  d_test_text : FuncData
  F_test_text : Fun K "test_text" "test_text" st_test_text f_test_text d_test_text
  b_test_text : Binds K d_test_text ["test"] []
  g_test_text : mg "test_text" = some (.ref f_test_text)
  f_statement_text : Addr
  d_statement_text : FuncData
  F_statement_text : Fun K "statement_text" "statement_text" st_statement_text f_statement_text d_statement_text
  b_statement_text : Binds K d_statement_text ["statement"] []
  g_statement_text : mg "statement_text" = some (.ref f_statement_text)
  f_block_lines : Addr
  d_block_lines : FuncData
  F_block_lines : Fun K "block_lines" "block_lines" st_block_lines f_block_lines d_block_lines
  b_block_lines : Binds K d_block_lines ["block", "ahead"] []
  g_block_lines : mg "block_lines" = some (.ref f_block_lines)
  f_program_text : Addr
  d_program_text : FuncData
  F_program_text : Fun K "program_text" "program_text" st_program_text f_program_text d_program_text
  b_program_text : Binds K d_program_text ["program"] []
  g_program_text : mg "program_text" = some (.ref f_program_text)
  f__law_deck : Addr
  d__law_deck : FuncData
  F__law_deck : Fun K "_law_deck" "_law_deck" st__law_deck f__law_deck d__law_deck
  b__law_deck : Binds K d__law_deck ["_law_script"] []
  g__law_deck : mg "_law_deck" = some (.ref f__law_deck)
  f__law_draw : Addr
  d__law_draw : FuncData
  F__law_draw : Fun K "_law_draw" "_law_draw" st__law_draw f__law_draw d__law_draw
  b__law_draw : Binds K d__law_draw ["_law_deck_here", "_law_many"] []
  g__law_draw : mg "_law_draw" = some (.ref f__law_draw)
  f__law_one : Addr
  d__law_one : FuncData
  F__law_one : Fun K "_law_one" "_law_one" st__law_one f__law_one d__law_one
  b__law_one : Binds K d__law_one ["_law_deck_here", "_law_items"] []
  g__law_one : mg "_law_one" = some (.ref f__law_one)
  f__law_kept : Addr
  d__law_kept : FuncData
  F__law_kept : Fun K "_law_kept" "_law_kept" st__law_kept f__law_kept d__law_kept
  b__law_kept : Binds K d__law_kept [] []
  g__law_kept : mg "_law_kept" = some (.ref f__law_kept)
  f__law_name : Addr
  d__law_name : FuncData
  F__law_name : Fun K "_law_name" "_law_name" st__law_name f__law_name d__law_name
  b__law_name : Binds K d__law_name ["_law_deck_here"] []
  g__law_name : mg "_law_name" = some (.ref f__law_name)
  f__law_word : Addr
  d__law_word : FuncData
  F__law_word : Fun K "_law_word" "_law_word" st__law_word f__law_word d__law_word
  b__law_word : Binds K d__law_word ["_law_deck_here"] []
  g__law_word : mg "_law_word" = some (.ref f__law_word)
  f__law_pool : Addr
  d__law_pool : FuncData
  F__law_pool : Fun K "_law_pool" "_law_pool" st__law_pool f__law_pool d__law_pool
  b__law_pool : Binds K d__law_pool ["_law_deck_here"] []
  g__law_pool : mg "_law_pool" = some (.ref f__law_pool)
  f__law_any_test : Addr
  d__law_any_test : FuncData
  F__law_any_test : Fun K "_law_any_test" "_law_any_test" st__law_any_test f__law_any_test d__law_any_test
  b__law_any_test : Binds K d__law_any_test ["_law_deck_here", "_law_pool_here"] []
  g__law_any_test : mg "_law_any_test" = some (.ref f__law_any_test)
  f__law_row : Addr
  d__law_row : FuncData
  F__law_row : Fun K "_law_row" "_law_row" st__law_row f__law_row d__law_row
  b__law_row : Binds K d__law_row ["_law_deck_here", "_law_pool_here"] []
  g__law_row : mg "_law_row" = some (.ref f__law_row)
  f__law_rows : Addr
  d__law_rows : FuncData
  F__law_rows : Fun K "_law_rows" "_law_rows" st__law_rows f__law_rows d__law_rows
  b__law_rows : Binds K d__law_rows ["_law_deck_here", "_law_pool_here", "_law_left", "_law_depth", "_law_times"] []
  g__law_rows : mg "_law_rows" = some (.ref f__law_rows)
  f__law_inner : Addr
  d__law_inner : FuncData
  F__law_inner : Fun K "_law_inner" "_law_inner" st__law_inner f__law_inner d__law_inner
  b__law_inner : Binds K d__law_inner ["_law_deck_here", "_law_pool_here", "_law_left", "_law_depth", "_law_times"] []
  g__law_inner : mg "_law_inner" = some (.ref f__law_inner)
  f__law_free : Addr
  d__law_free : FuncData
  F__law_free : Fun K "_law_free" "_law_free" st__law_free f__law_free d__law_free
  b__law_free : Binds K d__law_free ["_law_deck_here", "_law_most"] []
  g__law_free : mg "_law_free" = some (.ref f__law_free)
  f__law_blocks : Addr
  d__law_blocks : FuncData
  F__law_blocks : Fun K "_law_blocks" "_law_blocks" st__law_blocks f__law_blocks d__law_blocks
  b__law_blocks : Binds K d__law_blocks ["_law_row_here"] []
  g__law_blocks : mg "_law_blocks" = some (.ref f__law_blocks)
  f__law_test_text : Addr
  d__law_test_text : FuncData
  F__law_test_text : Fun K "_law_test_text" "_law_test_text" st__law_test_text f__law_test_text d__law_test_text
  b__law_test_text : Binds K d__law_test_text ["_law_test"] []
  g__law_test_text : mg "_law_test_text" = some (.ref f__law_test_text)
  f__law_line : Addr
  d__law_line : FuncData
  F__law_line : Fun K "_law_line" "_law_line" st__law_line f__law_line d__law_line
  b__law_line : Binds K d__law_line ["_law_row_here"] []
  g__law_line : mg "_law_line" = some (.ref f__law_line)
  f__law_lines : Addr
  d__law_lines : FuncData
  F__law_lines : Fun K "_law_lines" "_law_lines" st__law_lines f__law_lines d__law_lines
  b__law_lines : Binds K d__law_lines ["_law_block", "_law_ahead"] []
  g__law_lines : mg "_law_lines" = some (.ref f__law_lines)
  f__law_all_lines : Addr
  d__law_all_lines : FuncData
  F__law_all_lines : Fun K "_law_all_lines" "_law_all_lines" st__law_all_lines f__law_all_lines d__law_all_lines
  b__law_all_lines : Binds K d__law_all_lines ["_law_program"] []
  g__law_all_lines : mg "_law_all_lines" = some (.ref f__law_all_lines)
  f_law : Addr
  d_law : FuncData
  F_law : Fun K "law" "law" st_law f_law d_law
  b_law : Binds K d_law ["_law_script"] []
  g_law : mg "law" = some (.ref f_law)
  t_STEP : Tok
  g_STEP : mg "STEP" = some (.str "  " t_STEP)
  n_abs : mg "abs" = none
  n_int : mg "int" = none
  n_isinstance : mg "isinstance" = none
  n_len : mg "len" = none
  n_range : mg "range" = none
  n_repr : mg "repr" = none
  n_str : mg "str" = none
  n_tuple : mg "tuple" = none
def TX.T {K : PySem.W.Frag} {mg : Str → Option Value} (X : TX K mg) (w : World) : Tb := ⟨K, w, [], []⟩
/-! each def computes its pure function -/
theorem sc_inner_blocks : FnScope ["statement"] ["statement"] (defScope st_inner_blocks) := ⟨rfl, rfl, rfl, by decide +kernel, rfl, by decide +kernel, by decide +kernel⟩
theorem sim_inner_blocks {P : Program} {w : World} {K : PySem.W.Frag} {mg : Str → Option Value} {base : Heap} (X : TX K mg) : FnG P w K mg base 1 X.f_inner_blocks X.d_inner_blocks ["statement"] (SpM (X.T w) 1 m_inner_blocks) := by
  refine fn_sim (k := 0) (N := ["statement"]) (T := X.T w) (b := b_inner_blocks) X.F_inner_blocks sc_inner_blocks rfl fun cdv A outer s H E hr hg => ?_
  have tk := takes_of (X := cxOf (L2.CX P w) P w K mg base ["statement"] "inner_blocks" (defScope st_inner_blocks) X.f_inner_blocks cdv A outer s H E) (E := E) rfl rfl rfl rfl
  unfold b_inner_blocks
  exact (cs_cons (cs_if (ct_cmp (o_eq hr.units) (ce_ix (o_ix (hu_of hr)) (ce_var 0) ce_int) ce_str) (cs_one (cs_ret (ce_slice o_sl (ce_var 0) (co_some ce_int) co_none))) cs_nil)
  (cs_one (cs_ret (ce_if (ct_cmp (o_eq hr.units) (ce_ix (o_ix (hu_of hr)) (ce_var 0) ce_int) ce_str) (ce_slice o_sl (ce_var 0) (co_some ce_int) co_none) (ce_tup ca_nil)))))
theorem sc_test_text : FnScope ["test", "nots"] ["test"] (defScope st_test_text) := ⟨rfl, rfl, rfl, by decide +kernel, rfl, by decide +kernel, by decide +kernel⟩
theorem sim_test_text {P : Program} {w : World} {K : PySem.W.Frag} {mg : Str → Option Value} {base : Heap} (X : TX K mg) : FnG P w K mg base 1 X.f_test_text X.d_test_text ["test"] (SpM (X.T w) 1 m_test_text) := by
  refine fn_sim (k := 0) (N := ["test", "nots"]) (T := X.T w) (b := b_test_text) X.F_test_text sc_test_text rfl fun cdv A outer s H E hr hg => ?_
  have tk := takes_of (X := cxOf (L2.CX P w) P w K mg base ["test", "nots"] "test_text" (defScope st_test_text) X.f_test_text cdv A outer s H E) (E := E) rfl rfl rfl rfl
  unfold b_test_text
  exact (cs_cons (cs_set (i := 1) sc_test_text.nd rfl (by first | exact Or.inl rfl | exact Or.inr rfl) ce_str)
  (cs_cons (cs_while 100000 (passes_of rfl) (ct_cmp (o_eq hr.units) (ce_ix (o_ix (hu_of hr)) (ce_var 0) ce_int) ce_str) (cs_cons (cs_aug (i := 1) sc_test_text.nd rfl (by first | exact Or.inl rfl | exact Or.inr rfl) io_add ce_str)
  (cs_one (cs_set (i := 0) sc_test_text.nd rfl (by first | exact Or.inl rfl | exact Or.inr rfl) (ce_ix (o_ix (hu_of hr)) (ce_var 0) ce_int)))))
  (cs_cons (cs_if (ct_cmp (o_eq hr.units) (ce_ix (o_ix (hu_of hr)) (ce_var 0) ce_int) ce_str) (cs_one (cs_ret (ce_jnd (cj_cons (m := (eFmt (eVar 1))) (ce_fmt (ce_var 1)) (cj_cons (m := (eFmt (eOp opIx (eVar 0) (eC (.int 1))))) (ce_fmt (ce_ix (o_ix (hu_of hr)) (ce_var 0) ce_int)) (cj_cons (m := (eC (.str " is "))) ce_str (cj_cons (m := (eFmt (eOp opIx (eVar 0) (eC (.int 2))))) (ce_fmt (ce_ix (o_ix (hu_of hr)) (ce_var 0) ce_int)) cj_nil))))))) cs_nil)
  (cs_cons (cs_if (ct_cmp (o_eq hr.units) (ce_ix (o_ix (hu_of hr)) (ce_var 0) ce_int) ce_str) (cs_one (cs_ret (ce_jnd (cj_cons (m := (eFmt (eVar 1))) (ce_fmt (ce_var 1)) (cj_cons (m := (eC (.str "full "))) ce_str (cj_cons (m := (eFmt (eOp opIx (eVar 0) (eC (.int 1))))) (ce_fmt (ce_ix (o_ix (hu_of hr)) (ce_var 0) ce_int)) (cj_cons (m := (eC (.str "."))) ce_str (cj_cons (m := (eFmt (eOp opIx (eVar 0) (eC (.int 2))))) (ce_fmt (ce_ix (o_ix (hu_of hr)) (ce_var 0) ce_int)) cj_nil)))))))) cs_nil)
  (cs_one (cs_ret (ce_jnd (cj_cons (m := (eFmt (eVar 1))) (ce_fmt (ce_var 1)) (cj_cons (m := (eFmt (eOp opIx (eVar 0) (eC (.int 0))))) (ce_fmt (ce_ix (o_ix (hu_of hr)) (ce_var 0) ce_int)) (cj_cons (m := (eC (.str " "))) ce_str (cj_cons (m := (eFmt (eOp opIx (eVar 0) (eC (.int 1))))) (ce_fmt (ce_ix (o_ix (hu_of hr)) (ce_var 0) ce_int)) cj_nil)))))))))))
theorem sc_statement_text : FnScope ["statement", "word", "sign"] ["statement"] (defScope st_statement_text) := ⟨rfl, rfl, rfl, by decide +kernel, rfl, by decide +kernel, by decide +kernel⟩
theorem sim_statement_text {P : Program} {w : World} {K : PySem.W.Frag} {mg : Str → Option Value} {base : Heap} (X : TX K mg) : FnG P w K mg base 2 X.f_statement_text X.d_statement_text ["statement"] (SpM (X.T w) 1 m_statement_text) := by
  refine fn_sim (k := 1) (N := ["statement", "word", "sign"]) (T := X.T w) (b := b_statement_text) X.F_statement_text sc_statement_text rfl fun cdv A outer s H E hr hg => ?_
  have tk := takes_of (X := cxOf (L2.CX P w) P w K mg base ["statement", "word", "sign"] "statement_text" (defScope st_statement_text) X.f_statement_text cdv A outer s H E) (E := E) rfl rfl rfl rfl
  unfold b_statement_text
  exact (cs_cons (cs_set (i := 1) sc_statement_text.nd rfl (by first | exact Or.inl rfl | exact Or.inr rfl) (ce_ix (o_ix (hu_of hr)) (ce_var 0) ce_int))
  (cs_cons (cs_if (ct_cmp (o_in (hu_of hr)) (ce_var 1) (ce_tup (ca_cons ce_str (ca_cons ce_str ca_nil)))) (cs_one (cs_ret (ce_jnd (cj_cons (m := (eFmt (eVar 1))) (ce_fmt (ce_var 1)) (cj_cons (m := (eC (.str " "))) ce_str (cj_cons (m := (eFmt (eCall (arg 1 m_test_text) (aCons (eOp opIx (eVar 0) (eC (.int 1))) aNil)))) (ce_fmt (ce_call (sim_test_text X) (hr.mono (by decide)) hg rfl X.g_test_text X.F_test_text.kp X.b_test_text tk (ca_cons (ce_ix (o_ix (hu_of hr)) (ce_var 0) ce_int) ca_nil))) cj_nil)))))) cs_nil)
  (cs_cons (cs_if (ct_cmp (o_eq hr.units) (ce_var 1) ce_str) (cs_one (cs_ret (ce_jnd (cj_cons (m := (eFmt (eOp opIx (eVar 0) (eC (.int 1))))) (ce_fmt (ce_ix (o_ix (hu_of hr)) (ce_var 0) ce_int)) (cj_cons (m := (eC (.str " = "))) ce_str (cj_cons (m := (eFmt (eOp opIx (eVar 0) (eC (.int 2))))) (ce_fmt (ce_ix (o_ix (hu_of hr)) (ce_var 0) ce_int)) cj_nil)))))) cs_nil)
  (cs_cons (cs_if (ct_cmp (o_eq hr.units) (ce_var 1) ce_str) (cs_one (cs_ret (ce_jnd (cj_cons (m := (eFmt (eOp opIx (eVar 0) (eC (.int 1))))) (ce_fmt (ce_ix (o_ix (hu_of hr)) (ce_var 0) ce_int)) (cj_cons (m := (eC (.str " = "))) ce_str (cj_cons (m := (eFmt (eOp opIx (eVar 0) (eC (.int 2))))) (ce_fmt (ce_ix (o_ix (hu_of hr)) (ce_var 0) ce_int)) (cj_cons (m := (eC (.str "."))) ce_str (cj_cons (m := (eFmt (eOp opIx (eVar 0) (eC (.int 3))))) (ce_fmt (ce_ix (o_ix (hu_of hr)) (ce_var 0) ce_int)) cj_nil)))))))) cs_nil)
  (cs_cons (cs_if (ct_cmp (o_in (hu_of hr)) (ce_var 1) (ce_tup (ca_cons ce_str (ca_cons ce_str ca_nil)))) (cs_cons (cs_set (i := 2) sc_statement_text.nd rfl (by first | exact Or.inl rfl | exact Or.inr rfl) (ce_if (ct_cmp (o_eq hr.units) (ce_var 1) ce_str) ce_str ce_str))
  (cs_one (cs_ret (ce_jnd (cj_cons (m := (eFmt (eOp opIx (eVar 0) (eC (.int 1))))) (ce_fmt (ce_ix (o_ix (hu_of hr)) (ce_var 0) ce_int)) (cj_cons (m := (eC (.str "."))) ce_str (cj_cons (m := (eFmt (eOp opIx (eVar 0) (eC (.int 2))))) (ce_fmt (ce_ix (o_ix (hu_of hr)) (ce_var 0) ce_int)) (cj_cons (m := (eC (.str " "))) ce_str (cj_cons (m := (eFmt (eVar 2))) (ce_fmt (ce_var 2)) (cj_cons (m := (eC (.str " "))) ce_str (cj_cons (m := (eFmt (eOp opIx (eVar 0) (eC (.int 3))))) (ce_fmt (ce_ix (o_ix (hu_of hr)) (ce_var 0) ce_int)) cj_nil))))))))))) cs_nil)
  (cs_cons (cs_if (ct_cmp (o_eq hr.units) (ce_var 1) ce_str) (cs_one (cs_ret (ce_jnd (cj_cons (m := (eC (.str "cut "))) ce_str (cj_cons (m := (eFmt (eOp opIx (eVar 0) (eC (.int 1))))) (ce_fmt (ce_ix (o_ix (hu_of hr)) (ce_var 0) ce_int)) (cj_cons (m := (eC (.str "."))) ce_str (cj_cons (m := (eFmt (eOp opIx (eVar 0) (eC (.int 2))))) (ce_fmt (ce_ix (o_ix (hu_of hr)) (ce_var 0) ce_int)) cj_nil))))))) cs_nil)
  (cs_cons (cs_if (ct_cmp (o_eq hr.units) (ce_var 1) ce_str) (cs_one (cs_ret (ce_jnd (cj_cons (m := (eC (.str "wish "))) ce_str (cj_cons (m := (eFmt (eOp opIx (eVar 0) (eC (.int 1))))) (ce_fmt (ce_ix (o_ix (hu_of hr)) (ce_var 0) ce_int)) (cj_cons (m := (eC (.str " "))) ce_str (cj_cons (m := (eFmt (eOp opIx (eVar 0) (eC (.int 2))))) (ce_fmt (ce_ix (o_ix (hu_of hr)) (ce_var 0) ce_int)) cj_nil))))))) cs_nil)
  (cs_one (cs_ret (ce_jnd (cj_cons (m := (eFmt (eVar 1))) (ce_fmt (ce_var 1)) (cj_cons (m := (eC (.str " "))) ce_str (cj_cons (m := (eFmt (eOp opIx (eVar 0) (eC (.int 1))))) (ce_fmt (ce_ix (o_ix (hu_of hr)) (ce_var 0) ce_int)) cj_nil)))))))))))))
theorem sc_block_lines : FnScope ["block", "ahead", "lines", "statement", "blocks"] ["block", "ahead"] (defScope st_block_lines) := ⟨rfl, rfl, rfl, by decide +kernel, rfl, by decide +kernel, by decide +kernel⟩
theorem sims0 {P : Program} {w : World} {K : PySem.W.Frag} {mg : Str → Option Value} {base : Heap} (X : TX K mg) : ∀ n : Nat, FnG P w K mg base (2 + 1 * n) X.f_block_lines X.d_block_lines ["block", "ahead"] (SpM (X.T w) 2 (R0 n 0))
  | 0 => fnG_fail
  | n + 1 => by
    have ih_block_lines := sims0 (P := P) (w := w) (base := base) X n
    · refine fn_sim (k := 2 + 1 * n + 0) (N := ["block", "ahead", "lines", "statement", "blocks"]) (T := X.T w) (b := b_block_lines (R0 n)) X.F_block_lines sc_block_lines rfl fun cdv A outer s H E hr hg => ?_
      have tk := takes_of (X := cxOf (L2.CX P w) P w K mg base ["block", "ahead", "lines", "statement", "blocks"] "block_lines" (defScope st_block_lines) X.f_block_lines cdv A outer s H E) (E := E) rfl rfl rfl rfl
      unfold b_block_lines
      exact (cs_cons (cs_set (i := 2) sc_block_lines.nd rfl (by first | exact Or.inl rfl | exact Or.inr rfl) (ce_lst ca_nil))
  (cs_cons (cs_forX (passes_of rfl) rfl (ci_tup (ce_var 0)) (cg_name (n := 3) sc_block_lines.nd rfl (by first | exact Or.inl rfl | exact Or.inr rfl))
  (cs_cons (cs_expr (ce_bm (t := .list) PySem.F.plainAttrs_list PySem.F.slot_list_append PySem.F.type_list_append m_append (ce_var 2) (ca_cons (ce_op o_add (ce_var 1) (ce_call (sim_statement_text X) (hr.mono (by omega)) hg rfl X.g_statement_text X.F_statement_text.kp X.b_statement_text tk (ca_cons (ce_var 3) ca_nil))) ca_nil)))
  (cs_cons (cs_set (i := 4) sc_block_lines.nd rfl (by first | exact Or.inl rfl | exact Or.inr rfl) (ce_call (sim_inner_blocks X) (hr.mono (by omega)) hg rfl X.g_inner_blocks X.F_inner_blocks.kp X.b_inner_blocks tk (ca_cons (ce_var 3) ca_nil)))
  (cs_cons (cs_if (ct_cmp (o_ne hr.units) (ce_var 4) (ce_tup ca_nil)) (cs_one (cs_expr (ce_bm (t := .list) PySem.F.plainAttrs_list PySem.F.slot_list_extend PySem.F.type_list_extend m_extend (ce_var 2) (ca_cons (ce_orL (ce_call ih_block_lines (hr.mono (by omega)) hg rfl X.g_block_lines X.F_block_lines.kp X.b_block_lines tk (ca_cons (ce_ix (o_ix (hu_of hr)) (ce_var 4) ce_int) (ca_cons (ce_op o_add (ce_var 1) (ce_of (z := .str "  ") (pe_glob rfl X.g_STEP ⟨_, rfl⟩) fun _ _ => .str _)) ca_nil))) (ce_one (ce_lst (ca_cons (ce_op o_add (ce_op o_add (ce_var 1) (ce_of (z := .str "  ") (pe_glob rfl X.g_STEP ⟨_, rfl⟩) fun _ _ => .str _)) ce_str) ca_nil)))) ca_nil)))) cs_nil)
  (cs_one (cs_if (PW.pt (cw_and (ct_cmp (o_eq hr.units) (ce_callB (c_len) rfl X.n_len (by decide +kernel) (ca_cons (ce_var 4) ca_nil)) ce_int) (cw_and1 (ct_cmp (o_ne hr.units) (ce_ix (o_ix (hu_of hr)) (ce_var 4) ce_int) (ce_tup ca_nil))))) (cs_cons (cs_expr (ce_bm (t := .list) PySem.F.plainAttrs_list PySem.F.slot_list_append PySem.F.type_list_append m_append (ce_var 2) (ca_cons (ce_op o_add (ce_var 1) ce_str) ca_nil)))
  (cs_one (cs_expr (ce_bm (t := .list) PySem.F.plainAttrs_list PySem.F.slot_list_extend PySem.F.type_list_extend m_extend (ce_var 2) (ca_cons (ce_call ih_block_lines (hr.mono (by omega)) hg rfl X.g_block_lines X.F_block_lines.kp X.b_block_lines tk (ca_cons (ce_ix (o_ix (hu_of hr)) (ce_var 4) ce_int) (ca_cons (ce_op o_add (ce_var 1) (ce_of (z := .str "  ") (pe_glob rfl X.g_STEP ⟨_, rfl⟩) fun _ _ => .str _)) ca_nil))) ca_nil))))) cs_nil))))))
  (cs_one (cs_ret (ce_var 2)))))
theorem sim_block_lines {P : Program} {w : World} {K : PySem.W.Frag} {mg : Str → Option Value} {base : Heap} (X : TX K mg) : FnG P w K mg base 14 X.f_block_lines X.d_block_lines ["block", "ahead"] (SpM (X.T w) 2 m_block_lines) := (sims0 (P := P) (w := w) (base := base) X 12)
theorem sc_program_text : FnScope ["program"] ["program"] (defScope st_program_text) := ⟨rfl, rfl, rfl, by decide +kernel, rfl, by decide +kernel, by decide +kernel⟩
theorem sim_program_text {P : Program} {w : World} {K : PySem.W.Frag} {mg : Str → Option Value} {base : Heap} (X : TX K mg) : FnG P w K mg base 15 X.f_program_text X.d_program_text ["program"] (SpM (X.T w) 1 m_program_text) := by
  refine fn_sim (k := 14) (N := ["program"]) (T := X.T w) (b := b_program_text) X.F_program_text sc_program_text rfl fun cdv A outer s H E hr hg => ?_
  have tk := takes_of (X := cxOf (L2.CX P w) P w K mg base ["program"] "program_text" (defScope st_program_text) X.f_program_text cdv A outer s H E) (E := E) rfl rfl rfl rfl
  unfold b_program_text
  exact (cs_one (cs_ret (ce_bm (t := .str) PySem.F.plainAttrs_str PySem.F.slot_str_join PySem.F.type_str_join m_join ce_str (ca_cons (ce_op o_add (ce_lst (ca_cons (ce_jnd (cj_cons (m := (eC (.str "givens "))) ce_str (cj_cons (m := (eFmt (eOp opIx (eVar 0) (eC (.int 0))))) (ce_fmt (ce_ix (o_ix (hu_of hr)) (ce_var 0) ce_int)) cj_nil))) ca_nil)) (ce_call (sim_block_lines X) (hr.mono (by decide)) hg rfl X.g_block_lines X.F_block_lines.kp X.b_block_lines tk (ca_cons (ce_ix (o_ix (hu_of hr)) (ce_var 0) ce_int) (ca_cons ce_str ca_nil)))) ca_nil))))
theorem sc__law_deck : FnScope ["_law_script", "_law_cell"] ["_law_script"] (defScope st__law_deck) := ⟨rfl, rfl, rfl, by decide +kernel, rfl, by decide +kernel, by decide +kernel⟩
theorem sim__law_deck {P : Program} {w : World} {K : PySem.W.Frag} {mg : Str → Option Value} {base : Heap} (X : TX K mg) : FnG P w K mg base 1 X.f__law_deck X.d__law_deck ["_law_script"] (SpM (X.T w) 1 m__law_deck) := by
  refine fn_sim (k := 0) (N := ["_law_script", "_law_cell"]) (T := X.T w) (b := b__law_deck) X.F__law_deck sc__law_deck rfl fun cdv A outer s H E hr hg => ?_
  have tk := takes_of (X := cxOf (L2.CX P w) P w K mg base ["_law_script", "_law_cell"] "_law_deck" (defScope st__law_deck) X.f__law_deck cdv A outer s H E) (E := E) rfl rfl rfl rfl
  unfold b__law_deck
  exact (cs_one (cs_ret (ce_lst (ca_cons (ce_lc (own := [("_law_cell", 1)]) 100000 rfl sc__law_deck.nd (ci_lst (ce_slice o_sl (ce_var 0) co_none (co_some ce_int))) (blkOk_by (by kernel_rfl)) (tg_name (List.mem_cons_self ..)) (fun _ _ _ _ _ => pg_name (i := 1) sc__law_deck.nd rfl (Or.inl rfl)) (fun _ _ _ _ _ => cts_nil) (fun _ _ _ _ _ => (ce_callB (c_abs) rfl X.n_abs (by decide +kernel) (ca_cons (ce_var 1) ca_nil)))) (ca_cons ce_int ca_nil)))))
theorem sc__law_draw : FnScope ["_law_deck_here", "_law_many", "_law_mixed", "_law_cell", "_law_at"] ["_law_deck_here", "_law_many"] (defScope st__law_draw) := ⟨rfl, rfl, rfl, by decide +kernel, rfl, by decide +kernel, by decide +kernel⟩
theorem sim__law_draw {P : Program} {w : World} {K : PySem.W.Frag} {mg : Str → Option Value} {base : Heap} (X : TX K mg) : FnG P w K mg base 1 X.f__law_draw X.d__law_draw ["_law_deck_here", "_law_many"] (SpM (X.T w) 2 m__law_draw) := by
  refine fn_sim (k := 0) (N := ["_law_deck_here", "_law_many", "_law_mixed", "_law_cell", "_law_at"]) (T := X.T w) (b := b__law_draw) X.F__law_draw sc__law_draw rfl fun cdv A outer s H E hr hg => ?_
  have tk := takes_of (X := cxOf (L2.CX P w) P w K mg base ["_law_deck_here", "_law_many", "_law_mixed", "_law_cell", "_law_at"] "_law_draw" (defScope st__law_draw) X.f__law_draw cdv A outer s H E) (E := E) rfl rfl rfl rfl
  unfold b__law_draw
  exact (cs_cons (cs_asg (ce_op o_add (ce_ix (o_ix (hu_of hr)) (ce_var 0) ce_int) ce_int) (cg_sub (ce_var 0) ce_int (p_set (hu_of hr)) (pg_sub (ce_var 0) ce_int (p_set (hu_of hr)))))
  (cs_cons (cs_asg (ce_tup (ca_cons ce_int (ca_cons (ce_un o_neg ce_int) ca_nil))) (cg_tup (js := [3, 4]) (pg_tup rfl (pgs_cons (pg_name (i := 3) sc__law_draw.nd rfl (by first | exact Or.inl rfl | exact Or.inr rfl)) (pgs_cons (pg_name (i := 4) sc__law_draw.nd rfl (by first | exact Or.inl rfl | exact Or.inr rfl)) pgs_nil)))))
  (cs_cons (cs_if (ct_cmp o_gt (ce_callB (c_len) rfl X.n_len (by decide +kernel) (ca_cons (ce_ix (o_ix (hu_of hr)) (ce_var 0) ce_int) ca_nil)) ce_int) (cs_cons (cs_set (i := 4) sc__law_draw.nd rfl (by first | exact Or.inl rfl | exact Or.inr rfl) (ce_op o_mod (ce_callTy (c_int) rfl X.n_int (by decide +kernel) (ca_cons (ce_ix (o_ix (hu_of hr)) (ce_var 0) ce_int) ca_nil)) (ce_callB (c_len) rfl X.n_len (by decide +kernel) (ca_cons (ce_ix (o_ix (hu_of hr)) (ce_var 0) ce_int) ca_nil))))
  (cs_one (cs_set (i := 3) sc__law_draw.nd rfl (by first | exact Or.inl rfl | exact Or.inr rfl) (ce_ix (o_ix (hu_of hr)) (ce_ix (o_ix (hu_of hr)) (ce_var 0) ce_int) (ce_var 4))))) cs_nil)
  (cs_cons (cs_if (ct_cmp o_ge (ce_var 3) (ce_op o_pow ce_int ce_int)) (cs_cons (cs_asg (ce_op o_fdiv (ce_callTy (c_int) rfl X.n_int (by decide +kernel) (ca_cons (ce_var 3) ca_nil)) (ce_var 1)) (cg_sub (ce_ix (o_ix (hu_of hr)) (ce_var 0) ce_int) (ce_var 4) (p_set (hu_of hr)) (pg_sub (ce_ix (o_ix (hu_of hr)) (ce_var 0) ce_int) (ce_var 4) (p_set (hu_of hr)))))
  (cs_one (cs_ret (ce_op o_mod (ce_callTy (c_int) rfl X.n_int (by decide +kernel) (ca_cons (ce_var 3) ca_nil)) (ce_var 1))))) cs_nil)
  (cs_cons (cs_set (i := 2) sc__law_draw.nd rfl (by first | exact Or.inl rfl | exact Or.inr rfl) (ce_op o_add (ce_op o_add (ce_op o_mod (ce_callTy (c_int) rfl X.n_int (by decide +kernel) (ca_cons (ce_var 3) ca_nil)) ce_int) (ce_op o_mul ce_int (ce_ix (o_ix (hu_of hr)) (ce_var 0) ce_int))) ce_int))
  (cs_one (cs_ret (ce_op o_mod (ce_callTy (c_int) rfl X.n_int (by decide +kernel) (ca_cons (ce_op o_mod (ce_callTy (c_int) rfl X.n_int (by decide +kernel) (ca_cons (ce_op o_pow (ce_var 2) ce_int) ca_nil)) ce_int) ca_nil)) (ce_var 1)))))))))
theorem sc__law_one : FnScope ["_law_deck_here", "_law_items"] ["_law_deck_here", "_law_items"] (defScope st__law_one) := ⟨rfl, rfl, rfl, by decide +kernel, rfl, by decide +kernel, by decide +kernel⟩
theorem sim__law_one {P : Program} {w : World} {K : PySem.W.Frag} {mg : Str → Option Value} {base : Heap} (X : TX K mg) : FnG P w K mg base 2 X.f__law_one X.d__law_one ["_law_deck_here", "_law_items"] (SpM (X.T w) 2 m__law_one) := by
  refine fn_sim (k := 1) (N := ["_law_deck_here", "_law_items"]) (T := X.T w) (b := b__law_one) X.F__law_one sc__law_one rfl fun cdv A outer s H E hr hg => ?_
  have tk := takes_of (X := cxOf (L2.CX P w) P w K mg base ["_law_deck_here", "_law_items"] "_law_one" (defScope st__law_one) X.f__law_one cdv A outer s H E) (E := E) rfl rfl rfl rfl
  unfold b__law_one
  exact (cs_one (cs_ret (ce_ix (o_ix (hu_of hr)) (ce_var 1) (ce_call (sim__law_draw X) (hr.mono (by decide)) hg rfl X.g__law_draw X.F__law_draw.kp X.b__law_draw tk (ca_cons (ce_var 0) (ca_cons (ce_callB (c_len) rfl X.n_len (by decide +kernel) (ca_cons (ce_var 1) ca_nil)) ca_nil))))))
theorem sc__law_kept : FnScope ["_law_words"] [] (defScope st__law_kept) := ⟨rfl, rfl, rfl, by decide +kernel, rfl, by decide +kernel, by decide +kernel⟩
theorem sim__law_kept {P : Program} {w : World} {K : PySem.W.Frag} {mg : Str → Option Value} {base : Heap} (X : TX K mg) : FnG P w K mg base 1 X.f__law_kept X.d__law_kept [] (SpM (X.T w) 0 m__law_kept) := by
  refine fn_sim (k := 0) (N := ["_law_words"]) (T := X.T w) (b := b__law_kept) X.F__law_kept sc__law_kept rfl fun cdv A outer s H E hr hg => ?_
  have tk := takes_of (X := cxOf (L2.CX P w) P w K mg base ["_law_words"] "_law_kept" (defScope st__law_kept) X.f__law_kept cdv A outer s H E) (E := E) rfl rfl rfl rfl
  unfold b__law_kept
  exact (cs_cons (cs_set (i := 0) sc__law_kept.nd rfl (by first | exact Or.inl rfl | exact Or.inr rfl) ce_str)
  (cs_one (cs_ret (ce_bm0 (t := .str) PySem.F.plainAttrs_str PySem.F.slot_str_split PySem.F.type_str_split m_split0 (ce_var 0)))))
theorem sc__law_name : FnScope ["_law_deck_here", "_law_letters", "_law_name_here", "_law_k"] ["_law_deck_here"] (defScope st__law_name) := ⟨rfl, rfl, rfl, by decide +kernel, rfl, by decide +kernel, by decide +kernel⟩
theorem sim__law_name {P : Program} {w : World} {K : PySem.W.Frag} {mg : Str → Option Value} {base : Heap} (X : TX K mg) : FnG P w K mg base 3 X.f__law_name X.d__law_name ["_law_deck_here"] (SpM (X.T w) 1 m__law_name) := by
  refine fn_sim (k := 2) (N := ["_law_deck_here", "_law_letters", "_law_name_here", "_law_k"]) (T := X.T w) (b := b__law_name) X.F__law_name sc__law_name rfl fun cdv A outer s H E hr hg => ?_
  have tk := takes_of (X := cxOf (L2.CX P w) P w K mg base ["_law_deck_here", "_law_letters", "_law_name_here", "_law_k"] "_law_name" (defScope st__law_name) X.f__law_name cdv A outer s H E) (E := E) rfl rfl rfl rfl
  unfold b__law_name
  exact (cs_cons (cs_set (i := 1) sc__law_name.nd rfl (by first | exact Or.inl rfl | exact Or.inr rfl) ce_str)
  (cs_cons (cs_set (i := 2) sc__law_name.nd rfl (by first | exact Or.inl rfl | exact Or.inr rfl) (ce_call (sim__law_one X) (hr.mono (by decide)) hg rfl X.g__law_one X.F__law_one.kp X.b__law_one tk (ca_cons (ce_var 0) (ca_cons (ce_var 1) ca_nil))))
  (cs_cons (cs_forX (passes_of rfl) rfl (ci_rng1 rfl X.n_range (ca_cons (ce_call (sim__law_one X) (hr.mono (by decide)) hg rfl X.g__law_one X.F__law_one.kp X.b__law_one tk (ca_cons (ce_var 0) (ca_cons (ce_lst (ca_cons ce_int (ca_cons ce_int (ca_cons ce_int (ca_cons (ce_call (sim__law_draw X) (hr.mono (by decide)) hg rfl X.g__law_draw X.F__law_draw.kp X.b__law_draw tk (ca_cons (ce_var 0) (ca_cons ce_int ca_nil))) ca_nil))))) ca_nil))) ca_nil)) (cg_name (n := 3) sc__law_name.nd rfl (by first | exact Or.inl rfl | exact Or.inr rfl))
  (cs_one (cs_set (i := 2) sc__law_name.nd rfl (by first | exact Or.inl rfl | exact Or.inr rfl) (ce_op o_add (ce_var 2) (ce_call (sim__law_one X) (hr.mono (by decide)) hg rfl X.g__law_one X.F__law_one.kp X.b__law_one tk (ca_cons (ce_var 0) (ca_cons (ce_op o_add (ce_var 1) ce_str) ca_nil)))))))
  (cs_one (cs_ret (ce_if (ct_cmp (o_notIn (hu_of hr)) (ce_var 2) (ce_call0 (sim__law_kept X) (hr.mono (by decide)) hg rfl X.g__law_kept X.F__law_kept.kp X.b__law_kept tk)) (ce_var 2) (ce_op o_add (ce_slice o_sl (ce_var 2) co_none (co_some ce_int)) ce_str)))))))
theorem sc__law_word : FnScope ["_law_deck_here", "_law_signs", "_law_k"] ["_law_deck_here"] (defScope st__law_word) := ⟨rfl, rfl, rfl, by decide +kernel, rfl, by decide +kernel, by decide +kernel⟩
theorem sim__law_word {P : Program} {w : World} {K : PySem.W.Frag} {mg : Str → Option Value} {base : Heap} (X : TX K mg) : FnG P w K mg base 3 X.f__law_word X.d__law_word ["_law_deck_here"] (SpM (X.T w) 1 m__law_word) := by
  refine fn_sim (k := 2) (N := ["_law_deck_here", "_law_signs", "_law_k"]) (T := X.T w) (b := b__law_word) X.F__law_word sc__law_word rfl fun cdv A outer s H E hr hg => ?_
  have tk := takes_of (X := cxOf (L2.CX P w) P w K mg base ["_law_deck_here", "_law_signs", "_law_k"] "_law_word" (defScope st__law_word) X.f__law_word cdv A outer s H E) (E := E) rfl rfl rfl rfl
  unfold b__law_word
  exact (cs_cons (cs_set (i := 1) sc__law_word.nd rfl (by first | exact Or.inl rfl | exact Or.inr rfl) ce_str)
  (cs_one (cs_ret (ce_bm (t := .str) PySem.F.plainAttrs_str PySem.F.slot_str_join PySem.F.type_str_join m_join ce_str (ca_cons (ce_lcX (own := [("_law_k", 2)]) rfl sc__law_word.nd (ci_rng1 rfl X.n_range (ca_cons (ce_call (sim__law_one X) (hr.mono (by decide)) hg rfl X.g__law_one X.F__law_one.kp X.b__law_one tk (ca_cons (ce_var 0) (ca_cons (ce_lst (ca_cons ce_int (ca_cons ce_int (ca_cons ce_int (ca_cons (ce_op o_add ce_int (ce_call (sim__law_draw X) (hr.mono (by decide)) hg rfl X.g__law_draw X.F__law_draw.kp X.b__law_draw tk (ca_cons (ce_var 0) (ca_cons ce_int ca_nil)))) ca_nil))))) ca_nil))) ca_nil)) (blkOk_by (by kernel_rfl)) (tg_name (List.mem_cons_self ..)) (fun _ _ _ _ _ => pg_name (i := 2) sc__law_word.nd rfl (Or.inl rfl)) (fun _ _ _ _ _ => cts_nil) (fun _ _ _ _ _ => (ce_call (sim__law_one X) (hr.mono (by decide)) hg rfl X.g__law_one X.F__law_one.kp X.b__law_one takes0 (ca_cons (ce_var 0) (ca_cons (ce_var 1) ca_nil))))) ca_nil)))))
theorem sc__law_pool : FnScope ["_law_deck_here", "_law_names", "_law_k"] ["_law_deck_here"] (defScope st__law_pool) := ⟨rfl, rfl, rfl, by decide +kernel, rfl, by decide +kernel, by decide +kernel⟩
theorem sim__law_pool {P : Program} {w : World} {K : PySem.W.Frag} {mg : Str → Option Value} {base : Heap} (X : TX K mg) : FnG P w K mg base 4 X.f__law_pool X.d__law_pool ["_law_deck_here"] (SpM (X.T w) 1 m__law_pool) := by
  refine fn_sim (k := 3) (N := ["_law_deck_here", "_law_names", "_law_k"]) (T := X.T w) (b := b__law_pool) X.F__law_pool sc__law_pool rfl fun cdv A outer s H E hr hg => ?_
  have tk := takes_of (X := cxOf (L2.CX P w) P w K mg base ["_law_deck_here", "_law_names", "_law_k"] "_law_pool" (defScope st__law_pool) X.f__law_pool cdv A outer s H E) (E := E) rfl rfl rfl rfl
  unfold b__law_pool
  exact (cs_cons (cs_setLcX (i := 1) (own := [("_law_k", 2)]) rfl sc__law_pool.nd rfl rfl (sw_true rfl rfl rfl (by kernel_rfl)) (ci_rng1 rfl X.n_range (ca_cons (ce_op o_add ce_int (ce_call (sim__law_draw X) (hr.mono (by decide)) hg rfl X.g__law_draw X.F__law_draw.kp X.b__law_draw tk (ca_cons (ce_var 0) (ca_cons ce_int ca_nil)))) ca_nil)) (blkOk_by (by kernel_rfl)) (tg_name (List.mem_cons_self ..)) (fun _ _ _ _ _ => pg_name (i := 2) sc__law_pool.nd rfl (Or.inl rfl)) (fun _ _ _ _ _ => cts_nil) (fun _ _ _ _ _ => (ce_call (sim__law_name X) (hr.mono (by decide)) hg rfl X.g__law_name X.F__law_name.kp X.b__law_name takes0 (ca_cons (ce_var 0) ca_nil))))
  (cs_one (cs_ret (ce_lst (ca_cons (ce_var 1) (ca_cons (ce_lcX (own := [("_law_k", 2)]) rfl sc__law_pool.nd (ci_rng1 rfl X.n_range (ca_cons (ce_op o_add ce_int (ce_call (sim__law_draw X) (hr.mono (by decide)) hg rfl X.g__law_draw X.F__law_draw.kp X.b__law_draw tk (ca_cons (ce_var 0) (ca_cons ce_int ca_nil)))) ca_nil)) (blkOk_by (by kernel_rfl)) (tg_name (List.mem_cons_self ..)) (fun _ _ _ _ _ => pg_name (i := 2) sc__law_pool.nd rfl (Or.inl rfl)) (fun _ _ _ _ _ => cts_nil) (fun _ _ _ _ _ => (ce_call (sim__law_word X) (hr.mono (by decide)) hg rfl X.g__law_word X.F__law_word.kp X.b__law_word takes0 (ca_cons (ce_var 0) ca_nil)))) (ca_cons (ce_call (sim__law_draw X) (hr.mono (by decide)) hg rfl X.g__law_draw X.F__law_draw.kp X.b__law_draw tk (ca_cons (ce_var 0) (ca_cons ce_int ca_nil))) ca_nil)))))))
theorem sc__law_any_test : FnScope ["_law_deck_here", "_law_pool_here", "_law_some", "_law_test", "_law_k", "_law_x", "_law_y", "_law_word_here"] ["_law_deck_here", "_law_pool_here"] (defScope st__law_any_test) := ⟨rfl, rfl, rfl, by decide +kernel, rfl, by decide +kernel, by decide +kernel⟩
theorem sim__law_any_test {P : Program} {w : World} {K : PySem.W.Frag} {mg : Str → Option Value} {base : Heap} (X : TX K mg) : FnG P w K mg base 3 X.f__law_any_test X.d__law_any_test ["_law_deck_here", "_law_pool_here"] (SpM (X.T w) 2 m__law_any_test) := by
  refine fn_sim (k := 2) (N := ["_law_deck_here", "_law_pool_here", "_law_some", "_law_test", "_law_k", "_law_x", "_law_y", "_law_word_here"]) (T := X.T w) (b := b__law_any_test) X.F__law_any_test sc__law_any_test rfl fun cdv A outer s H E hr hg => ?_
  have tk := takes_of (X := cxOf (L2.CX P w) P w K mg base ["_law_deck_here", "_law_pool_here", "_law_some", "_law_test", "_law_k", "_law_x", "_law_y", "_law_word_here"] "_law_any_test" (defScope st__law_any_test) X.f__law_any_test cdv A outer s H E) (E := E) rfl rfl rfl rfl
  unfold b__law_any_test
  exact (cs_cons (cs_par3 (i := 5) (j := 6) (l := 7) rfl sc__law_any_test.nd rfl rfl rfl (by decide) (by decide) (by decide) rfl rfl rfl (ca_cons (ce_call (sim__law_one X) (hr.mono (by decide)) hg rfl X.g__law_one X.F__law_one.kp X.b__law_one tk (ca_cons (ce_var 0) (ca_cons (ce_ix (o_ix (hu_of hr)) (ce_var 1) ce_int) ca_nil))) (ca_cons (ce_call (sim__law_one X) (hr.mono (by decide)) hg rfl X.g__law_one X.F__law_one.kp X.b__law_one tk (ca_cons (ce_var 0) (ca_cons (ce_ix (o_ix (hu_of hr)) (ce_var 1) ce_int) ca_nil))) (ca_cons (ce_call (sim__law_one X) (hr.mono (by decide)) hg rfl X.g__law_one X.F__law_one.kp X.b__law_one tk (ca_cons (ce_var 0) (ca_cons (ce_ix (o_ix (hu_of hr)) (ce_var 1) ce_int) ca_nil))) ca_nil))) (by rfl))
  (cs_cons (cs_set (i := 2) sc__law_any_test.nd rfl (by first | exact Or.inl rfl | exact Or.inr rfl) (ce_lst (ca_cons (ce_tup (ca_cons ce_str (ca_cons (ce_var 5) ca_nil))) (ca_cons (ce_tup (ca_cons ce_str (ca_cons (ce_var 5) (ca_cons (ce_var 6) ca_nil)))) (ca_cons (ce_tup (ca_cons ce_str (ca_cons (ce_var 5) (ca_cons (ce_var 6) ca_nil)))) (ca_cons (ce_tup (ca_cons ce_str (ca_cons (ce_var 7) ca_nil))) ca_nil))))))
  (cs_cons (cs_if (ct_cmp o_gt (ce_ix (o_ix (hu_of hr)) (ce_var 1) ce_int) ce_int) (cs_one (cs_expr (ce_bm (t := .list) PySem.F.plainAttrs_list PySem.F.slot_list_append PySem.F.type_list_append m_append (ce_var 2) (ca_cons (ce_tup (ca_cons ce_str (ca_cons (ce_call (sim__law_draw X) (hr.mono (by decide)) hg rfl X.g__law_draw X.F__law_draw.kp X.b__law_draw tk (ca_cons (ce_var 0) (ca_cons (ce_ix (o_ix (hu_of hr)) (ce_var 1) ce_int) ca_nil))) ca_nil))) ca_nil)))) cs_nil)
  (cs_cons (cs_set (i := 3) sc__law_any_test.nd rfl (by first | exact Or.inl rfl | exact Or.inr rfl) (ce_call (sim__law_one X) (hr.mono (by decide)) hg rfl X.g__law_one X.F__law_one.kp X.b__law_one tk (ca_cons (ce_var 0) (ca_cons (ce_var 2) ca_nil))))
  (cs_cons (cs_forX (passes_of rfl) rfl (ci_rng1 rfl X.n_range (ca_cons (ce_call (sim__law_one X) (hr.mono (by decide)) hg rfl X.g__law_one X.F__law_one.kp X.b__law_one tk (ca_cons (ce_var 0) (ca_cons (ce_lst (ca_cons ce_int (ca_cons ce_int (ca_cons ce_int (ca_cons ce_int (ca_cons ce_int ca_nil)))))) ca_nil))) ca_nil)) (cg_name (n := 4) sc__law_any_test.nd rfl (by first | exact Or.inl rfl | exact Or.inr rfl))
  (cs_one (cs_set (i := 3) sc__law_any_test.nd rfl (by first | exact Or.inl rfl | exact Or.inr rfl) (ce_tup (ca_cons ce_str (ca_cons (ce_var 3) ca_nil))))))
  (cs_one (cs_ret (ce_var 3))))))))
theorem sc__law_row : FnScope ["_law_deck_here", "_law_pool_here", "_law_some", "_law_x", "_law_y", "_law_z", "_law_f", "_law_word_here"] ["_law_deck_here", "_law_pool_here"] (defScope st__law_row) := ⟨rfl, rfl, rfl, by decide +kernel, rfl, by decide +kernel, by decide +kernel⟩
theorem sim__law_row {P : Program} {w : World} {K : PySem.W.Frag} {mg : Str → Option Value} {base : Heap} (X : TX K mg) : FnG P w K mg base 4 X.f__law_row X.d__law_row ["_law_deck_here", "_law_pool_here"] (SpM (X.T w) 2 m__law_row) := by
  refine fn_sim (k := 3) (N := ["_law_deck_here", "_law_pool_here", "_law_some", "_law_x", "_law_y", "_law_z", "_law_f", "_law_word_here"]) (T := X.T w) (b := b__law_row) X.F__law_row sc__law_row rfl fun cdv A outer s H E hr hg => ?_
  have tk := takes_of (X := cxOf (L2.CX P w) P w K mg base ["_law_deck_here", "_law_pool_here", "_law_some", "_law_x", "_law_y", "_law_z", "_law_f", "_law_word_here"] "_law_row" (defScope st__law_row) X.f__law_row cdv A outer s H E) (E := E) rfl rfl rfl rfl
  unfold b__law_row
  exact (cs_cons (cs_par3 (i := 3) (j := 4) (l := 5) rfl sc__law_row.nd rfl rfl rfl (by decide) (by decide) (by decide) rfl rfl rfl (ca_cons (ce_call (sim__law_one X) (hr.mono (by decide)) hg rfl X.g__law_one X.F__law_one.kp X.b__law_one tk (ca_cons (ce_var 0) (ca_cons (ce_ix (o_ix (hu_of hr)) (ce_var 1) ce_int) ca_nil))) (ca_cons (ce_call (sim__law_one X) (hr.mono (by decide)) hg rfl X.g__law_one X.F__law_one.kp X.b__law_one tk (ca_cons (ce_var 0) (ca_cons (ce_ix (o_ix (hu_of hr)) (ce_var 1) ce_int) ca_nil))) (ca_cons (ce_call (sim__law_one X) (hr.mono (by decide)) hg rfl X.g__law_one X.F__law_one.kp X.b__law_one tk (ca_cons (ce_var 0) (ca_cons (ce_ix (o_ix (hu_of hr)) (ce_var 1) ce_int) ca_nil))) ca_nil))) (by rfl))
  (cs_cons (cs_par (i := 6) (j := 7) rfl sc__law_row.nd rfl rfl (by decide) rfl rfl (ca_cons (ce_call (sim__law_one X) (hr.mono (by decide)) hg rfl X.g__law_one X.F__law_one.kp X.b__law_one tk (ca_cons (ce_var 0) (ca_cons (ce_ix (o_ix (hu_of hr)) (ce_var 1) ce_int) ca_nil))) (ca_cons (ce_call (sim__law_one X) (hr.mono (by decide)) hg rfl X.g__law_one X.F__law_one.kp X.b__law_one tk (ca_cons (ce_var 0) (ca_cons (ce_ix (o_ix (hu_of hr)) (ce_var 1) ce_int) ca_nil))) ca_nil)) (by rfl))
  (cs_cons (cs_set (i := 2) sc__law_row.nd rfl (by first | exact Or.inl rfl | exact Or.inr rfl) (ce_lst (ca_cons (ce_tup (ca_cons ce_str (ca_cons (ce_var 3) ca_nil))) (ca_cons (ce_tup (ca_cons ce_str (ca_cons (ce_var 3) ca_nil))) (ca_cons (ce_tup (ca_cons ce_str (ca_cons (ce_var 3) ca_nil))) (ca_cons (ce_tup (ca_cons ce_str (ca_cons (ce_var 3) (ca_cons (ce_var 7) ca_nil)))) (ca_cons (ce_tup (ca_cons ce_str (ca_cons (ce_var 3) (ca_cons (ce_var 4) ca_nil)))) (ca_cons (ce_tup (ca_cons ce_str (ca_cons (ce_var 3) (ca_cons (ce_var 6) (ca_cons (ce_var 4) ca_nil))))) ca_nil))))))))
  (cs_cons (cs_set (i := 2) sc__law_row.nd rfl (by first | exact Or.inl rfl | exact Or.inr rfl) (ce_op o_add (ce_var 2) (ce_lst (ca_cons (ce_tup (ca_cons ce_str (ca_cons (ce_var 3) (ca_cons (ce_var 6) (ca_cons (ce_var 4) ca_nil))))) (ca_cons (ce_tup (ca_cons ce_str (ca_cons (ce_var 3) (ca_cons (ce_var 6) ca_nil)))) (ca_cons (ce_tup (ca_cons ce_str (ca_cons (ce_var 5) (ca_cons (ce_var 3) (ca_cons (ce_var 6) ca_nil))))) (ca_cons (ce_tup (ca_cons ce_str (ca_cons (ce_var 7) ca_nil))) ca_nil)))))))
  (cs_one (cs_ret (ce_call (sim__law_one X) (hr.mono (by decide)) hg rfl X.g__law_one X.F__law_one.kp X.b__law_one tk (ca_cons (ce_var 0) (ca_cons (ce_op o_add (ce_var 2) (ce_lst (ca_cons (ce_tup (ca_cons ce_str (ca_cons (ce_call (sim__law_any_test X) (hr.mono (by decide)) hg rfl X.g__law_any_test X.F__law_any_test.kp X.b__law_any_test tk (ca_cons (ce_var 0) (ca_cons (ce_var 1) ca_nil))) ca_nil))) ca_nil))) ca_nil)))))))))
theorem sc__law_rows : FnScope ["_law_deck_here", "_law_pool_here", "_law_left", "_law_depth", "_law_times", "_law_rows_here", "_law_k", "_law_way", "_law_count", "_law_test", "_law_yes"] ["_law_deck_here", "_law_pool_here", "_law_left", "_law_depth", "_law_times"] (defScope st__law_rows) := ⟨rfl, rfl, rfl, by decide +kernel, rfl, by decide +kernel, by decide +kernel⟩
theorem sc__law_inner : FnScope ["_law_deck_here", "_law_pool_here", "_law_left", "_law_depth", "_law_times"] ["_law_deck_here", "_law_pool_here", "_law_left", "_law_depth", "_law_times"] (defScope st__law_inner) := ⟨rfl, rfl, rfl, by decide +kernel, rfl, by decide +kernel, by decide +kernel⟩
theorem sims1 {P : Program} {w : World} {K : PySem.W.Frag} {mg : Str → Option Value} {base : Heap} (X : TX K mg) : ∀ n : Nat, FnG P w K mg base (4 + 1 * n) X.f__law_rows X.d__law_rows ["_law_deck_here", "_law_pool_here", "_law_left", "_law_depth", "_law_times"] (SpM (X.T w) 5 (R1 n 0)) ∧ FnG P w K mg base (4 + 1 * n) X.f__law_inner X.d__law_inner ["_law_deck_here", "_law_pool_here", "_law_left", "_law_depth", "_law_times"] (SpM (X.T w) 5 (R1 n 1))
  | 0 => ⟨fnG_fail, fnG_fail⟩
  | n + 1 => by
    obtain ⟨ih__law_rows, ih__law_inner⟩ := sims1 (base := base) X n
    refine ⟨?_, ?_⟩
    · refine fn_sim (k := 4 + 1 * n + 0) (N := ["_law_deck_here", "_law_pool_here", "_law_left", "_law_depth", "_law_times", "_law_rows_here", "_law_k", "_law_way", "_law_count", "_law_test", "_law_yes"]) (T := X.T w) (b := b__law_rows (R1 n)) X.F__law_rows sc__law_rows rfl fun cdv A outer s H E hr hg => ?_
      have tk := takes_of (X := cxOf (L2.CX P w) P w K mg base ["_law_deck_here", "_law_pool_here", "_law_left", "_law_depth", "_law_times", "_law_rows_here", "_law_k", "_law_way", "_law_count", "_law_test", "_law_yes"] "_law_rows" (defScope st__law_rows) X.f__law_rows cdv A outer s H E) (E := E) rfl rfl rfl rfl
      unfold b__law_rows
      exact (cs_cons (cs_set (i := 5) sc__law_rows.nd rfl (by first | exact Or.inl rfl | exact Or.inr rfl) (ce_lst ca_nil))
  (cs_cons (cs_forX (passes_of rfl) rfl (ci_rng1 rfl X.n_range (ca_cons (ce_call (sim__law_draw X) (hr.mono (by omega)) hg rfl X.g__law_draw X.F__law_draw.kp X.b__law_draw tk (ca_cons (ce_var 0) (ca_cons (ce_if (ct_cmp (o_eq hr.units) (ce_var 3) ce_int) (ce_call (sim__law_one X) (hr.mono (by omega)) hg rfl X.g__law_one X.F__law_one.kp X.b__law_one tk (ca_cons (ce_var 0) (ca_cons (ce_lst (ca_cons ce_int (ca_cons ce_int (ca_cons ce_int ca_nil)))) ca_nil))) ce_int) ca_nil))) ca_nil)) (cg_name (n := 6) sc__law_rows.nd rfl (by first | exact Or.inl rfl | exact Or.inr rfl))
  (cs_cons (cs_set (i := 7) sc__law_rows.nd rfl (by first | exact Or.inl rfl | exact Or.inr rfl) (ce_call (sim__law_draw X) (hr.mono (by omega)) hg rfl X.g__law_draw X.F__law_draw.kp X.b__law_draw tk (ca_cons (ce_var 0) (ca_cons ce_int ca_nil))))
  (cs_one (cs_if (PW.pt (cw_and (ct_cmp o_gt (ce_ix (o_ix (hu_of hr)) (ce_var 2) ce_int) ce_int) (cw_and1 (ct_cmp o_ge (ce_ix (o_ix (hu_of hr)) (ce_var 2) ce_int) (ce_var 4))))) (cs_cons (cs_asg (ce_tup (ca_cons (ce_op o_sub (ce_ix (o_ix (hu_of hr)) (ce_var 2) ce_int) ce_int) (ca_cons (ce_op o_sub (ce_ix (o_ix (hu_of hr)) (ce_var 2) ce_int) (ce_var 4)) ca_nil))) (cg_tups (cgs_cons (W := WF) (cg_sub (ce_var 2) ce_int (p_set (hu_of hr)) (pg_sub (ce_var 2) ce_int (p_set (hu_of hr)))) (cgs_cons (W := WF) (cg_sub (ce_var 2) ce_int (p_set (hu_of hr)) (pg_sub (ce_var 2) ce_int (p_set (hu_of hr)))) cgs_nil))))
  (cs_one (cs_if (ct_cmp o_lt (ce_var 7) ce_int) (cs_one (cs_expr (ce_bm (t := .list) PySem.F.plainAttrs_list PySem.F.slot_list_append PySem.F.type_list_append m_append (ce_var 5) (ca_cons (ce_call (sim__law_row X) (hr.mono (by omega)) hg rfl X.g__law_row X.F__law_row.kp X.b__law_row tk (ca_cons (ce_var 0) (ca_cons (ce_var 1) ca_nil))) ca_nil)))) (cs_one (cs_if (ct_cmp (o_eq hr.units) (ce_var 7) ce_int) (cs_cons (cs_set (i := 8) sc__law_rows.nd rfl (by first | exact Or.inl rfl | exact Or.inr rfl) (ce_call (sim__law_draw X) (hr.mono (by omega)) hg rfl X.g__law_draw X.F__law_draw.kp X.b__law_draw tk (ca_cons (ce_var 0) (ca_cons ce_int ca_nil))))
  (cs_one (cs_expr (ce_bm (t := .list) PySem.F.plainAttrs_list PySem.F.slot_list_append PySem.F.type_list_append m_append (ce_var 5) (ca_cons (ce_tup (ca_cons ce_str (ca_cons (ce_var 8) (ca_cons (ce_call ih__law_inner (hr.mono (by omega)) hg rfl X.g__law_inner X.F__law_inner.kp X.b__law_inner tk (ca_cons (ce_var 0) (ca_cons (ce_var 1) (ca_cons (ce_var 2) (ca_cons (ce_var 3) (ca_cons (ce_op o_mul (ce_var 4) (ce_var 8)) ca_nil)))))) ca_nil)))) ca_nil))))) (cs_cons (cs_par (i := 9) (j := 10) rfl sc__law_rows.nd rfl rfl (by decide) rfl rfl (ca_cons (ce_call (sim__law_any_test X) (hr.mono (by omega)) hg rfl X.g__law_any_test X.F__law_any_test.kp X.b__law_any_test tk (ca_cons (ce_var 0) (ca_cons (ce_var 1) ca_nil))) (ca_cons (ce_call ih__law_inner (hr.mono (by omega)) hg rfl X.g__law_inner X.F__law_inner.kp X.b__law_inner tk (ca_cons (ce_var 0) (ca_cons (ce_var 1) (ca_cons (ce_var 2) (ca_cons (ce_var 3) (ca_cons (ce_var 4) ca_nil)))))) ca_nil)) (by rfl))
  (cs_one (cs_expr (ce_bm (t := .list) PySem.F.plainAttrs_list PySem.F.slot_list_append PySem.F.type_list_append m_append (ce_var 5) (ca_cons (ce_tup (ca_cons ce_str (ca_cons (ce_var 9) (ca_cons (ce_var 10) (ca_cons (ce_call ih__law_inner (hr.mono (by omega)) hg rfl X.g__law_inner X.F__law_inner.kp X.b__law_inner tk (ca_cons (ce_var 0) (ca_cons (ce_var 1) (ca_cons (ce_var 2) (ca_cons (ce_var 3) (ca_cons (ce_var 4) ca_nil)))))) ca_nil))))) ca_nil)))))))))) cs_nil))))
  (cs_one (cs_ret (ce_callTy (c_tuple) rfl X.n_tuple (by decide +kernel) (ca_cons (ce_var 5) ca_nil))))))
    · refine fn_sim (k := 4 + 1 * n + 0) (N := ["_law_deck_here", "_law_pool_here", "_law_left", "_law_depth", "_law_times"]) (T := X.T w) (b := b__law_inner (R1 n)) X.F__law_inner sc__law_inner rfl fun cdv A outer s H E hr hg => ?_
      have tk := takes_of (X := cxOf (L2.CX P w) P w K mg base ["_law_deck_here", "_law_pool_here", "_law_left", "_law_depth", "_law_times"] "_law_inner" (defScope st__law_inner) X.f__law_inner cdv A outer s H E) (E := E) rfl rfl rfl rfl
      unfold b__law_inner
      exact (cs_one (cs_ret (ce_if (ct_cmp o_lt (ce_var 3) ce_int) (ce_call ih__law_rows (hr.mono (by omega)) hg rfl X.g__law_rows X.F__law_rows.kp X.b__law_rows tk (ca_cons (ce_var 0) (ca_cons (ce_var 1) (ca_cons (ce_var 2) (ca_cons (ce_op o_add (ce_var 3) ce_int) (ca_cons (ce_var 4) ca_nil)))))) (ce_tup ca_nil))))
theorem sim__law_rows {P : Program} {w : World} {K : PySem.W.Frag} {mg : Str → Option Value} {base : Heap} (X : TX K mg) : FnG P w K mg base 16 X.f__law_rows X.d__law_rows ["_law_deck_here", "_law_pool_here", "_law_left", "_law_depth", "_law_times"] (SpM (X.T w) 5 m__law_rows) := (sims1 (P := P) (w := w) (base := base) X 12).1
theorem sim__law_inner {P : Program} {w : World} {K : PySem.W.Frag} {mg : Str → Option Value} {base : Heap} (X : TX K mg) : FnG P w K mg base 16 X.f__law_inner X.d__law_inner ["_law_deck_here", "_law_pool_here", "_law_left", "_law_depth", "_law_times"] (SpM (X.T w) 5 m__law_inner) := (sims1 (P := P) (w := w) (base := base) X 12).2
theorem sc__law_free : FnScope ["_law_deck_here", "_law_most", "_law_pool_here"] ["_law_deck_here", "_law_most"] (defScope st__law_free) := ⟨rfl, rfl, rfl, by decide +kernel, rfl, by decide +kernel, by decide +kernel⟩
theorem sim__law_free {P : Program} {w : World} {K : PySem.W.Frag} {mg : Str → Option Value} {base : Heap} (X : TX K mg) : FnG P w K mg base 17 X.f__law_free X.d__law_free ["_law_deck_here", "_law_most"] (SpM (X.T w) 2 m__law_free) := by
  refine fn_sim (k := 16) (N := ["_law_deck_here", "_law_most", "_law_pool_here"]) (T := X.T w) (b := b__law_free) X.F__law_free sc__law_free rfl fun cdv A outer s H E hr hg => ?_
  have tk := takes_of (X := cxOf (L2.CX P w) P w K mg base ["_law_deck_here", "_law_most", "_law_pool_here"] "_law_free" (defScope st__law_free) X.f__law_free cdv A outer s H E) (E := E) rfl rfl rfl rfl
  unfold b__law_free
  exact (cs_cons (cs_set (i := 2) sc__law_free.nd rfl (by first | exact Or.inl rfl | exact Or.inr rfl) (ce_call (sim__law_pool X) (hr.mono (by decide)) hg rfl X.g__law_pool X.F__law_pool.kp X.b__law_pool tk (ca_cons (ce_var 0) ca_nil)))
  (cs_one (cs_ret (ce_tup (ca_cons (ce_tup (ca_cons (ce_ix (o_ix (hu_of hr)) (ce_var 2) ce_int) (ca_cons (ce_call (sim__law_rows X) (hr.mono (by decide)) hg rfl X.g__law_rows X.F__law_rows.kp X.b__law_rows tk (ca_cons (ce_var 0) (ca_cons (ce_var 2) (ca_cons (ce_lst (ca_cons (ce_var 1) (ca_cons ce_int ca_nil))) (ca_cons ce_int (ca_cons ce_int ca_nil)))))) ca_nil))) (ca_cons (ce_var 2) ca_nil))))))
theorem sc__law_blocks : FnScope ["_law_row_here", "_law_has_blocks", "_law_part"] ["_law_row_here"] (defScope st__law_blocks) := ⟨rfl, rfl, rfl, by decide +kernel, rfl, by decide +kernel, by decide +kernel⟩
theorem sim__law_blocks {P : Program} {w : World} {K : PySem.W.Frag} {mg : Str → Option Value} {base : Heap} (X : TX K mg) : FnG P w K mg base 1 X.f__law_blocks X.d__law_blocks ["_law_row_here"] (SpM (X.T w) 1 m__law_blocks) := by
  refine fn_sim (k := 0) (N := ["_law_row_here", "_law_has_blocks", "_law_part"]) (T := X.T w) (b := b__law_blocks) X.F__law_blocks sc__law_blocks rfl fun cdv A outer s H E hr hg => ?_
  have tk := takes_of (X := cxOf (L2.CX P w) P w K mg base ["_law_row_here", "_law_has_blocks", "_law_part"] "_law_blocks" (defScope st__law_blocks) X.f__law_blocks cdv A outer s H E) (E := E) rfl rfl rfl rfl
  unfold b__law_blocks
  exact (cs_cons (cs_set (i := 1) sc__law_blocks.nd rfl (by first | exact Or.inl rfl | exact Or.inr rfl) (ce_and (ce_callB c_isi rfl X.n_isinstance (by decide +kernel) (ca_cons (ce_var 0) (ca_cons (ce_ty rfl X.n_tuple (by decide +kernel)) ca_nil))) (ce_and (ce_cmp o_gt (ce_callB (c_len) rfl X.n_len (by decide +kernel) (ca_cons (ce_var 0) ca_nil)) ce_int) (ce_one (ce_or (ce_cmp (o_eq hr.units) (ce_ix (o_ix (hu_of hr)) (ce_var 0) ce_int) ce_str) (ce_one (ce_cmp (o_eq hr.units) (ce_ix (o_ix (hu_of hr)) (ce_var 0) ce_int) ce_str)))))))
  (cs_one (cs_ret (ce_if (ct_val (ce_var 1)) (ce_lcX (own := [("_law_part", 2)]) rfl sc__law_blocks.nd (ci_tup (ce_slice o_sl (ce_var 0) (co_some ce_int) co_none)) (blkOk_by (by kernel_rfl)) (tg_name (List.mem_cons_self ..)) (fun _ _ _ _ _ => pg_name (i := 2) sc__law_blocks.nd rfl (Or.inl rfl)) (fun _ _ _ _ _ => (cts_one (ct_val (ce_callB c_isi rfl X.n_isinstance (by decide +kernel) (ca_cons (ce_var 2) (ca_cons (ce_ty rfl X.n_tuple (by decide +kernel)) ca_nil)))))) (fun _ _ _ _ _ => (ce_var 2))) (ce_lst ca_nil)))))
theorem sc__law_test_text : FnScope ["_law_test"] ["_law_test"] (defScope st__law_test_text) := ⟨rfl, rfl, rfl, by decide +kernel, rfl, by decide +kernel, by decide +kernel⟩
theorem sims2 {P : Program} {w : World} {K : PySem.W.Frag} {mg : Str → Option Value} {base : Heap} (X : TX K mg) : ∀ n : Nat, FnG P w K mg base (0 + 1 * n) X.f__law_test_text X.d__law_test_text ["_law_test"] (SpM (X.T w) 1 (R2 n 0))
  | 0 => fnG_fail
  | n + 1 => by
    have ih__law_test_text := sims2 (P := P) (w := w) (base := base) X n
    · refine fn_sim (k := 0 + 1 * n + 0) (N := ["_law_test"]) (T := X.T w) (b := b__law_test_text (R2 n)) X.F__law_test_text sc__law_test_text rfl fun cdv A outer s H E hr hg => ?_
      have tk := takes_of (X := cxOf (L2.CX P w) P w K mg base ["_law_test"] "_law_test_text" (defScope st__law_test_text) X.f__law_test_text cdv A outer s H E) (E := E) rfl rfl rfl rfl
      unfold b__law_test_text
      exact (cs_cons (cs_if (ct_cmp (o_eq hr.units) (ce_ix (o_ix (hu_of hr)) (ce_var 0) ce_int) ce_str) (cs_one (cs_ret (ce_op o_add ce_str (ce_call ih__law_test_text (hr.mono (by omega)) hg rfl X.g__law_test_text X.F__law_test_text.kp X.b__law_test_text tk (ca_cons (ce_ix (o_ix (hu_of hr)) (ce_var 0) ce_int) ca_nil))))) cs_nil)
  (cs_cons (cs_if (ct_cmp (o_eq hr.units) (ce_ix (o_ix (hu_of hr)) (ce_var 0) ce_int) ce_str) (cs_one (cs_ret (ce_op o_add (ce_op o_add (ce_ix (o_ix (hu_of hr)) (ce_var 0) ce_int) ce_str) (ce_ix (o_ix (hu_of hr)) (ce_var 0) ce_int)))) cs_nil)
  (cs_cons (cs_if (ct_cmp (o_eq hr.units) (ce_ix (o_ix (hu_of hr)) (ce_var 0) ce_int) ce_str) (cs_one (cs_ret (ce_op o_add (ce_op o_add (ce_op o_add ce_str (ce_ix (o_ix (hu_of hr)) (ce_var 0) ce_int)) ce_str) (ce_ix (o_ix (hu_of hr)) (ce_var 0) ce_int)))) cs_nil)
  (cs_one (cs_ret (ce_op o_add (ce_op o_add (ce_ix (o_ix (hu_of hr)) (ce_var 0) ce_int) ce_str) (ce_callTy (c_strD hg hr.units) rfl X.n_str (by decide +kernel) (ca_cons (ce_ix (o_ix (hu_of hr)) (ce_var 0) ce_int) ca_nil))))))))
theorem sim__law_test_text {P : Program} {w : World} {K : PySem.W.Frag} {mg : Str → Option Value} {base : Heap} (X : TX K mg) : FnG P w K mg base 12 X.f__law_test_text X.d__law_test_text ["_law_test"] (SpM (X.T w) 1 m__law_test_text) := (sims2 (P := P) (w := w) (base := base) X 12)
theorem sc__law_line : FnScope ["_law_row_here", "_law_kind", "_law_rest", "_law_item"] ["_law_row_here"] (defScope st__law_line) := ⟨rfl, rfl, rfl, by decide +kernel, rfl, by decide +kernel, by decide +kernel⟩
theorem sim__law_line {P : Program} {w : World} {K : PySem.W.Frag} {mg : Str → Option Value} {base : Heap} (X : TX K mg) : FnG P w K mg base 13 X.f__law_line X.d__law_line ["_law_row_here"] (SpM (X.T w) 1 m__law_line) := by
  refine fn_sim (k := 12) (N := ["_law_row_here", "_law_kind", "_law_rest", "_law_item"]) (T := X.T w) (b := b__law_line) X.F__law_line sc__law_line rfl fun cdv A outer s H E hr hg => ?_
  have tk := takes_of (X := cxOf (L2.CX P w) P w K mg base ["_law_row_here", "_law_kind", "_law_rest", "_law_item"] "_law_line" (defScope st__law_line) X.f__law_line cdv A outer s H E) (E := E) rfl rfl rfl rfl
  unfold b__law_line
  exact (cs_cons (cs_par (i := 1) (j := 2) rfl sc__law_line.nd rfl rfl (by decide) rfl rfl (ca_cons (ce_ix (o_ix (hu_of hr)) (ce_var 0) ce_int) (ca_cons (ce_lcX (own := [("_law_item", 3)]) rfl sc__law_line.nd (ci_tup (ce_slice o_sl (ce_var 0) (co_some ce_int) co_none)) (blkOk_by (by kernel_rfl)) (tg_name (List.mem_cons_self ..)) (fun _ _ _ _ _ => pg_name (i := 3) sc__law_line.nd rfl (Or.inl rfl)) (fun _ _ _ _ _ => cts_nil) (fun _ _ _ _ _ => (ce_callTy (c_strD hg hr.units) rfl X.n_str (by decide +kernel) (ca_cons (ce_var 3) ca_nil)))) ca_nil)) (by rfl))
  (cs_cons (cs_if (PW.pt (cw_or (ct_cmp (o_eq hr.units) (ce_var 1) ce_str) (cw_or1 (ct_cmp (o_eq hr.units) (ce_var 1) ce_str)))) (cs_one (cs_ret (ce_op o_add (ce_op o_add (ce_var 1) ce_str) (ce_call (sim__law_test_text X) (hr.mono (by decide)) hg rfl X.g__law_test_text X.F__law_test_text.kp X.b__law_test_text tk (ca_cons (ce_ix (o_ix (hu_of hr)) (ce_var 0) ce_int) ca_nil))))) cs_nil)
  (cs_cons (cs_if (ct_cmp (o_eq hr.units) (ce_var 1) ce_str) (cs_one (cs_ret (ce_op o_add ce_str (ce_ix (o_ix (hu_of hr)) (ce_var 2) ce_int)))) cs_nil)
  (cs_cons (cs_if (ct_cmp (o_eq hr.units) (ce_var 1) ce_str) (cs_one (cs_ret (ce_op o_add (ce_op o_add (ce_ix (o_ix (hu_of hr)) (ce_var 2) ce_int) ce_str) (ce_ix (o_ix (hu_of hr)) (ce_var 2) ce_int)))) cs_nil)
  (cs_cons (cs_if (ct_cmp (o_eq hr.units) (ce_var 1) ce_str) (cs_one (cs_ret (ce_op o_add (ce_op o_add (ce_op o_add (ce_op o_add (ce_ix (o_ix (hu_of hr)) (ce_var 2) ce_int) ce_str) (ce_ix (o_ix (hu_of hr)) (ce_var 2) ce_int)) ce_str) (ce_ix (o_ix (hu_of hr)) (ce_var 2) ce_int)))) cs_nil)
  (cs_cons (cs_if (PW.pt (cw_or (ct_cmp (o_eq hr.units) (ce_var 1) ce_str) (cw_or1 (ct_cmp (o_eq hr.units) (ce_var 1) ce_str)))) (cs_one (cs_ret (ce_op o_add (ce_op o_add (ce_op o_add (ce_op o_add (ce_ix (o_ix (hu_of hr)) (ce_var 2) ce_int) ce_str) (ce_ix (o_ix (hu_of hr)) (ce_var 2) ce_int)) (ce_if (ct_cmp (o_eq hr.units) (ce_var 1) ce_str) ce_str ce_str)) (ce_ix (o_ix (hu_of hr)) (ce_var 2) ce_int)))) cs_nil)
  (cs_one (cs_ret (ce_if (ct_cmp (o_eq hr.units) (ce_var 1) ce_str) (ce_op o_add (ce_op o_add (ce_op o_add ce_str (ce_ix (o_ix (hu_of hr)) (ce_var 2) ce_int)) ce_str) (ce_ix (o_ix (hu_of hr)) (ce_var 2) ce_int)) (ce_bm (t := .str) PySem.F.plainAttrs_str PySem.F.slot_str_join PySem.F.type_str_join m_join ce_str (ca_cons (ce_op o_add (ce_lst (ca_cons (ce_var 1) ca_nil)) (ce_var 2)) ca_nil)))))))))))
theorem sc__law_lines : FnScope ["_law_block", "_law_ahead", "_law_lines_here", "_law_row_here", "_law_parts", "_law_k", "_law_inner_here"] ["_law_block", "_law_ahead"] (defScope st__law_lines) := ⟨rfl, rfl, rfl, by decide +kernel, rfl, by decide +kernel, by decide +kernel⟩
theorem sims3 {P : Program} {w : World} {K : PySem.W.Frag} {mg : Str → Option Value} {base : Heap} (X : TX K mg) : ∀ n : Nat, FnG P w K mg base (13 + 1 * n) X.f__law_lines X.d__law_lines ["_law_block", "_law_ahead"] (SpM (X.T w) 2 (R3 n 0))
  | 0 => fnG_fail
  | n + 1 => by
    have ih__law_lines := sims3 (P := P) (w := w) (base := base) X n
    · refine fn_sim (k := 13 + 1 * n + 0) (N := ["_law_block", "_law_ahead", "_law_lines_here", "_law_row_here", "_law_parts", "_law_k", "_law_inner_here"]) (T := X.T w) (b := b__law_lines (R3 n)) X.F__law_lines sc__law_lines rfl fun cdv A outer s H E hr hg => ?_
      have tk := takes_of (X := cxOf (L2.CX P w) P w K mg base ["_law_block", "_law_ahead", "_law_lines_here", "_law_row_here", "_law_parts", "_law_k", "_law_inner_here"] "_law_lines" (defScope st__law_lines) X.f__law_lines cdv A outer s H E) (E := E) rfl rfl rfl rfl
      unfold b__law_lines
      exact (cs_cons (cs_set (i := 2) sc__law_lines.nd rfl (by first | exact Or.inl rfl | exact Or.inr rfl) (ce_lst ca_nil))
  (cs_cons (cs_forX (passes_of rfl) rfl (ci_tup (ce_var 0)) (cg_name (n := 3) sc__law_lines.nd rfl (by first | exact Or.inl rfl | exact Or.inr rfl))
  (cs_cons (cs_expr (ce_bm (t := .list) PySem.F.plainAttrs_list PySem.F.slot_list_append PySem.F.type_list_append m_append (ce_var 2) (ca_cons (ce_op o_add (ce_var 1) (ce_call (sim__law_line X) (hr.mono (by omega)) hg rfl X.g__law_line X.F__law_line.kp X.b__law_line tk (ca_cons (ce_var 3) ca_nil))) ca_nil)))
  (cs_cons (cs_set (i := 4) sc__law_lines.nd rfl (by first | exact Or.inl rfl | exact Or.inr rfl) (ce_call (sim__law_blocks X) (hr.mono (by omega)) hg rfl X.g__law_blocks X.F__law_blocks.kp X.b__law_blocks tk (ca_cons (ce_var 3) ca_nil)))
  (cs_one (cs_forX (passes_of rfl) rfl (ci_rng1 rfl X.n_range (ca_cons (ce_callB (c_len) rfl X.n_len (by decide +kernel) (ca_cons (ce_var 4) ca_nil)) ca_nil)) (cg_name (n := 5) sc__law_lines.nd rfl (by first | exact Or.inl rfl | exact Or.inr rfl))
  (cs_cons (cs_set (i := 6) sc__law_lines.nd rfl (by first | exact Or.inl rfl | exact Or.inr rfl) (ce_call ih__law_lines (hr.mono (by omega)) hg rfl X.g__law_lines X.F__law_lines.kp X.b__law_lines tk (ca_cons (ce_ix (o_ix (hu_of hr)) (ce_var 4) (ce_var 5)) (ca_cons (ce_op o_add (ce_var 1) ce_str) ca_nil))))
  (cs_cons (cs_if (PW.pt (cw_and (ct_cmp (o_eq hr.units) (ce_var 5) ce_int) (cw_and1 (ct_cmp (o_eq hr.units) (ce_var 6) (ce_lst ca_nil))))) (cs_one (cs_set (i := 6) sc__law_lines.nd rfl (by first | exact Or.inl rfl | exact Or.inr rfl) (ce_lst (ca_cons (ce_op o_add (ce_var 1) ce_str) ca_nil)))) cs_nil)
  (cs_one (cs_set (i := 2) sc__law_lines.nd rfl (by first | exact Or.inl rfl | exact Or.inr rfl) (ce_op o_add (ce_op o_add (ce_var 2) (ce_if (PW.pt (cw_and (ct_cmp (o_eq hr.units) (ce_var 5) ce_int) (cw_and1 (ct_cmp (o_ne hr.units) (ce_var 6) (ce_lst ca_nil))))) (ce_lst (ca_cons (ce_op o_add (ce_var 1) ce_str) ca_nil)) (ce_lst ca_nil))) (ce_var 6)))))))))))
  (cs_one (cs_ret (ce_var 2)))))
theorem sim__law_lines {P : Program} {w : World} {K : PySem.W.Frag} {mg : Str → Option Value} {base : Heap} (X : TX K mg) : FnG P w K mg base 25 X.f__law_lines X.d__law_lines ["_law_block", "_law_ahead"] (SpM (X.T w) 2 m__law_lines) := (sims3 (P := P) (w := w) (base := base) X 12)
theorem sc__law_all_lines : FnScope ["_law_program"] ["_law_program"] (defScope st__law_all_lines) := ⟨rfl, rfl, rfl, by decide +kernel, rfl, by decide +kernel, by decide +kernel⟩
theorem sim__law_all_lines {P : Program} {w : World} {K : PySem.W.Frag} {mg : Str → Option Value} {base : Heap} (X : TX K mg) : FnG P w K mg base 26 X.f__law_all_lines X.d__law_all_lines ["_law_program"] (SpM (X.T w) 1 m__law_all_lines) := by
  refine fn_sim (k := 25) (N := ["_law_program"]) (T := X.T w) (b := b__law_all_lines) X.F__law_all_lines sc__law_all_lines rfl fun cdv A outer s H E hr hg => ?_
  have tk := takes_of (X := cxOf (L2.CX P w) P w K mg base ["_law_program"] "_law_all_lines" (defScope st__law_all_lines) X.f__law_all_lines cdv A outer s H E) (E := E) rfl rfl rfl rfl
  unfold b__law_all_lines
  exact (cs_one (cs_ret (ce_op o_add (ce_lst (ca_cons (ce_op o_add ce_str (ce_callTy (c_strD hg hr.units) rfl X.n_str (by decide +kernel) (ca_cons (ce_ix (o_ix (hu_of hr)) (ce_var 0) ce_int) ca_nil))) ca_nil)) (ce_call (sim__law_lines X) (hr.mono (by decide)) hg rfl X.g__law_lines X.F__law_lines.kp X.b__law_lines tk (ca_cons (ce_ix (o_ix (hu_of hr)) (ce_var 0) ce_int) (ca_cons ce_str ca_nil))))))
theorem sc_law : FnScope ["_law_script", "_law_deck_here", "_law_turn", "_law_due", "_law_program", "_law_pool_here"] ["_law_script"] (defScope st_law) := ⟨rfl, rfl, rfl, by decide +kernel, rfl, by decide +kernel, by decide +kernel⟩
theorem sim_law {P : Program} {w : World} {K : PySem.W.Frag} {mg : Str → Option Value} {base : Heap} (X : TX K mg) : FnG P w K mg base 27 X.f_law X.d_law ["_law_script"] (SpM (X.T w) 1 m_law) := by
  refine fn_sim (k := 26) (N := ["_law_script", "_law_deck_here", "_law_turn", "_law_due", "_law_program", "_law_pool_here"]) (T := X.T w) (b := b_law) X.F_law sc_law rfl fun cdv A outer s H E hr hg => ?_
  have tk := takes_of (X := cxOf (L2.CX P w) P w K mg base ["_law_script", "_law_deck_here", "_law_turn", "_law_due", "_law_program", "_law_pool_here"] "law" (defScope st_law) X.f_law cdv A outer s H E) (E := E) rfl rfl rfl rfl
  unfold b_law
  exact (cs_cons (cs_set (i := 1) sc_law.nd rfl (by first | exact Or.inl rfl | exact Or.inr rfl) (ce_call (sim__law_deck X) (hr.mono (by decide)) hg rfl X.g__law_deck X.F__law_deck.kp X.b__law_deck tk (ca_cons (ce_var 0) ca_nil)))
  (cs_cons (cs_forX (passes_of rfl) rfl (ci_rng1 rfl X.n_range (ca_cons ce_int ca_nil)) (cg_name (n := 2) sc_law.nd rfl (by first | exact Or.inl rfl | exact Or.inr rfl))
  (cs_cons (cs_asg (ce_call (sim__law_free X) (hr.mono (by decide)) hg rfl X.g__law_free X.F__law_free.kp X.b__law_free tk (ca_cons (ce_var 1) (ca_cons (ce_op o_add ce_int (ce_call (sim__law_draw X) (hr.mono (by decide)) hg rfl X.g__law_draw X.F__law_draw.kp X.b__law_draw tk (ca_cons (ce_var 1) (ca_cons ce_int ca_nil)))) ca_nil))) (cg_tup (js := [4, 5]) (pg_tup rfl (pgs_cons (pg_name (i := 4) sc_law.nd rfl (by first | exact Or.inl rfl | exact Or.inr rfl)) (pgs_cons (pg_name (i := 5) sc_law.nd rfl (by first | exact Or.inl rfl | exact Or.inr rfl)) pgs_nil)))))
  (cs_cons (cs_set (i := 3) sc_law.nd rfl (by first | exact Or.inl rfl | exact Or.inr rfl) (ce_bm (t := .str) PySem.F.plainAttrs_str PySem.F.slot_str_join PySem.F.type_str_join m_join ce_str (ca_cons (ce_call (sim__law_all_lines X) (hr.mono (by decide)) hg rfl X.g__law_all_lines X.F__law_all_lines.kp X.b__law_all_lines tk (ca_cons (ce_var 4) ca_nil)) ca_nil)))
  (cs_one (cs_if (ct_cmp (o_ne hr.units) (ce_callB (c_repr hg hr.units) rfl X.n_repr (by decide +kernel) (ca_cons (ce_lst (ca_cons (ce_call (sim_program_text X) (hr.mono (by decide)) hg rfl X.g_program_text X.F_program_text.kp X.b_program_text tk (ca_cons (ce_var 4) ca_nil)) (ca_cons (ce_call (sim_program_text X) (hr.mono (by decide)) hg rfl X.g_program_text X.F_program_text.kp X.b_program_text tk (ca_cons (ce_var 4) ca_nil)) ca_nil))) ca_nil)) (ce_callB (c_repr hg hr.units) rfl X.n_repr (by decide +kernel) (ca_cons (ce_lst (ca_cons (ce_var 3) (ca_cons (ce_var 3) ca_nil))) ca_nil))) (cs_one (cs_ret ce_bl)) cs_nil)))))
  (cs_one (cs_ret ce_bl))))
end K06

namespace K06
open PySem PySem.Spec PyProof.Rows L2 Sm
theorem all_mk {l : PySem.W.OpenLaw} {w : World} {K : PySem.W.Frag} {h : Heap} {mg : Str → Option Value} {fa f_inner_blocks f_test_text f_statement_text f_block_lines f_program_text f__law_deck f__law_draw f__law_one f__law_kept f__law_name f__law_word f__law_pool f__law_any_test f__law_row f__law_rows f__law_inner f__law_free f__law_blocks f__law_test_text f__law_line f__law_lines f__law_all_lines f_law : Addr} (X : K.In h) (G : h.Ns mainGlobals mg) (hfa : mg "law" = some (.ref fa))
    {od_inner_blocks an_inner_blocks od_test_text an_test_text od_statement_text an_statement_text od_block_lines an_block_lines od_program_text an_program_text od__law_deck an__law_deck od__law_draw an__law_draw od__law_one an__law_one od__law_kept an__law_kept od__law_name an__law_name od__law_word an__law_word od__law_pool an__law_pool od__law_any_test an__law_any_test od__law_row an__law_row od__law_rows an__law_rows od__law_inner an__law_inner od__law_free an__law_free od__law_blocks an__law_blocks od__law_test_text an__law_test_text od__law_line an__law_line od__law_lines an__law_lines od__law_all_lines an__law_all_lines od_law an_law : Option Addr} {sl_inner_blocks sl_test_text sl_statement_text sl_block_lines sl_program_text sl__law_deck sl__law_draw sl__law_one sl__law_kept sl__law_name sl__law_word sl__law_pool sl__law_any_test sl__law_row sl__law_rows sl__law_inner sl__law_free sl__law_blocks sl__law_test_text sl__law_line sl__law_lines sl__law_all_lines sl_law : Array (Option Value)} {oc_inner_blocks kV_inner_blocks dc_inner_blocks pm_inner_blocks cd_inner_blocks ct_inner_blocks oc_test_text kV_test_text dc_test_text pm_test_text cd_test_text ct_test_text oc_statement_text kV_statement_text dc_statement_text pm_statement_text cd_statement_text ct_statement_text oc_block_lines kV_block_lines dc_block_lines pm_block_lines cd_block_lines ct_block_lines oc_program_text kV_program_text dc_program_text pm_program_text cd_program_text ct_program_text oc__law_deck kV__law_deck dc__law_deck pm__law_deck cd__law_deck ct__law_deck oc__law_draw kV__law_draw dc__law_draw pm__law_draw cd__law_draw ct__law_draw oc__law_one kV__law_one dc__law_one pm__law_one cd__law_one ct__law_one oc__law_kept kV__law_kept dc__law_kept pm__law_kept cd__law_kept ct__law_kept oc__law_name kV__law_name dc__law_name pm__law_name cd__law_name ct__law_name oc__law_word kV__law_word dc__law_word pm__law_word cd__law_word ct__law_word oc__law_pool kV__law_pool dc__law_pool pm__law_pool cd__law_pool ct__law_pool oc__law_any_test kV__law_any_test dc__law_any_test pm__law_any_test cd__law_any_test ct__law_any_test oc__law_row kV__law_row dc__law_row pm__law_row cd__law_row ct__law_row oc__law_rows kV__law_rows dc__law_rows pm__law_rows cd__law_rows ct__law_rows oc__law_inner kV__law_inner dc__law_inner pm__law_inner cd__law_inner ct__law_inner oc__law_free kV__law_free dc__law_free pm__law_free cd__law_free ct__law_free oc__law_blocks kV__law_blocks dc__law_blocks pm__law_blocks cd__law_blocks ct__law_blocks oc__law_test_text kV__law_test_text dc__law_test_text pm__law_test_text cd__law_test_text ct__law_test_text oc__law_line kV__law_line dc__law_line pm__law_line cd__law_line ct__law_line oc__law_lines kV__law_lines dc__law_lines pm__law_lines cd__law_lines ct__law_lines oc__law_all_lines kV__law_all_lines dc__law_all_lines pm__law_all_lines cd__law_all_lines ct__law_all_lines oc_law kV_law dc_law pm_law cd_law ct_law : Value} {t_STEP : Tok}
    (a_inner_blocks : PySem.W.nsIn K mainGlobals "inner_blocks" = some (some (.ref f_inner_blocks)))
    (a_test_text : PySem.W.nsIn K mainGlobals "test_text" = some (some (.ref f_test_text)))
    (a_statement_text : PySem.W.nsIn K mainGlobals "statement_text" = some (some (.ref f_statement_text)))
    (a_block_lines : PySem.W.nsIn K mainGlobals "block_lines" = some (some (.ref f_block_lines)))
    (a_program_text : PySem.W.nsIn K mainGlobals "program_text" = some (some (.ref f_program_text)))
    (a__law_deck : PySem.W.nsIn K mainGlobals "_law_deck" = some (some (.ref f__law_deck)))
    (a__law_draw : PySem.W.nsIn K mainGlobals "_law_draw" = some (some (.ref f__law_draw)))
    (a__law_one : PySem.W.nsIn K mainGlobals "_law_one" = some (some (.ref f__law_one)))
    (a__law_kept : PySem.W.nsIn K mainGlobals "_law_kept" = some (some (.ref f__law_kept)))
    (a__law_name : PySem.W.nsIn K mainGlobals "_law_name" = some (some (.ref f__law_name)))
    (a__law_word : PySem.W.nsIn K mainGlobals "_law_word" = some (some (.ref f__law_word)))
    (a__law_pool : PySem.W.nsIn K mainGlobals "_law_pool" = some (some (.ref f__law_pool)))
    (a__law_any_test : PySem.W.nsIn K mainGlobals "_law_any_test" = some (some (.ref f__law_any_test)))
    (a__law_row : PySem.W.nsIn K mainGlobals "_law_row" = some (some (.ref f__law_row)))
    (a__law_rows : PySem.W.nsIn K mainGlobals "_law_rows" = some (some (.ref f__law_rows)))
    (a__law_inner : PySem.W.nsIn K mainGlobals "_law_inner" = some (some (.ref f__law_inner)))
    (a__law_free : PySem.W.nsIn K mainGlobals "_law_free" = some (some (.ref f__law_free)))
    (a__law_blocks : PySem.W.nsIn K mainGlobals "_law_blocks" = some (some (.ref f__law_blocks)))
    (a__law_test_text : PySem.W.nsIn K mainGlobals "_law_test_text" = some (some (.ref f__law_test_text)))
    (a__law_line : PySem.W.nsIn K mainGlobals "_law_line" = some (some (.ref f__law_line)))
    (a__law_lines : PySem.W.nsIn K mainGlobals "_law_lines" = some (some (.ref f__law_lines)))
    (a__law_all_lines : PySem.W.nsIn K mainGlobals "_law_all_lines" = some (some (.ref f__law_all_lines)))
    (a_law : PySem.W.nsIn K mainGlobals "law" = some (some (.ref f_law)))
    (l_inner_blocks : K.lookup f_inner_blocks = some ⟨oc_inner_blocks, od_inner_blocks, .func (PySem.W.fnOf "inner_blocks" "inner_blocks" (defArgs st_inner_blocks) (defBody st_inner_blocks) (defScope st_inner_blocks) .none kV_inner_blocks dc_inner_blocks pm_inner_blocks an_inner_blocks cd_inner_blocks ct_inner_blocks), sl_inner_blocks⟩)
    (c_inner_blocks : PySem.W.codeIn K cd_inner_blocks "inner_blocks" = true)
    (k_inner_blocks : PySem.W.keepIn K (.ref f_inner_blocks) = true)
    (l_test_text : K.lookup f_test_text = some ⟨oc_test_text, od_test_text, .func (PySem.W.fnOf "test_text" "test_text" (defArgs st_test_text) (defBody st_test_text) (defScope st_test_text) .none kV_test_text dc_test_text pm_test_text an_test_text cd_test_text ct_test_text), sl_test_text⟩)
    (c_test_text : PySem.W.codeIn K cd_test_text "test_text" = true)
    (k_test_text : PySem.W.keepIn K (.ref f_test_text) = true)
    (l_statement_text : K.lookup f_statement_text = some ⟨oc_statement_text, od_statement_text, .func (PySem.W.fnOf "statement_text" "statement_text" (defArgs st_statement_text) (defBody st_statement_text) (defScope st_statement_text) .none kV_statement_text dc_statement_text pm_statement_text an_statement_text cd_statement_text ct_statement_text), sl_statement_text⟩)
    (c_statement_text : PySem.W.codeIn K cd_statement_text "statement_text" = true)
    (k_statement_text : PySem.W.keepIn K (.ref f_statement_text) = true)
    (l_block_lines : K.lookup f_block_lines = some ⟨oc_block_lines, od_block_lines, .func (PySem.W.fnOf "block_lines" "block_lines" (defArgs st_block_lines) (defBody st_block_lines) (defScope st_block_lines) .none kV_block_lines dc_block_lines pm_block_lines an_block_lines cd_block_lines ct_block_lines), sl_block_lines⟩)
    (c_block_lines : PySem.W.codeIn K cd_block_lines "block_lines" = true)
    (k_block_lines : PySem.W.keepIn K (.ref f_block_lines) = true)
    (l_program_text : K.lookup f_program_text = some ⟨oc_program_text, od_program_text, .func (PySem.W.fnOf "program_text" "program_text" (defArgs st_program_text) (defBody st_program_text) (defScope st_program_text) .none kV_program_text dc_program_text pm_program_text an_program_text cd_program_text ct_program_text), sl_program_text⟩)
    (c_program_text : PySem.W.codeIn K cd_program_text "program_text" = true)
    (k_program_text : PySem.W.keepIn K (.ref f_program_text) = true)
    (l__law_deck : K.lookup f__law_deck = some ⟨oc__law_deck, od__law_deck, .func (PySem.W.fnOf "_law_deck" "_law_deck" (defArgs st__law_deck) (defBody st__law_deck) (defScope st__law_deck) .none kV__law_deck dc__law_deck pm__law_deck an__law_deck cd__law_deck ct__law_deck), sl__law_deck⟩)
    (c__law_deck : PySem.W.codeIn K cd__law_deck "_law_deck" = true)
    (k__law_deck : PySem.W.keepIn K (.ref f__law_deck) = true)
    (l__law_draw : K.lookup f__law_draw = some ⟨oc__law_draw, od__law_draw, .func (PySem.W.fnOf "_law_draw" "_law_draw" (defArgs st__law_draw) (defBody st__law_draw) (defScope st__law_draw) .none kV__law_draw dc__law_draw pm__law_draw an__law_draw cd__law_draw ct__law_draw), sl__law_draw⟩)
    (c__law_draw : PySem.W.codeIn K cd__law_draw "_law_draw" = true)
    (k__law_draw : PySem.W.keepIn K (.ref f__law_draw) = true)
    (l__law_one : K.lookup f__law_one = some ⟨oc__law_one, od__law_one, .func (PySem.W.fnOf "_law_one" "_law_one" (defArgs st__law_one) (defBody st__law_one) (defScope st__law_one) .none kV__law_one dc__law_one pm__law_one an__law_one cd__law_one ct__law_one), sl__law_one⟩)
    (c__law_one : PySem.W.codeIn K cd__law_one "_law_one" = true)
    (k__law_one : PySem.W.keepIn K (.ref f__law_one) = true)
    (l__law_kept : K.lookup f__law_kept = some ⟨oc__law_kept, od__law_kept, .func (PySem.W.fnOf "_law_kept" "_law_kept" (defArgs st__law_kept) (defBody st__law_kept) (defScope st__law_kept) .none kV__law_kept dc__law_kept pm__law_kept an__law_kept cd__law_kept ct__law_kept), sl__law_kept⟩)
    (c__law_kept : PySem.W.codeIn K cd__law_kept "_law_kept" = true)
    (k__law_kept : PySem.W.keepIn K (.ref f__law_kept) = true)
    (l__law_name : K.lookup f__law_name = some ⟨oc__law_name, od__law_name, .func (PySem.W.fnOf "_law_name" "_law_name" (defArgs st__law_name) (defBody st__law_name) (defScope st__law_name) .none kV__law_name dc__law_name pm__law_name an__law_name cd__law_name ct__law_name), sl__law_name⟩)
    (c__law_name : PySem.W.codeIn K cd__law_name "_law_name" = true)
    (k__law_name : PySem.W.keepIn K (.ref f__law_name) = true)
    (l__law_word : K.lookup f__law_word = some ⟨oc__law_word, od__law_word, .func (PySem.W.fnOf "_law_word" "_law_word" (defArgs st__law_word) (defBody st__law_word) (defScope st__law_word) .none kV__law_word dc__law_word pm__law_word an__law_word cd__law_word ct__law_word), sl__law_word⟩)
    (c__law_word : PySem.W.codeIn K cd__law_word "_law_word" = true)
    (k__law_word : PySem.W.keepIn K (.ref f__law_word) = true)
    (l__law_pool : K.lookup f__law_pool = some ⟨oc__law_pool, od__law_pool, .func (PySem.W.fnOf "_law_pool" "_law_pool" (defArgs st__law_pool) (defBody st__law_pool) (defScope st__law_pool) .none kV__law_pool dc__law_pool pm__law_pool an__law_pool cd__law_pool ct__law_pool), sl__law_pool⟩)
    (c__law_pool : PySem.W.codeIn K cd__law_pool "_law_pool" = true)
    (k__law_pool : PySem.W.keepIn K (.ref f__law_pool) = true)
    (l__law_any_test : K.lookup f__law_any_test = some ⟨oc__law_any_test, od__law_any_test, .func (PySem.W.fnOf "_law_any_test" "_law_any_test" (defArgs st__law_any_test) (defBody st__law_any_test) (defScope st__law_any_test) .none kV__law_any_test dc__law_any_test pm__law_any_test an__law_any_test cd__law_any_test ct__law_any_test), sl__law_any_test⟩)
    (c__law_any_test : PySem.W.codeIn K cd__law_any_test "_law_any_test" = true)
    (k__law_any_test : PySem.W.keepIn K (.ref f__law_any_test) = true)
    (l__law_row : K.lookup f__law_row = some ⟨oc__law_row, od__law_row, .func (PySem.W.fnOf "_law_row" "_law_row" (defArgs st__law_row) (defBody st__law_row) (defScope st__law_row) .none kV__law_row dc__law_row pm__law_row an__law_row cd__law_row ct__law_row), sl__law_row⟩)
    (c__law_row : PySem.W.codeIn K cd__law_row "_law_row" = true)
    (k__law_row : PySem.W.keepIn K (.ref f__law_row) = true)
    (l__law_rows : K.lookup f__law_rows = some ⟨oc__law_rows, od__law_rows, .func (PySem.W.fnOf "_law_rows" "_law_rows" (defArgs st__law_rows) (defBody st__law_rows) (defScope st__law_rows) .none kV__law_rows dc__law_rows pm__law_rows an__law_rows cd__law_rows ct__law_rows), sl__law_rows⟩)
    (c__law_rows : PySem.W.codeIn K cd__law_rows "_law_rows" = true)
    (k__law_rows : PySem.W.keepIn K (.ref f__law_rows) = true)
    (l__law_inner : K.lookup f__law_inner = some ⟨oc__law_inner, od__law_inner, .func (PySem.W.fnOf "_law_inner" "_law_inner" (defArgs st__law_inner) (defBody st__law_inner) (defScope st__law_inner) .none kV__law_inner dc__law_inner pm__law_inner an__law_inner cd__law_inner ct__law_inner), sl__law_inner⟩)
    (c__law_inner : PySem.W.codeIn K cd__law_inner "_law_inner" = true)
    (k__law_inner : PySem.W.keepIn K (.ref f__law_inner) = true)
    (l__law_free : K.lookup f__law_free = some ⟨oc__law_free, od__law_free, .func (PySem.W.fnOf "_law_free" "_law_free" (defArgs st__law_free) (defBody st__law_free) (defScope st__law_free) .none kV__law_free dc__law_free pm__law_free an__law_free cd__law_free ct__law_free), sl__law_free⟩)
    (c__law_free : PySem.W.codeIn K cd__law_free "_law_free" = true)
    (k__law_free : PySem.W.keepIn K (.ref f__law_free) = true)
    (l__law_blocks : K.lookup f__law_blocks = some ⟨oc__law_blocks, od__law_blocks, .func (PySem.W.fnOf "_law_blocks" "_law_blocks" (defArgs st__law_blocks) (defBody st__law_blocks) (defScope st__law_blocks) .none kV__law_blocks dc__law_blocks pm__law_blocks an__law_blocks cd__law_blocks ct__law_blocks), sl__law_blocks⟩)
    (c__law_blocks : PySem.W.codeIn K cd__law_blocks "_law_blocks" = true)
    (k__law_blocks : PySem.W.keepIn K (.ref f__law_blocks) = true)
    (l__law_test_text : K.lookup f__law_test_text = some ⟨oc__law_test_text, od__law_test_text, .func (PySem.W.fnOf "_law_test_text" "_law_test_text" (defArgs st__law_test_text) (defBody st__law_test_text) (defScope st__law_test_text) .none kV__law_test_text dc__law_test_text pm__law_test_text an__law_test_text cd__law_test_text ct__law_test_text), sl__law_test_text⟩)
    (c__law_test_text : PySem.W.codeIn K cd__law_test_text "_law_test_text" = true)
    (k__law_test_text : PySem.W.keepIn K (.ref f__law_test_text) = true)
    (l__law_line : K.lookup f__law_line = some ⟨oc__law_line, od__law_line, .func (PySem.W.fnOf "_law_line" "_law_line" (defArgs st__law_line) (defBody st__law_line) (defScope st__law_line) .none kV__law_line dc__law_line pm__law_line an__law_line cd__law_line ct__law_line), sl__law_line⟩)
    (c__law_line : PySem.W.codeIn K cd__law_line "_law_line" = true)
    (k__law_line : PySem.W.keepIn K (.ref f__law_line) = true)
    (l__law_lines : K.lookup f__law_lines = some ⟨oc__law_lines, od__law_lines, .func (PySem.W.fnOf "_law_lines" "_law_lines" (defArgs st__law_lines) (defBody st__law_lines) (defScope st__law_lines) .none kV__law_lines dc__law_lines pm__law_lines an__law_lines cd__law_lines ct__law_lines), sl__law_lines⟩)
    (c__law_lines : PySem.W.codeIn K cd__law_lines "_law_lines" = true)
    (k__law_lines : PySem.W.keepIn K (.ref f__law_lines) = true)
    (l__law_all_lines : K.lookup f__law_all_lines = some ⟨oc__law_all_lines, od__law_all_lines, .func (PySem.W.fnOf "_law_all_lines" "_law_all_lines" (defArgs st__law_all_lines) (defBody st__law_all_lines) (defScope st__law_all_lines) .none kV__law_all_lines dc__law_all_lines pm__law_all_lines an__law_all_lines cd__law_all_lines ct__law_all_lines), sl__law_all_lines⟩)
    (c__law_all_lines : PySem.W.codeIn K cd__law_all_lines "_law_all_lines" = true)
    (k__law_all_lines : PySem.W.keepIn K (.ref f__law_all_lines) = true)
    (l_law : K.lookup f_law = some ⟨oc_law, od_law, .func (PySem.W.fnOf "law" "law" (defArgs st_law) (defBody st_law) (defScope st_law) .none kV_law dc_law pm_law an_law cd_law ct_law), sl_law⟩)
    (c_law : PySem.W.codeIn K cd_law "law" = true)
    (k_law : PySem.W.keepIn K (.ref f_law) = true)
    (v_STEP : PySem.W.nsIn K mainGlobals "STEP" = some (some (.str "  " t_STEP)))
    (z_abs : PySem.W.nsIn K mainGlobals "abs" = some none)
    (z_int : PySem.W.nsIn K mainGlobals "int" = some none)
    (z_isinstance : PySem.W.nsIn K mainGlobals "isinstance" = some none)
    (z_len : PySem.W.nsIn K mainGlobals "len" = some none)
    (z_range : PySem.W.nsIn K mainGlobals "range" = some none)
    (z_repr : PySem.W.nsIn K mainGlobals "repr" = some none)
    (z_str : PySem.W.nsIn K mainGlobals "str" = some none)
    (z_tuple : PySem.W.nsIn K mainGlobals "tuple" = some none) :
    ∃ (T : Tb) (fd : FuncData), T.K = K ∧ (∀ (s : Shared) (u : Value), BindsTo s fd ⟨[u], []⟩ [("_law_script", u)]) ∧ ∀ base : Heap, T.K.In base → base.Ns mainGlobals mg → FnG l.prog w T.K mg base 27 fa fd ["_law_script"] (SpM T 1 m_law) := by
  have e := hfa.symm.trans (PySem.W.mg_of X G a_law)
  cases e
  have F_inner_blocks := fun_mk (st := st_inner_blocks) l_inner_blocks c_inner_blocks k_inner_blocks
  have b_inner_blocks := F_inner_blocks.binds (ps := ["statement"]) fun _ _ _ _ _ _ us hl => match us, hl with | [_], _ => rfl
  have F_test_text := fun_mk (st := st_test_text) l_test_text c_test_text k_test_text
  have b_test_text := F_test_text.binds (ps := ["test"]) fun _ _ _ _ _ _ us hl => match us, hl with | [_], _ => rfl
  have F_statement_text := fun_mk (st := st_statement_text) l_statement_text c_statement_text k_statement_text
  have b_statement_text := F_statement_text.binds (ps := ["statement"]) fun _ _ _ _ _ _ us hl => match us, hl with | [_], _ => rfl
  have F_block_lines := fun_mk (st := st_block_lines) l_block_lines c_block_lines k_block_lines
  have b_block_lines := F_block_lines.binds (ps := ["block", "ahead"]) fun _ _ _ _ _ _ us hl => match us, hl with | [_, _], _ => rfl
  have F_program_text := fun_mk (st := st_program_text) l_program_text c_program_text k_program_text
  have b_program_text := F_program_text.binds (ps := ["program"]) fun _ _ _ _ _ _ us hl => match us, hl with | [_], _ => rfl
  have F__law_deck := fun_mk (st := st__law_deck) l__law_deck c__law_deck k__law_deck
  have b__law_deck := F__law_deck.binds (ps := ["_law_script"]) fun _ _ _ _ _ _ us hl => match us, hl with | [_], _ => rfl
  have F__law_draw := fun_mk (st := st__law_draw) l__law_draw c__law_draw k__law_draw
  have b__law_draw := F__law_draw.binds (ps := ["_law_deck_here", "_law_many"]) fun _ _ _ _ _ _ us hl => match us, hl with | [_, _], _ => rfl
  have F__law_one := fun_mk (st := st__law_one) l__law_one c__law_one k__law_one
  have b__law_one := F__law_one.binds (ps := ["_law_deck_here", "_law_items"]) fun _ _ _ _ _ _ us hl => match us, hl with | [_, _], _ => rfl
  have F__law_kept := fun_mk (st := st__law_kept) l__law_kept c__law_kept k__law_kept
  have b__law_kept := F__law_kept.binds (ps := []) fun _ _ _ _ _ _ us hl => match us, hl with | [], _ => rfl
  have F__law_name := fun_mk (st := st__law_name) l__law_name c__law_name k__law_name
  have b__law_name := F__law_name.binds (ps := ["_law_deck_here"]) fun _ _ _ _ _ _ us hl => match us, hl with | [_], _ => rfl
  have F__law_word := fun_mk (st := st__law_word) l__law_word c__law_word k__law_word
  have b__law_word := F__law_word.binds (ps := ["_law_deck_here"]) fun _ _ _ _ _ _ us hl => match us, hl with | [_], _ => rfl
  have F__law_pool := fun_mk (st := st__law_pool) l__law_pool c__law_pool k__law_pool
  have b__law_pool := F__law_pool.binds (ps := ["_law_deck_here"]) fun _ _ _ _ _ _ us hl => match us, hl with | [_], _ => rfl
  have F__law_any_test := fun_mk (st := st__law_any_test) l__law_any_test c__law_any_test k__law_any_test
  have b__law_any_test := F__law_any_test.binds (ps := ["_law_deck_here", "_law_pool_here"]) fun _ _ _ _ _ _ us hl => match us, hl with | [_, _], _ => rfl
  have F__law_row := fun_mk (st := st__law_row) l__law_row c__law_row k__law_row
  have b__law_row := F__law_row.binds (ps := ["_law_deck_here", "_law_pool_here"]) fun _ _ _ _ _ _ us hl => match us, hl with | [_, _], _ => rfl
  have F__law_rows := fun_mk (st := st__law_rows) l__law_rows c__law_rows k__law_rows
  have b__law_rows := F__law_rows.binds (ps := ["_law_deck_here", "_law_pool_here", "_law_left", "_law_depth", "_law_times"]) fun _ _ _ _ _ _ us hl => match us, hl with | [_, _, _, _, _], _ => rfl
  have F__law_inner := fun_mk (st := st__law_inner) l__law_inner c__law_inner k__law_inner
  have b__law_inner := F__law_inner.binds (ps := ["_law_deck_here", "_law_pool_here", "_law_left", "_law_depth", "_law_times"]) fun _ _ _ _ _ _ us hl => match us, hl with | [_, _, _, _, _], _ => rfl
  have F__law_free := fun_mk (st := st__law_free) l__law_free c__law_free k__law_free
  have b__law_free := F__law_free.binds (ps := ["_law_deck_here", "_law_most"]) fun _ _ _ _ _ _ us hl => match us, hl with | [_, _], _ => rfl
  have F__law_blocks := fun_mk (st := st__law_blocks) l__law_blocks c__law_blocks k__law_blocks
  have b__law_blocks := F__law_blocks.binds (ps := ["_law_row_here"]) fun _ _ _ _ _ _ us hl => match us, hl with | [_], _ => rfl
  have F__law_test_text := fun_mk (st := st__law_test_text) l__law_test_text c__law_test_text k__law_test_text
  have b__law_test_text := F__law_test_text.binds (ps := ["_law_test"]) fun _ _ _ _ _ _ us hl => match us, hl with | [_], _ => rfl
  have F__law_line := fun_mk (st := st__law_line) l__law_line c__law_line k__law_line
  have b__law_line := F__law_line.binds (ps := ["_law_row_here"]) fun _ _ _ _ _ _ us hl => match us, hl with | [_], _ => rfl
  have F__law_lines := fun_mk (st := st__law_lines) l__law_lines c__law_lines k__law_lines
  have b__law_lines := F__law_lines.binds (ps := ["_law_block", "_law_ahead"]) fun _ _ _ _ _ _ us hl => match us, hl with | [_, _], _ => rfl
  have F__law_all_lines := fun_mk (st := st__law_all_lines) l__law_all_lines c__law_all_lines k__law_all_lines
  have b__law_all_lines := F__law_all_lines.binds (ps := ["_law_program"]) fun _ _ _ _ _ _ us hl => match us, hl with | [_], _ => rfl
  have F_law := fun_mk (st := st_law) l_law c_law k_law
  have b_law := F_law.binds (ps := ["_law_script"]) fun _ _ _ _ _ _ us hl => match us, hl with | [_], _ => rfl
  let Z : TX K mg := { f_inner_blocks := _, d_inner_blocks := _, F_inner_blocks := F_inner_blocks, b_inner_blocks := b_inner_blocks, g_inner_blocks := PySem.W.mg_of X G a_inner_blocks, f_test_text := _, d_test_text := _, F_test_text := F_test_text, b_test_text := b_test_text, g_test_text := PySem.W.mg_of X G a_test_text, f_statement_text := _, d_statement_text := _, F_statement_text := F_statement_text, b_statement_text := b_statement_text, g_statement_text := PySem.W.mg_of X G a_statement_text, f_block_lines := _, d_block_lines := _, F_block_lines := F_block_lines, b_block_lines := b_block_lines, g_block_lines := PySem.W.mg_of X G a_block_lines, f_program_text := _, d_program_text := _, F_program_text := F_program_text, b_program_text := b_program_text, g_program_text := PySem.W.mg_of X G a_program_text, f__law_deck := _, d__law_deck := _, F__law_deck := F__law_deck, b__law_deck := b__law_deck, g__law_deck := PySem.W.mg_of X G a__law_deck, f__law_draw := _, d__law_draw := _, F__law_draw := F__law_draw, b__law_draw := b__law_draw, g__law_draw := PySem.W.mg_of X G a__law_draw, f__law_one := _, d__law_one := _, F__law_one := F__law_one, b__law_one := b__law_one, g__law_one := PySem.W.mg_of X G a__law_one, f__law_kept := _, d__law_kept := _, F__law_kept := F__law_kept, b__law_kept := b__law_kept, g__law_kept := PySem.W.mg_of X G a__law_kept, f__law_name := _, d__law_name := _, F__law_name := F__law_name, b__law_name := b__law_name, g__law_name := PySem.W.mg_of X G a__law_name, f__law_word := _, d__law_word := _, F__law_word := F__law_word, b__law_word := b__law_word, g__law_word := PySem.W.mg_of X G a__law_word, f__law_pool := _, d__law_pool := _, F__law_pool := F__law_pool, b__law_pool := b__law_pool, g__law_pool := PySem.W.mg_of X G a__law_pool, f__law_any_test := _, d__law_any_test := _, F__law_any_test := F__law_any_test, b__law_any_test := b__law_any_test, g__law_any_test := PySem.W.mg_of X G a__law_any_test, f__law_row := _, d__law_row := _, F__law_row := F__law_row, b__law_row := b__law_row, g__law_row := PySem.W.mg_of X G a__law_row, f__law_rows := _, d__law_rows := _, F__law_rows := F__law_rows, b__law_rows := b__law_rows, g__law_rows := PySem.W.mg_of X G a__law_rows, f__law_inner := _, d__law_inner := _, F__law_inner := F__law_inner, b__law_inner := b__law_inner, g__law_inner := PySem.W.mg_of X G a__law_inner, f__law_free := _, d__law_free := _, F__law_free := F__law_free, b__law_free := b__law_free, g__law_free := PySem.W.mg_of X G a__law_free, f__law_blocks := _, d__law_blocks := _, F__law_blocks := F__law_blocks, b__law_blocks := b__law_blocks, g__law_blocks := PySem.W.mg_of X G a__law_blocks, f__law_test_text := _, d__law_test_text := _, F__law_test_text := F__law_test_text, b__law_test_text := b__law_test_text, g__law_test_text := PySem.W.mg_of X G a__law_test_text, f__law_line := _, d__law_line := _, F__law_line := F__law_line, b__law_line := b__law_line, g__law_line := PySem.W.mg_of X G a__law_line, f__law_lines := _, d__law_lines := _, F__law_lines := F__law_lines, b__law_lines := b__law_lines, g__law_lines := PySem.W.mg_of X G a__law_lines, f__law_all_lines := _, d__law_all_lines := _, F__law_all_lines := F__law_all_lines, b__law_all_lines := b__law_all_lines, g__law_all_lines := PySem.W.mg_of X G a__law_all_lines, f_law := _, d_law := _, F_law := F_law, b_law := b_law, g_law := PySem.W.mg_of X G a_law, t_STEP := t_STEP, g_STEP := PySem.W.mg_of X G v_STEP, n_abs := PySem.W.mg_none_of X G z_abs, n_int := PySem.W.mg_none_of X G z_int, n_isinstance := PySem.W.mg_none_of X G z_isinstance, n_len := PySem.W.mg_none_of X G z_len, n_range := PySem.W.mg_none_of X G z_range, n_repr := PySem.W.mg_none_of X G z_repr, n_str := PySem.W.mg_none_of X G z_str, n_tuple := PySem.W.mg_none_of X G z_tuple }
  exact ⟨Z.T w, Z.d_law, rfl, fun s u => .of_eq rfl, fun base _ _ => sim_law Z⟩
end K06

/-! S13: how pure programs are computed: weakest preconditions -/
namespace Sm
open PySem L2
/-- a mark that keeps simp from what it speaks of -/
inductive Tg {α : Type} (x : α) : Type where
  | a | b
/-- behind an expression: the value and the store (Q), or an exception (E) -/
def WE0 {α : Type} (m : M α) (s : Sto) (Q : α → Sto → Prop) (E : Ex → Sto → Prop) : Prop := match m s with
  | .ok a s' => Q a s'
  | .exc e s' => E e s'
  | .fail => False
structure WE {α : Type} (m : M α) (s : Sto) (Q : α → Sto → Prop) (E : Ex → Sto → Prop) (_ : Tg (Q, E) := .a) : Prop where
  h : WE0 m s Q E
theorem WE_eq {α : Type} {m : M α} {s : Sto} {Q : α → Sto → Prop} {E : Ex → Sto → Prop} : WE m s Q E = WE0 m s Q E := propext ⟨fun x => x.h, fun x => ⟨x⟩⟩
/-- behind a statement -/
structure RK where
  nx : Lo → Sto → Prop
  rt : Vl → Sto → Prop
  bk : Lo → Sto → Prop
  ct : Lo → Sto → Prop
  ex : Ex → Lo → Sto → Prop
def WS0 (b : SM) (lo : Lo) (s : Sto) (K : RK) : Prop := match b lo s with
  | .nx lo s => K.nx lo s
  | .rt v s => K.rt v s
  | .bk lo s => K.bk lo s
  | .ct lo s => K.ct lo s
  | .exc e lo s => K.ex e lo s
  | .fail => False
structure WS (b : SM) (lo : Lo) (s : Sto) (K : RK) (_ : Tg K := .a) : Prop where
  h : WS0 b lo s K
theorem WS_eq {b : SM} {lo : Lo} {s : Sto} {K : RK} : WS b lo s K = WS0 b lo s K := propext ⟨fun x => x.h, fun x => ⟨x⟩⟩
def WO0 {α : Type} (o : Option (α × Sto)) (Q : α → Sto → Prop) : Prop := match o with
  | some (a, s) => Q a s
  | none => False
structure WO {α : Type} (o : Option (α × Sto)) (Q : α → Sto → Prop) (_ : Tg Q := .a) : Prop where
  h : WO0 o Q
theorem WO_eq {α : Type} {o : Option (α × Sto)} {Q : α → Sto → Prop} : WO o Q = WO0 o Q := propext ⟨fun x => x.h, fun x => ⟨x⟩⟩
theorem WE_ext {α : Type} {m : M α} {s : Sto} {Q Q' : α → Sto → Prop} {E : Ex → Sto → Prop} (h : ∀ a s, Q a s = Q' a s) : WE m s Q E = WE m s Q' E := by
  have : Q = Q' := funext fun a => funext fun s => h a s
  subst this
  rfl
abbrev NoX : Ex → Sto → Prop := fun _ _ => False
theorem WE.mono {α : Type} {m : M α} {s : Sto} {Q Q' : α → Sto → Prop} {E E' : Ex → Sto → Prop} (h : WE m s Q E) (k : ∀ a s', Q a s' → Q' a s') (kx : ∀ e s', E e s' → E' e s') : WE m s Q' E' := by
  simp only [WE_eq] at h ⊢
  unfold WE0 at h ⊢
  cases e : m s with
  | ok a s' => rw [e] at h; exact k a s' h
  | exc x s' => rw [e] at h; exact kx x s' h
  | fail => rw [e] at h; exact h
/-- what is known of a call, used -/
theorem WE.use {α : Type} {m : M α} {s : Sto} {Q Q' : α → Sto → Prop} {E' : Ex → Sto → Prop} (h : WE m s Q NoX) (k : ∀ a s', Q a s' → Q' a s') : WE m s Q' E' := h.mono k fun _ _ z => z.elim
theorem WE.ok {α : Type} {m : M α} {s s' : Sto} {a : α} {Q : α → Sto → Prop} {E : Ex → Sto → Prop} (h : m s = .ok a s') (k : Q a s') : WE m s Q E := by
  simp only [WE_eq]
  unfold WE0; rw [h]; exact k
theorem WE.get {α : Type} {m : M α} {s : Sto} {Q : α → Sto → Prop} (h : WE m s Q NoX) : ∃ a s', m s = .ok a s' ∧ Q a s' := by
  simp only [WE_eq] at h
  unfold WE0 at h
  cases e : m s with
  | ok a s' => rw [e] at h; exact ⟨a, s', rfl, h⟩
  | exc x s' => rw [e] at h; exact h.elim
  | fail => rw [e] at h; exact h.elim
theorem WS.mono {b : SM} {lo : Lo} {s : Sto} {K K' : RK} (h : WS b lo s K) (k1 : ∀ lo s, K.nx lo s → K'.nx lo s) (k2 : ∀ v s, K.rt v s → K'.rt v s) (k3 : ∀ lo s, K.bk lo s → K'.bk lo s) (k4 : ∀ lo s, K.ct lo s → K'.ct lo s) (k5 : ∀ e lo s, K.ex e lo s → K'.ex e lo s) : WS b lo s K' := by
  simp only [WS_eq] at h ⊢
  unfold WS0 at h ⊢
  cases e : b lo s with
  | nx lo s => rw [e] at h; exact k1 lo s h
  | rt v s => rw [e] at h; exact k2 v s h
  | bk lo s => rw [e] at h; exact k3 lo s h
  | ct lo s => rw [e] at h; exact k4 lo s h
  | exc x lo s => rw [e] at h; exact k5 x lo s h
  | fail => rw [e] at h; exact h
section
variable {α β : Type} {m : M α} {s : Sto} {lo : Lo} {Q : α → Sto → Prop} {QV : Vl → Sto → Prop} {QB : Bool → Sto → Prop} {QA : List Vl → Sto → Prop} {Q' : β → Sto → Prop} {E : Ex → Sto → Prop} {K : RK}
@[simp ↓] theorem WO_some {a : α} : WO (some (a, s)) Q = Q a s := by simp only [WO_eq]; rfl
@[simp ↓] theorem WO_none : WO (none : Option (α × Sto)) Q = False := by simp only [WO_eq]; rfl
@[simp ↓] theorem WE_bnd {f : α → M β} : WE (bnd m f) s Q' E = WE m s (fun a s => WE (f a) s Q' E) E := by
  simp only [WE_eq]
  unfold WE0 bnd
  cases m s <;> rfl
@[simp ↓] theorem WE_ret {a : α} : WE (ret a) s Q E = Q a s := by simp only [WE_eq]; rfl
@[simp ↓] theorem WE_fail : WE (failM : M α) s Q E = False := by simp only [WE_eq]; rfl
@[simp ↓] theorem WE_lift {f : Sto → Option (α × Sto)} : WE (lift f) s Q E = WO (f s) Q := by
  simp only [WE_eq, WO_eq]
  unfold WE0 lift WO0
  cases f s with
  | none => rfl
  | some p => obtain ⟨a, s'⟩ := p; rfl
theorem WE_eVar {i : Nat} {v : Vl} (h : lo[i]? = some (some v)) : WE (eVar i lo) s QV E = QV v s := by
  simp only [WE_eq]
  unfold WE0 eVar; rw [h]
@[simp ↓] theorem WE_eVar' {i : Nat} : WE (eVar i lo) s QV E = (match lo[i]? with | some (some v) => QV v s | _ => False) := by
  simp only [WE_eq]
  unfold WE0 eVar
  cases lo[i]? with
  | none => rfl
  | some o => cases o <;> rfl
@[simp ↓] theorem WE_eC {v : Vl} : WE (eC v lo) s QV E = QV v s := by simp only [WE_eq]; rfl
@[simp ↓] theorem WE_eOp1 {f : O1} {a : EM} : WE (eOp1 f a lo) s QV E = WE (a lo) s (fun x s => WO (f x s) QV) E := by
  unfold eOp1
  rw [WE_bnd]
  exact WE_ext fun x s => WE_lift
@[simp ↓] theorem WE_eOp {f : O2} {a b : EM} : WE (eOp f a b lo) s QV E = WE (a lo) s (fun x s => WE (b lo) s (fun y s => WO (f x y s) QV) E) E := by
  unfold eOp
  rw [WE_bnd]
  refine WE_ext fun x s => ?_
  rw [WE_bnd]
  exact WE_ext fun y s => WE_lift
@[simp ↓] theorem WE_aNil : WE (aNil lo) s QA E = QA [] s := by simp only [WE_eq]; rfl
@[simp ↓] theorem WE_aCons {a : EM} {r : AM} : WE (aCons a r lo) s QA E = WE (a lo) s (fun x s => WE (r lo) s (fun xs s => QA (x :: xs) s) E) E := by
  unfold aCons
  rw [WE_bnd]
  refine WE_ext fun x s => ?_
  rw [WE_bnd]
  exact WE_ext fun xs s => WE_ret
@[simp ↓] theorem WE_eCB {f : OC} {a : AM} : WE (eCB f a lo) s QV E = WE (a lo) s (fun xs s => WO (f xs s) QV) E := by
  unfold eCB
  rw [WE_bnd]
  exact WE_ext fun x s => WE_lift
@[simp ↓] theorem WE_eCall {mf : List Vl → M Vl} {a : AM} : WE (eCall mf a lo) s QV E = WE (a lo) s (fun as s => WE (mf as) s QV E) E := by unfold eCall; rw [WE_bnd]
@[simp ↓] theorem WE_arg {n : Nat} {mf : List Vl → M Vl} {as : List Vl} : WE (arg n mf as) s QV E = (if as.length = n then WE (mf as) s QV E else False) := by
  by_cases h : as.length = n <;> simp [WE_eq, WE0, arg, h]
@[simp ↓] theorem WE_argI {n : Nat} {mf : List Vl → M Vl} {as : List Vl} : WE (argI n mf as) s QV E = (if as.length = n + 1 then WE (mf as) s QV E else False) := by
  by_cases h : as.length = n + 1 <;> simp [WE_eq, WE0, argI, h]
@[simp ↓] theorem WE_tVal {a : EM} : WE (tVal a lo) s QB E = WE (a lo) s (fun x s => match x with | .bl b => QB b s | _ => False) E := by
  unfold tVal
  rw [WE_bnd]
  refine WE_ext fun x s => ?_
  cases x <;> (simp only [WE_eq]; rfl)
@[simp ↓] theorem WE_tAndM {a b : TM} : WE (tAndM a b lo) s QB E = WE (a lo) s (fun x s => if x = true then WE (b lo) s QB E else QB false s) E := by
  unfold tAndM
  rw [WE_bnd]
  refine WE_ext fun x s => ?_
  cases x <;> simp
@[simp ↓] theorem WE_tOrM {a b : TM} : WE (tOrM a b lo) s QB E = WE (a lo) s (fun x s => if x = true then QB true s else WE (b lo) s QB E) E := by
  unfold tOrM
  rw [WE_bnd]
  refine WE_ext fun x s => ?_
  cases x <;> simp
@[simp ↓] theorem WE_tNotM {a : TM} : WE (tNotM a lo) s QB E = WE (a lo) s (fun x s => QB (!x) s) E := by unfold tNotM; rw [WE_bnd]; exact WE_ext fun x s => WE_ret
@[simp ↓] theorem WE_eAndM {a b : EM} : WE (eAndM a b lo) s QV E = WE (a lo) s (fun x s => match x with | .bl true => WE (b lo) s QV E | .bl false => QV (.bl false) s | _ => False) E := by
  unfold eAndM
  rw [WE_bnd]
  refine WE_ext fun x s => ?_
  cases x <;> try (simp only [WE_eq]; rfl)
  rename_i k
  cases k <;> simp only [WE_eq] <;> rfl
@[simp ↓] theorem WE_eOrM {a b : EM} : WE (eOrM a b lo) s QV E = WE (a lo) s (fun x s => match x with | .bl false => WE (b lo) s QV E | .bl true => QV (.bl true) s | _ => False) E := by
  unfold eOrM
  rw [WE_bnd]
  refine WE_ext fun x s => ?_
  cases x <;> try (simp only [WE_eq]; rfl)
  rename_i k
  cases k <;> simp only [WE_eq] <;> rfl
@[simp ↓] theorem WE_eNotM {a : EM} : WE (eNotM a lo) s QV E = WE (a lo) s (fun x s => match x with | .bl b => QV (.bl (!b)) s | _ => False) E := by
  unfold eNotM
  rw [WE_bnd]
  refine WE_ext fun x s => ?_
  cases x <;> (simp only [WE_eq]; rfl)
@[simp ↓] theorem WE_eIfM {t : TM} {a b : EM} : WE (eIfM t a b lo) s QV E = WE (t lo) s (fun x s => if x = true then WE (a lo) s QV E else WE (b lo) s QV E) E := by
  unfold eIfM
  rw [WE_bnd]
  refine WE_ext fun x s => ?_
  cases x <;> simp
@[simp ↓] theorem WE_eBm {t : Kd} {f : OMt} {o : EM} {a : AM} : WE (eBm t f o a lo) s QV E = WE (o lo) s (fun x s => if kd t x s = true then WE (a lo) s (fun xs s => WO (f x xs s) QV) E else False) E := by
  unfold eBm
  rw [WE_bnd]
  refine WE_ext fun x s => ?_
  show WE (fun s => match kd t x s with | true => bnd (a lo) (fun xs => lift (f x xs)) s | false => .fail) s QV E = _
  cases h : kd t x s with
  | true =>
    rw [if_pos rfl]
    have : WE (bnd (a lo) (fun xs => lift (f x xs))) s QV E = WE (a lo) s (fun xs s => WO (f x xs s) QV) E := by
      rw [WE_bnd]
      exact WE_ext fun xs s => WE_lift
    rw [← this]
    simp only [WE_eq]
    unfold WE0
    simp only [h]
  | false =>
    rw [if_neg (by decide)]
    simp only [WE_eq]
    unfold WE0
    simp only [h]
@[simp ↓] theorem WE_eBm0 {t : Kd} {f : OMt} {o : EM} : WE (eBm0 t f o lo) s QV E = WE (o lo) s (fun x s => if kd t x s = true then WO (f x [] s) QV else False) E := by
  unfold eBm0
  rw [WE_bnd]
  refine WE_ext fun x s => ?_
  show WE (fun s => match kd t x s with | true => lift (f x []) s | false => .fail) s QV E = _
  cases h : kd t x s with
  | true =>
    rw [if_pos rfl, ← WE_lift (E := E)]
    simp only [WE_eq]
    unfold WE0
    simp only [h]
  | false =>
    rw [if_neg (by decide)]
    simp only [WE_eq]
    unfold WE0
    simp only [h]
def fldW (cs : List Nat) (f : Str) (x : Vl) (s : Sto) (QV : Vl → Sto → Prop) : Prop := match x with
  | .ref j => match s[j]? with
    | some (.ins c fs) => c ∈ cs ∧ match getS fs f with
        | some v => QV v s
        | none => False
    | _ => False
  | _ => False
@[simp ↓] theorem WE_eFld {cs : List Nat} {f : Str} {o : EM} : WE (eFld cs f o lo) s QV E = WE (o lo) s (fun x s => fldW cs f x s QV) E := by
  unfold eFld
  rw [WE_bnd]
  refine WE_ext fun x s => ?_
  simp only [WE_eq]
  unfold WE0 fldW
  cases x <;> try rfl
  rename_i j
  simp only
  cases h : s[j]? with
  | none => simp only [h]
  | some o =>
    cases o <;> simp only [h]
    rename_i c fs
    by_cases hc : c ∈ cs
    · simp only [hc, if_true, true_and]
      cases getS fs f <;> rfl
    · simp [hc]
@[simp ↓] theorem WE_fnM {n : Nat} {b : SM} {as : List Vl} : WE (fnM n b as) s QV E = WS b (as.map some ++ List.replicate (n - as.length) none) s ⟨fun _ s => QV .non s, QV, fun _ _ => False, fun _ _ => False, fun e _ s => E e s⟩ := by
  simp only [WE_eq, WS_eq]
  unfold WE0 WS0 fnM
  cases b (as.map some ++ List.replicate (n - as.length) none) s <;> rfl
@[simp ↓] theorem WE_eSl {f : OSl} {a : EM} {l h : Option EM} : WE (eSl f a l h lo) s QV E = WE (a lo) s (fun x s => WE (oPart l lo) s (fun i s => WE (oPart h lo) s (fun j s => WO (f x i j s) QV) E) E) E := by
  unfold eSl
  rw [WE_bnd]
  refine WE_ext fun x s => ?_
  rw [WE_bnd]
  refine WE_ext fun i s => ?_
  rw [WE_bnd]
  exact WE_ext fun j s => WE_lift
@[simp ↓] theorem WE_oPartN {QO : Option Int → Sto → Prop} : WE (oPart none lo) s QO E = QO none s := by simp only [WE_eq]; rfl
@[simp ↓] theorem WE_oPartS {QO : Option Int → Sto → Prop} {a : EM} : WE (oPart (some a) lo) s QO E = WE (a lo) s (fun x s => match x with | .int i => QO (some i) s | _ => False) E := by
  show WE (bnd (a lo) _) s QO E = _
  rw [WE_bnd]
  refine WE_ext fun x s => ?_
  cases x <;> (simp only [WE_eq]; rfl)
@[simp ↓] theorem WE_eDict0 : WE (eDict0 lo) s QV E = QV (.ref s.length) (s ++ [.dic []]) := by simp only [WE_eq]; rfl
/-! statements -/
@[simp ↓] theorem WS_sNil : WS sNil lo s K = K.nx lo s := by simp only [WS_eq]; rfl
@[simp ↓] theorem WS_sBreak : WS sBreak lo s K = K.bk lo s := by simp only [WS_eq]; rfl
@[simp ↓] theorem WS_sCont : WS sCont lo s K = K.ct lo s := by simp only [WS_eq]; rfl
@[simp ↓] theorem WS_sRetN : WS sRetN lo s K = K.rt .non s := by simp only [WS_eq]; rfl
@[simp ↓] theorem WS_sSeq {a b : SM} : WS (sSeq a b) lo s K = WS a lo s ⟨fun lo s => WS b lo s K, K.rt, K.bk, K.ct, K.ex⟩ := by
  simp only [WS_eq]
  unfold WS0 sSeq
  cases a lo s <;> rfl
theorem WS_bndS {m : Lo → M α} {f : Lo → α → Sto → RS} : WS (bndS m f) lo s K = WE (m lo) s (fun a s => match f lo a s with | .nx lo s => K.nx lo s | .rt v s => K.rt v s | .bk lo s => K.bk lo s | .ct lo s => K.ct lo s | .exc e lo s => K.ex e lo s | .fail => False) (fun e s => K.ex e lo s) := by
  simp only [WS_eq, WE_eq]
  unfold WS0 WE0 bndS
  cases m lo s <;> rfl
@[simp ↓] theorem WS_sExpr {e : EM} : WS (sExpr e) lo s K = WE (e lo) s (fun _ s => K.nx lo s) (fun x s => K.ex x lo s) := by unfold sExpr; rw [WS_bndS]
@[simp ↓] theorem WS_sRet {e : EM} : WS (sRet e) lo s K = WE (e lo) s K.rt (fun x s => K.ex x lo s) := by unfold sRet; rw [WS_bndS]
@[simp ↓] theorem WS_sSet {i : Nat} {e : EM} : WS (sSet i e) lo s K = WE (e lo) s (fun v s => K.nx (lo.set i (some v)) s) (fun x s => K.ex x lo s) := by unfold sSet; rw [WS_bndS]
@[simp ↓] theorem WS_sIf {t : TM} {a b : SM} : WS (sIf t a b) lo s K = WE (t lo) s (fun c s => if c = true then WS a lo s K else WS b lo s K) (fun x s => K.ex x lo s) := by
  unfold sIf
  rw [WS_bndS]
  refine WE_ext fun c s => ?_
  cases c <;> simp [WS_eq, WS0]
@[simp ↓] theorem WS_sPar {i j : Nat} {a : AM} : WS (sPar i j a) lo s K = WE (a lo) s (fun vs s => match vs with | [v, w] => K.nx ((lo.set i (some v)).set j (some w)) s | _ => False) (fun x s => K.ex x lo s) := by
  unfold sPar
  rw [WS_bndS]
  refine WE_ext fun vs s => ?_
  match vs with
  | [] => rfl
  | [_] => rfl
  | [_, _] => rfl
  | _ :: _ :: _ :: _ => rfl
@[simp ↓] theorem WS_sPar3 {i j l : Nat} {a : AM} : WS (sPar3 i j l a) lo s K = WE (a lo) s (fun vs s => match vs with | [v, w, x] => K.nx (((lo.set i (some v)).set j (some w)).set l (some x)) s | _ => False) (fun x s => K.ex x lo s) := by
  unfold sPar3
  rw [WS_bndS]
  refine WE_ext fun vs s => ?_
  match vs with
  | [] => rfl
  | [_] => rfl
  | [_, _] => rfl
  | [_, _, _] => rfl
  | _ :: _ :: _ :: _ :: _ => rfl
/-- targets -/
structure WG (g : GM) (v : Vl) (lo : Lo) (s : Sto) (N : Lo → Sto → Prop) (E : Ex → Sto → Prop) (_ : Tg (N, E) := .a) : Prop where
  h : WE (g v lo) s N E
theorem WG_eq {g : GM} {v : Vl} {lo : Lo} {s : Sto} {N : Lo → Sto → Prop} {E : Ex → Sto → Prop} : WG g v lo s N E = WE (g v lo) s N E := propext ⟨fun x => x.h, fun x => ⟨x⟩⟩
@[simp ↓] theorem WG_gNm {i : Nat} {v : Vl} {N : Lo → Sto → Prop} : WG (gNm i) v lo s N E = N (lo.set i (some v)) s := by simp only [WG_eq, WE_eq]; rfl
@[simp ↓] theorem WG_gTp {js : List Nat} {xs : List Vl} {N : Lo → Sto → Prop} : WG (gTp js) (.tup xs) lo s N E = (match gNms js xs lo with | some lo' => N lo' s | none => False) := by
  simp only [WG_eq, WE_eq]
  unfold WE0 gTp
  simp only
  cases gNms js xs lo <;> rfl
@[simp] theorem gNms_nil {lo : Lo} : gNms [] [] lo = some lo := rfl
@[simp] theorem gNms_cons {j : Nat} {js : List Nat} {v : Vl} {vs : List Vl} {lo : Lo} : gNms (j :: js) (v :: vs) lo = gNms js vs (lo.set j (some v)) := rfl
@[simp ↓] theorem WG_gSb {f : OSet} {o i : EM} {v : Vl} {N : Lo → Sto → Prop} : WG (gSb f o i) v lo s N E = WE (o lo) s (fun x s => WE (i lo) s (fun y s => match f x y v s with | some s' => N lo s' | none => False) E) E := by
  simp only [WG_eq]
  unfold gSb
  rw [WE_bnd]
  refine WE_ext fun x s => ?_
  rw [WE_bnd]
  refine WE_ext fun y s => ?_
  simp only [WE_eq]
  unfold WE0 liftU
  cases f x y v s <;> rfl
@[simp ↓] theorem WS_sAsg {g : GM} {e : EM} : WS (sAsg g e) lo s K = WE (e lo) s (fun v s => WG g v lo s K.nx (fun x s => K.ex x lo s)) (fun x s => K.ex x lo s) := by
  unfold sAsg
  rw [WS_bndS]
  refine WE_ext fun v s => ?_
  simp only [WG_eq, WE_eq]
  unfold WE0
  cases g v lo s <;> rfl
@[simp ↓] theorem WS_sFldM {cs : List Nat} {f : Str} {o e : EM} : WS (sFldM cs f o e) lo s K = WE (e lo) s (fun v s => WE (o lo) s (fun x s => match setFld cs f x v s with | some s' => K.nx lo s' | none => False) (fun x s => K.ex x lo s)) (fun x s => K.ex x lo s) := by
  unfold sFldM
  rw [WS_bndS]
  refine WE_ext fun v s => ?_
  refine Eq.trans (b := WS (bndS o fun lo x s => match setFld cs f x v s with | some s' => .nx lo s' | none => .fail) lo s K) (by simp only [WS_eq]; rfl) ?_
  rw [WS_bndS]
  refine WE_ext fun x s => ?_
  cases setFld cs f x v s <;> rfl
/-! methods, making -/
def methW (m : Str) (tab : MTab) (x : Vl) (s : Sto) (P : (List Vl → M Vl) → Prop) : Prop := match x with
  | .ref j => match s[j]? with
    | some (.ins c fs) => match tab c, getS fs m with
      | some mf, none => P mf
      | _, _ => False
    | _ => False
  | _ => False
theorem WE_eMeth {m : Str} {tab : MTab} {o : EM} {a : AM} : WE (eMeth m tab o a lo) s QV E = WE (o lo) s (fun x s => methW m tab x s fun mf => WE (a lo) s (fun as s => WE (mf (x :: as)) s QV E) E) E := by
  unfold eMeth
  rw [WE_bnd]
  refine WE_ext fun x s => ?_
  cases x <;> try (simp only [WE_eq]; rfl)
  rename_i j
  unfold methW
  show WE (fun s => match s[j]? with | some (.ins c fs) => (match tab c, getS fs m with | some mf, none => bnd (a lo) (fun as => mf (.ref j :: as)) s | _, _ => .fail) | _ => .fail) s QV E = _
  have key : ∀ mf : List Vl → M Vl, WE (a lo) s (fun as s => WE (mf (.ref j :: as)) s QV E) E = WE (bnd (a lo) (fun as => mf (.ref j :: as))) s QV E := fun mf => by rw [WE_bnd]
  simp only [key]
  simp only [WE_eq]
  unfold WE0
  simp only
  cases h : s[j]? with
  | none => rfl
  | some o =>
    cases o <;> try rfl
    rename_i c fs
    simp only
    cases h1 : tab c with
    | none => rfl
    | some mf => cases h2 : getS fs m <;> rfl
theorem WE_eMake {c : Nat} {mi : List Vl → M Vl} {a : AM} : WE (eMake c mi a lo) s QV E = WE (a lo) s (fun as s => WE (mi (.ref s.length :: as)) (s ++ [.ins c []]) (fun v s' => match v with | .non => QV (.ref s.length) s' | _ => False) E) E := by
  unfold eMake
  rw [WE_bnd]
  refine WE_ext fun as s => ?_
  simp only [WE_eq]
  unfold WE0
  simp only
  cases h : mi (.ref s.length :: as) (s ++ [.ins c []]) with
  | ok v s' => cases v <;> rfl
  | exc e s' => rfl
  | fail => rfl
end
end Sm

/-! S14: loops and comprehensions of pure programs -/
namespace Sm
open PySem L2
section
variable {α : Type} {s : Sto} {lo : Lo} {QV : Vl → Sto → Prop} {QA : List Vl → Sto → Prop} {QN : NX → Sto → Prop} {E : Ex → Sto → Prop} {K : RK}
@[simp ↓] theorem WE_aTup {e : EM} : WE (aTup e lo) s QA E = WE (e lo) s (fun x s => match x with | .tup xs => QA xs s | _ => False) E := by
  unfold aTup
  rw [WE_bnd]
  refine WE_ext fun x s => ?_
  cases x <;> simp only [WE_eq] <;> rfl
def rngW (xs : List Vl) (s : Sto) (QA : List Vl → Sto → Prop) : Prop := match xs with
  | [.int n] => (-(2 ^ 62) ≤ n ∧ n < 2 ^ 62) ∧ QA (rng 0 n.toNat) s
  | _ => False
theorem rngW_one {n : Int} : rngW [.int n] s QA = ((-(2 ^ 62) ≤ n ∧ n < 2 ^ 62) ∧ QA (rng 0 n.toNat) s) := rfl
@[simp ↓] theorem WE_aRng {a : AM} : WE (aRng a lo) s QA E = WE (a lo) s (fun xs s => rngW xs s QA) E := by
  unfold aRng
  rw [WE_bnd]
  refine WE_ext fun xs s => ?_
  match xs with
  | [] => simp only [WE_eq]; rfl
  | [.int n] =>
    simp only [rngW]
    by_cases h : -(2 ^ 62) ≤ n ∧ n < 2 ^ 62
    · rw [if_pos h]; simp only [h, and_self, true_and, WE_ret]
    · rw [if_neg h, WE_fail]
      exact (propext ⟨fun z => z.elim, fun z => absurd z.1 h⟩)
  | .non :: _ => simp only [WE_eq]; rfl
  | .bl _ :: _ => simp only [WE_eq]; rfl
  | .str _ :: _ => simp only [WE_eq]; rfl
  | .tup _ :: _ => simp only [WE_eq]; rfl
  | .ref _ :: _ => simp only [WE_eq]; rfl
  | .scr _ :: _ => simp only [WE_eq]; rfl
  | .ty _ :: _ => simp only [WE_eq]; rfl
  | .fn _ :: _ => simp only [WE_eq]; rfl
  | .int _ :: _ :: _ => simp only [WE_eq]; rfl
def lstW (x : Vl) (s : Sto) (P : Nat → List Vl → Prop) : Prop := match x with
  | .ref j => match s[j]? with
    | some (.lst xs) => P j xs
    | _ => False
  | _ => False
@[simp] theorem lstW_ref {j : Nat} {P : Nat → List Vl → Prop} : lstW (.ref j) s P = (match s[j]? with | some (.lst xs) => P j xs | _ => False) := rfl
@[simp ↓] theorem WE_iLst {e : EM} : WE (iLst e lo) s QN E = WE (e lo) s (fun x s => lstW x s fun j _ => QN (nxLst j) s) E := by
  unfold iLst
  rw [WE_bnd]
  refine WE_ext fun x s => ?_
  cases x <;> try (simp only [WE_eq]; rfl)
  rename_i j
  simp only [WE_eq]
  unfold WE0 lstW
  simp only
  cases h : s[j]? with
  | none => rfl
  | some o => cases o <;> rfl
def lst1W (xs : List Vl) (s : Sto) (P : Nat → List Vl → Prop) : Prop := match xs with
  | [x] => lstW x s P
  | _ => False
@[simp] theorem lst1W_one {x : Vl} {P : Nat → List Vl → Prop} : lst1W [x] s P = lstW x s P := rfl
@[simp ↓] theorem WE_iEnm {a : AM} : WE (iEnm a lo) s QN E = WE (a lo) s (fun xs s => lst1W xs s fun j _ => QN (nxEnum j) s) E := by
  unfold iEnm
  rw [WE_bnd]
  refine WE_ext fun xs s => ?_
  match xs with
  | [] => simp only [WE_eq]; rfl
  | [.ref j] =>
    simp only [WE_eq]
    unfold WE0 lst1W lstW
    simp only
    cases h : s[j]? with
    | none => rfl
    | some o => cases o <;> rfl
  | .non :: _ => cases ‹List Vl› <;> simp only [WE_eq] <;> rfl
  | .bl _ :: _ => cases ‹List Vl› <;> simp only [WE_eq] <;> rfl
  | .int _ :: _ => cases ‹List Vl› <;> simp only [WE_eq] <;> rfl
  | .str _ :: _ => cases ‹List Vl› <;> simp only [WE_eq] <;> rfl
  | .tup _ :: _ => cases ‹List Vl› <;> simp only [WE_eq] <;> rfl
  | .scr _ :: _ => cases ‹List Vl› <;> simp only [WE_eq] <;> rfl
  | .ty _ :: _ => cases ‹List Vl› <;> simp only [WE_eq] <;> rfl
  | .fn _ :: _ => cases ‹List Vl› <;> simp only [WE_eq] <;> rfl
  | .ref _ :: _ :: _ => simp only [WE_eq]; rfl
@[simp ↓] theorem WS_sForX {ma : AM} {g : GM} {b : SM} : WS (sForX ma g b) lo s K = WE (ma lo) s (fun xs s => WS (loopX g b xs) lo s K) (fun e s => K.ex e lo s) := by
  unfold sForX
  rw [WS_bndS]
  refine WE_ext fun xs s => ?_
  simp only [WS_eq]
  rfl
@[simp ↓] theorem WS_sFor {n : Nat} {m : IM} {g : GM} {b : SM} : WS (sFor n m g b) lo s K = WE (m lo) s (fun nx s => WS (loopN nx g b n 0) lo s K) (fun e s => K.ex e lo s) := by
  unfold sFor
  rw [WS_bndS]
  refine WE_ext fun xs s => ?_
  simp only [WS_eq]
  rfl
/-- a for by its invariant -/
theorem loopX_inv {g : GM} {b : SM} {xs : List Vl} (I : Nat → Lo → Sto → Prop) (h0 : I 0 lo s)
    (hs : ∀ i v lo s, xs[i]? = some v → I i lo s → WG g v lo s (fun lo s => WS b lo s ⟨I (i + 1), K.rt, K.nx, I (i + 1), K.ex⟩) (fun e s => K.ex e lo s)) (hd : ∀ lo s, I xs.length lo s → K.nx lo s) : WS (loopX g b xs) lo s K := by
  have key : ∀ (ys : List Vl) (i : Nat) (lo : Lo) (s : Sto), xs.drop i = ys → i ≤ xs.length → I i lo s → WS (loopX g b ys) lo s K := by
    intro ys
    induction ys with
    | nil =>
      intro i lo s e hi h
      have : i = xs.length := Nat.le_antisymm hi (List.drop_eq_nil_iff.mp e)
      subst this
      exact ⟨hd lo s h⟩
    | cons y ys ih =>
      intro i lo s e hi h
      have hi' : i < xs.length := by
        rcases Nat.lt_or_ge i xs.length with q | q
        · exact q
        · rw [List.drop_eq_nil_of_le q] at e; cases e
      rw [List.drop_eq_getElem_cons hi'] at e
      obtain ⟨e1, e2⟩ := List.cons.inj e
      have st := hs i y lo s (by rw [List.getElem?_eq_getElem hi', e1]) h
      simp only [WS_eq]
      unfold WS0 loopX
      simp only [WG_eq, WE_eq] at st
      unfold WE0 at st
      cases q : g y lo s with
      | fail => simp only [q] at st
      | exc z s' => simp only [q] at st ⊢; exact st
      | ok lo' s' =>
        simp only [q] at st ⊢
        simp only [WS_eq] at st
        unfold WS0 at st
        cases q2 : b lo' s' with
        | nx lo2 s2 => simp only [q2] at st ⊢; exact (ih (i + 1) lo2 s2 e2 hi' st).h
        | ct lo2 s2 => simp only [q2] at st ⊢; exact (ih (i + 1) lo2 s2 e2 hi' st).h
        | bk lo2 s2 => simp only [q2] at st ⊢; exact st
        | rt v s2 => simp only [q2] at st ⊢; exact st
        | exc z lo2 s2 => simp only [q2] at st ⊢; exact st
        | fail => simp only [q2] at st
  exact key xs 0 lo s (by simp) (Nat.zero_le _) h0
/-- the same over what nx tells: n items, at each turn the i-th one is f i -/
theorem loopN_inv {nx : NX} {g : GM} {b : SM} {n fuel : Nat} (I : Nat → Lo → Sto → Prop) (f : Nat → Vl) (hf : n < fuel) (h0 : I 0 lo s) (hn : ∀ i lo s, i < n → I i lo s → nx i s = some (some (f i))) (he : ∀ lo s, I n lo s → nx n s = some none)
    (hs : ∀ i lo s, i < n → I i lo s → WG g (f i) lo s (fun lo s => WS b lo s ⟨I (i + 1), K.rt, K.nx, I (i + 1), K.ex⟩) (fun e s => K.ex e lo s)) (hd : ∀ lo s, I n lo s → K.nx lo s) : WS (loopN nx g b fuel 0) lo s K := by
  have key : ∀ (k i : Nat) (lo : Lo) (s : Sto), n - i < k → i ≤ n → I i lo s → WS (loopN nx g b k i) lo s K := by
    intro k
    induction k with
    | zero => intro i lo s h; omega
    | succ k ih =>
      intro i lo s hk hi h
      simp only [WS_eq]
      unfold WS0 loopN
      rcases Nat.lt_or_ge i n with q | q
      · simp only [hn i lo s q h]
        have st := hs i lo s q h
        simp only [WG_eq, WE_eq] at st
        unfold WE0 at st
        cases q1 : g (f i) lo s with
        | fail => simp only [q1] at st
        | exc z s' => simp only [q1] at st ⊢; exact st
        | ok lo' s' =>
          simp only [q1] at st ⊢
          simp only [WS_eq] at st
          unfold WS0 at st
          cases q2 : b lo' s' with
          | nx lo2 s2 => simp only [q2] at st ⊢; exact (ih (i + 1) lo2 s2 (by omega) q st).h
          | ct lo2 s2 => simp only [q2] at st ⊢; exact (ih (i + 1) lo2 s2 (by omega) q st).h
          | bk lo2 s2 => simp only [q2] at st ⊢; exact st
          | rt v s2 => simp only [q2] at st ⊢; exact st
          | exc z lo2 s2 => simp only [q2] at st ⊢; exact st
          | fail => simp only [q2] at st
      · have : i = n := Nat.le_antisymm hi q
        subst this
        simp only [he lo s h]
        exact hd lo s h
  exact key fuel 0 lo s (by omega) (Nat.zero_le _) h0
/-- over a list that the loop leaves as it is -/
theorem loopL_inv {j : Nat} {xs : List Vl} {g : GM} {b : SM} {fuel : Nat} (I : Nat → Lo → Sto → Prop) (hf : xs.length < fuel) (h0 : I 0 lo s) (hl : ∀ i lo s, I i lo s → s[j]? = some (.lst xs))
    (hs : ∀ i v lo s, xs[i]? = some v → I i lo s → WG g v lo s (fun lo s => WS b lo s ⟨I (i + 1), K.rt, K.nx, I (i + 1), K.ex⟩) (fun e s => K.ex e lo s)) (hd : ∀ lo s, I xs.length lo s → K.nx lo s) : WS (loopN (nxLst j) g b fuel 0) lo s K :=
  loopN_inv I (fun i => (xs[i]?).getD .non) hf h0 (fun i lo s hi h => by simp only [nxLst, hl i lo s h, List.getElem?_eq_getElem hi, Option.getD]) (fun lo s h => by simp only [nxLst, hl _ lo s h]; rw [List.getElem?_eq_none (Nat.le_refl _)])
    (fun i lo s hi h => by
      have := hs i xs[i] lo s (List.getElem?_eq_getElem hi) h
      simpa only [List.getElem?_eq_getElem hi, Option.getD] using this) hd
/-- enumerate -/
theorem loopE_inv {j : Nat} {xs : List Vl} {g : GM} {b : SM} {fuel : Nat} (I : Nat → Lo → Sto → Prop) (hf : xs.length < fuel) (h0 : I 0 lo s) (hl : ∀ i lo s, I i lo s → s[j]? = some (.lst xs))
    (hs : ∀ i v lo s, xs[i]? = some v → I i lo s → WG g (.tup [.int (i : Nat), v]) lo s (fun lo s => WS b lo s ⟨I (i + 1), K.rt, K.nx, I (i + 1), K.ex⟩) (fun e s => K.ex e lo s)) (hd : ∀ lo s, I xs.length lo s → K.nx lo s) : WS (loopN (nxEnum j) g b fuel 0) lo s K :=
  loopN_inv I (fun i => .tup [.int (i : Nat), (xs[i]?).getD .non]) hf h0 (fun i lo s hi h => by simp only [nxEnum, hl i lo s h, List.getElem?_eq_getElem hi, Option.getD]) (fun lo s h => by simp only [nxEnum, hl _ lo s h]; rw [List.getElem?_eq_none (Nat.le_refl _)])
    (fun i lo s hi h => by
      have := hs i xs[i] lo s (List.getElem?_eq_getElem hi) h
      simpa only [List.getElem?_eq_getElem hi, Option.getD] using this) hd
/-- while, by an invariant with a number that falls -/
theorem loopW_inv {t : TM} {b : SM} {n : Nat} (I : Nat → Lo → Sto → Prop) (m0 : Nat) (hm : m0 < n) (h0 : I m0 lo s)
    (hs : ∀ m lo s, I m lo s → WE (t lo) s (fun c s' => if c = true then WS b lo s' ⟨fun lo s => ∃ m', m' < m ∧ I m' lo s, K.rt, K.nx, fun lo s => ∃ m', m' < m ∧ I m' lo s, K.ex⟩ else K.nx lo s') (fun e s => K.ex e lo s)) : WS (loopW t b n) lo s K := by
  have key : ∀ (k m : Nat) (lo : Lo) (s : Sto), m < k → I m lo s → WS (loopW t b k) lo s K := by
    intro k
    induction k with
    | zero => intro m lo s h; omega
    | succ k ih =>
      intro m lo s hk h
      have st := hs m lo s h
      simp only [WS_eq]
      unfold WS0 loopW
      simp only [WE_eq] at st
      unfold WE0 at st
      cases q : t lo s with
      | fail => simp only [q] at st
      | exc z s' => simp only [q] at st ⊢; exact st
      | ok c s' =>
        cases c with
        | false => simp only [q] at st ⊢; exact (by simpa using st)
        | true =>
          simp only [q, if_true] at st ⊢
          simp only [WS_eq] at st
          unfold WS0 at st
          cases q2 : b lo s' with
          | nx lo2 s2 => simp only [q2] at st ⊢; obtain ⟨m', h1, h2⟩ := st; exact (ih m' lo2 s2 (by omega) h2).h
          | ct lo2 s2 => simp only [q2] at st ⊢; obtain ⟨m', h1, h2⟩ := st; exact (ih m' lo2 s2 (by omega) h2).h
          | bk lo2 s2 => simp only [q2] at st ⊢; exact st
          | rt v s2 => simp only [q2] at st ⊢; exact st
          | exc z lo2 s2 => simp only [q2] at st ⊢; exact st
          | fail => simp only [q2] at st
  exact key n m0 lo s hm h0
/-! ### comprehensions -/
def WL0 (o : Option Sto) (Q : Sto → Prop) : Prop := match o with
  | some s => Q s
  | none => False
structure WL (o : Option Sto) (Q : Sto → Prop) (_ : Tg Q := .a) : Prop where
  h : WL0 o Q
theorem WL_eq {o : Option Sto} {Q : Sto → Prop} : WL o Q = WL0 o Q := propext ⟨fun x => x.h, fun x => ⟨x⟩⟩
@[simp ↓] theorem WE_eLc {n : Nat} {m : IM} {g : GL} {t : TM} {e : EM} {vs : List Nat} : WE (eLc n m g t e vs lo) s QV E = WE (m lo) s (fun nx s => WL (lcN nx g t e s.length (wipeL lo vs) n 0 (s ++ [.lst []])) fun s' => QV (.ref s.length) s') E := by
  unfold eLc
  rw [WE_bnd]
  refine WE_ext fun nx s => ?_
  simp only [WE_eq, WL_eq]
  unfold WE0 WL0
  simp only
  cases lcN nx g t e s.length (wipeL lo vs) n 0 (s ++ [.lst []]) <;> rfl
@[simp ↓] theorem WE_eLcX {m : AM} {g : GL} {t : TM} {e : EM} {vs : List Nat} : WE (eLcX m g t e vs lo) s QV E = WE (m lo) s (fun xs s => WL (lcX g t e s.length (wipeL lo vs) xs (s ++ [.lst []])) fun s' => QV (.ref s.length) s') E := by
  unfold eLcX
  rw [WE_bnd]
  refine WE_ext fun xs s => ?_
  simp only [WE_eq, WL_eq]
  unfold WE0 WL0
  simp only
  cases lcX g t e s.length (wipeL lo vs) xs (s ++ [.lst []]) <;> rfl
/-- one turn -/
def LcT (t : TM) (e : EM) (d : Nat) (lo : Lo) (s : Sto) (Q : Sto → Prop) : Prop :=
  WE (t lo) s (fun c s => if c = true then WE (e lo) s (fun y s => match s[d]? with | some (.lst acc) => acc.length < LIM ∧ Q (s.set d (.lst (acc ++ [y]))) | _ => False) NoX else Q s) NoX
theorem lcStep_of {t : TM} {e : EM} {d : Nat} {lo : Lo} {s : Sto} {Q : Sto → Prop} (h : LcT t e d lo s Q) : ∃ s', lcStep t e d lo s = some s' ∧ Q s' := by
  unfold LcT at h
  simp only [WE_eq] at h
  unfold WE0 at h
  unfold lcStep
  cases q : t lo s with
  | fail => simp only [q] at h
  | exc z s1 => simp only [q] at h; exact h.elim
  | ok c s1 =>
    cases c with
    | false => simp only [q] at h ⊢; exact ⟨s1, rfl, by simpa using h⟩
    | true =>
      simp only [q, if_true] at h ⊢
      cases q2 : e lo s1 with
      | fail => simp only [q2] at h
      | exc z s2 => simp only [q2] at h; exact h.elim
      | ok y s2 =>
        simp only [q2] at h ⊢
        split at h
        · rename_i acc hacc
          simp only [hacc, if_pos h.1]
          exact ⟨_, rfl, h.2⟩
        · exact h.elim
theorem lcX_inv {g : GL} {t : TM} {e : EM} {d : Nat} {xs : List Vl} {s : Sto} {Q : Sto → Prop} (I : Nat → Sto → Prop) (h0 : I 0 s) (hs : ∀ i v s, xs[i]? = some v → I i s → ∃ lo', g v lo = some lo' ∧ LcT t e d lo' s (I (i + 1))) (hd : ∀ s, I xs.length s → Q s) :
    WL (lcX g t e d lo xs s) Q := by
  have key : ∀ (ys : List Vl) (i : Nat) (s : Sto), xs.drop i = ys → i ≤ xs.length → I i s → WL (lcX g t e d lo ys s) Q := by
    intro ys
    induction ys with
    | nil =>
      intro i s e hi h
      have : i = xs.length := Nat.le_antisymm hi (List.drop_eq_nil_iff.mp e)
      subst this
      exact ⟨hd s h⟩
    | cons y ys ih =>
      intro i s e hi h
      have hi' : i < xs.length := by
        rcases Nat.lt_or_ge i xs.length with q | q
        · exact q
        · rw [List.drop_eq_nil_of_le q] at e; cases e
      rw [List.drop_eq_getElem_cons hi'] at e
      obtain ⟨e1, e2⟩ := List.cons.inj e
      obtain ⟨lo', g1, g2⟩ := hs i y s (by rw [List.getElem?_eq_getElem hi', e1]) h
      obtain ⟨s', k1, k2⟩ := lcStep_of g2
      unfold lcX
      simp only [g1, k1]
      exact ih (i + 1) s' e2 hi' k2
  exact key xs 0 s (by simp) (Nat.zero_le _) h0
theorem lcN_inv {nx : NX} {g : GL} {t : TM} {e : EM} {d n fuel : Nat} {s : Sto} {Q : Sto → Prop} (I : Nat → Sto → Prop) (f : Nat → Vl) (hf : n < fuel) (h0 : I 0 s) (hn : ∀ i s, i < n → I i s → nx i s = some (some (f i))) (he : ∀ s, I n s → nx n s = some none)
    (hs : ∀ i s, i < n → I i s → ∃ lo', g (f i) lo = some lo' ∧ LcT t e d lo' s (I (i + 1))) (hd : ∀ s, I n s → Q s) : WL (lcN nx g t e d lo fuel 0 s) Q := by
  have key : ∀ (k i : Nat) (s : Sto), n - i < k → i ≤ n → I i s → WL (lcN nx g t e d lo k i s) Q := by
    intro k
    induction k with
    | zero => intro i s h; omega
    | succ k ih =>
      intro i s hk hi h
      unfold lcN
      rcases Nat.lt_or_ge i n with q | q
      · simp only [hn i s q h]
        obtain ⟨lo', g1, g2⟩ := hs i s q h
        obtain ⟨s', k1, k2⟩ := lcStep_of g2
        simp only [g1, k1]
        exact ih (i + 1) s' (by omega) q k2
      · have : i = n := Nat.le_antisymm hi q
        subst this
        simp only [he s h]
        exact ⟨hd s h⟩
  exact key fuel 0 s (by omega) (Nat.zero_le _) h0
theorem lcL_inv {j : Nat} {xs : List Vl} {g : GL} {t : TM} {e : EM} {d fuel : Nat} {s : Sto} {Q : Sto → Prop} (I : Nat → Sto → Prop) (hf : xs.length < fuel) (h0 : I 0 s) (hl : ∀ i s, I i s → s[j]? = some (.lst xs))
    (hs : ∀ i v s, xs[i]? = some v → I i s → ∃ lo', g v lo = some lo' ∧ LcT t e d lo' s (I (i + 1))) (hd : ∀ s, I xs.length s → Q s) : WL (lcN (nxLst j) g t e d lo fuel 0 s) Q :=
  lcN_inv I (fun i => (xs[i]?).getD .non) hf h0 (fun i s hi h => by simp only [nxLst, hl i s h, List.getElem?_eq_getElem hi, Option.getD]) (fun s h => by simp only [nxLst, hl _ s h]; rw [List.getElem?_eq_none (Nat.le_refl _)])
    (fun i s hi h => by
      have := hs i xs[i] s (List.getElem?_eq_getElem hi) h
      simpa only [List.getElem?_eq_getElem hi, Option.getD] using this) hd
theorem lcE_inv {j : Nat} {xs : List Vl} {g : GL} {t : TM} {e : EM} {d fuel : Nat} {s : Sto} {Q : Sto → Prop} (I : Nat → Sto → Prop) (hf : xs.length < fuel) (h0 : I 0 s) (hl : ∀ i s, I i s → s[j]? = some (.lst xs))
    (hs : ∀ i v s, xs[i]? = some v → I i s → ∃ lo', g (.tup [.int (i : Nat), v]) lo = some lo' ∧ LcT t e d lo' s (I (i + 1))) (hd : ∀ s, I xs.length s → Q s) : WL (lcN (nxEnum j) g t e d lo fuel 0 s) Q :=
  lcN_inv I (fun i => .tup [.int (i : Nat), (xs[i]?).getD .non]) hf h0 (fun i s hi h => by simp only [nxEnum, hl i s h, List.getElem?_eq_getElem hi, Option.getD]) (fun s h => by simp only [nxEnum, hl _ s h]; rw [List.getElem?_eq_none (Nat.le_refl _)])
    (fun i s hi h => by
      have := hs i xs[i] s (List.getElem?_eq_getElem hi) h
      simpa only [List.getElem?_eq_getElem hi, Option.getD] using this) hd
theorem lcV_inv {j : Nat} {kvs : List (Key × Vl)} {g : GL} {t : TM} {e : EM} {d fuel : Nat} {s : Sto} {Q : Sto → Prop} (I : Nat → Sto → Prop) (hf : kvs.length < fuel) (h0 : I 0 s) (hl : ∀ i s, I i s → s[j]? = some (.fdic kvs))
    (hs : ∀ i v s, (kvs.map (·.2))[i]? = some v → I i s → ∃ lo', g v lo = some lo' ∧ LcT t e d lo' s (I (i + 1))) (hd : ∀ s, I kvs.length s → Q s) : WL (lcN (nxVals j) g t e d lo fuel 0 s) Q :=
  lcN_inv I (fun i => ((kvs.map (·.2))[i]?).getD .non) hf h0 (fun i s hi h => by simp only [nxVals, hl i s h, List.getElem?_eq_getElem hi, List.getElem?_map, Option.map, Option.getD]) (fun s h => by simp only [nxVals, hl _ s h]; rw [List.getElem?_eq_none (Nat.le_refl _)])
    (fun i s hi h => by
      have hi' : i < (kvs.map (·.2)).length := by rw [List.length_map]; exact hi
      have := hs i (kvs.map (·.2))[i] s (List.getElem?_eq_getElem hi') h
      simpa only [List.getElem?_eq_getElem hi', Option.getD] using this) hd
/-- where neither test nor element changes the store: kept items by f -/
def LcP (g : GL) (t : TM) (e : EM) (lo : Lo) (s : Sto) (x : Vl) (r : Option Vl) : Prop := ∀ acc, ∃ lo', g x lo = some lo' ∧ WE (t lo') (s ++ [.lst acc]) (fun c s' => s' = s ++ [.lst acc] ∧ if c = true then WE (e lo') s' (fun y s'' => s'' = s ++ [.lst acc] ∧ r = some y) NoX else r = none) NoX
theorem LcP.turn {g : GL} {t : TM} {e : EM} {s : Sto} {x : Vl} {r : Option Vl} {acc : List Vl} (h : LcP g t e lo s x r) (hl : acc.length < LIM) : ∃ lo', g x lo = some lo' ∧ LcT t e s.length lo' (s ++ [.lst acc]) fun s' => s' = s ++ [.lst (acc ++ r.toList)] := by
  obtain ⟨lo', h1, h2⟩ := h acc
  refine ⟨lo', h1, WE.mono h2 (fun c s' hc => ?_) fun _ _ z => z⟩
  obtain ⟨rfl, h3⟩ := hc
  cases c with
  | false =>
    simp only [if_false, Bool.false_eq_true] at h3 ⊢
    subst h3
    simp
  | true =>
    simp only [if_true] at h3 ⊢
    refine WE.mono h3 (fun y s'' hy => ?_) fun _ _ z => z
    obtain ⟨rfl, rfl⟩ := hy
    simp [hl]
theorem lcX_pure {g : GL} {t : TM} {e : EM} {xs : List Vl} {s : Sto} {Q : Sto → Prop} (f : Vl → Option Vl) (hl : xs.length < LIM) (hx : ∀ x ∈ xs, LcP g t e lo s x (f x)) (hd : Q (s ++ [.lst (xs.filterMap f)])) : WL (lcX g t e s.length lo xs (s ++ [.lst []])) Q := by
  refine lcX_inv (fun i s' => s' = s ++ [.lst ((xs.take i).filterMap f)]) (by simp) (fun i v s' hv e => ?_) (fun s' e => by rw [e, List.take_length]; exact hd)
  subst e
  obtain ⟨hi, ev⟩ := List.getElem?_eq_some_iff.mp hv
  have hlen : ((xs.take i).filterMap f).length < LIM := Nat.lt_of_le_of_lt (Nat.le_trans (List.length_filterMap_le ..) (by rw [List.length_take]; exact Nat.min_le_right ..)) hl
  obtain ⟨lo', h1, h2⟩ := (hx v (List.mem_of_getElem? hv)).turn hlen
  refine ⟨lo', h1, ?_⟩
  have : (xs.take (i + 1)).filterMap f = (xs.take i).filterMap f ++ (f v).toList := by
    rw [List.take_add_one, hv, Option.toList, List.filterMap_append]
    cases h : f v <;> simp [List.filterMap_cons, h]
  rw [this]
  exact h2
theorem lcL_pure {j fuel : Nat} {g : GL} {t : TM} {e : EM} {xs : List Vl} {s : Sto} {Q : Sto → Prop} (f : Vl → Option Vl) (hj : s[j]? = some (.lst xs)) (hl : xs.length < LIM) (hf : xs.length < fuel) (hx : ∀ x ∈ xs, LcP g t e lo s x (f x)) (hd : Q (s ++ [.lst (xs.filterMap f)])) :
    WL (lcN (nxLst j) g t e s.length lo fuel 0 (s ++ [.lst []])) Q := by
  have hjl : j < s.length := (List.getElem?_eq_some_iff.mp hj).1
  refine lcL_inv (xs := xs) (fun i s' => s' = s ++ [.lst ((xs.take i).filterMap f)]) hf (by simp) (fun i s' e => by rw [e, List.getElem?_append_left hjl]; exact hj) (fun i v s' hv e => ?_) (fun s' e => by rw [e, List.take_length]; exact hd)
  subst e
  have hlen : ((xs.take i).filterMap f).length < LIM := Nat.lt_of_le_of_lt (Nat.le_trans (List.length_filterMap_le ..) (by rw [List.length_take]; exact Nat.min_le_right ..)) hl
  obtain ⟨lo', h1, h2⟩ := (hx v (List.mem_of_getElem? hv)).turn hlen
  refine ⟨lo', h1, ?_⟩
  have : (xs.take (i + 1)).filterMap f = (xs.take i).filterMap f ++ (f v).toList := by
    rw [List.take_add_one, hv, Option.toList, List.filterMap_append]
    cases h : f v <;> simp [List.filterMap_cons, h]
  rw [this]
  exact h2
end
end Sm

/-! S15: frames of stores; locked dicts; decks of numbers -/
namespace Sm
open PySem L2
/-- all that stood in s stands in s' but for the numbers X -/
structure Fr (X : List Nat) (s s' : Sto) : Prop where
  le : s.length ≤ s'.length
  get : ∀ i, i < s.length → i ∉ X → s'[i]? = s[i]?
section
variable {X Y : List Nat} {s s1 s2 : Sto}
theorem Fr.refl : Fr X s s := ⟨Nat.le_refl _, fun _ _ _ => rfl⟩
theorem Fr.trans (a : Fr X s s1) (b : Fr X s1 s2) : Fr X s s2 := ⟨Nat.le_trans a.le b.le, fun i hi hx => (b.get i (Nat.lt_of_lt_of_le hi a.le) hx).trans (a.get i hi hx)⟩
theorem Fr.mono (a : Fr X s s1) (h : ∀ i ∈ X, i ∈ Y) : Fr Y s s1 := ⟨a.le, fun i hi hx => a.get i hi fun z => hx (h i z)⟩
/-- what is changed in s1 may be new since s -/
theorem Fr.trans' (a : Fr X s s1) (b : Fr Y s1 s2) (h : ∀ i ∈ Y, i ∈ X ∨ s.length ≤ i) : Fr X s s2 := ⟨Nat.le_trans a.le b.le, fun i hi hx => (b.get i (Nat.lt_of_lt_of_le hi a.le) fun z => (h i z).elim hx fun q => absurd hi (Nat.not_lt.mpr q)).trans (a.get i hi hx)⟩
theorem Fr.at (a : Fr X s s1) {i : Nat} {o : Ob} (h : s[i]? = some o) (hx : i ∉ X) : s1[i]? = some o := (a.get i (List.getElem?_eq_some_iff.mp h).1 hx).trans h
theorem Fr.push (a : Fr X s s1) (o : Ob) : Fr X s (s1 ++ [o]) := ⟨by rw [List.length_append]; exact Nat.le_trans a.le (Nat.le_add_right ..), fun i hi hx => by rw [List.getElem?_append_left (Nat.lt_of_lt_of_le hi a.le)]; exact a.get i hi hx⟩
theorem Fr.app (a : Fr X s s1) (t : Sto) : Fr X s (s1 ++ t) := ⟨by rw [List.length_append]; exact Nat.le_trans a.le (Nat.le_add_right ..), fun i hi hx => by rw [List.getElem?_append_left (Nat.lt_of_lt_of_le hi a.le)]; exact a.get i hi hx⟩
theorem Fr.set (a : Fr X s s1) {i : Nat} {o : Ob} (h : i ∈ X ∨ s.length ≤ i) : Fr X s (s1.set i o) := ⟨by rw [List.length_set]; exact a.le, fun j hj hx => by
  rw [List.getElem?_set_ne (fun z => by subst z; exact h.elim hx fun q => absurd hj (Nat.not_lt.mpr q))]
  exact a.get j hj hx⟩
end
@[simp] theorem get_set_self {s : Sto} {i : Nat} {o o' : Ob} (h : s[i]? = some o) : (s.set i o')[i]? = some o' := List.getElem?_set_self (List.getElem?_eq_some_iff.mp h).1
theorem get_set_ne {s : Sto} {i j : Nat} {o' : Ob} (h : i ≠ j) : (s.set i o')[j]? = s[j]? := List.getElem?_set_ne h
theorem get_push {s : Sto} {i : Nat} {o o' : Ob} (h : s[i]? = some o) : (s ++ [o'])[i]? = some o := by rw [List.getElem?_append_left (List.getElem?_eq_some_iff.mp h).1]; exact h
theorem get_app {s t : Sto} {i : Nat} {o : Ob} (h : s[i]? = some o) : (s ++ t)[i]? = some o := by rw [List.getElem?_append_left (List.getElem?_eq_some_iff.mp h).1]; exact h
@[simp] theorem get_last {s : Sto} {o : Ob} : (s ++ [o])[s.length]? = some o := by simp
theorem lt_of_get {s : Sto} {i : Nat} {o : Ob} (h : s[i]? = some o) : i < s.length := (List.getElem?_eq_some_iff.mp h).1
theorem ne_of_get {s : Sto} {i j : Nat} {o o' : Ob} (h : s[i]? = some o) (h' : s[j]? = some o') (n : o ≠ o') : i ≠ j := fun e => by subst e; rw [h] at h'; cases h'; exact n rfl
section
variable {s : Sto} {lo : Lo} {QV : Vl → Sto → Prop} {E : Ex → Sto → Prop}
theorem WE_eLock {e c : EM} {j : Nat} {kvs : List (Key × Vl)} (he : WE (e lo) s (fun v _ => v = .ref j) NoX) (hj : s[j]? = some (.dic kvs)) (hc : WE (c lo) (s.set j (.fdic kvs)) (fun v s' => (∃ kvs', s'[j]? = some (.fdic kvs')) ∧ QV v (s'.set j (.dic kvs))) NoX) : WE (eLock e c lo) s QV E := by
  obtain ⟨v, s', e1, e2⟩ := he.get
  subst e2
  obtain ⟨w, s2, e3, ⟨k', e4⟩, e5⟩ := hc.get
  simp only [WE_eq]
  unfold WE0 eLock
  simp only [e1, hj, e3, e4]
  exact e5
@[simp ↓] theorem WE_iVal {e : EM} {QN : NX → Sto → Prop} : WE (iVal e lo) s QN E = WE (e lo) s (fun x s => match x with | .ref j => (match s[j]? with | some (.fdic _) => QN (nxVals j) s | _ => False) | _ => False) E := by
  unfold iVal
  rw [WE_bnd]
  refine WE_ext fun x s => ?_
  cases x <;> try (simp only [WE_eq]; rfl)
  rename_i j
  simp only [WE_eq]
  unfold WE0
  simp only
  cases h : s[j]? with
  | none => rfl
  | some o => cases o <;> rfl
@[simp ↓] theorem WE_eListVals {e : EM} : WE (eListVals e lo) s QV E = WE (e lo) s (fun x s => match x with | .ref j => (match s[j]? with | some (.dic kvs) => QV (.ref s.length) (s ++ [.lst (kvs.map (·.2))]) | _ => False) | _ => False) E := by
  unfold eListVals
  rw [WE_bnd]
  refine WE_ext fun x s => ?_
  cases x <;> try (simp only [WE_eq]; rfl)
  rename_i j
  simp only [WE_eq]
  unfold WE0
  simp only
  cases h : s[j]? with
  | none => rfl
  | some o => cases o <;> rfl
/-- {k: v} of plain parts -/
theorem WE_eDict1 {k v : EM} {x y : Vl} {key : Key} (hk : ∀ s, WE (k lo) s (fun z s' => z = x ∧ s' = s) NoX) (hv : ∀ s, WE (v lo) s (fun z s' => z = y ∧ s' = s) NoX) (hx : keyOf x = some key) (h : QV (.ref s.length) (s ++ [.dic [(key, y)]])) : WE (eDict [(k, v)] lo) s QV E := by
  obtain ⟨a, s1, e1, rfl, rfl⟩ := (hk (s ++ [.dic []])).get
  obtain ⟨b, s2, e2, rfl, rfl⟩ := (hv (s ++ [.dic []])).get
  simp only [WE_eq]
  unfold WE0 eDict
  have : dpM [(k, v)] lo (s ++ [.dic []]) = .ok [(a, b)] (s ++ [.dic []]) := by
    simp only [dpM, bnd, e1, e2, ret]
  simp only [this, get_last]
  simp [mapO, keyP, hx, mergeP, put]
  exact h
end
/-- a deck: the cells at l and the count c, at d -/
structure Deck (s : Sto) (d l c : Nat) (cells : List Int) : Prop where
  top : s[d]? = some (.lst [.ref l, .int c])
  cel : s[l]? = some (.lst (cells.map Vl.int))
  nn : ∀ x ∈ cells, 0 ≤ x
  ne : l ≠ d
theorem Deck.fr {X : List Nat} {s s' : Sto} {d l c : Nat} {cells : List Int} (D : Deck s d l c cells) (f : Fr X s s') (h1 : d ∉ X) (h2 : l ∉ X) : Deck s' d l c cells := ⟨f.at D.top h1, f.at D.cel h2, D.nn, D.ne⟩
/-- some deck with at most c draws -/
def DeckLe (s : Sto) (d l c : Nat) : Prop := ∃ k cells, k ≤ c ∧ Deck s d l k cells
end Sm

/-! S16: operations on values that are known, as rewriting rules -/
namespace Sm
open PySem L2
section
variable {α : Type} {s : Sto} {lo : Lo} {i j : Int} {a b : Nat} {xs ys : List Vl} {x y : Str} {v w : Vl} {kvs : List (Key × Vl)} {k : Bool}
@[simp] theorem opAdd_int : opAdd (.int i) (.int j) s = some (.int (i + j), s) := rfl
@[simp] theorem opSub_int : opSub (.int i) (.int j) s = some (.int (i - j), s) := rfl
@[simp] theorem opNeg_int : opNeg (.int i) s = some (.int (-i), s) := rfl
@[simp] theorem opAdd_tup (h : xs.length + ys.length ≤ LIM) : opAdd (.tup xs) (.tup ys) s = some (.tup (xs ++ ys), s) := by simp only [opAdd, if_pos h]
@[simp] theorem opAdd_str (h : x.length + y.length ≤ LIM) : opAdd (.str x) (.str y) s = some (.str (x ++ y), s) := by simp only [opAdd, if_pos h]
@[simp] theorem opAdd_lst (h1 : s[a]? = some (.lst xs)) (h2 : s[b]? = some (.lst ys)) (h : xs.length + ys.length ≤ LIM) : opAdd (.ref a) (.ref b) s = some (.ref s.length, s ++ [.lst (xs ++ ys)]) := by simp only [opAdd, h1, h2, if_pos h]
@[simp] theorem opMul_int (h : (-(2 ^ 64) < i ∧ i < 2 ^ 64) ∨ (-(2 ^ 64) < j ∧ j < 2 ^ 64)) : opMul (.int i) (.int j) s = some (.int (i * j), s) := by simp only [opMul, if_pos h]
@[simp] theorem opMul_lst (h1 : s[a]? = some (.lst xs)) (h : 0 ≤ i ∧ i < 2 ^ 60 ∧ xs.length * i.toNat ≤ LIM) : opMul (.ref a) (.int i) s = some (.ref s.length, s ++ [.lst (List.replicate i.toNat xs).flatten]) := by simp only [opMul, h1, if_pos h]
@[simp] theorem opFdiv_int (h : 0 < j ∧ j < 1073741824) : opFdiv (.int i) (.int j) s = some (.int (i / j), s) := by simp only [opFdiv, if_pos h]
@[simp] theorem opMod_int (h : 0 < j) : opMod (.int i) (.int j) s = some (.int (i % j), s) := by simp only [opMod, if_pos h]
@[simp] theorem opPow_int (h : 0 ≤ j ∧ j ≤ 1000000 ∧ i.natAbs < 2 ^ 64) : opPow (.int i) (.int j) s = some (.int (i ^ j.toNat), s) := by simp only [opPow, if_pos h]
@[simp] theorem opLt_int : opLt (.int i) (.int j) s = some (.bl (decide (i < j)), s) := rfl
@[simp] theorem opLe_int : opLe (.int i) (.int j) s = some (.bl (decide (i ≤ j)), s) := rfl
@[simp] theorem opGt_int : opGt (.int i) (.int j) s = some (.bl (decide (j < i)), s) := rfl
@[simp] theorem opGe_int : opGe (.int i) (.int j) s = some (.bl (decide (j ≤ i)), s) := rfl
@[simp] theorem opIsN_non : opIsN v .non s = some (.bl (isNon v), s) := by cases v <;> rfl
@[simp] theorem opNotN_non : opNotN v .non s = some (.bl (!isNon v), s) := by cases v <;> rfl
@[simp] theorem isNon_non : isNon .non = true := rfl
@[simp] theorem isNon_int : isNon (.int i) = false := rfl
@[simp] theorem isNon_str : isNon (.str x) = false := rfl
@[simp] theorem isNon_tup : isNon (.tup xs) = false := rfl
@[simp] theorem isNon_ref : isNon (.ref a) = false := rfl
@[simp] theorem isNon_bl : isNon (.bl k) = false := rfl
@[simp] theorem opEq_int : opEq (.int i) (.int j) s = some (.bl (i == j), s) := rfl
@[simp] theorem opNe_int : opNe (.int i) (.int j) s = some (.bl (!(i == j)), s) := rfl
@[simp] theorem opEq_str : opEq (.str x) (.str y) s = some (.bl (x == y), s) := rfl
@[simp] theorem opNe_str : opNe (.str x) (.str y) s = some (.bl (!(x == y)), s) := rfl
@[simp] theorem opIx_tup : opIx (.tup xs) (.int i) s = (atI xs i).map fun v => (v, s) := rfl
@[simp] theorem opIx_lst (h : s[a]? = some (.lst xs)) : opIx (.ref a) (.int i) s = (atI xs i).map fun v => (v, s) := by simp only [opIx, h]
@[simp] theorem opIx_dicI (h : s[a]? = some (.dic kvs)) : opIx (.ref a) (.int i) s = (look kvs (.inl i)).map fun v => (v, s) := by simp only [opIx, h, keyOf]
@[simp] theorem opIx_dicS (h : s[a]? = some (.dic kvs)) : opIx (.ref a) (.str x) s = (look kvs (.inr x)).map fun v => (v, s) := by simp only [opIx, h, keyOf]
@[simp] theorem opSet_lst (h : s[a]? = some (.lst xs)) : opSet (.ref a) (.int i) v s = (ixN xs.length i).map fun n => s.set a (.lst (xs.set n v)) := by
  simp only [opSet, h]
  cases ixN xs.length i <;> rfl
@[simp] theorem opSet_dicI (h : s[a]? = some (.dic kvs)) (hl : kvs.length < LIM) : opSet (.ref a) (.int i) v s = some (s.set a (.dic (put kvs (.inl i) v))) := by simp only [opSet, h, keyOf, if_pos hl]
@[simp] theorem opSet_dicS (h : s[a]? = some (.dic kvs)) (hl : kvs.length < LIM) : opSet (.ref a) (.str x) v s = some (s.set a (.dic (put kvs (.inr x) v))) := by simp only [opSet, h, keyOf, if_pos hl]
@[simp] theorem oLen_lst (h : s[a]? = some (.lst xs)) : oLen [.ref a] s = some (.int xs.length, s) := by simp [oLen, lenM, h]
@[simp] theorem oLen_dic (h : s[a]? = some (.dic kvs)) : oLen [.ref a] s = some (.int kvs.length, s) := by simp [oLen, lenM, h]
@[simp] theorem oLen_tup : oLen [.tup xs] s = some (.int xs.length, s) := rfl
@[simp] theorem oAbs_int : oAbs [.int i] s = some (.int (if i < 0 then -i else i), s) := rfl
@[simp] theorem oInt_int : oInt [.int i] s = some (.int i, s) := rfl
@[simp] theorem oInt_bl : oInt [.bl k] s = some (.int (if k then 1 else 0), s) := rfl
@[simp] theorem oMax_int : oMax [.int i, .int j] s = some (.int (if j > i then j else i), s) := rfl
@[simp] theorem oMin_int : oMin [.int i, .int j] s = some (.int (if j < i then j else i), s) := rfl
@[simp] theorem oTup_ok (h : xs.length ≤ LIM) : oTup xs s = some (.tup xs, s) := by simp only [oTup, if_pos h]
@[simp] theorem oLst_ok (h : xs.length ≤ LIM) : oLst xs s = some (.ref s.length, s ++ [.lst xs]) := by simp only [oLst, if_pos h]
@[simp] theorem oTuple_lst (h : s[a]? = some (.lst xs)) : oTuple [.ref a] s = some (.tup xs, s) := by simp only [oTuple, h]
@[simp] theorem oTuple_tup : oTuple [.tup xs] s = some (.tup xs, s) := rfl
@[simp] theorem oList_lst (h : s[a]? = some (.lst xs)) : oList [.ref a] s = some (.ref s.length, s ++ [.lst xs]) := by simp only [oList, h]
@[simp] theorem oList_tup : oList [.tup xs] s = some (.ref s.length, s ++ [.lst xs]) := rfl
@[simp] theorem oList_dic (h : s[a]? = some (.dic kvs)) : oList [.ref a] s = some (.ref s.length, s ++ [.lst (kvs.map fun kv => keyVl kv.1)]) := by simp only [oList, h]
@[simp] theorem oAppend_lst (h : s[a]? = some (.lst xs)) (hl : xs.length < LIM) : oAppend (.ref a) [v] s = some (.non, s.set a (.lst (xs ++ [v]))) := by simp only [oAppend, h, if_pos hl]
@[simp] theorem oExtend_lst (h : s[a]? = some (.lst xs)) (h2 : s[b]? = some (.lst ys)) (hl : xs.length + ys.length ≤ LIM) : oExtend (.ref a) [.ref b] s = some (.non, s.set a (.lst (xs ++ ys))) := by simp only [oExtend, h, h2, if_pos hl]
@[simp] theorem oPop_lst (h : s[a]? = some (.lst (xs ++ [v]))) : oPop (.ref a) [] s = some (v, s.set a (.lst xs)) := by
  simp only [oPop, h]
  simp
@[simp] theorem kd_lst (h : s[a]? = some (.lst xs)) : kd .list (.ref a) s = true := by simp only [kd, h]
@[simp] theorem kd_dic (h : s[a]? = some (.dic kvs)) : kd .dict (.ref a) s = true := by simp only [kd, h]
@[simp] theorem kd_str : kd .str (.str x) s = true := rfl
@[simp] theorem opSl_tup {lo hi : Option Int} : opSl (.tup xs) lo hi s = some (.tup (cutL xs lo hi), s) := rfl
@[simp] theorem opSl_lst {lo hi : Option Int} (h : s[a]? = some (.lst xs)) : opSl (.ref a) lo hi s = some (.ref s.length, s ++ [.lst (cutL xs lo hi)]) := by simp only [opSl, h]
@[simp] theorem opSl_scr {lo hi : Option Int} {ns : List Int} : opSl (.scr ns) lo hi s = some (.ref s.length, s ++ [.lst ((cutL ns lo hi).map Vl.int)]) := rfl
@[simp] theorem opIn_lst (h : s[a]? = some (.lst xs)) (hf : flat v = true) (ha : xs.all flat = true) : opIn v (.ref a) s = some (.bl (inF v xs), s) := by simp only [opIn, inM, h, hf, ha, Bool.and_self, if_true]
@[simp] theorem opNotIn_lst (h : s[a]? = some (.lst xs)) (hf : flat v = true) (ha : xs.all flat = true) : opNotIn v (.ref a) s = some (.bl (!inF v xs), s) := by simp only [opNotIn, inM, h, hf, ha, Bool.and_self, if_true]
@[simp] theorem opIn_tup (hf : flat v = true) (ha : xs.all flat = true) : opIn v (.tup xs) s = some (.bl (inF v xs), s) := by simp only [opIn, inM, hf, ha, Bool.and_self, if_true]
@[simp] theorem opNotIn_tup (hf : flat v = true) (ha : xs.all flat = true) : opNotIn v (.tup xs) s = some (.bl (!inF v xs), s) := by simp only [opNotIn, inM, hf, ha, Bool.and_self, if_true]
@[simp] theorem opIn_dicI (h : s[a]? = some (.dic kvs)) : opIn (.int i) (.ref a) s = some (.bl (hasK kvs (.inl i)), s) := by simp only [opIn, inM, h, keyOf]
@[simp] theorem opNotIn_dicI (h : s[a]? = some (.dic kvs)) : opNotIn (.int i) (.ref a) s = some (.bl (!hasK kvs (.inl i)), s) := by simp only [opNotIn, inM, h, keyOf]
@[simp] theorem opIn_dicS (h : s[a]? = some (.dic kvs)) : opIn (.str x) (.ref a) s = some (.bl (hasK kvs (.inr x)), s) := by simp only [opIn, inM, h, keyOf]
@[simp] theorem opNotIn_dicS (h : s[a]? = some (.dic kvs)) : opNotIn (.str x) (.ref a) s = some (.bl (!hasK kvs (.inr x)), s) := by simp only [opNotIn, inM, h, keyOf]
@[simp] theorem flat_int : flat (.int i) = true := rfl
@[simp] theorem flat_str : flat (.str x) = true := rfl
@[simp] theorem flat_bl : flat (.bl k) = true := rfl
@[simp] theorem flat_non : flat .non = true := rfl
@[simp] theorem oSortS_ints {ns : List Int} (h : s[a]? = some (.lst (ns.map Vl.int))) : oSortS [.ref a] s = some (.ref s.length, s ++ [.lst ((srt ns).map Vl.int)]) := by simp [oSortS, h, mapO_ints]
@[simp] theorem oSortS_set {ns : List Int} (h : s[a]? = some (.set ns)) (hl : ns.length < 64) : oSortS [.ref a] s = some (.ref s.length, s ++ [.lst ((srt ns).map Vl.int)]) := by simp [oSortS, h, hl]
@[simp] theorem oSet_ints {ns : List Int} (h : s[a]? = some (.lst (ns.map Vl.int))) (hl : ns.length < 4000) : oSet [.ref a] s = some (.ref s.length, s ++ [.set (ddup ns)]) := by simp [oSet, lstOf, h, mapO_ints, hl]
@[simp] theorem oAll_bls {bs : List Bool} (h : s[a]? = some (.lst (bs.map Vl.bl))) : oAll [.ref a] s = some (.bl (bs.all id), s) := by simp [oAll, lstOf, h, mapO_bls]
@[simp] theorem oAny_bls {bs : List Bool} (h : s[a]? = some (.lst (bs.map Vl.bl))) : oAny [.ref a] s = some (.bl (bs.any id), s) := by simp [oAny, lstOf, h, mapO_bls]
@[simp] theorem oSum_ints {ns : List Int} (h : s[a]? = some (.lst (ns.map Vl.int))) : oSum [.ref a] s = some (.int ns.sum, s) := by simp [oSum, lstOf, h, mapO_ints]
theorem fldW_ins {cs : List Nat} {f : Str} {c : Nat} {fs : List (Str × Vl)} {QV : Vl → Sto → Prop} (h : s[a]? = some (.ins c fs)) : fldW cs f (.ref a) s QV = (c ∈ cs ∧ match getS fs f with | some v => QV v s | none => False) := by
  simp only [fldW, h] <;> rfl
theorem setFld_ins {cs : List Nat} {f : Str} {c : Nat} {fs : List (Str × Vl)} (h : s[a]? = some (.ins c fs)) (hc : c ∈ cs ∧ fs.length < 1000) : setFld cs f (.ref a) v s = some (s.set a (.ins c (putS f v fs))) := by simp only [setFld, h, if_pos hc]
theorem methW_ins {m : Str} {tab : MTab} {c : Nat} {fs : List (Str × Vl)} {mf : List Vl → M Vl} {P : (List Vl → M Vl) → Prop} (h : s[a]? = some (.ins c fs)) (ht : tab c = some mf) (hg : getS fs m = none) : methW m tab (.ref a) s P = P mf := by simp only [methW, h, ht, hg]
@[simp] theorem lim0 : (0 ≤ LIM) = True := eq_true (by decide)
@[simp] theorem lim1 : (1 ≤ LIM) = True := eq_true (by decide)
@[simp] theorem lim2 : (2 ≤ LIM) = True := eq_true (by decide)
@[simp] theorem lim3 : (3 ≤ LIM) = True := eq_true (by decide)
@[simp] theorem lim4 : (4 ≤ LIM) = True := eq_true (by decide)
@[simp] theorem lim5 : (5 ≤ LIM) = True := eq_true (by decide)
@[simp] theorem lim6 : (6 ≤ LIM) = True := eq_true (by decide)
@[simp] theorem limz : (0 < LIM) = True := eq_true (by decide)
theorem limB {n : Nat} (h : n ≤ 1000000) : n ≤ LIM := Nat.le_trans h (by decide)
theorem limC {n : Nat} (h : n < 1000000) : n < LIM := Nat.lt_of_lt_of_le h (by decide)
end
theorem ixN_nat {n m : Nat} (h : n < m) : ixN m (n : Int) = some n := by
  simp [ixN, h]
theorem atN {α : Type} {xs : List α} {n : Nat} : atI xs (n : Int) = xs[n]? := by
  by_cases h : n < xs.length
  · simp [atI, ixN_nat h]
  · simp [atI, ixN, h, List.getElem?_eq_none (Nat.le_of_not_lt h)]
@[simp] theorem atI_0 {α : Type} {xs : List α} : atI xs 0 = xs[0]? := atN (n := 0)
@[simp] theorem atI_1 {α : Type} {xs : List α} : atI xs 1 = xs[1]? := atN (n := 1)
@[simp] theorem atI_2 {α : Type} {xs : List α} : atI xs 2 = xs[2]? := atN (n := 2)
@[simp] theorem atI_3 {α : Type} {xs : List α} : atI xs 3 = xs[3]? := atN (n := 3)
@[simp] theorem atLast {α : Type} {xs : List α} {v : α} : atI (xs ++ [v]) (-1) = some v := by
  have : ixN (xs ++ [v]).length (-1) = some xs.length := by
    simp [ixN]
    omega
  unfold atI
  rw [this]
  simp
theorem mapO_none {α β : Type} {f : α → Option β} : ∀ {xs : List α}, (∀ x ∈ xs, (f x).isSome = true) → ∃ ys, mapO f xs = some ys ∧ ys.length = xs.length
  | [], _ => ⟨[], rfl, rfl⟩
  | x :: xs, h => by
    obtain ⟨y, hy⟩ := Option.isSome_iff_exists.mp (h x (List.mem_cons_self ..))
    obtain ⟨ys, e, l⟩ := mapO_none fun z hz => h z (List.mem_cons_of_mem _ hz)
    exact ⟨y :: ys, by simp only [mapO, hy, e], by simp [l]⟩
@[simp] theorem cutL_nat {α : Type} {xs : List α} {n : Nat} : cutL xs none (some (n : Int)) = xs.take n := by
  unfold cutL
  rw [HT.sIx_none, HT.sIx_nat]
  simp [List.take_eq_take_iff]
theorem lcX_p {g : GL} {t : TM} {e : EM} {lo : Lo} {d : Nat} {xs : List Vl} {s0 : Sto} {Q : Sto → Prop} (s : Sto) (f : Vl → Option Vl) (h1 : d = s.length) (h2 : s0 = s ++ [.lst []]) (hl : xs.length < 1000000) (hx : ∀ x ∈ xs, LcP g t e lo s x (f x)) (hd : Q (s ++ [.lst (xs.filterMap f)])) : WL (lcX g t e d lo xs s0) Q := by
  subst h1 h2
  exact lcX_pure f (limC hl) hx hd
theorem lcL_p {j : Nat} {g : GL} {t : TM} {e : EM} {lo : Lo} {d : Nat} {xs : List Vl} {s0 : Sto} {Q : Sto → Prop} (s : Sto) (f : Vl → Option Vl) (h1 : d = s.length) (h2 : s0 = s ++ [.lst []]) (hj : s[j]? = some (.lst xs)) (hf : xs.length < 100000) (hx : ∀ x ∈ xs, LcP g t e lo s x (f x)) (hd : Q (s ++ [.lst (xs.filterMap f)])) :
    WL (lcN (nxLst j) g t e d lo 100000 0 s0) Q := by
  subst h1 h2
  exact lcL_pure f hj (limC (by omega)) hf hx hd
theorem lcV_p {j : Nat} {g : GL} {t : TM} {e : EM} {lo : Lo} {d : Nat} {kvs : List (Key × Vl)} {s0 : Sto} {Q : Sto → Prop} (s : Sto) (f : Vl → Option Vl) (h1 : d = s.length) (h2 : s0 = s ++ [.lst []]) (hj : s[j]? = some (.fdic kvs)) (hf : kvs.length < 100000) (hx : ∀ x ∈ kvs.map (·.2), LcP g t e lo s x (f x)) (hd : Q (s ++ [.lst ((kvs.map (·.2)).filterMap f)])) :
    WL (lcN (nxVals j) g t e d lo 100000 0 s0) Q := by
  subst h1 h2
  have hjl : j < s.length := (List.getElem?_eq_some_iff.mp hj).1
  generalize hxs : kvs.map (·.2) = xs at hx hd
  have hxl : xs.length = kvs.length := by rw [← hxs, List.length_map]
  refine lcV_inv (kvs := kvs) (fun i s' => s' = s ++ [.lst ((xs.take i).filterMap f)]) hf (by simp) (fun i s' e => by rw [e, List.getElem?_append_left hjl]; exact hj) (fun i v s' hv e => ?_) (fun s' e => by rw [e, ← hxl, List.take_length]; exact hd)
  subst e
  rw [hxs] at hv
  have hlen : ((xs.take i).filterMap f).length < LIM := Nat.lt_of_le_of_lt (Nat.le_trans (List.length_filterMap_le ..) (by rw [List.length_take]; exact Nat.min_le_right ..)) (limC (by omega))
  obtain ⟨lo', h1, h2⟩ := (hx v (List.mem_of_getElem? hv)).turn hlen
  refine ⟨lo', h1, ?_⟩
  have : (xs.take (i + 1)).filterMap f = (xs.take i).filterMap f ++ (f v).toList := by
    rw [List.take_add_one, hv, Option.toList, List.filterMap_append]
    cases h : f v <;> simp [List.filterMap_cons, h]
  rw [this]
  exact h2
/-- enumerate, both names read -/
theorem lcE_p {j : Nat} {g : GL} {t : TM} {e : EM} {lo : Lo} {d : Nat} {xs : List Vl} {s0 : Sto} {Q : Sto → Prop} (s : Sto) (f : Nat → Vl → Option Vl) (h1 : d = s.length) (h2 : s0 = s ++ [.lst []]) (hj : s[j]? = some (.lst xs)) (hf : xs.length < 100000) (hx : ∀ i x, xs[i]? = some x → LcP g t e lo s (.tup [.int (i : Nat), x]) (f i x)) (hd : Q (s ++ [.lst ((xs.zipIdx).filterMap fun p => f p.2 p.1)])) :
    WL (lcN (nxEnum j) g t e d lo 100000 0 s0) Q := by
  subst h1 h2
  have hjl : j < s.length := (List.getElem?_eq_some_iff.mp hj).1
  refine lcE_inv (xs := xs) (fun i s' => s' = s ++ [.lst (((xs.take i).zipIdx).filterMap fun p => f p.2 p.1)]) hf (by simp) (fun i s' e => by rw [e, List.getElem?_append_left hjl]; exact hj) (fun i v s' hv e => ?_) (fun s' e => by rw [e, List.take_length]; exact hd)
  subst e
  obtain ⟨hi, ev⟩ := List.getElem?_eq_some_iff.mp hv
  have hlen : (((xs.take i).zipIdx).filterMap fun p => f p.2 p.1).length < LIM := Nat.lt_of_le_of_lt (Nat.le_trans (List.length_filterMap_le ..) (by rw [List.length_zipIdx, List.length_take]; exact Nat.min_le_right ..)) (limC (by omega))
  obtain ⟨lo', h1, h2⟩ := (hx i v hv).turn hlen
  refine ⟨lo', h1, ?_⟩
  have : ((xs.take (i + 1)).zipIdx).filterMap (fun p => f p.2 p.1) = ((xs.take i).zipIdx).filterMap (fun p => f p.2 p.1) ++ (f i v).toList := by
    rw [List.take_add_one, hv, Option.toList, List.zipIdx_append, List.filterMap_append]
    have : 0 + (xs.take i).length = i := by rw [List.length_take]; omega
    rw [this]
    cases h : f i v <;> simp [List.filterMap_cons, h]
  rw [this]
  exact h2
end Sm

/-! S17: texts of plain values; == with an empty list -/
namespace Sm
open PySem L2
/-- a plain value, at most n deep, at most w wide -/
def Pn (n w : Nat) (v : Vl) : Prop := ∃ d : PyData, (∀ s m, n ≤ m → toD m s v = some d) ∧ d.leavesShort 13 = true ∧ d.showable = true ∧ d.weight ≤ w
theorem Pn.mono {n m w z : Nat} {v : Vl} (h : Pn n w v) (h1 : n ≤ m) (h2 : w ≤ z) : Pn m z v := by
  obtain ⟨d, a, b, c, e⟩ := h
  exact ⟨d, fun s k hk => a s k (Nat.le_trans h1 hk), b, c, Nat.le_trans e h2⟩
theorem Pn.non : Pn 1 64 .non := by
  refine ⟨.none, fun s m hm => ?_, rfl, rfl, by simp [PyData.weight]⟩
  obtain ⟨m, rfl⟩ : ∃ k, m = k + 1 := ⟨m - 1, by omega⟩
  rfl
theorem Pn.int {i : Int} (h : i.natAbs < 10 ^ 12) : Pn 1 64 (.int i) := by
  refine ⟨.int i, fun s m hm => ?_, ?_, ?_, ?_⟩
  · obtain ⟨m, rfl⟩ : ∃ k, m = k + 1 := ⟨m - 1, by omega⟩
    rfl
  · have := int_text_length_le10 (a := i) (k := 12) (by omega) h
    simp only [PyData.leavesShort, PyData.shown]
    refine decide_eq_true ?_
    have e : (Str.ofString (toString i)).length = (toString i).length := ofString_length _
    omega
  · simp only [PyData.showable, decide_eq_true_eq]
    rcases Nat.eq_zero_or_pos i.natAbs with z | z
    · rw [z]; decide
    · have : i.natAbs.log2 < 40 := by
        rw [Nat.log2_lt (by omega)]
        exact Nat.lt_of_lt_of_le h (by decide)
      omega
  · simp only [PyData.weight]
    split
    · omega
    · rename_i z
      have z : i.natAbs ≠ 0 := by simp at z; omega
      have : i.natAbs.log2 < 40 := by
        rw [Nat.log2_lt z]
        exact Nat.lt_of_lt_of_le h (by decide)
      omega
theorem Pn.str {x : Str} (h : (x.cps.toList.all fun c => decide (c < 16 ^ 8)) = true) (hl : x.length ≤ 64) : Pn 1 64 (.str x) := by
  refine ⟨.str x, fun s m hm => ?_, ?_, rfl, ?_⟩
  · obtain ⟨m, rfl⟩ : ∃ k, m = k + 1 := ⟨m - 1, by omega⟩
    rfl
  · exact h
  · exact hl
theorem Pn.all {n w : Nat} : ∀ {xs : List Vl}, (∀ x ∈ xs, Pn n w x) → ∃ ds : List PyData, (∀ s m, n ≤ m → mapO (toD m s) xs = some ds) ∧ PyData.leavesShortAll 13 ds = true ∧ PyData.showableAll ds = true ∧ PyData.weightAll ds ≤ xs.length * (w + 1)
  | [], _ => ⟨[], fun _ _ _ => rfl, rfl, rfl, by simp [PyData.weightAll]⟩
  | x :: xs, h => by
    obtain ⟨d, a, b, c, e⟩ := h x (List.mem_cons_self ..)
    obtain ⟨ds, a', b', c', e'⟩ := Pn.all fun y hy => h y (List.mem_cons_of_mem _ hy)
    refine ⟨d :: ds, fun s m hm => ?_, ?_, ?_, ?_⟩
    · simp only [mapO, a s m hm, a' s m hm]
    · simp only [PyData.leavesShortAll, b, b', Bool.and_self]
    · simp only [PyData.showableAll, c, c', Bool.and_self]
    · simp only [PyData.weightAll, List.length_cons, Nat.add_mul, Nat.one_mul]
      omega
theorem Pn.tup {n w : Nat} {xs : List Vl} (h : ∀ x ∈ xs, Pn n w x) : Pn (n + 1) (xs.length * (w + 1)) (.tup xs) := by
  obtain ⟨ds, a, b, c, e⟩ := Pn.all h
  refine ⟨.tuple ds, fun s m hm => ?_, ?_, ?_, ?_⟩
  · obtain ⟨m, rfl⟩ : ∃ k, m = k + 1 := ⟨m - 1, by omega⟩
    simp only [toD, a s m (by omega), Option.map]
  · simpa only [PyData.leavesShort] using b
  · simpa only [PyData.showable] using c
  · simpa only [PyData.weight] using e
theorem Pn.repr {n w : Nat} {v : Vl} (h : Pn n w v) (hn : n ≤ 40) (hw : w ≤ 2 ^ 20) : ∃ x, ∀ s, oRepr [v] s = some (.str x, s) := by
  obtain ⟨d, a, b, c, e⟩ := h
  refine ⟨d.shown, fun s => ?_⟩
  have : d.shown.length ≤ LIM := by
    rw [← lim_eq]
    exact PyData.shown_fits (by omega) (by omega) b (by omega)
  simp only [oRepr, a s 40 hn, c, this, decide_true, Bool.and_self, if_true]
theorem canLay_ints : ∀ ns : List Int, PyData.canLayAll0 (ns.map PyData.int) = true
  | [] => rfl
  | n :: ns => by simp only [List.map_cons, PyData.canLayAll0, PyData.canLay0, canLay_ints ns, Bool.and_self]
theorem toD_ints {s : Sto} {m : Nat} : ∀ ns : List Int, mapO (toD (m + 1) s) (ns.map Vl.int) = some (ns.map PyData.int)
  | [] => rfl
  | n :: ns => by
    have e : toD (m + 1) s (.int n) = some (.int n) := rfl
    simp only [List.map_cons, mapO, e, toD_ints ns]
theorem toD_lst {s : Sto} {m a : Nat} {xs : List Vl} (h : s[a]? = some (.lst xs)) : toD (m + 1) s (.ref a) = (mapO (toD m s) xs).map .list := by
  unfold toD
  simp only [h]
theorem eqM_nil {s : Sto} {a b : Nat} {ns : List Int} (h1 : s[a]? = some (.lst (ns.map Vl.int))) (h2 : s[b]? = some (.lst [])) : eqM (.ref a) (.ref b) s = some ns.isEmpty := by
  have e1 : toD 40 s (.ref a) = some (.list (ns.map PyData.int)) := by
    rw [toD_lst (m := 39) h1, toD_ints (m := 38)]
    rfl
  have e2 : toD 40 s (.ref b) = some (.list []) := by
    rw [toD_lst (m := 39) h2]
    rfl
  have e3 : PyData.canLay0 (.list (ns.map PyData.int)) = true := by simpa only [PyData.canLay0] using canLay_ints ns
  have e4 : PyData.canLay0 (.list []) = true := rfl
  simp only [eqM, eqS, e1, e2, e3, e4, Bool.and_self, if_true, PyData.eqv]
  cases ns <;> simp [PyData.eqvAll]
theorem opEq_nil {s : Sto} {a b : Nat} {ns : List Int} (h1 : s[a]? = some (.lst (ns.map Vl.int))) (h2 : s[b]? = some (.lst [])) : opEq (.ref a) (.ref b) s = some (.bl ns.isEmpty, s) := by
  simp only [opEq, eqM_nil h1 h2]
theorem opNe_nil {s : Sto} {a b : Nat} {ns : List Int} (h1 : s[a]? = some (.lst (ns.map Vl.int))) (h2 : s[b]? = some (.lst [])) : opNe (.ref a) (.ref b) s = some (.bl (!ns.isEmpty), s) := by
  simp only [opNe, eqM_nil h1 h2]
section
variable {mf : List Vl → M Vl} {s : Sto} {QV : Vl → Sto → Prop} {E : Ex → Sto → Prop} {x y z : Vl}
theorem WE_arg1 : WE (arg 1 mf [x]) s QV E = WE (mf [x]) s QV E := by rw [WE_arg]; exact if_pos rfl
theorem WE_arg2 : WE (arg 2 mf [x, y]) s QV E = WE (mf [x, y]) s QV E := by rw [WE_arg]; exact if_pos rfl
theorem WE_arg3 : WE (arg 3 mf [x, y, z]) s QV E = WE (mf [x, y, z]) s QV E := by rw [WE_arg]; exact if_pos rfl
end
@[simp] theorem rngW_nat {n : Nat} {s : Sto} {QA : List Vl → Sto → Prop} (h : n < 1000000) : rngW [.int (n : Int)] s QA = QA (rng 0 n) s := by
  rw [rngW_one]
  have h1 : -(2 ^ 62) ≤ (n : Int) := by omega
  have h2 : (n : Int) < 2 ^ 62 := by omega
  have e : (n : Int).toNat = n := Int.toNat_natCast n
  rw [e]
  exact propext ⟨fun z => z.2, fun z => ⟨⟨h1, h2⟩, z⟩⟩
theorem rng_get {n i : Nat} {v : Vl} (h : (rng 0 n)[i]? = some v) : i < n ∧ v = .int (i : Nat) := by
  have h1 := (List.getElem?_eq_some_iff.mp h).1
  have h2 : i < n := by simpa [rng] using h1
  refine ⟨h2, ?_⟩
  simp [rng, h2] at h
  exact h.symm
@[simp] theorem rng_len {n : Nat} : (rng 0 n).length = n := by simp [rng]
end Sm

/-! S23: dicts, lists of ints, new rules of the pure programs; plain lemmas -/
namespace Sm
open PySem L2
section
variable {s : Sto} {lo : Lo} {QV : Vl → Sto → Prop} {E : Ex → Sto → Prop}
@[simp ↓] theorem WE_eMakeB {c : Nat} : WE (eMakeB c lo) s QV E = QV (.ref s.length) (s ++ [.ins c []]) := by simp only [WE_eq]; rfl
@[simp ↓] theorem WE_starM {n : Nat} {mf : List Vl → M Vl} {as : List Vl} : WE (starM n mf as) s QV E = (if n ≤ as.length ∧ as.length ≤ LIM then WE (mf (as.take n ++ [.tup (as.drop n)])) s QV E else False) := by
  by_cases h : n ≤ as.length ∧ as.length ≤ LIM
  · simp only [WE_eq, WE0, starM, if_pos h]
  · simp only [WE_eq, WE0, starM, if_neg h]
def callW (tab : MTab) (j : Nat) (s : Sto) (P : (List Vl → M Vl) → Prop) : Prop := match s[j]? with
  | some (.ins c _) => match tab c with
    | some mf => P mf
    | none => False
  | _ => False
theorem callW_ins {tab : MTab} {c j : Nat} {fs : List (Str × Vl)} {mf : List Vl → M Vl} {P : (List Vl → M Vl) → Prop} (h : s[j]? = some (.ins c fs)) (ht : tab c = some mf) : callW tab j s P = P mf := by simp only [callW, h, ht]
theorem WE_eCallO {tab : MTab} {o : EM} {a : AM} : WE (eCallO tab o a lo) s QV E = WE (o lo) s (fun x s => match x with | .ref j => WE (a lo) s (fun as s => callW tab j s fun mf => WE (mf (.ref j :: as)) s QV E) E | _ => False) E := by
  unfold eCallO
  rw [WE_bnd]
  refine WE_ext fun x s => ?_
  cases x <;> try (simp only [WE_eq]; rfl)
  rename_i j
  show WE (bnd (a lo) _) s QV E = _
  rw [WE_bnd]
  refine WE_ext fun as s => ?_
  simp only [WE_eq]
  unfold WE0 callW
  simp only
  cases h : s[j]? with
  | none => rfl
  | some o =>
    cases o <;> try rfl
    rename_i c fs
    simp only
    cases h1 : tab c with
    | none => rfl
    | some mf => simp only [WE_eq] <;> rfl
end
theorem put_len {κ : Type} [DecidableEq κ] {kvs : List (κ × Vl)} {k : κ} {v : Vl} : (put kvs k v).length ≤ kvs.length + 1 := by
  induction kvs with
  | nil => simp [put]
  | cons p r ih =>
    unfold put
    split
    · simp
    · simp; omega
@[simp] theorem look_put_self {κ : Type} [DecidableEq κ] {kvs : List (κ × Vl)} {k : κ} {v : Vl} : look (put kvs k v) k = some v := by
  induction kvs with
  | nil => simp [put, look]
  | cons p r ih =>
    unfold put
    split
    · simp [look]
    · rename_i h
      simp [look, h, ih]
theorem look_put_ne {κ : Type} [DecidableEq κ] {kvs : List (κ × Vl)} {k k' : κ} {v : Vl} (h : k ≠ k') : look (put kvs k v) k' = look kvs k' := by
  induction kvs with
  | nil => simp [put, look, h]
  | cons p r ih =>
    unfold put
    split
    · rename_i e
      simp only [look]
      rw [if_neg h, if_neg (by rw [e]; exact h)]
    · simp only [look]
      split
      · rfl
      · exact ih
theorem hasK_keys {y : Int} : ∀ {kvs : List (Key × Vl)} {K : List Int}, kvs.map (·.1) = K.map Sum.inl → hasK kvs (.inl y) = decide (y ∈ K)
  | [], [], _ => by simp [hasK]
  | [], _ :: _, h => by simp at h
  | _ :: _, [], h => by simp at h
  | p :: r, k :: K, h => by
    simp only [List.map_cons, List.cons.injEq] at h
    unfold hasK
    by_cases q : p.1 = .inl y
    · have : k = y := by rw [q] at h; have := h.1; cases this; rfl
      simp [q, this]
    · have : y ≠ k := fun e => q (by rw [h.1, e])
      rw [if_neg q, hasK_keys h.2]
      simp [this]
theorem put_new {y : Int} {v : Vl} : ∀ {kvs : List (Key × Vl)} {K : List Int}, kvs.map (·.1) = K.map Sum.inl → y ∉ K → (put kvs (.inl y) v).map (·.1) = (K ++ [y]).map Sum.inl
  | [], [], _, _ => rfl
  | [], _ :: _, h, _ => by simp at h
  | _ :: _, [], h, _ => by simp at h
  | p :: r, k :: K, h, hy => by
    simp only [List.map_cons, List.cons.injEq] at h
    simp only [List.mem_cons, not_or] at hy
    unfold put
    have q : p.1 ≠ .inl y := fun e => hy.1 (by rw [h.1] at e; cases e; rfl)
    rw [if_neg q]
    simp only [List.map_cons, List.cons_append, put_new h.2 hy.2, h.1]
theorem nodup_sub : ∀ {A B : List Int}, A.Nodup → (∀ x ∈ A, x ∈ B) → A.length ≤ B.length
  | [], B, _, _ => Nat.zero_le _
  | a :: A, B, nd, h => by
    have ha := h a (List.mem_cons_self ..)
    simp only [List.nodup_cons] at nd
    have ih := nodup_sub (B := B.erase a) nd.2 fun x hx => (List.mem_erase_of_ne (show x ≠ a from fun e => nd.1 (e ▸ hx))).mpr (h x (List.mem_cons_of_mem _ hx))
    rw [List.length_erase_of_mem ha] at ih
    have := List.length_pos_of_mem ha
    simp only [List.length_cons]
    omega
abbrev Inc (A : List Int) : Prop := A.Pairwise (· < ·)
theorem Inc.nodup {A : List Int} (h : Inc A) : A.Nodup := h.imp fun a => by omega
theorem srt_inc {A : List Int} (nd : A.Nodup) : Inc (srt A) := by
  have h1 := srt_sorted A
  have h2 : (srt A).Nodup := (srt_perm A).nodup_iff.mpr nd
  exact (h1.and h2).imp fun h => by omega
theorem mem_srt {A : List Int} {x : Int} : x ∈ srt A ↔ x ∈ A := (srt_perm A).mem_iff
theorem srt_len {A : List Int} : (srt A).length = A.length := (srt_perm A).length_eq
@[simp] theorem inF_ints {c : Int} : ∀ C : List Int, inF (.int c) (C.map Vl.int) = decide (c ∈ C)
  | [] => by simp [inF]
  | x :: C => by
    have := inF_ints (c := c) C
    have e : eqF (.int x) (.int c) = decide (c = x) := by
      simp [eqF]
      by_cases q : x = c
      · simp [q]
      · simp [q, Ne.symm q]
    simp [inF, e] at this ⊢
    rw [this]
@[simp] theorem flat_ints {xs : List Int} : (xs.map Vl.int).all flat = true := by simp [List.all_map]
theorem keys_list {kvs : List (Key × Vl)} {K : List Int} (h : kvs.map (·.1) = K.map Sum.inl) : (kvs.map fun kv => keyVl kv.1) = K.map Vl.int := by
  have : (kvs.map fun kv => keyVl kv.1) = (kvs.map (·.1)).map keyVl := by simp
  rw [this, h, List.map_map]
  rfl
end Sm

/-! S24: texts that are written out; small rules -/
namespace Sm
open PySem L2
theorem toNat_map_inj : ∀ {a b : List Char}, a.map Char.toNat = b.map Char.toNat → a = b
  | [], [], _ => rfl
  | [], _ :: _, h => by simp at h
  | _ :: _, [], h => by simp at h
  | x :: a, y :: b, h => by
    simp only [List.map_cons, List.cons.injEq] at h
    rw [toNat_map_inj h.2, Char.toNat_inj.mp h.1]
theorem ofString_inj {a b : String} (h : Str.ofString a = Str.ofString b) : a = b := by
  rw [Str.ofString_eq_toList, Str.ofString_eq_toList] at h
  have h1 := congrArg (fun z => z.cps.toList) h
  simp only at h1
  exact String.toList_inj.mp (toNat_map_inj h1)
@[simp] theorem ofString_eq_iff {a b : String} : (Str.ofString a = Str.ofString b) = (a = b) := propext ⟨ofString_inj, fun h => by rw [h]⟩
@[simp] theorem ofString_beq {a b : String} : (Str.ofString a == Str.ofString b) = (a == b) := by
  by_cases h : a = b
  · subst h; simp
  · rw [beq_eq_false_iff_ne.mpr h, beq_eq_false_iff_ne.mpr fun z => h (ofString_inj z)]
@[simp] theorem eqF_str {a b : Str} : eqF (.str a) (.str b) = (a == b) := rfl
@[simp] theorem eqF_int {a b : Int} : eqF (.int a) (.int b) = (a == b) := rfl
@[simp] theorem inF_nil {x : Vl} : inF x [] = false := rfl
@[simp] theorem inF_cons {x y : Vl} {ys : List Vl} : inF x (y :: ys) = (eqF y x || inF x ys) := rfl
section
variable {s : Sto} {x : Str} {i : Int} {xs : List Vl} {a : Nat}
@[simp] theorem opIn_tupS : opIn (.str x) (.tup xs) s = if xs.all flat = true then some (.bl (inF (.str x) xs), s) else none := by
  by_cases h : xs.all flat = true
  · rw [if_pos h, opIn_tup rfl h]
  · have h' : xs.all flat = false := by simpa using h
    rw [if_neg h]; simp only [opIn, inM, h', Bool.and_false]; rfl
@[simp] theorem opNotIn_tupS : opNotIn (.str x) (.tup xs) s = if xs.all flat = true then some (.bl (!inF (.str x) xs), s) else none := by
  by_cases h : xs.all flat = true
  · rw [if_pos h, opNotIn_tup rfl h]
  · have h' : xs.all flat = false := by simpa using h
    rw [if_neg h]; simp only [opNotIn, inM, h', Bool.and_false]; rfl
@[simp] theorem opIn_tupI : opIn (.int i) (.tup xs) s = if xs.all flat = true then some (.bl (inF (.int i) xs), s) else none := by
  by_cases h : xs.all flat = true
  · rw [if_pos h, opIn_tup rfl h]
  · have h' : xs.all flat = false := by simpa using h
    rw [if_neg h]; simp only [opIn, inM, h', Bool.and_false]; rfl
@[simp] theorem opNotIn_tupI : opNotIn (.int i) (.tup xs) s = if xs.all flat = true then some (.bl (!inF (.int i) xs), s) else none := by
  by_cases h : xs.all flat = true
  · rw [if_pos h, opNotIn_tup rfl h]
  · have h' : xs.all flat = false := by simpa using h
    rw [if_neg h]; simp only [opNotIn, inM, h', Bool.and_false]; rfl
@[simp] theorem opIn_lstS (h1 : s[a]? = some (.lst xs)) : opIn (.str x) (.ref a) s = if xs.all flat = true then some (.bl (inF (.str x) xs), s) else none := by
  by_cases h : xs.all flat = true
  · rw [if_pos h, opIn_lst h1 rfl h]
  · have h' : xs.all flat = false := by simpa using h
    rw [if_neg h]; simp only [opIn, inM, h1, h', Bool.and_false]; rfl
@[simp] theorem opNotIn_lstS (h1 : s[a]? = some (.lst xs)) : opNotIn (.str x) (.ref a) s = if xs.all flat = true then some (.bl (!inF (.str x) xs), s) else none := by
  by_cases h : xs.all flat = true
  · rw [if_pos h, opNotIn_lst h1 rfl h]
  · have h' : xs.all flat = false := by simpa using h
    rw [if_neg h]; simp only [opNotIn, inM, h1, h', Bool.and_false]; rfl
@[simp] theorem opIn_lstI (h1 : s[a]? = some (.lst xs)) : opIn (.int i) (.ref a) s = if xs.all flat = true then some (.bl (inF (.int i) xs), s) else none := by
  by_cases h : xs.all flat = true
  · rw [if_pos h, opIn_lst h1 rfl h]
  · have h' : xs.all flat = false := by simpa using h
    rw [if_neg h]; simp only [opIn, inM, h1, h', Bool.and_false]; rfl
@[simp] theorem opNotIn_lstI (h1 : s[a]? = some (.lst xs)) : opNotIn (.int i) (.ref a) s = if xs.all flat = true then some (.bl (!inF (.int i) xs), s) else none := by
  by_cases h : xs.all flat = true
  · rw [if_pos h, opNotIn_lst h1 rfl h]
  · have h' : xs.all flat = false := by simpa using h
    rw [if_neg h]; simp only [opNotIn, inM, h1, h', Bool.and_false]; rfl
end
theorem eqM_tupN {s : Sto} {ns : List Int} : eqM (.tup (ns.map Vl.int)) (.tup []) s = some ns.isEmpty := by
  have e1 : toD 40 s (.tup (ns.map Vl.int)) = some (.tuple (ns.map PyData.int)) := by
    unfold toD
    simp only [toD_ints (m := 38), Option.map]
  have e2 : toD 40 s (.tup []) = some (.tuple []) := rfl
  have e3 : PyData.canLay0 (.tuple (ns.map PyData.int)) = true := by simpa only [PyData.canLay0] using canLay_ints ns
  have e4 : PyData.canLay0 (.tuple []) = true := rfl
  simp only [eqM, eqS, e1, e2, e3, e4, Bool.and_self, if_true, PyData.eqv]
  cases ns <;> simp [PyData.eqvAll]
theorem opEq_tupN {s : Sto} {ns : List Int} : opEq (.tup (ns.map Vl.int)) (.tup []) s = some (.bl ns.isEmpty, s) := by
  simp only [opEq, eqM_tupN]
theorem opNe_tupN {s : Sto} {ns : List Int} : opNe (.tup (ns.map Vl.int)) (.tup []) s = some (.bl (!ns.isEmpty), s) := by
  simp only [opNe, eqM_tupN]
@[simp] theorem lim7 : (7 ≤ LIM) = True := eq_true (by decide)
@[simp] theorem lim8 : (8 ≤ LIM) = True := eq_true (by decide)
@[simp] theorem lim9 : (9 ≤ LIM) = True := eq_true (by decide)
@[simp] theorem lim10 : (10 ≤ LIM) = True := eq_true (by decide)
@[simp] theorem lim11 : (11 ≤ LIM) = True := eq_true (by decide)
@[simp] theorem lim12 : (12 ≤ LIM) = True := eq_true (by decide)
@[simp] theorem lim13 : (13 ≤ LIM) = True := eq_true (by decide)
@[simp] theorem lim14 : (14 ≤ LIM) = True := eq_true (by decide)
@[simp] theorem lim15 : (15 ≤ LIM) = True := eq_true (by decide)
@[simp] theorem lim16 : (16 ≤ LIM) = True := eq_true (by decide)
@[simp] theorem lim17 : (17 ≤ LIM) = True := eq_true (by decide)
@[simp] theorem lim18 : (18 ≤ LIM) = True := eq_true (by decide)
@[simp] theorem lim19 : (19 ≤ LIM) = True := eq_true (by decide)
@[simp] theorem lim20 : (20 ≤ LIM) = True := eq_true (by decide)
@[simp] theorem lim21 : (21 ≤ LIM) = True := eq_true (by decide)
@[simp] theorem lim22 : (22 ≤ LIM) = True := eq_true (by decide)
@[simp] theorem lim23 : (23 ≤ LIM) = True := eq_true (by decide)
@[simp] theorem lim24 : (24 ≤ LIM) = True := eq_true (by decide)
@[simp] theorem lim25 : (25 ≤ LIM) = True := eq_true (by decide)
@[simp] theorem lim26 : (26 ≤ LIM) = True := eq_true (by decide)
@[simp] theorem lim27 : (27 ≤ LIM) = True := eq_true (by decide)
@[simp] theorem lim28 : (28 ≤ LIM) = True := eq_true (by decide)
@[simp] theorem lim29 : (29 ≤ LIM) = True := eq_true (by decide)
@[simp] theorem lim30 : (30 ≤ LIM) = True := eq_true (by decide)
@[simp] theorem lim31 : (31 ≤ LIM) = True := eq_true (by decide)
@[simp] theorem lim32 : (32 ≤ LIM) = True := eq_true (by decide)
@[simp] theorem lim33 : (33 ≤ LIM) = True := eq_true (by decide)
@[simp] theorem lim34 : (34 ≤ LIM) = True := eq_true (by decide)
@[simp] theorem lim35 : (35 ≤ LIM) = True := eq_true (by decide)
@[simp] theorem lim36 : (36 ≤ LIM) = True := eq_true (by decide)
@[simp] theorem lim37 : (37 ≤ LIM) = True := eq_true (by decide)
@[simp] theorem lim38 : (38 ≤ LIM) = True := eq_true (by decide)
@[simp] theorem lim39 : (39 ≤ LIM) = True := eq_true (by decide)
@[simp] theorem lim40 : (40 ≤ LIM) = True := eq_true (by decide)
theorem Pn.bl {b : Bool} : Pn 1 64 (.bl b) := by
  refine ⟨.bool b, fun s m hm => ?_, by cases b <;> decide, rfl, by simp [PyData.weight]⟩
  obtain ⟨m, rfl⟩ : ∃ k, m = k + 1 := ⟨m - 1, by omega⟩
  rfl
theorem Pn.ints {ns : List Int} {n : Nat} (h : ∀ x ∈ ns, x.natAbs < 10 ^ 12) (hn : ns.length ≤ n) : Pn 2 (n * 65) (.tup (ns.map Vl.int)) :=
  (Pn.tup (n := 1) (w := 64) fun x hx => by
    obtain ⟨i, hi, rfl⟩ := List.mem_map.mp hx
    exact Pn.int (h i hi)).mono (Nat.le_refl _) (by simp; omega)
/-- an item of a mapped list -/
theorem get_map {α β : Type} {f : α → β} {xs : List α} {i : Nat} {v : β} (h : (xs.map f)[i]? = some v) : ∃ x, xs[i]? = some x ∧ v = f x := by
  rw [List.getElem?_map] at h
  cases q : xs[i]? with
  | none => rw [q] at h; cases h
  | some e => rw [q] at h; exact ⟨e, rfl, by simpa using h.symm⟩
theorem take_succ_get {α : Type} {xs : List α} {i : Nat} {x : α} (h : xs[i]? = some x) : xs.take (i + 1) = xs.take i ++ [x] := by
  rw [List.take_add_one, h]; rfl
theorem rngW_lit {n : Nat} {s : Sto} {QA : List Vl → Sto → Prop} (h : n < 1000000) : rngW [.int (OfNat.ofNat n)] s QA = QA (rng 0 n) s := rngW_nat h
end Sm

/-! S29: how the newer parts of pure programs are computed -/
namespace Sm
open PySem L2
section
variable {s : Sto} {lo : Lo} {QV : Vl → Sto → Prop} {QA : List Vl → Sto → Prop} {E : Ex → Sto → Prop} {K : RK} {N : Lo → Sto → Prop}
def WGs0 (gs : List GM) (vs : List Vl) (lo : Lo) (s : Sto) (N : Lo → Sto → Prop) : Prop := match gAll gs vs lo s with
  | some (lo', s') => N lo' s'
  | none => False
structure WGs (gs : List GM) (vs : List Vl) (lo : Lo) (s : Sto) (N : Lo → Sto → Prop) (_ : Tg N := .a) : Prop where
  h : WGs0 gs vs lo s N
theorem WGs_eq {gs : List GM} {vs : List Vl} : WGs gs vs lo s N = WGs0 gs vs lo s N := propext ⟨fun x => x.h, fun x => ⟨x⟩⟩
@[simp ↓] theorem WG_gTs {gs : List GM} {xs : List Vl} : WG (gTs gs) (.tup xs) lo s N E = WGs gs xs lo s N := by
  simp only [WG_eq, WE_eq, WGs_eq]
  unfold WE0 gTs WGs0
  simp only
  cases gAll gs xs lo s with
  | none => rfl
  | some p => obtain ⟨a, b⟩ := p; rfl
@[simp ↓] theorem WGs_nil : WGs [] [] lo s N = N lo s := by simp only [WGs_eq]; rfl
@[simp ↓] theorem WGs_cons {g : GM} {gs : List GM} {v : Vl} {vs : List Vl} : WGs (g :: gs) (v :: vs) lo s N = WG g v lo s (fun lo s => WGs gs vs lo s N) NoX := by
  simp only [WG_eq, WE_eq, WGs_eq]
  unfold WE0 WGs0
  have e : gAll (g :: gs) (v :: vs) lo s = match g v lo s with | .ok lo' s' => gAll gs vs lo' s' | _ => none := rfl
  rw [e]
  cases g v lo s with
  | ok a b => simp only [WGs_eq] <;> rfl
  | exc a b => rfl
  | fail => rfl
def ulW (x : Vl) (s : Sto) (P : List Vl → Prop) : Prop := match x with
  | .ref j => match s[j]? with
    | some (.lst xs) => P xs
    | _ => False
  | _ => False
@[simp] theorem ulW_ref {j : Nat} {P : List Vl → Prop} {xs : List Vl} (h : s[j]? = some (.lst xs)) : ulW (.ref j) s P = P xs := by simp [ulW, h]
@[simp ↓] theorem WG_gUl {gs : List GM} {x : Vl} : WG (gUl gs) x lo s N E = ulW x s fun xs => WGs gs xs lo s N := by
  simp only [WG_eq, WE_eq, WGs_eq]
  unfold WE0 gUl ulW WGs0
  cases x <;> try rfl
  rename_i j
  dsimp only
  cases s[j]? with
  | none => rfl
  | some o =>
    cases o <;> try rfl
    rename_i xs
    dsimp only
    cases gAll gs xs lo s with
    | none => rfl
    | some p => obtain ⟨a, b⟩ := p; rfl
def atW (lo : Lo) (i : Nat) (P : Vl → Prop) : Prop := match lo[i]? with
  | some (some x) => P x
  | _ => False
theorem atW_some {i : Nat} {x : Vl} {P : Vl → Prop} (h : lo[i]? = some (some x)) : atW lo i P = P x := by unfold atW; rw [h]
@[simp ↓] theorem WS_sAug {i : Nat} {f : O2} {e : EM} : WS (sAug i f e) lo s K = (match lo[i]? with | some (some x) => WE (e lo) s (fun v s => WO (f x v s) fun z s => K.nx (lo.set i (some z)) s) (fun x s => K.ex x lo s) | _ => False) := by
  simp only [WS_eq]
  unfold WS0 sAug
  cases h : lo[i]? with
  | none => simp only [h]
  | some o =>
    cases o with
    | none => simp only [h]
    | some x =>
      simp only [h]
      have := WS_bndS (m := e) (lo := lo) (s := s) (K := K) (f := fun lo v s => match f x v s with | some (z, s') => .nx (lo.set i (some z)) s' | none => .fail)
      refine Eq.trans (b := WS (bndS e fun lo v s => match f x v s with | some (z, s') => .nx (lo.set i (some z)) s' | none => .fail) lo s K) (by simp only [WS_eq]; rfl) (this.trans ?_)
      refine WE_ext fun v s => ?_
      simp only [WO_eq]
      unfold WO0
      cases f x v s with
      | none => rfl
      | some p => obtain ⟨a, b⟩ := p; rfl
@[simp] theorem opIAdd_int {i j : Int} : opIAdd (.int i) (.int j) s = some (.int (i + j), s) := rfl
@[simp] theorem opISub_int {i j : Int} : opISub (.int i) (.int j) s = some (.int (i - j), s) := rfl
@[simp] theorem opIAdd_str {x y : Str} (h : x.length + y.length ≤ LIM) : opIAdd (.str x) (.str y) s = some (.str (x ++ y), s) := by simp only [opIAdd, if_pos h]
@[simp ↓] theorem WE_eChain {f f' : O2} {a b c : EM} : WE (eChain f f' a b c lo) s QV E = WE (a lo) s (fun x s => WE (b lo) s (fun y s => WO (f x y s) fun z s => match z with | .bl true => WE (c lo) s (fun w s => WO (f' y w s) QV) E | .bl false => QV (.bl false) s | _ => False) E) E := by
  unfold eChain
  rw [WE_bnd]
  refine WE_ext fun x s => ?_
  rw [WE_bnd]
  refine WE_ext fun y s => ?_
  rw [WE_bnd, WE_lift]
  have : ∀ (o : Option (Vl × Sto)) (P P' : Vl → Sto → Prop), (∀ a s, P a s = P' a s) → WO o P = WO o P' := fun o P P' h => by
    have : P = P' := funext fun a => funext fun s => h a s
    subst this; rfl
  refine this _ _ _ fun z s => ?_
  cases z <;> try (simp only [WE_eq]; rfl)
  rename_i k
  cases k with
  | false => simp only [WE_eq]; rfl
  | true =>
    simp only
    rw [WE_bnd]
    exact WE_ext fun w s => WE_lift
def dicW (x : Vl) (s : Sto) (P : Nat → Prop) : Prop := match x with
  | .ref j => isDic j s = true ∧ P j
  | _ => False
@[simp] theorem dicW_ref {j : Nat} {P : Nat → Prop} {kvs : List (Key × Vl)} (h : s[j]? = some (.dic kvs)) : dicW (.ref j) s P = P j := by simp [dicW, isDic, h]
def getW (j : Nat) (y : Vl) (s : Sto) (P : List (Key × Vl) → Key → Prop) : Prop := match s[j]?, keyOf y with
  | some (.dic kvs), some key => P kvs key
  | _, _ => False
@[simp] theorem getW_str {j : Nat} {x : Str} {kvs : List (Key × Vl)} {P : List (Key × Vl) → Key → Prop} (h : s[j]? = some (.dic kvs)) : getW j (.str x) s P = P kvs (.inr x) := by simp [getW, h, keyOf]
@[simp] theorem getW_int {j : Nat} {x : Int} {kvs : List (Key × Vl)} {P : List (Key × Vl) → Key → Prop} (h : s[j]? = some (.dic kvs)) : getW j (.int x) s P = P kvs (.inl x) := by simp [getW, h, keyOf]
@[simp ↓] theorem WE_eDGet1 {d k : EM} : WE (eDGet1 d k lo) s QV E = WE (d lo) s (fun x s => dicW x s fun j => WE (k lo) s (fun y s => getW j y s fun kvs key => QV ((look kvs key).getD .non) s) E) E := by
  unfold eDGet1
  rw [WE_bnd]
  refine WE_ext fun x s => ?_
  cases x <;> try (simp only [WE_eq]; rfl)
  rename_i j
  unfold dicW
  by_cases h : isDic j s = true
  · simp only [h, true_and]
    refine Eq.trans (b := WE (bnd (k lo) fun y s => match s[j]?, keyOf y with | some (.dic kvs), some key => .ok ((look kvs key).getD .non) s | _, _ => .fail) s QV E) ?_ ?_
    · simp only [WE_eq]; unfold WE0; simp only [h, if_true] <;> rfl
    · rw [WE_bnd]
      refine WE_ext fun y s => ?_
      simp only [WE_eq]
      unfold WE0 getW
      dsimp only
      cases s[j]? with
      | none => rfl
      | some o => cases o <;> cases keyOf y <;> rfl
  · simp only [h, false_and, Bool.false_eq_true]
    simp only [WE_eq]; unfold WE0; simp only [h, if_false, Bool.false_eq_true]
@[simp ↓] theorem WE_eDGet2 {d k v : EM} : WE (eDGet2 d k v lo) s QV E = WE (d lo) s (fun x s => dicW x s fun j => WE (k lo) s (fun y s => WE (v lo) s (fun z s => getW j y s fun kvs key => QV ((look kvs key).getD z) s) E) E) E := by
  unfold eDGet2
  rw [WE_bnd]
  refine WE_ext fun x s => ?_
  cases x <;> try (simp only [WE_eq]; rfl)
  rename_i j
  unfold dicW
  by_cases h : isDic j s = true
  · simp only [h, true_and]
    refine Eq.trans (b := WE (bnd (k lo) fun y => bnd (v lo) fun z s => match s[j]?, keyOf y with | some (.dic kvs), some key => .ok ((look kvs key).getD z) s | _, _ => .fail) s QV E) ?_ ?_
    · simp only [WE_eq]; unfold WE0; simp only [h, if_true] <;> rfl
    · rw [WE_bnd]
      refine WE_ext fun y s => ?_
      rw [WE_bnd]
      refine WE_ext fun z s => ?_
      simp only [WE_eq]
      unfold WE0 getW
      dsimp only
      cases s[j]? with
      | none => rfl
      | some o => cases o <;> cases keyOf y <;> rfl
  · simp only [h, false_and, Bool.false_eq_true]
    simp only [WE_eq]; unfold WE0; simp only [h, if_false, Bool.false_eq_true]
@[simp ↓] theorem WE_aEnm {e : AM} : WE (aEnm e lo) s QA E = WE (e lo) s (fun as s => match as with | [.tup xs] => QA (enmL xs) s | _ => False) E := by
  unfold aEnm
  rw [WE_bnd]
  refine WE_ext fun as s => ?_
  match as with
  | [] => simp only [WE_eq]; rfl
  | [.tup xs] => simp only [WE_eq]; rfl
  | .non :: _ => cases ‹List Vl› <;> simp only [WE_eq] <;> rfl
  | .bl _ :: _ => cases ‹List Vl› <;> simp only [WE_eq] <;> rfl
  | .int _ :: _ => cases ‹List Vl› <;> simp only [WE_eq] <;> rfl
  | .str _ :: _ => cases ‹List Vl› <;> simp only [WE_eq] <;> rfl
  | .ref _ :: _ => cases ‹List Vl› <;> simp only [WE_eq] <;> rfl
  | .scr _ :: _ => cases ‹List Vl› <;> simp only [WE_eq] <;> rfl
  | .ty _ :: _ => cases ‹List Vl› <;> simp only [WE_eq] <;> rfl
  | .fn _ :: _ => cases ‹List Vl› <;> simp only [WE_eq] <;> rfl
  | .tup _ :: _ :: _ => simp only [WE_eq]; rfl
@[simp ↓] theorem WE_dflM {n : Nat} {das as : List Vl} {mf : List Vl → M Vl} : WE (dflM n das mf as) s QV E = (if as.length + das.length = n then WE (mf (as ++ das)) s QV E else False) := by
  by_cases h : as.length + das.length = n
  · simp only [WE_eq, WE0, dflM, if_pos h]
  · simp only [WE_eq, WE0, dflM, if_neg h]
end
section
variable {s : Sto} {a : Nat} {x : Str} {xs : List Vl} {kvs : List (Key × Vl)}
theorem oJoin_strs {ys : List Str} (h : s[a]? = some (.lst (ys.map Vl.str))) (hl : (ys.map (·.length)).sum + ys.length * x.length ≤ LIM) : oJoin (.str x) [.ref a] s = some (.str (Txt.join x ys), s) := by simp [oJoin, lstOf, h, mapO_strs, hl]
@[simp] theorem oDict_dic (h : s[a]? = some (.dic kvs)) : oDict [.ref a] s = some (.ref s.length, s ++ [.dic kvs]) := by simp only [oDict, h]
theorem oDictP_lst {ps : List (Key × Vl)} (h : s[a]? = some (.lst xs)) (hp : mapO asPr xs = some ps) : oDictP [.ref a] s = some (.ref s.length, s ++ [.dic (mergeP [] ps)]) := by simp [oDictP, lstOf, h, hp]
theorem strKeys_eq : ∀ {kvs : List (Key × Vl)} {ks : List Str}, kvs.map (·.1) = ks.map Sum.inr → strKeys kvs = some ks
  | [], [], _ => rfl
  | [], _ :: _, h => by simp at h
  | _ :: _, [], h => by simp at h
  | p :: r, k :: ks, h => by
    simp only [List.map_cons, List.cons.injEq] at h
    obtain ⟨⟨k1, v⟩, r⟩ : ∃ q : Key × Vl, q = p := ⟨p, rfl⟩
    have ih := strKeys_eq h.2
    cases p with
    | mk q v =>
      obtain ⟨h1, h2⟩ := h
      simp only at h1
      subst h1
      simp [strKeys, ih]
theorem oSort_dic {ks : List Str} (h : s[a]? = some (.dic kvs)) (hk : kvs.map (·.1) = ks.map Sum.inr) (hl : ks.length < 64) : oSort [.ref a] s = some (.ref s.length, s ++ [.lst ((srtT ks).map Vl.str)]) := by simp [oSort, h, strKeys_eq hk, hl]
theorem mem_srtT {ks : List Str} {z : Str} : z ∈ srtT ks ↔ z ∈ ks := (srtT_perm ks).mem_iff
theorem srtT_len {ks : List Str} : (srtT ks).length = ks.length := (srtT_perm ks).length_eq
@[simp] theorem kd_join : kd .str (.str x) s = true := rfl
@[simp] theorem oLen_str (h : x.length ≤ LIM) : oLen [.str x] s = some (.int x.length, s) := by simp [oLen, lenM, h]
@[simp] theorem opIx_str {i : Int} (h : x.length ≤ LIM) : opIx (.str x) (.int i) s = (atI x.cps.toList i).map fun c => (.str ⟨#[c]⟩, s) := by simp only [opIx, if_pos h]
@[simp] theorem oStr_int {i : Int} (h : i.natAbs.log2 < 1920) : oStr [.int i] s = some (.str (toString i), s) := by simp only [oStr, if_pos h]
end
theorem str_len {x : Str} : x.length = x.cps.toList.length := by simp [Str.length]
theorem str_append {x y : Str} : (x ++ y).cps.toList = x.cps.toList ++ y.cps.toList := by
  show (x.cps ++ y.cps).toList = _
  simp
/-- == of any list with an empty one -/
theorem eqM_lstN {s : Sto} {a b : Nat} {xs : List Vl} {ds : List PyData} (h1 : s[a]? = some (.lst xs)) (h2 : s[b]? = some (.lst [])) (hd : mapO (toD 39 s) xs = some ds) (hc : PyData.canLayAll0 ds = true) : eqM (.ref a) (.ref b) s = some xs.isEmpty := by
  have e1 : toD 40 s (.ref a) = some (.list ds) := by rw [toD_lst (m := 39) h1, hd]; rfl
  have e2 : toD 40 s (.ref b) = some (.list []) := by rw [toD_lst (m := 39) h2]; rfl
  have e3 : PyData.canLay0 (.list ds) = true := by simpa only [PyData.canLay0] using hc
  have e4 : PyData.canLay0 (.list []) = true := rfl
  have e5 : ds.isEmpty = xs.isEmpty := by
    cases xs with
    | nil => cases hd; rfl
    | cons x xs =>
      unfold mapO at hd
      cases q : toD 39 s x with
      | none => simp only [q] at hd; cases hd
      | some d =>
        simp only [q] at hd
        cases q2 : mapO (toD 39 s) xs with
        | none => simp only [q2] at hd; cases hd
        | some r => simp only [q2] at hd; cases hd; rfl
  simp only [eqM, eqS, e1, e2, e3, e4, Bool.and_self, if_true, PyData.eqv]
  rw [← e5]
  cases ds <;> simp [PyData.eqvAll]
theorem toD_strs {s : Sto} {m : Nat} : ∀ ns : List Str, mapO (toD (m + 1) s) (ns.map Vl.str) = some (ns.map PyData.str)
  | [] => rfl
  | n :: ns => by
    have e : toD (m + 1) s (.str n) = some (.str n) := rfl
    simp only [List.map_cons, mapO, e, toD_strs ns]
theorem canLay_strs : ∀ {ns : List Str}, (∀ z ∈ ns, PyData.strOk z = true) → PyData.canLayAll0 (ns.map PyData.str) = true
  | [], _ => rfl
  | n :: ns, h => by
    have h1 := h n (List.mem_cons_self ..)
    have h2 := canLay_strs (ns := ns) fun z hz => h z (List.mem_cons_of_mem _ hz)
    simp only [List.map_cons, PyData.canLayAll0, PyData.canLay0, h1, h2, Bool.and_self]
theorem opEq_lstS {s : Sto} {a b : Nat} {zs : List Str} (hz : ∀ z ∈ zs, PyData.strOk z = true) (h1 : s[a]? = some (.lst (zs.map Vl.str))) (h2 : s[b]? = some (.lst [])) : opEq (.ref a) (.ref b) s = some (.bl zs.isEmpty, s) := by
  simp only [opEq, eqM_lstN h1 h2 (toD_strs (m := 38) zs) (canLay_strs hz)]
  simp
/-- plain values, each with its own weight -/
theorem Pn.tupS {n : Nat} : ∀ {xs : List Vl} {ws : List Nat}, ws.length = xs.length → (∀ (i : Nat) (x : Vl) (w : Nat), xs[i]? = some x → ws[i]? = some w → Pn n w x) → Pn (n + 1) ((ws.map (· + 1)).sum) (.tup xs) := by
  intro xs ws hl h
  have key : ∃ ds : List PyData, (∀ s m, n ≤ m → mapO (toD m s) xs = some ds) ∧ PyData.leavesShortAll 13 ds = true ∧ PyData.showableAll ds = true ∧ PyData.weightAll ds ≤ (ws.map (· + 1)).sum := by
    induction xs generalizing ws with
    | nil =>
      cases ws with
      | nil => exact ⟨[], fun _ _ _ => rfl, rfl, rfl, by simp [PyData.weightAll]⟩
      | cons w ws => simp at hl
    | cons x xs ih =>
      cases ws with
      | nil => simp at hl
      | cons w ws =>
        obtain ⟨d, a, b, c, e⟩ := h 0 x w rfl rfl
        obtain ⟨ds, a', b', c', e'⟩ := ih (by simpa using hl) fun i y v h1 h2 => h (i + 1) y v (by simpa using h1) (by simpa using h2)
        refine ⟨d :: ds, fun s m hm => ?_, ?_, ?_, ?_⟩
        · simp only [mapO, a s m hm, a' s m hm]
        · simp only [PyData.leavesShortAll, b, b', Bool.and_self]
        · simp only [PyData.showableAll, c, c', Bool.and_self]
        · simp only [PyData.weightAll, List.map_cons, List.sum_cons]
          omega
  obtain ⟨ds, a, b, c, e⟩ := key
  refine ⟨.tuple ds, fun s m hm => ?_, ?_, ?_, ?_⟩
  · obtain ⟨m, rfl⟩ : ∃ k, m = k + 1 := ⟨m - 1, by omega⟩
    simp only [toD, a s m (by omega), Option.map]
  · simpa only [PyData.leavesShort] using b
  · simpa only [PyData.showable] using c
  · simpa only [PyData.weight] using e
end Sm

/-! D2: the deck of numbers: _law_deck, _law_draw (the second kind), _law_one -/
namespace K06
open PySem L2 Sm
/-- a deck of at most 63 numbers, at most c of them drawn -/
def Dk (s : Sto) (d l c : Nat) : Prop := ∃ k cells, k ≤ c ∧ cells.length ≤ 63 ∧ Deck s d l k cells
theorem Dk.fr {X : List Nat} {s s' : Sto} {d l c : Nat} (D : Dk s d l c) (f : Fr X s s') (h1 : d ∉ X) (h2 : l ∉ X) : Dk s' d l c := by
  obtain ⟨k, cells, a, b, D⟩ := D
  exact ⟨k, cells, a, b, D.fr f h1 h2⟩
theorem Dk.new {s s' : Sto} {d l c : Nat} (D : Dk s d l c) (f : Fr [] s s') : Dk s' d l c := D.fr f (by simp) (by simp)
theorem Dk.mono {s : Sto} {d l c c' : Nat} (D : Dk s d l c) (h : c ≤ c') : Dk s d l c' := by
  obtain ⟨k, cells, a, b, D⟩ := D
  exact ⟨k, cells, Nat.le_trans a h, b, D⟩
theorem Dk.lt {s : Sto} {d l c : Nat} (D : Dk s d l c) : d < s.length ∧ l < s.length := by
  obtain ⟨k, cells, a, b, D⟩ := D
  exact ⟨lt_of_get D.top, lt_of_get D.cel⟩
abbrev CM : Nat := 1000000000000000
section
variable {s : Sto} {d l c : Nat} {Q : Vl → Sto → Prop} {E : Ex → Sto → Prop}
theorem draw {many : Int} (D : Dk s d l c) (hm : 0 < many) (hm2 : many < 1073741824) (hc : c < CM) (k : ∀ (r : Nat) s', (r : Int) < many → Dk s' d l (c + 1) → Fr [d, l] s s' → Q (.int r) s') : WE (m__law_draw [.ref d, .int many]) s Q E := by
  obtain ⟨n, cells, hn, hl, D⟩ := D
  have h1 := D.top
  have h2 := D.cel
  have hne := D.ne
  have k' : ∀ (r : Int) s' cells', 0 ≤ r → r < many → Deck s' d l (n + 1) cells' → cells'.length ≤ 63 → Fr [d, l] s s' → Q (.int r) s' := fun r s' cells' h0 hr D' hl' f => by
    have e : r = ((r.toNat : Nat) : Int) := (Int.toNat_of_nonneg h0).symm
    rw [e]
    exact k r.toNat s' (by omega) ⟨n + 1, cells', by omega, hl', D'⟩ f
  unfold m__law_draw b__law_draw
  simp [h1, h2, ixN, atI, List.replicate, get_set_self h1, get_set_ne hne.symm]
  generalize hs1 : s.set d (Ob.lst [Vl.ref l, Vl.int (↑n + 1)]) = s1
  have e1 : s1[d]? = some (.lst [.ref l, .int (n + 1)]) := by rw [← hs1]; exact get_set_self h1
  have e2 : s1[l]? = some (.lst (cells.map Vl.int)) := by rw [← hs1, get_set_ne hne.symm]; exact h2
  have f1 : Fr [d, l] s s1 := hs1 ▸ Fr.refl.set (Or.inl (List.mem_cons_self ..))
  have tail : ∀ (x : Int), 0 ≤ x → x < 1000000000000000000 → ∀ q : Int, q = (x % 2147483563 + 8117 * ((n : Int) + 1) + 3) ^ 5 % 2147483629 % many → Q (.int q) s1 := fun x hx hb q hq => by
    refine k' q s1 cells ?_ ?_ ⟨e1, e2, D.nn, hne⟩ hl f1
    · rw [hq]; exact Int.emod_nonneg _ (by omega)
    · rw [hq]; exact Int.emod_lt_of_pos _ hm
  have nab : ∀ x : Int, (x % 2147483563 + 8117 * ((n : Int) + 1) + 3).natAbs < 2 ^ 64 := fun x => by
    have a1 := Int.emod_nonneg x (show (2147483563 : Int) ≠ 0 by omega)
    have a2 := Int.emod_lt_of_pos x (show (0 : Int) < 2147483563 by omega)
    generalize x % 2147483563 = q at a1 a2
    have hn' : n < 1000000000000000 := Nat.lt_of_le_of_lt hn hc
    omega
  cases cells with
  | nil =>
    have := nab 0
    simp at this
    simp [e1, e2, hm, this]
    exact tail 0 (by omega) (by omega) _ (by simp)
  | cons y ys =>
    have hpos : 0 < (((y :: ys).length : Nat) : Int) := by simp <;> omega
    have hpos' : (0 : Int) < (ys.length : Int) + 1 := by omega
    generalize hcs : (y :: ys) = cs at *
    have hcl : ((ys.length : Nat) : Int) + 1 = ((cs.length : Nat) : Int) := by rw [← hcs]; simp
    have hp0 := Int.emod_nonneg ((n : Int) + 1) (Int.ne_of_gt hpos)
    have hp1 := Int.emod_lt_of_pos ((n : Int) + 1) hpos
    obtain ⟨p, hp⟩ : ∃ p : Nat, ((n : Int) + 1) % (cs.length : Int) = p := ⟨_, (Int.toNat_of_nonneg hp0).symm⟩
    have hpl : p < cs.length := by omega
    obtain ⟨x, hx⟩ : ∃ x, cs[p]? = some x := ⟨_, List.getElem?_eq_getElem hpl⟩
    have hx0 : 0 ≤ x := D.nn x (List.mem_of_getElem? hx)
    have hxm : (cs.map Vl.int)[p]? = some (.int x) := by rw [List.getElem?_map, hx]; rfl
    have hlt : 0 < cs.length := by omega
    simp [hlt, e1, e2]
    rw [hp, atN, hxm]
    simp [e1, e2]
    by_cases hbig : 1000000000000000000 ≤ x
    · have i2 : ixN cs.length (p : Int) = some p := ixN_nat hpl
      have i3 : ixN (cs.map Vl.int).length (p : Int) = some p := by rw [List.length_map]; exact i2
      simp [hbig, e1, e2, hm, hm2, i2]
      refine k' (x % many) _ (cs.set p (x / many)) (Int.emod_nonneg x (by omega)) (Int.emod_lt_of_pos x hm) ⟨?_, ?_, ?_, hne⟩ (by simpa using hl) (f1.set (by simp))
      · rw [get_set_ne hne]; exact e1
      · rw [get_set_self e2, List.map_set]
      · intro z hz
        rcases List.mem_or_eq_of_mem_set hz with h | h
        · exact D.nn z h
        · rw [h]; exact Int.ediv_nonneg hx0 (by omega)
    · have := nab x
      simp [hbig, e1, e2, hm, this]
      exact tail x hx0 (by omega) _ rfl
theorem one {a : Nat} {xs : List Vl} (D : Dk s d l c) (ha : s[a]? = some (.lst xs)) (hd : a ∉ [d, l]) (h0 : 0 < xs.length) (h1 : xs.length < 1000000) (hc : c < CM) (k : ∀ v s', v ∈ xs → Dk s' d l (c + 1) → Fr [d, l] s s' → Q v s') : WE (m__law_one [.ref d, .ref a]) s Q E := by
  unfold m__law_one b__law_one
  simp [ha]
  refine draw D (by omega) (by omega) hc fun r s' h2 h3 h4 => ?_
  have h5 := h4.at ha hd
  have h6 : r < xs.length := by omega
  simp [opIx_lst h5, atN, h6]
  exact k _ _ (List.getElem_mem h6) h3 h4
theorem oneNew {xs : List Vl} (D : Dk s d l c) (h0 : 0 < xs.length) (h1 : xs.length < 1000000) (hc : c < CM) (k : ∀ v s', v ∈ xs → Dk s' d l (c + 1) → Fr [d, l] s s' → Q v s') : WE (m__law_one [.ref d, .ref s.length]) (s ++ [.lst xs]) Q E := by
  have hlt := D.lt
  exact one (D.new (Fr.refl.push _)) get_last (by simp; omega) h0 h1 hc fun v s' a b f => k v s' a b ((Fr.refl.push _).trans f)
theorem oneS {x : Str} (D : Dk s d l c) (h0 : 0 < x.length) (h1 : x.length < 1000000) (hc : c < CM) (k : ∀ ch s', ch ∈ x.cps.toList → Dk s' d l (c + 1) → Fr [d, l] s s' → Q (.str ⟨#[ch]⟩) s') : WE (m__law_one [.ref d, .str x]) s Q E := by
  unfold m__law_one b__law_one
  have hL : x.length ≤ LIM := limB (by omega)
  simp [hL]
  refine draw D (by omega) (by omega) hc fun r s' h2 h3 h4 => ?_
  have h6 : r < x.cps.toList.length := by rw [← str_len]; omega
  have h7 : x.cps.toList[r]? = some x.cps.toList[r] := List.getElem?_eq_getElem h6
  rw [opIx_str hL, atN, h7]
  simp only [Option.map, WO_some]
  exact k _ _ (List.getElem_mem h6) h3 h4
theorem deck {ns : List Int} (h : ns.length ≤ 63) (k : ∀ d l s', Dk s' d l 0 → Fr [] s s' → Q (.ref d) s') : WE (m__law_deck [.scr ns]) s Q E := by
  unfold m__law_deck b__law_deck
  have e63 : cutL ns none (some 63) = ns.take 63 := cutL_nat (n := 63)
  simp
  rw [e63]
  refine lcL_p (xs := (ns.take 63).map Vl.int) (s ++ [.lst ((ns.take 63).map Vl.int)]) (fun v => match v with | .int i => some (.int (if i < 0 then -i else i)) | _ => none) (by simp) (by simp) get_last (by simp; omega) ?_ ?_
  · intro x hx acc
    obtain ⟨i, _, rfl⟩ := List.mem_map.mp hx
    refine ⟨_, rfl, ?_⟩
    simp [tTrue, wipeL]
  · have e : ((ns.take 63).map Vl.int).filterMap (fun v => match v with | .int i => some (.int (if i < 0 then -i else i)) | _ => none) = ((ns.take 63).map fun i : Int => if i < 0 then -i else i).map Vl.int := by
      rw [List.filterMap_map, List.map_map, ← List.filterMap_eq_map]
      rfl
    rw [e]
    have hcl : ((ns.take 63).map fun i : Int => if i < 0 then -i else i).length ≤ 63 := by simp; omega
    have hcn : ∀ x ∈ ((ns.take 63).map fun i : Int => if i < 0 then -i else i), 0 ≤ x := by
      intro x hx
      obtain ⟨a, _, rfl⟩ := List.mem_map.mp hx
      split <;> omega
    generalize ((ns.take 63).map fun i : Int => if i < 0 then -i else i) = cs at hcl hcn
    generalize (ns.take 63).map Vl.int = o1
    simp
    refine k _ (s.length + 1) _ ⟨0, cs, Nat.le_refl _, hcl, ⟨?_, ?_, hcn, ?_⟩⟩ (Fr.refl.app _)
    · rw [List.getElem?_append_right (by omega)]
      simp
    · rw [List.getElem?_append_right (by omega)]
      simp
    · omega
end
end K06

/-! S30: programs of cells: tests, statements, blocks -/
namespace Sm
open PySem L2
/-- a short text of plain signs -/
structure Nice (x : Str) : Prop where
  len : x.length ≤ 20
  sgn : ∀ c ∈ x.cps.toList, c < 128
theorem Nice.pn {x : Str} (h : Nice x) : Pn 1 64 (.str x) := Pn.str (by
  rw [List.all_eq_true]
  intro c hc
  have := h.sgn c hc
  exact decide_eq_true (by omega)) (by have := h.len; omega)
theorem Nice.strOk {x : Str} (h : Nice x) : PyData.strOk x = true := by
  unfold PyData.strOk
  rw [← Array.all_toList, List.all_eq_true]
  intro c hc
  have := h.sgn c hc
  exact decide_eq_true (by omega)
inductive Tst where
  | given (i : Nat) | set (x : Str) | same (x y : Str) | full (x f : Str) | wished (w : Str) | not (t : Tst)
def Tst.vl : Tst → Vl
  | .given i => .tup [.str "given", .int (i : Nat)]
  | .set x => .tup [.str "set", .str x]
  | .same x y => .tup [.str "same", .str x, .str y]
  | .full x f => .tup [.str "full", .str x, .str f]
  | .wished w => .tup [.str "wished", .str w]
  | .not t => .tup [.str "not", t.vl]
/-- a right test, at most n "not" in one another, g givens -/
def Tst.ok (g : Nat) : Nat → Tst → Prop
  | _, .given i => i < g
  | _, .set x => Nice x
  | _, .same x y => Nice x ∧ Nice y
  | _, .full x f => Nice x ∧ Nice f
  | _, .wished w => Nice w
  | n + 1, .not t => Tst.ok g n t
  | 0, .not _ => False
theorem Tst.ok.mono {g : Nat} : ∀ {n m : Nat} {t : Tst}, t.ok g n → n ≤ m → t.ok g m
  | n, m, .given i, h, _ => by cases n <;> cases m <;> exact h
  | n, m, .set x, h, _ => by cases n <;> cases m <;> exact h
  | n, m, .same x y, h, _ => by cases n <;> cases m <;> exact h
  | n, m, .full x y, h, _ => by cases n <;> cases m <;> exact h
  | n, m, .wished x, h, _ => by cases n <;> cases m <;> exact h
  | n + 1, 0, .not t, h, e => by omega
  | n + 1, m + 1, .not t, h, e => Tst.ok.mono (t := t) (n := n) (m := m) h (by omega)
  | 0, _, .not t, h, _ => h.elim
inductive Stm where
  | make (x : Str) | wish (x w : Str) | keep (x : Str) | name (x y : Str) | drop (x : Str)
  | hold (x f y : Str) | weak (x f y : Str) | cut (x f : Str) | take (z x f : Str) | say (w : Str) | ask (t : Tst)
  | ife (t : Tst) (yes no : List Stm) | rep (k : Nat) (b : List Stm)
mutual
def Stm.vl : Stm → Vl
  | .make x => .tup [.str "make", .str x]
  | .wish x w => .tup [.str "wish", .str x, .str w]
  | .keep x => .tup [.str "keep", .str x]
  | .name x y => .tup [.str "name", .str x, .str y]
  | .drop x => .tup [.str "drop", .str x]
  | .hold x f y => .tup [.str "hold", .str x, .str f, .str y]
  | .weak x f y => .tup [.str "weak", .str x, .str f, .str y]
  | .cut x f => .tup [.str "cut", .str x, .str f]
  | .take z x f => .tup [.str "take", .str z, .str x, .str f]
  | .say w => .tup [.str "say", .str w]
  | .ask t => .tup [.str "ask", t.vl]
  | .ife t a b => .tup [.str "if", t.vl, .tup (Stm.vls a), .tup (Stm.vls b)]
  | .rep k b => .tup [.str "repeat", .int (k : Nat), .tup (Stm.vls b)]
def Stm.vls : List Stm → List Vl
  | [] => []
  | x :: xs => x.vl :: Stm.vls xs
end
mutual
/-- how many statements -/
def Stm.cnt : Stm → Nat
  | .ife _ a b => 1 + Stm.cnts a + Stm.cnts b
  | .rep _ b => 1 + Stm.cnts b
  | _ => 1
def Stm.cnts : List Stm → Nat
  | [] => 0
  | x :: xs => x.cnt + Stm.cnts xs
end
mutual
def Stm.wgt : Stm → Nat
  | .ife _ a b => 1 + Stm.wgts a + Stm.wgts b
  | .rep k b => 1 + k * Stm.wgts b
  | _ => 1
def Stm.wgts : List Stm → Nat
  | [] => 0
  | x :: xs => x.wgt + Stm.wgts xs
end
mutual
/-- a right statement: g givens, at most n blocks in one another -/
def Stm.ok (g : Nat) : Nat → Stm → Prop
  | _, .make x => Nice x
  | _, .wish x w => Nice x ∧ Nice w
  | _, .keep x => Nice x
  | _, .name x y => Nice x ∧ Nice y
  | _, .drop x => Nice x
  | _, .hold x f y => Nice x ∧ Nice f ∧ Nice y
  | _, .weak x f y => Nice x ∧ Nice f ∧ Nice y
  | _, .cut x f => Nice x ∧ Nice f
  | _, .take z x f => Nice z ∧ Nice x ∧ Nice f
  | _, .say w => Nice w
  | _, .ask t => t.ok g 3
  | n, .ife t a b => 0 < n ∧ t.ok g 3 ∧ Stm.oks g (n - 1) a ∧ Stm.oks g (n - 1) b
  | n, .rep k b => 0 < n ∧ k ≤ 12 ∧ Stm.oks g (n - 1) b
def Stm.oks (g : Nat) : Nat → List Stm → Prop
  | _, [] => True
  | n, x :: xs => x.ok g n ∧ Stm.oks g n xs
end
mutual
/-- the statements in the order of their places, with their depth -/
def Stm.flat (d : Nat) : Stm → List (Nat × Stm)
  | .ife t a b => (d, .ife t a b) :: (Stm.flats (d + 1) a ++ Stm.flats (d + 1) b)
  | .rep k b => (d, .rep k b) :: Stm.flats (d + 1) b
  | x => [(d, x)]
def Stm.flats (d : Nat) : List Stm → List (Nat × Stm)
  | [] => []
  | x :: xs => x.flat d ++ Stm.flats d xs
end
theorem Stm.vls_map : ∀ xs : List Stm, Stm.vls xs = xs.map Stm.vl
  | [] => rfl
  | x :: xs => by rw [Stm.vls, Stm.vls_map xs]; rfl
theorem Stm.cnts_app : ∀ xs ys : List Stm, Stm.cnts (xs ++ ys) = Stm.cnts xs + Stm.cnts ys
  | [], ys => by simp [Stm.cnts]
  | x :: xs, ys => by simp only [List.cons_append, Stm.cnts, Stm.cnts_app xs ys]; omega
theorem Stm.wgts_app : ∀ xs ys : List Stm, Stm.wgts (xs ++ ys) = Stm.wgts xs + Stm.wgts ys
  | [], ys => by simp [Stm.wgts]
  | x :: xs, ys => by simp only [List.cons_append, Stm.wgts, Stm.wgts_app xs ys]; omega
theorem Stm.oks_app {g n : Nat} : ∀ {xs ys : List Stm}, Stm.oks g n (xs ++ ys) ↔ Stm.oks g n xs ∧ Stm.oks g n ys
  | [], ys => by simp [Stm.oks]
  | x :: xs, ys => by simp only [List.cons_append, Stm.oks, Stm.oks_app (xs := xs) (ys := ys), and_assoc]
theorem Stm.oks_mem {g n : Nat} : ∀ {xs : List Stm}, Stm.oks g n xs → ∀ x ∈ xs, x.ok g n
  | [], _, x, h => by simp at h
  | y :: xs, h, x, hx => by
    rcases List.mem_cons.mp hx with rfl | hx
    · exact h.1
    · exact Stm.oks_mem h.2 x hx
theorem Stm.flats_app {d : Nat} : ∀ xs ys : List Stm, Stm.flats d (xs ++ ys) = Stm.flats d xs ++ Stm.flats d ys
  | [], ys => by simp [Stm.flats]
  | x :: xs, ys => by simp only [List.cons_append, Stm.flats, Stm.flats_app xs ys, List.append_assoc]
mutual
theorem Stm.ok.mono {g : Nat} : ∀ {n m : Nat} {x : Stm}, x.ok g n → n ≤ m → x.ok g m
  | n, m, .make x, h, _ => by unfold Stm.ok at h ⊢; exact h
  | n, m, .wish x w, h, _ => by unfold Stm.ok at h ⊢; exact h
  | n, m, .keep x, h, _ => by unfold Stm.ok at h ⊢; exact h
  | n, m, .name x y, h, _ => by unfold Stm.ok at h ⊢; exact h
  | n, m, .drop x, h, _ => by unfold Stm.ok at h ⊢; exact h
  | n, m, .hold x f y, h, _ => by unfold Stm.ok at h ⊢; exact h
  | n, m, .weak x f y, h, _ => by unfold Stm.ok at h ⊢; exact h
  | n, m, .cut x f, h, _ => by unfold Stm.ok at h ⊢; exact h
  | n, m, .take z x f, h, _ => by unfold Stm.ok at h ⊢; exact h
  | n, m, .say w, h, _ => by unfold Stm.ok at h ⊢; exact h
  | n, m, .ask t, h, _ => by unfold Stm.ok at h ⊢; exact h
  | n, m, .ife t a b, h, e => by
    unfold Stm.ok at h ⊢
    exact ⟨by omega, h.2.1, Stm.oks.mono h.2.2.1 (by omega), Stm.oks.mono h.2.2.2 (by omega)⟩
  | n, m, .rep k b, h, e => by
    unfold Stm.ok at h ⊢
    exact ⟨by omega, h.2.1, Stm.oks.mono h.2.2 (by omega)⟩
theorem Stm.oks.mono {g : Nat} : ∀ {n m : Nat} {xs : List Stm}, Stm.oks g n xs → n ≤ m → Stm.oks g m xs
  | _, _, [], _, _ => trivial
  | _, _, x :: xs, h, e => ⟨Stm.ok.mono h.1 e, Stm.oks.mono h.2 e⟩
end
/-! ### they are plain values -/
theorem Pn.tup2 {n u v : Nat} {a b : Vl} (ha : Pn n u a) (hb : Pn n v b) : Pn (n + 1) (u + v + 2) (.tup [a, b]) :=
  (Pn.tupS (ws := [u, v]) rfl fun i x w h1 h2 => by
    match i with
    | 0 => simp at h1 h2; subst h1 h2; exact ha
    | 1 => simp at h1 h2; subst h1 h2; exact hb
    | i + 2 => simp at h1).mono (Nat.le_refl _) (by simp; omega)
theorem Pn.tup3 {n u v w : Nat} {a b c : Vl} (ha : Pn n u a) (hb : Pn n v b) (hc : Pn n w c) : Pn (n + 1) (u + v + w + 3) (.tup [a, b, c]) :=
  (Pn.tupS (ws := [u, v, w]) rfl fun i x w h1 h2 => by
    match i with
    | 0 => simp at h1 h2; subst h1 h2; exact ha
    | 1 => simp at h1 h2; subst h1 h2; exact hb
    | 2 => simp at h1 h2; subst h1 h2; exact hc
    | i + 3 => simp at h1).mono (Nat.le_refl _) (by simp; omega)
theorem Pn.tup4 {n u v w z : Nat} {a b c d : Vl} (ha : Pn n u a) (hb : Pn n v b) (hc : Pn n w c) (hd : Pn n z d) : Pn (n + 1) (u + v + w + z + 4) (.tup [a, b, c, d]) :=
  (Pn.tupS (ws := [u, v, w, z]) rfl fun i x w h1 h2 => by
    match i with
    | 0 => simp at h1 h2; subst h1 h2; exact ha
    | 1 => simp at h1 h2; subst h1 h2; exact hb
    | 2 => simp at h1 h2; subst h1 h2; exact hc
    | 3 => simp at h1 h2; subst h1 h2; exact hd
    | i + 4 => simp at h1).mono (Nat.le_refl _) (by simp; omega)
theorem Pn.lit {x : Str} (h : (x.cps.toList.all fun c => decide (c < 16 ^ 8)) = true := by decide) (hl : x.length ≤ 64 := by decide) : Pn 1 64 (.str x) := Pn.str h hl
theorem Tst.pn {g : Nat} (hg : g ≤ 100) : ∀ {n : Nat} {t : Tst}, t.ok g n → Pn (2 + n) (195 + 66 * n) t.vl
  | n, .given i, h => by
    have h : i < g := by cases n <;> exact h
    exact (Pn.tup2 Pn.lit (Pn.int (by omega))).mono (by omega) (by omega)
  | n, .set x, h => by
    have h : Nice x := by cases n <;> exact h
    exact (Pn.tup2 Pn.lit h.pn).mono (by omega) (by omega)
  | n, .same x y, h => by
    have h : Nice x ∧ Nice y := by cases n <;> exact h
    exact (Pn.tup3 Pn.lit h.1.pn h.2.pn).mono (by omega) (by omega)
  | n, .full x y, h => by
    have h : Nice x ∧ Nice y := by cases n <;> exact h
    exact (Pn.tup3 Pn.lit h.1.pn h.2.pn).mono (by omega) (by omega)
  | n, .wished x, h => by
    have h : Nice x := by cases n <;> exact h
    exact (Pn.tup2 Pn.lit h.pn).mono (by omega) (by omega)
  | n + 1, .not t, h => by
    have ih := Tst.pn hg (n := n) (t := t) h
    exact (Pn.tup2 (Pn.mono Pn.lit (by omega) (Nat.le_refl _)) ih).mono (by omega) (by omega)
  | 0, .not t, h => h.elim
theorem Pn.listS {n : Nat} : ∀ {xs : List Vl} {w : Nat}, (∃ ws : List Nat, ws.length = xs.length ∧ (∀ (i : Nat) (x : Vl) (v : Nat), xs[i]? = some x → ws[i]? = some v → Pn n v x) ∧ (ws.map (· + 1)).sum ≤ w) → Pn (n + 1) w (.tup xs) := by
  rintro xs w ⟨ws, h1, h2, h3⟩
  exact (Pn.tupS h1 h2).mono (Nat.le_refl _) h3
mutual
theorem Stm.pn {g : Nat} (hg : g ≤ 100) : ∀ {n : Nat} {x : Stm}, x.ok g n → Pn (6 + 2 * n) (2000 * x.cnt - 1000) x.vl
  | n, .make x, h => by unfold Stm.ok at h; unfold Stm.vl Stm.cnt; exact (Pn.tup2 Pn.lit h.pn).mono (by omega) (by omega)
  | n, .wish x w, h => by unfold Stm.ok at h; unfold Stm.vl Stm.cnt; exact (Pn.tup3 Pn.lit h.1.pn h.2.pn).mono (by omega) (by omega)
  | n, .keep x, h => by unfold Stm.ok at h; unfold Stm.vl Stm.cnt; exact (Pn.tup2 Pn.lit h.pn).mono (by omega) (by omega)
  | n, .name x y, h => by unfold Stm.ok at h; unfold Stm.vl Stm.cnt; exact (Pn.tup3 Pn.lit h.1.pn h.2.pn).mono (by omega) (by omega)
  | n, .drop x, h => by unfold Stm.ok at h; unfold Stm.vl Stm.cnt; exact (Pn.tup2 Pn.lit h.pn).mono (by omega) (by omega)
  | n, .hold x f y, h => by unfold Stm.ok at h; unfold Stm.vl Stm.cnt; exact (Pn.tup4 Pn.lit h.1.pn h.2.1.pn h.2.2.pn).mono (by omega) (by omega)
  | n, .weak x f y, h => by unfold Stm.ok at h; unfold Stm.vl Stm.cnt; exact (Pn.tup4 Pn.lit h.1.pn h.2.1.pn h.2.2.pn).mono (by omega) (by omega)
  | n, .cut x f, h => by unfold Stm.ok at h; unfold Stm.vl Stm.cnt; exact (Pn.tup3 Pn.lit h.1.pn h.2.pn).mono (by omega) (by omega)
  | n, .take z x f, h => by unfold Stm.ok at h; unfold Stm.vl Stm.cnt; exact (Pn.tup4 Pn.lit h.1.pn h.2.1.pn h.2.2.pn).mono (by omega) (by omega)
  | n, .say w, h => by unfold Stm.ok at h; unfold Stm.vl Stm.cnt; exact (Pn.tup2 Pn.lit h.pn).mono (by omega) (by omega)
  | n, .ask t, h => by
    unfold Stm.ok at h; unfold Stm.vl Stm.cnt
    exact (Pn.tup2 (Pn.mono Pn.lit (show 1 ≤ 5 by omega) (Nat.le_refl _)) (Tst.pn hg h)).mono (by omega) (by omega)
  | n, .ife t a b, h => by
    unfold Stm.ok at h; unfold Stm.vl Stm.cnt
    have h1 := Stm.pns hg h.2.2.1
    have h2 := Stm.pns hg h.2.2.2
    have h3 := Tst.pn hg h.2.1
    have e : 6 + 2 * (n - 1) + 1 = 5 + 2 * n := by omega
    rw [e] at h1 h2
    exact (Pn.tup4 (Pn.mono Pn.lit (show 1 ≤ 5 + 2 * n by omega) (Nat.le_refl _)) (h3.mono (by omega) (Nat.le_refl _)) h1 h2).mono (by omega) (by omega)
  | n, .rep k b, h => by
    unfold Stm.ok at h; unfold Stm.vl Stm.cnt
    have h1 := Stm.pns hg h.2.2
    have e : 6 + 2 * (n - 1) + 1 = 5 + 2 * n := by omega
    rw [e] at h1
    exact (Pn.tup3 (Pn.mono Pn.lit (show 1 ≤ 5 + 2 * n by omega) (Nat.le_refl _)) ((Pn.int (by have := h.2.1; omega)).mono (show 1 ≤ 5 + 2 * n by omega) (Nat.le_refl _)) h1).mono (by omega) (by omega)
theorem Stm.pns {g : Nat} (hg : g ≤ 100) : ∀ {n : Nat} {xs : List Stm}, Stm.oks g n xs → Pn (6 + 2 * n + 1) (2000 * Stm.cnts xs) (.tup (Stm.vls xs))
  | n, xs, h => Pn.listS (Stm.pnw hg h)
theorem Stm.pnw {g : Nat} (hg : g ≤ 100) : ∀ {n : Nat} {xs : List Stm}, Stm.oks g n xs → ∃ ws : List Nat, ws.length = (Stm.vls xs).length ∧ (∀ (i : Nat) (x : Vl) (v : Nat), (Stm.vls xs)[i]? = some x → ws[i]? = some v → Pn (6 + 2 * n) v x) ∧ (ws.map (· + 1)).sum ≤ 2000 * Stm.cnts xs
  | n, [], _ => ⟨[], rfl, fun i x v h => by simp [Stm.vls] at h, by simp⟩
  | n, x :: xs, h => by
    have h1 := Stm.pn hg h.1
    obtain ⟨ws, a, b, c⟩ := Stm.pnw hg h.2
    have hc : 1 ≤ x.cnt := by cases x <;> unfold Stm.cnt <;> omega
    refine ⟨(2000 * x.cnt - 1000) :: ws, by simp [Stm.vls, a], fun i y v e1 e2 => ?_, ?_⟩
    · cases i with
      | zero => simp [Stm.vls] at e1 e2; subst e1 e2; exact h1
      | succ i => simp [Stm.vls] at e1 e2; exact b i y v e1 e2
    · simp only [List.map_cons, List.sum_cons, Stm.cnts]
      omega
end
end Sm

/-! S32: slices of lists -/
namespace Sm
open PySem L2
theorem cutL_from {α : Type} {xs : List α} {n : Nat} : cutL xs (some (n : Int)) none = xs.drop n := by
  unfold cutL
  rw [HT.sIx_none, HT.sIx_nat]
  by_cases h : n ≤ xs.length
  · rw [Nat.min_eq_left h, List.take_of_length_le (by simp)]
  · rw [Nat.min_eq_right (by omega), Nat.sub_self, List.take_zero, List.drop_eq_nil_of_le (by omega)]
theorem cutL_mid {α : Type} {xs : List α} {n m : Nat} (h1 : n ≤ m) (h2 : m ≤ xs.length) : cutL xs (some (n : Int)) (some (m : Int)) = (xs.drop n).take (m - n) := by
  unfold cutL
  rw [HT.sIx_nat, HT.sIx_nat, Nat.min_eq_left h2, Nat.min_eq_left (by omega)]
theorem cutL_to {α : Type} {xs : List α} {n : Nat} : cutL xs none (some (n : Int)) = xs.take n := cutL_nat
end Sm

/-! S33: programs of cells: words, inner blocks, rows -/
namespace Sm
open PySem L2
def Stm.word : Stm → Str
  | .make _ => "make"
  | .wish _ _ => "wish"
  | .keep _ => "keep"
  | .name _ _ => "name"
  | .drop _ => "drop"
  | .hold _ _ _ => "hold"
  | .weak _ _ _ => "weak"
  | .cut _ _ => "cut"
  | .take _ _ _ => "take"
  | .say _ => "say"
  | .ask _ => "ask"
  | .ife _ _ _ => "if"
  | .rep _ _ => "repeat"
def blk (b : List Stm) : Vl := .tup (Stm.vls b)
def Stm.args : Stm → List Vl
  | .make x => [.str x]
  | .wish x w => [.str x, .str w]
  | .keep x => [.str x]
  | .name x y => [.str x, .str y]
  | .drop x => [.str x]
  | .hold x f y => [.str x, .str f, .str y]
  | .weak x f y => [.str x, .str f, .str y]
  | .cut x f => [.str x, .str f]
  | .take z x f => [.str z, .str x, .str f]
  | .say w => [.str w]
  | .ask t => [t.vl]
  | .ife t a b => [t.vl, blk a, blk b]
  | .rep k b => [.int (k : Nat), blk b]
/-- the blocks within a statement -/
def Stm.ins : Stm → List (List Stm)
  | .ife _ a b => [a, b]
  | .rep _ b => [b]
  | _ => []
theorem Stm.vl_eq (x : Stm) : x.vl = .tup (.str x.word :: x.args) := by
  cases x <;> simp [Stm.vl, Stm.word, Stm.args, blk]
theorem Stm.flat_eq (d : Nat) (x : Stm) : x.flat d = (d, x) :: x.ins.flatMap (Stm.flats (d + 1)) := by
  cases x <;> simp [Stm.flat, Stm.ins]
theorem Stm.ins_len (x : Stm) : x.ins.length ≤ 2 := by
  cases x <;> simp [Stm.ins]
theorem Stm.ok_ins {g n : Nat} {x : Stm} (h : x.ok g n) : ∀ b ∈ x.ins, 0 < n ∧ Stm.oks g (n - 1) b := by
  intro b hb
  cases x <;> simp [Stm.ins] at hb
  · unfold Stm.ok at h
    rcases hb with rfl | rfl
    · exact ⟨h.1, h.2.2.1⟩
    · exact ⟨h.1, h.2.2.2⟩
  · unfold Stm.ok at h
    subst hb
    exact ⟨h.1, h.2.2⟩
theorem Stm.cnt_ins (x : Stm) : x.cnt = 1 + (x.ins.map Stm.cnts).sum := by
  cases x <;> simp [Stm.ins, Stm.cnt] <;> omega
theorem Stm.cnt_in {x : Stm} : ∀ b ∈ x.ins, Stm.cnts b < x.cnt := by
  intro b hb
  cases x <;> simp [Stm.ins] at hb
  · rcases hb with rfl | rfl <;> simp [Stm.cnt] <;> omega
  · subst hb
    simp [Stm.cnt]
theorem Stm.cnts_mem {b : List Stm} : ∀ x ∈ b, x.cnt ≤ Stm.cnts b := by
  induction b with
  | nil => intro x hx; simp at hx
  | cons y b ih =>
    intro x hx
    simp only [Stm.cnts]
    rcases List.mem_cons.mp hx with rfl | hx
    · omega
    · have := ih x hx; omega
theorem Stm.cnts_take {b : List Stm} {i : Nat} : Stm.cnts (b.take i) ≤ Stm.cnts b := by
  have := Stm.cnts_app (b.take i) (b.drop i)
  rw [List.take_append_drop] at this
  omega
mutual
theorem Stm.flat_len : ∀ (d : Nat) (x : Stm), (x.flat d).length = x.cnt
  | d, .make x => rfl
  | d, .wish x w => rfl
  | d, .keep x => rfl
  | d, .name x y => rfl
  | d, .drop x => rfl
  | d, .hold x f y => rfl
  | d, .weak x f y => rfl
  | d, .cut x f => rfl
  | d, .take z x f => rfl
  | d, .say w => rfl
  | d, .ask t => rfl
  | d, .ife t a b => by
    have h1 := Stm.flats_len (d + 1) a
    have h2 := Stm.flats_len (d + 1) b
    simp only [Stm.flat, Stm.cnt, List.length_cons, List.length_append, h1, h2]
    omega
  | d, .rep k b => by
    have h1 := Stm.flats_len (d + 1) b
    simp only [Stm.flat, Stm.cnt, List.length_cons, h1]
    omega
theorem Stm.flats_len : ∀ (d : Nat) (b : List Stm), (Stm.flats d b).length = Stm.cnts b
  | d, [] => rfl
  | d, x :: b => by
    have h1 := Stm.flat_len d x
    have h2 := Stm.flats_len d b
    simp only [Stm.flats, Stm.cnts, List.length_append, h1, h2]
end
mutual
theorem Stm.flat_ok {g : Nat} : ∀ {n : Nat} (d : Nat) {x : Stm}, x.ok g n → ∀ q ∈ x.flat d, q.2.ok g n ∧ q.2.cnt ≤ x.cnt
  | n, d, .make x, h, q, hq => by simp only [Stm.flat, List.mem_singleton] at hq; subst hq; exact ⟨h, Nat.le_refl _⟩
  | n, d, .wish x w, h, q, hq => by simp only [Stm.flat, List.mem_singleton] at hq; subst hq; exact ⟨h, Nat.le_refl _⟩
  | n, d, .keep x, h, q, hq => by simp only [Stm.flat, List.mem_singleton] at hq; subst hq; exact ⟨h, Nat.le_refl _⟩
  | n, d, .name x w, h, q, hq => by simp only [Stm.flat, List.mem_singleton] at hq; subst hq; exact ⟨h, Nat.le_refl _⟩
  | n, d, .drop x, h, q, hq => by simp only [Stm.flat, List.mem_singleton] at hq; subst hq; exact ⟨h, Nat.le_refl _⟩
  | n, d, .hold x f y, h, q, hq => by simp only [Stm.flat, List.mem_singleton] at hq; subst hq; exact ⟨h, Nat.le_refl _⟩
  | n, d, .weak x f y, h, q, hq => by simp only [Stm.flat, List.mem_singleton] at hq; subst hq; exact ⟨h, Nat.le_refl _⟩
  | n, d, .cut x f, h, q, hq => by simp only [Stm.flat, List.mem_singleton] at hq; subst hq; exact ⟨h, Nat.le_refl _⟩
  | n, d, .take z x f, h, q, hq => by simp only [Stm.flat, List.mem_singleton] at hq; subst hq; exact ⟨h, Nat.le_refl _⟩
  | n, d, .say w, h, q, hq => by simp only [Stm.flat, List.mem_singleton] at hq; subst hq; exact ⟨h, Nat.le_refl _⟩
  | n, d, .ask t, h, q, hq => by simp only [Stm.flat, List.mem_singleton] at hq; subst hq; exact ⟨h, Nat.le_refl _⟩
  | n, d, .ife t a b, h, q, hq => by
    have h0 := h
    unfold Stm.ok at h0
    simp only [Stm.flat, List.mem_cons, List.mem_append] at hq
    simp only [Stm.cnt]
    rcases hq with rfl | hq | hq
    · exact ⟨h, by simp [Stm.cnt]⟩
    · have := Stm.flats_ok (d + 1) h0.2.2.1 q hq
      exact ⟨this.1.mono (by omega), by omega⟩
    · have := Stm.flats_ok (d + 1) h0.2.2.2 q hq
      exact ⟨this.1.mono (by omega), by omega⟩
  | n, d, .rep k b, h, q, hq => by
    have h0 := h
    unfold Stm.ok at h0
    simp only [Stm.flat, List.mem_cons] at hq
    simp only [Stm.cnt]
    rcases hq with rfl | hq
    · exact ⟨h, by simp [Stm.cnt]⟩
    · have := Stm.flats_ok (d + 1) h0.2.2 q hq
      exact ⟨this.1.mono (by omega), by omega⟩
theorem Stm.flats_ok {g : Nat} : ∀ {n : Nat} (d : Nat) {b : List Stm}, Stm.oks g n b → ∀ q ∈ Stm.flats d b, q.2.ok g n ∧ q.2.cnt ≤ Stm.cnts b
  | n, d, [], h, q, hq => by simp [Stm.flats] at hq
  | n, d, x :: b, h, q, hq => by
    simp only [Stm.flats, List.mem_append] at hq
    simp only [Stm.cnts]
    rcases hq with hq | hq
    · have := Stm.flat_ok d h.1 q hq
      exact ⟨this.1, by omega⟩
    · have := Stm.flats_ok d h.2 q hq
      exact ⟨this.1, by omega⟩
end
def rowD (q : Nat × Stm) : Vl := .tup [.int (q.1 : Nat), q.2.vl]
def rowS (q : Nat × Stm) : Vl := q.2.vl
theorem vls_get {b : List Stm} {i : Nat} {v : Vl} (h : (Stm.vls b)[i]? = some v) : ∃ x, b[i]? = some x ∧ v = x.vl := by
  rw [Stm.vls_map] at h
  exact get_map h
theorem vls_len {b : List Stm} : (Stm.vls b).length = b.length := by rw [Stm.vls_map, List.length_map]
end Sm

/-! S35: pure rules of S34 -/
namespace Sm
open PySem L2
section
variable {lo : Lo} {s : Sto} {QV : Vl → Sto → Prop} {E : Ex → Sto → Prop}
def fmtW (x : Vl) (P : Str → Prop) : Prop := match x with
  | .str y => y.length ≤ LIM ∧ P y
  | .int i => i.natAbs.log2 < 1920 ∧ P (Str.ofString (toString i))
  | _ => False
@[simp] theorem fmtW_str {y : Str} {P : Str → Prop} (h : y.length ≤ LIM) : fmtW (.str y) P = P y := by simp [fmtW, h]
@[simp] theorem fmtW_int {i : Int} {P : Str → Prop} (h : i.natAbs.log2 < 1920) : fmtW (.int i) P = P (Str.ofString (toString i)) := by simp [fmtW, h]
@[simp ↓] theorem WE_eFmt {m : EM} : WE (eFmt m lo) s QV E = WE (m lo) s (fun x s => fmtW x fun y => QV (.str y) s) E := by
  unfold eFmt
  rw [WE_bnd]
  refine WE_ext fun x s => ?_
  unfold fmtM
  cases x <;> try (simp only [WE_eq]; rfl)
  · rename_i i
    by_cases h : i.natAbs.log2 < 1920
    · simp only [WE_eq, if_pos h, fmtW, h, true_and]; rfl
    · simp only [WE_eq, if_neg h, fmtW, h, false_and]; rfl
  · rename_i y
    by_cases h : y.length ≤ LIM
    · simp only [WE_eq, if_pos h, fmtW, h, true_and]; rfl
    · simp only [WE_eq, if_neg h, fmtW, h, false_and]; rfl
def strW (x : Vl) (P : Str → Prop) : Prop := match x with
  | .str y => P y
  | _ => False
@[simp] theorem strW_str {y : Str} {P : Str → Prop} : strW (.str y) P = P y := rfl
theorem WE_jnd_nil {acc : Str} : WE (jnd [] acc lo) s QV E = QV (.str acc) s := by simp only [WE_eq]; rfl
theorem WE_jnd_cons {m : EM} {ms : List EM} {acc : Str} : WE (jnd (m :: ms) acc lo) s QV E = WE (m lo) s (fun x s => strW x fun y => (acc ++ y).length ≤ LIM ∧ WE (jnd ms (acc ++ y) lo) s QV E) E := by
  rw [jnd, WE_bnd]
  refine WE_ext fun x s => ?_
  cases x <;> try (simp only [WE_eq]; rfl)
  rename_i y
  by_cases h : (acc ++ y).length ≤ LIM
  · simp only [strW, h, true_and]
    rfl
  · simp only [strW, h, false_and, WE_eq, if_false]
    rfl
theorem WE_eJnd {ms : List EM} : WE (eJnd ms lo) s QV E = WE (jnd ms Str.empty lo) s QV E := rfl
@[simp ↓] theorem WE_eOrL {a b : EM} : WE (eOrL a b lo) s QV E = WE (a lo) s (fun x s => match lstOf x s with | some xs => if xs.isEmpty = true then WE (b lo) s QV E else QV x s | none => False) E := by
  unfold eOrL
  rw [WE_bnd]
  refine WE_ext fun x s => ?_
  simp only [WE_eq]
  unfold WE0
  cases h : lstOf x s with
  | none => simp only [h]
  | some xs =>
    by_cases q : xs.isEmpty = true
    · simp only [h, q, if_true]
    · simp only [h, q, if_false, Bool.false_eq_true]
@[simp] theorem lstOf_ref {j : Nat} {xs : List Vl} (h : s[j]? = some (.lst xs)) : lstOf (.ref j) s = some xs := by simp only [lstOf, h]
@[simp] theorem oSplit0_str {a : Str} (h : a.length + 2 ≤ LIM) : oSplit0 (.str a) [] s = some (.ref s.length, s ++ [.lst ((Txt.words a).map Vl.str)]) := by simp only [oSplit0, if_pos h]
@[simp] theorem oStrD_str {y : Str} : oStrD [.str y] s = some (.str y, s) := rfl
@[simp] theorem oStrD_int {i : Int} (h : i.natAbs.log2 < 1920) : oStrD [.int i] s = some (.str (Str.ofString (toString i)), s) := by simp only [oStrD, if_pos h]
/-- str of a plain tuple -/
theorem Pn.strD {n w : Nat} {xs : List Vl} (h : Pn n w (.tup xs)) (hn : n ≤ 40) (hw : w ≤ 2 ^ 20) : ∃ x, ∀ s, oStrD [.tup xs] s = some (.str x, s) := by
  obtain ⟨x, hx⟩ := h.repr hn hw
  refine ⟨x, fun s => ?_⟩
  have := hx s
  simp only [oRepr] at this
  simp only [oStrD]
  exact this
end
end Sm

/-! N1: names and words of one to eight signs; the pool -/
namespace K06
open PySem L2 Sm
def keptT : Str := "as ask cut drop else full given hold if keep make not pass repeat same say set take weak wish wished"
/-- a small letter; a letter or a digit -/
def Low (c : Nat) : Prop := 97 ≤ c ∧ c ≤ 122
def LD (c : Nat) : Prop := Low c ∨ (48 ≤ c ∧ c ≤ 57)
structure Wd (x : Str) : Prop where
  pos : 0 < x.length
  len : x.length ≤ 8
  sgn : ∀ c ∈ x.cps.toList, LD c
structure Nm (x : Str) : Prop extends Wd x where
  fst : ∀ c, x.cps.toList[0]? = some c → Low c
  no : x ∉ Txt.words keptT
theorem Wd.nice {x : Str} (h : Wd x) : Nice x := ⟨by have := h.len; omega, fun c hc => by
  have := h.sgn c hc
  unfold LD Low at this
  omega⟩
theorem kept_low : (Txt.words keptT).all (fun w => w.cps.toList.all fun c => decide (97 ≤ c)) = true := by decide +kernel
theorem letters_low : (("abcdefghijklmnopqrstuvwxyz" : Str).cps.toList.all fun c => decide (97 ≤ c ∧ c ≤ 122)) = true := by decide +kernel
theorem signs_ld : ((("abcdefghijklmnopqrstuvwxyz" : Str) ++ ("0123456789" : Str)).cps.toList.all fun c => decide ((97 ≤ c ∧ c ≤ 122) ∨ (48 ≤ c ∧ c ≤ 57))) = true := by decide +kernel
theorem signs_ld2 : (("0123456789abcdefghijklmnopqrstuvwxyz" : Str).cps.toList.all fun c => decide ((97 ≤ c ∧ c ≤ 122) ∨ (48 ≤ c ∧ c ≤ 57))) = true := by decide +kernel
section
variable {s : Sto} {d l c : Nat} {Q : Vl → Sto → Prop} {E : Ex → Sto → Prop}
theorem keptS (k : Q (.ref s.length) (s ++ [.lst ((Txt.words keptT).map Vl.str)])) : WE (m__law_kept []) s Q E := by
  unfold m__law_kept b__law_kept
  have h : (("as ask cut drop else full given hold if keep make not pass repeat same say set take weak wish wished" : Str)).length + 2 ≤ LIM := limB (by decide +kernel)
  simp [oSplit0_str h]
  exact k
theorem inF_strs {x : Str} : ∀ {ys : List Str}, inF (.str x) (ys.map Vl.str) = decide (x ∈ ys)
  | [] => by simp
  | y :: ys => by
    rw [List.map_cons, inF_cons, inF_strs]
    by_cases e : y = x
    · subst e; simp [eqF]
    · have e' : ¬ x = y := fun z => e z.symm
      simp [eqF, e, e']
theorem flat_strs {ys : List Str} : (ys.map Vl.str).all flat = true := by
  rw [List.all_eq_true]
  intro v hv
  obtain ⟨x, _, rfl⟩ := List.mem_map.mp hv
  rfl
theorem len_app {x y : Str} : (x ++ y).length = x.length + y.length := by rw [str_len, str_append, List.length_append, ← str_len, ← str_len]
theorem cutTo {x : Str} {n : Nat} : (cutS x none (some (n : Int))).cps.toList = x.cps.toList.take n := by
  have e : HT.sIx x.length x.length (some (n : Int)) = min n x.length := HT.sIx_nat _ _ _
  show ((x.cps.toList.drop (HT.sIx x.length 0 none)).take (HT.sIx x.length x.length (some (n : Int)) - HT.sIx x.length 0 none)).toArray.toList = _
  rw [e, HT.sIx_none, List.drop_zero, Nat.sub_zero, str_len]
  by_cases h : n ≤ x.cps.toList.length
  · rw [Nat.min_eq_left h]
  · rw [Nat.min_eq_right (by omega), List.take_of_length_le (Nat.le_refl _), List.take_of_length_le (by omega)]
theorem app1_toList {x : Str} {ch : Nat} : (x ++ (⟨#[ch]⟩ : Str)).cps.toList = x.cps.toList ++ [ch] := by rw [str_append]
/-- behind i signs of a name -/
def NI (d l c : Nat) (s0 : Sto) (i : Nat) (lo : Lo) (s' : Sto) : Prop := ∃ (x : Str) (x3 : Option Vl), lo = [some (.ref d), some (.str "abcdefghijklmnopqrstuvwxyz"), some (.str x), x3] ∧ x.length = i + 1 ∧ (∀ c ∈ x.cps.toList, LD c) ∧ (∀ c, x.cps.toList[0]? = some c → Low c) ∧ Dk s' d l (c + i) ∧ Fr [d, l] s0 s'
theorem name (D : Dk s d l c) (hc : c + 1000 < CM) (k : ∀ x s', Nm x → Dk s' d l (c + 12) → Fr [d, l] s s' → Q (.str x) s') : WE (m__law_name [.ref d]) s Q E := by
  unfold m__law_name b__law_name
  simp
  refine oneS D (by decide +kernel) (by decide +kernel) (by omega) fun ch s1 hch D1 f1 => ?_
  have hlow : Low ch := by
    have := List.all_eq_true.mp letters_low ch hch
    simpa [Low] using this
  simp
  refine draw D1 (by omega) (by omega) (by omega) fun q s2 hq D2 f2 => ?_
  simp
  refine oneNew D2 (by simp) (by simp) (by omega) fun v s3 hv D3 f3 => ?_
  obtain ⟨m, rfl, hm⟩ : ∃ m : Nat, v = .int m ∧ m ≤ 7 := by
    simp only [List.mem_cons, List.not_mem_nil, or_false] at hv
    rcases hv with rfl | rfl | rfl | rfl
    · exact ⟨0, rfl, by omega⟩
    · exact ⟨1, rfl, by omega⟩
    · exact ⟨7, rfl, by omega⟩
    · exact ⟨q, rfl, by omega⟩
  simp
  rw [rngW_nat (by omega)]
  refine loopX_inv (NI d l (c + 3) s3) ?_ ?_ ?_
  · refine ⟨⟨#[ch]⟩, none, rfl, rfl, fun c hc => ?_, fun c hc => ?_, D3, Fr.refl⟩
    · simp at hc; subst hc; exact .inl hlow
    · simp at hc; subst hc; exact hlow
  · rintro i v lo s4 hv ⟨x, x3, rfl, xl, xs, xf, D4, f4⟩
    obtain ⟨hi, rfl⟩ := rng_get hv
    have h1 : ("abcdefghijklmnopqrstuvwxyz" : Str).length + ("0123456789" : Str).length ≤ LIM := limB (by decide +kernel)
    simp [opAdd_str h1]
    refine oneS D4 (by decide +kernel) (by decide +kernel) (by omega) fun ch2 s5 hch2 D5 f5 => ?_
    have hld : LD ch2 := by
      have := List.all_eq_true.mp signs_ld ch2 hch2
      simpa [LD, Low] using this
    have h2 : x.length + (⟨#[ch2]⟩ : Str).length ≤ LIM := limB (by rw [xl]; show i + 1 + 1 ≤ _; omega)
    simp [opAdd_str h2]
    refine ⟨_, _, rfl, ?_, ?_, ?_, D5, f4.trans f5⟩
    · rw [len_app, xl]; rfl
    · intro c hc
      rw [app1_toList] at hc
      rcases List.mem_append.mp hc with z | z
      · exact xs c z
      · simp at z; subst z; exact hld
    · intro c hc
      rw [app1_toList, List.getElem?_append_left (by rw [← str_len]; omega)] at hc
      exact xf c hc
  · rintro lo s4 ⟨x, x3, rfl, xl, xs, xf, D4, f4⟩
    rw [rng_len] at xl D4
    have F4 : Fr [d, l] s s4 := ((f1.trans f2).trans f3).trans f4
    simp
    refine keptS ?_
    simp [opNotIn_lstS get_last, flat_strs, inF_strs]
    have F5 : Fr [d, l] s (s4 ++ [Ob.lst ((Txt.words keptT).map Vl.str)]) := F4.push _
    have D5 := (D4.new (Fr.refl.push (Ob.lst ((Txt.words keptT).map Vl.str)))).mono (show c + 3 + m ≤ c + 12 by omega)
    have hl0 := str_len (x := x)
    split
    · have hL : x.length ≤ LIM := limB (by omega)
      have y1 : (cutS x none (some 7)).cps.toList = x.cps.toList.take 7 := cutTo (n := 7)
      have y2 : (cutS x none (some 7)).length = min 7 x.length := by rw [str_len, y1, List.length_take, ← hl0]
      have z1 : (cutS x none (some 7) ++ ("0" : Str)).cps.toList = x.cps.toList.take 7 ++ [48] := by rw [str_append, y1]; rfl
      have z0 : ("0" : Str).length = 1 := by decide
      have h2 : (cutS x none (some 7)).length + ("0" : Str).length ≤ LIM := limB (by rw [y2, z0]; omega)
      simp only [opSl, if_pos hL, WO_some, WE_eC, opAdd_str h2]
      refine k _ _ ⟨⟨?_, ?_, ?_⟩, ?_, ?_⟩ D5 F5
      · rw [len_app, y2, z0]; omega
      · rw [len_app, y2, z0]; omega
      · intro c hc
        rw [z1] at hc
        rcases List.mem_append.mp hc with z | z
        · exact xs c (List.mem_of_mem_take z)
        · simp at z; subst z; exact .inr ⟨by omega, by omega⟩
      · intro c hc
        rw [z1, List.getElem?_append_left (by rw [List.length_take]; omega), List.getElem?_take_of_lt (by omega)] at hc
        exact xf c hc
      · intro hm
        have := List.all_eq_true.mp (List.all_eq_true.mp kept_low _ hm) 48 (by rw [z1]; simp)
        simp at this
    · rename_i hno
      exact k x _ ⟨⟨by omega, by omega, xs⟩, xf, hno⟩ D5 F5
theorem join_eq {x : Str} {ys : List Str} : Txt.join x ys = Str.join x ys := StrLaws.glued_eq_join x ys
theorem joinP {P : Nat → Prop} : ∀ {ys : List Str}, (∀ y ∈ ys, y.length = 1 ∧ ∀ c ∈ y.cps.toList, P c) → (Txt.join "" ys).length = ys.length ∧ ∀ c ∈ (Txt.join "" ys).cps.toList, P c
  | [], _ => ⟨rfl, fun c hc => by cases hc⟩
  | [y], h => by
    have := h y (List.mem_cons_self ..)
    exact ⟨this.1, this.2⟩
  | y :: z :: r, h => by
    have h1 := h y (List.mem_cons_self ..)
    have ih := joinP (ys := z :: r) fun w hw => h w (List.mem_cons_of_mem _ hw)
    have e : Txt.join "" (y :: z :: r) = y ++ "" ++ Txt.join "" (z :: r) := by rw [join_eq, join_eq]; rfl
    have e2 : (Txt.join "" (y :: z :: r)).cps.toList = y.cps.toList ++ (Txt.join "" (z :: r)).cps.toList := by
      rw [e, str_append, str_append]
      have : (("" : Str)).cps.toList = [] := by decide
      rw [this, List.append_nil]
    refine ⟨?_, fun c hc => ?_⟩
    · rw [str_len, e2, List.length_append, ← str_len, ← str_len, h1.1, ih.1]
      simp; omega
    · rw [e2] at hc
      rcases List.mem_append.mp hc with q | q
      · exact h1.2 c q
      · exact ih.2 c q
theorem sum_ones : ∀ {ys : List Str}, (∀ y ∈ ys, y.length = 1) → (ys.map (·.length)).sum = ys.length
  | [], _ => rfl
  | y :: ys, h => by
    have := sum_ones (ys := ys) fun z hz => h z (List.mem_cons_of_mem _ hz)
    have := h y (List.mem_cons_self ..)
    simp only [List.map_cons, List.sum_cons, List.length_cons]
    omega
theorem signs {x : Str} {n : Nat} {lo : Lo} {P : Nat → Prop} {QS : Sto → Prop} (D : Dk s d l c) (h0 : 0 < x.length) (h1 : x.length ≤ 100) (hx : ∀ ch ∈ x.cps.toList, P ch) (hn : n ≤ 10) (hc : c + 100 < CM) (l0 : lo[0]? = some (some (.ref d))) (l2 : lo[1]? = some (some (.str x))) (l5 : 2 < lo.length)
    (k : ∀ (ys : List Str) (s' : Sto), s'[s.length]? = some (.lst (ys.map Vl.str)) → ys.length = n → (∀ y ∈ ys, y.length = 1 ∧ ∀ c ∈ y.cps.toList, P c) → Dk s' d l (c + n) → Fr [d, l] s s' → QS s') :
    WL (lcX (glN 2) tTrue (eCall (arg 2 m__law_one) (aCons (eVar 0) (aCons (eVar 1) aNil))) s.length lo (rng 0 n) (s ++ [.lst []])) QS := by
  have hlt := D.lt
  refine lcX_inv (fun i s' => ∃ ys : List Str, s'[s.length]? = some (.lst (ys.map Vl.str)) ∧ ys.length = i ∧ (∀ y ∈ ys, y.length = 1 ∧ ∀ c ∈ y.cps.toList, P c) ∧ Dk s' d l (c + i) ∧ Fr [d, l] s s') ?_ ?_ ?_
  · exact ⟨[], get_last, rfl, by simp, D.new (Fr.refl.push _), Fr.refl.push _⟩
  · rintro i v s1 hv ⟨ys, g1, g2, g3, D1, f1⟩
    obtain ⟨hi, rfl⟩ := rng_get hv
    refine ⟨_, rfl, ?_⟩
    unfold LcT tTrue
    have e0 : (lo.set 2 (some (Vl.int (i : Nat))))[0]? = some (some (.ref d)) := by rw [List.getElem?_set_ne (by omega)]; exact l0
    have e2 : (lo.set 2 (some (Vl.int (i : Nat))))[1]? = some (some (.str x)) := by rw [List.getElem?_set_ne (by omega)]; exact l2
    simp [e0, e2, l0, l2]
    refine oneS D1 h0 (by omega) (by omega) fun ch s2 hch D2 f2 => ?_
    have g4 := f2.at g1 (by simp; omega)
    simp only [g4]
    refine ⟨limC (by simp; omega), ys ++ [⟨#[ch]⟩], ?_, by simp [g2], ?_, ?_, ?_⟩
    · rw [get_set_self g4]; simp
    · intro y hy
      rcases List.mem_append.mp hy with q | q
      · exact g3 y q
      · simp at q
        subst q
        exact ⟨rfl, fun z hz => by simp at hz; subst hz; exact hx z hch⟩
    · exact D2.fr (Fr.refl.set (X := [s.length]) (by simp)) (by simp; omega) (by simp; omega)
    · exact (f1.trans f2).set (Or.inr (Nat.le_refl _))
  · rintro s1 ⟨ys, g1, g2, g3, D1, f1⟩
    rw [rng_len] at g2 D1
    exact k ys s1 g1 g2 g3 D1 f1
theorem word (D : Dk s d l c) (hc : c + 1000 < CM) (k : ∀ x s', Wd x → Dk s' d l (c + 12) → Fr [d, l] s s' → Q (.str x) s') : WE (m__law_word [.ref d]) s Q E := by
  unfold m__law_word b__law_word
  simp
  refine draw D (by omega) (by omega) (by omega) fun q s2 hq D2 f2 => ?_
  simp
  refine oneNew D2 (by simp) (by simp) (by omega) fun v s3 hv D3 f3 => ?_
  obtain ⟨m, rfl, hm, hm0⟩ : ∃ m : Nat, v = .int m ∧ m ≤ 8 ∧ 0 < m := by
    simp only [List.mem_cons, List.not_mem_nil, or_false] at hv
    rcases hv with rfl | rfl | rfl | rfl
    · exact ⟨1, rfl, by omega, by omega⟩
    · exact ⟨2, rfl, by omega, by omega⟩
    · exact ⟨8, rfl, by omega, by omega⟩
    · exact ⟨1 + q, by simp, by omega, by omega⟩
  simp
  rw [rngW_nat (by omega)]
  refine signs (x := "0123456789abcdefghijklmnopqrstuvwxyz") (P := LD) D3 (by decide +kernel) (by decide +kernel) (fun ch hch => by have := List.all_eq_true.mp signs_ld2 ch hch; simpa [LD, Low] using this) (by omega) (by omega) (by simp [wipeL]) (by simp [wipeL]) (by simp [wipeL]) fun ys s4 g4 y1 y2 D4 f4 => ?_
  obtain ⟨j1, j2⟩ := joinP y2
  have hs := sum_ones fun y hy => (y2 y hy).1
  simp [oJoin_strs g4 (x := "") (by rw [hs]; exact Nat.le_trans (show _ ≤ ys.length + ys.length * 0 from Nat.le_of_eq rfl) (limB (by omega)))]
  exact k _ _ ⟨by omega, by omega, j2⟩ (D4.mono (by omega)) ((f2.trans f3).trans f4)
/-- some names, some words -/
theorem some_ {n : Nat} {lo : Lo} {mf : List Vl → M Vl} {P : Str → Prop} {QS : Sto → Prop} (hm : ∀ (s : Sto) (c : Nat) (Q : Vl → Sto → Prop), Dk s d l c → c + 1000 < CM → (∀ x s', P x → Dk s' d l (c + 12) → Fr [d, l] s s' → Q (.str x) s') → WE (mf [.ref d]) s Q NoX) (D : Dk s d l c) (hn : n ≤ 10) (hc : c + 2000 < CM) (l0 : lo[0]? = some (some (.ref d))) (l2 : 2 < lo.length)
    (k : ∀ (ys : List Str) (s' : Sto), s'[s.length]? = some (.lst (ys.map Vl.str)) → ys.length = n → (∀ y ∈ ys, P y) → Dk s' d l (c + 12 * n) → Fr [d, l] s s' → QS s') :
    WL (lcX (glN 2) tTrue (eCall (arg 1 mf) (aCons (eVar 0) aNil)) s.length lo (rng 0 n) (s ++ [.lst []])) QS := by
  have hlt := D.lt
  refine lcX_inv (fun i s' => ∃ ys : List Str, s'[s.length]? = some (.lst (ys.map Vl.str)) ∧ ys.length = i ∧ (∀ y ∈ ys, P y) ∧ Dk s' d l (c + 12 * i) ∧ Fr [d, l] s s') ?_ ?_ ?_
  · exact ⟨[], get_last, rfl, by simp, D.new (Fr.refl.push _), Fr.refl.push _⟩
  · rintro i v s1 hv ⟨ys, g1, g2, g3, D1, f1⟩
    obtain ⟨hi, rfl⟩ := rng_get hv
    refine ⟨_, rfl, ?_⟩
    unfold LcT tTrue
    have e0 : (lo.set 2 (some (Vl.int (i : Nat))))[0]? = some (some (.ref d)) := by rw [List.getElem?_set_ne (by omega)]; exact l0
    simp [e0, l0]
    refine hm s1 _ _ D1 (by omega) fun x s2 hx D2 f2 => ?_
    have g4 := f2.at g1 (by simp; omega)
    simp only [g4]
    refine ⟨limC (by simp; omega), ys ++ [x], ?_, by simp [g2], ?_, ?_, ?_⟩
    · rw [get_set_self g4]; simp
    · intro y hy
      rcases List.mem_append.mp hy with q | q
      · exact g3 y q
      · simp at q
        subst q
        exact hx
    · exact (D2.mono (by omega)).fr (Fr.refl.set (X := [s.length]) (by simp)) (by simp; omega) (by simp; omega)
    · exact (f1.trans f2).set (Or.inr (Nat.le_refl _))
  · rintro s1 ⟨ys, g1, g2, g3, D1, f1⟩
    rw [rng_len] at g2 D1
    exact k ys s1 g1 g2 g3 D1 f1
/-- the pool: names, words, how many givens -/
structure Pl (s : Sto) (d l p n w : Nat) (N W : List Str) (g : Nat) : Prop where
  top : s[p]? = some (.lst [.ref n, .ref w, .int (g : Nat)])
  sn : s[n]? = some (.lst (N.map Vl.str))
  sw : s[w]? = some (.lst (W.map Vl.str))
  nm : ∀ x ∈ N, Nm x
  wd : ∀ x ∈ W, Wd x
  n0 : 0 < N.length
  n1 : N.length ≤ 10
  w0 : 0 < W.length
  w1 : W.length ≤ 10
  g4 : g < 4
  ne : ∀ i ∈ [p, n, w], i ∉ [d, l]
theorem Pl.fr {X : List Nat} {s s' : Sto} {d l p n w : Nat} {N W : List Str} {g : Nat} (P : Pl s d l p n w N W g) (f : Fr X s s') (h : ∀ i ∈ [p, n, w], i ∉ X) : Pl s' d l p n w N W g :=
  ⟨f.at P.top (h p (by simp)), f.at P.sn (h n (by simp)), f.at P.sw (h w (by simp)), P.nm, P.wd, P.n0, P.n1, P.w0, P.w1, P.g4, P.ne⟩
theorem Pl.frD {s s' : Sto} {d l p n w : Nat} {N W : List Str} {g : Nat} (P : Pl s d l p n w N W g) (f : Fr [d, l] s s') : Pl s' d l p n w N W g := P.fr f P.ne
theorem Pl.fr0 {s s' : Sto} {d l p n w : Nat} {N W : List Str} {g : Nat} (P : Pl s d l p n w N W g) (f : Fr [] s s') : Pl s' d l p n w N W g := P.fr f (by simp)
theorem pool (D : Dk s d l c) (hc : c + 3000 < CM) (k : ∀ (p n w : Nat) (N W : List Str) (g : Nat) s', Pl s' d l p n w N W g → s.length ≤ p → s.length ≤ n → s.length ≤ w → Dk s' d l (c + 200) → Fr [d, l] s s' → Q (.ref p) s') : WE (m__law_pool [.ref d]) s Q E := by
  unfold m__law_pool b__law_pool
  have lt0 := D.lt
  simp
  refine draw D (by omega) (by omega) (by omega) fun q s1 hq D1 f1 => ?_
  have e1 : (1 : Int) + q = ((1 + q : Nat) : Int) := by omega
  simp
  rw [e1, rngW_nat (by omega)]
  refine some_ (mf := m__law_name) (P := Nm) (fun s c Q D hc k => name D hc k) D1 (by omega) (by omega) (by simp [wipeL]) (by simp [wipeL]) fun N s2 n1 n2 n3 D2 f2 => ?_
  simp
  refine draw D2 (by omega) (by omega) (by omega) fun q2 s3 hq2 D3 f3 => ?_
  have e2 : (1 : Int) + q2 = ((1 + q2 : Nat) : Int) := by omega
  simp
  rw [e2, rngW_nat (by omega)]
  refine some_ (mf := m__law_word) (P := Wd) (fun s c Q D hc k => word D hc k) D3 (by omega) (by omega) (by simp [wipeL]) (by simp [wipeL]) fun W s4 w1 w2 w3 D4 f4 => ?_
  simp
  refine draw D4 (by omega) (by omega) (by omega) fun g s5 hg D5 f5 => ?_
  simp
  have le1 := f1.le
  have le2 := f2.le
  have le3 := f3.le
  have le4 := f4.le
  have le5 := f5.le
  have n5 := f5.at (f4.at (f3.at n1 (by simp; omega)) (by simp; omega)) (by simp; omega)
  have w5 := f5.at w1 (by simp; omega)
  refine k s5.length s1.length s3.length N W g _ ⟨get_last, get_push n5, get_push w5, n3, w3, by omega, by omega, by omega, by omega, by omega, ?_⟩ (by omega) (by omega) (by omega) ((D5.new (Fr.refl.push _)).mono (by omega)) (((((f1.trans f2).trans f3).trans f4).trans f5).push _)
  intro i hi
  simp at hi ⊢
  omega
end
end K06

/-! S36: programs of cells whose names and words are of a kind -/
namespace Sm
open PySem L2
section
variable (N W : Str → Prop)
def Tst.sat : Tst → Prop
  | .given _ => True
  | .set x => N x
  | .same x y => N x ∧ N y
  | .full x f => N x ∧ N f
  | .wished w => W w
  | .not t => t.sat
mutual
def Stm.sat : Stm → Prop
  | .make x => N x
  | .wish x w => N x ∧ W w
  | .keep x => N x
  | .name x y => N x ∧ N y
  | .drop x => N x
  | .hold x f y => N x ∧ N f ∧ N y
  | .weak x f y => N x ∧ N f ∧ N y
  | .cut x f => N x ∧ N f
  | .take z x f => N z ∧ N x ∧ N f
  | .say w => W w
  | .ask t => t.sat N W
  | .ife t a b => t.sat N W ∧ Stm.sats a ∧ Stm.sats b
  | .rep _ b => Stm.sats b
def Stm.sats : List Stm → Prop
  | [] => True
  | x :: xs => x.sat ∧ Stm.sats xs
end
end
theorem Stm.sats_app {N W : Str → Prop} : ∀ {xs ys : List Stm}, Stm.sats N W (xs ++ ys) ↔ Stm.sats N W xs ∧ Stm.sats N W ys
  | [], ys => by simp [Stm.sats]
  | x :: xs, ys => by simp only [List.cons_append, Stm.sats, Stm.sats_app (xs := xs) (ys := ys), and_assoc]
end Sm

/-! R1: tests and statements of the F1 generator -/
namespace K06
open PySem L2 Sm
section
variable {s : Sto} {d l c : Nat} {Q : Vl → Sto → Prop} {E : Ex → Sto → Prop}
theorem oneN {p n w : Nat} {N W : List Str} {g : Nat} (D : Dk s d l c) (P : Pl s d l p n w N W g) (hc : c < CM) (k : ∀ x s', Nm x → Pl s' d l p n w N W g → Dk s' d l (c + 1) → Fr [d, l] s s' → Q (.str x) s') : WE (m__law_one [.ref d, .ref n]) s Q E := by
  refine one D P.sn (P.ne n (by simp)) (by simpa using P.n0) (by have := P.n1; simp; omega) hc fun v s' hv D' f => ?_
  obtain ⟨x, hx, rfl⟩ := List.mem_map.mp hv
  exact k x s' (P.nm x hx) (P.frD f) D' f
theorem oneW {p n w : Nat} {N W : List Str} {g : Nat} (D : Dk s d l c) (P : Pl s d l p n w N W g) (hc : c < CM) (k : ∀ x s', Wd x → Pl s' d l p n w N W g → Dk s' d l (c + 1) → Fr [d, l] s s' → Q (.str x) s') : WE (m__law_one [.ref d, .ref w]) s Q E := by
  refine one D P.sw (P.ne w (by simp)) (by simpa using P.w0) (by have := P.w1; simp; omega) hc fun v s' hv D' f => ?_
  obtain ⟨x, hx, rfl⟩ := List.mem_map.mp hv
  exact k x s' (P.wd x hx) (P.frD f) D' f
/-- behind i "not" -/
def AI (d l c p g : Nat) (s0 : Sto) (i : Nat) (lo : Lo) (s' : Sto) : Prop := ∃ (t : Tst) (x2 x4 x5 x6 x7 : Option Vl), lo = [some (.ref d), some (.ref p), x2, some t.vl, x4, x5, x6, x7] ∧ t.ok g i ∧ t.sat Nm Wd ∧ Dk s' d l c ∧ Fr [d, l] s0 s'
theorem anyEnd {p r g : Nat} {xs : List Vl} {x5 x6 x7 : Vl} {s0 : Sto} (D : Dk s d l c) (e : s[r]? = some (.lst xs)) (hr : r ∉ [d, l]) (h0 : 0 < xs.length) (h1 : xs.length ≤ 10) (hx : ∀ v ∈ xs, ∃ t : Tst, v = t.vl ∧ t.ok g 0 ∧ t.sat Nm Wd) (hc : c + 50 < CM) (F : Fr [d, l] s0 s)
    (k : ∀ t s', Tst.ok g 3 t → t.sat Nm Wd → Dk s' d l (c + 2) → Fr [d, l] s0 s' → Q t.vl s') :
    WE (m__law_one [.ref d, .ref r]) s (fun v s => WS (sSeq (sForX (aRng (aCons (eCall (arg 2 m__law_one) (aCons (eVar 0) (aCons (eCB oLst (aCons (eC (.int 0)) (aCons (eC (.int 0)) (aCons (eC (.int 1)) (aCons (eC (.int 2)) (aCons (eC (.int 3)) aNil)))))) aNil))) aNil)) (gNm 4)
      (sSet 3 (eCB oTup (aCons (eC (.str "not")) (aCons (eVar 3) aNil))))) (sRet (eVar 3))) [some (.ref d), some (.ref p), some (.ref r), some v, none, some x5, some x6, some x7] s ⟨fun _ s => Q .non s, Q, fun _ _ => False, fun _ _ => False, fun e _ s => E e s⟩) E := by
  refine one D e hr h0 (by omega) (by omega) fun v s1 hv D1 f1 => ?_
  obtain ⟨t, rfl, t1, t2⟩ := hx v hv
  simp
  refine oneNew D1 (by simp) (by simp) (by omega) fun v2 s2 hv2 D2 f2 => ?_
  obtain ⟨m, rfl, hm⟩ : ∃ m : Nat, v2 = .int m ∧ m ≤ 3 := by
    simp only [List.mem_cons, List.not_mem_nil, or_false] at hv2
    rcases hv2 with rfl | rfl | rfl | rfl | rfl
    · exact ⟨0, rfl, by omega⟩
    · exact ⟨0, rfl, by omega⟩
    · exact ⟨1, rfl, by omega⟩
    · exact ⟨2, rfl, by omega⟩
    · exact ⟨3, rfl, by omega⟩
  simp
  rw [rngW_nat (by omega)]
  refine loopX_inv (AI d l (c + 2) p g s0) ?_ ?_ ?_
  · exact ⟨t, _, _, _, _, _, rfl, t1, t2, D2, (F.trans f1).trans f2⟩
  · rintro i v lo s3 hv ⟨t, x2, x4, x5, x6, x7, rfl, t1, t2, D3, f3⟩
    simp
    exact ⟨.not t, _, _, _, _, _, rfl, t1, t2, D3, f3⟩
  · rintro lo s3 ⟨t, x2, x4, x5, x6, x7, rfl, t1, t2, D3, f3⟩
    rw [rng_len] at t1
    simp
    exact k t s3 (t1.mono hm) t2 D3 f3
theorem anyTest {p n w : Nat} {N W : List Str} {g : Nat} (D : Dk s d l c) (P : Pl s d l p n w N W g) (hc : c + 100 < CM) (k : ∀ t s', Tst.ok g 3 t → t.sat Nm Wd → Pl s' d l p n w N W g → Dk s' d l (c + 6) → Fr [d, l] s s' → Q t.vl s') : WE (m__law_any_test [.ref d, .ref p]) s Q E := by
  unfold m__law_any_test b__law_any_test
  have g4 := P.g4
  simp [P.top]
  refine oneN D P (by omega) fun x s1 nx P1 D1 f1 => ?_
  simp [P1.top]
  refine oneN D1 P1 (by omega) fun y s2 ny P2 D2 f2 => ?_
  simp [P2.top]
  refine oneW D2 P2 (by omega) fun u s3 nu P3 D3 f3 => ?_
  have lt3 := D3.lt
  have F3 : Fr [d, l] s s3 := (f1.trans f2).trans f3
  simp
  have f4 : Fr [] s3 (s3 ++ [Ob.lst [Vl.tup [.str "set", .str x], Vl.tup [.str "same", .str x, .str y], Vl.tup [.str "full", .str x, .str y], Vl.tup [.str "wished", .str u]]]) := Fr.refl.push _
  have e4 : (s3 ++ [Ob.lst [Vl.tup [.str "set", .str x], Vl.tup [.str "same", .str x, .str y], Vl.tup [.str "full", .str x, .str y], Vl.tup [.str "wished", .str u]]])[s3.length]? = some (.lst [Vl.tup [.str "set", .str x], Vl.tup [.str "same", .str x, .str y], Vl.tup [.str "full", .str x, .str y], Vl.tup [.str "wished", .str u]]) := get_last
  have hr : s3.length ∉ [d, l] := by simp; omega
  generalize s3 ++ [Ob.lst [Vl.tup [.str "set", .str x], Vl.tup [.str "same", .str x, .str y], Vl.tup [.str "full", .str x, .str y], Vl.tup [.str "wished", .str u]]] = s4 at f4 e4
  have rl : s.length ≤ s3.length := F3.le
  generalize s3.length = r at e4 hr rl
  have P4 := P3.fr0 f4
  have D4 := D3.new f4
  have F4 : Fr [d, l] s s4 := F3.trans (f4.mono (by simp))
  have base : ∀ v ∈ [Vl.tup [.str "set", .str x], Vl.tup [.str "same", .str x, .str y], Vl.tup [.str "full", .str x, .str y], Vl.tup [.str "wished", .str u]], ∃ t : Tst, v = t.vl ∧ t.ok g 0 ∧ t.sat Nm Wd := by
    intro v hv
    simp only [List.mem_cons, List.not_mem_nil, or_false] at hv
    rcases hv with rfl | rfl | rfl | rfl
    · exact ⟨.set x, rfl, nx.toWd.nice, nx⟩
    · exact ⟨.same x y, rfl, ⟨nx.toWd.nice, ny.toWd.nice⟩, nx, ny⟩
    · exact ⟨.full x y, rfl, ⟨nx.toWd.nice, ny.toWd.nice⟩, nx, ny⟩
    · exact ⟨.wished u, rfl, nu.nice, nu⟩
  by_cases hg : 0 < g
  · have hgi : (0 : Int) < (g : Nat) := by omega
    simp [P4.top, hg, hgi, kd_lst e4]
    refine draw D4 (by omega) (by omega) (by omega) fun i s5 hi D5 f5 => ?_
    have e5 := f5.at e4 hr
    simp [oAppend_lst e5 (limC (by simp))]
    have fs : Fr [d, l] s (s5.set r (.lst ([Vl.tup [.str "set", .str x], Vl.tup [.str "same", .str x, .str y], Vl.tup [.str "full", .str x, .str y], Vl.tup [.str "wished", .str u], Vl.tup [.str "given", .int (i : Nat)]]))) := (F4.trans f5).set (Or.inr rl)
    refine anyEnd (g := g) (s0 := s) (D5.fr (Fr.refl.set (X := [r]) (by simp)) (by simp at hr ⊢; omega) (by simp at hr ⊢; omega)) (get_set_self e5) hr (by simp) (by simp) ?_ (by omega) fs fun t s' t1 t2 D' f' => k t s' t1 t2 (P.frD f') (D'.mono (by omega)) f'
    intro v hv
    simp only [List.mem_cons, List.not_mem_nil, or_false] at hv base
    rcases hv with hv | hv | hv | hv | rfl
    · exact base v (.inl hv)
    · exact base v (.inr (.inl hv))
    · exact base v (.inr (.inr (.inl hv)))
    · exact base v (.inr (.inr (.inr hv)))
    · exact ⟨.given i, rfl, by show i < g; omega, trivial⟩
  · have hgi : ¬ (0 : Int) < (g : Nat) := by omega
    simp [P4.top, hg, hgi]
    exact anyEnd (g := g) (s0 := s) D4 e4 hr (by simp) (by simp) base (by omega) F4 fun t s' t1 t2 D' f' => k t s' t1 t2 (P.frD f') (D'.mono (by omega)) f'
theorem row {p n w : Nat} {N W : List Str} {g : Nat} (D : Dk s d l c) (P : Pl s d l p n w N W g) (hc : c + 200 < CM) (k : ∀ (x : Stm) s', x.ok g 0 → x.cnt = 1 → x.wgt = 1 → x.sat Nm Wd → Pl s' d l p n w N W g → Dk s' d l (c + 20) → Fr [d, l] s s' → Q x.vl s') : WE (m__law_row [.ref d, .ref p]) s Q E := by
  unfold m__law_row b__law_row
  have g4 := P.g4
  simp [P.top]
  refine oneN D P (by omega) fun x s1 nx P1 D1 f1 => ?_
  simp [P1.top]
  refine oneN D1 P1 (by omega) fun y s2 ny P2 D2 f2 => ?_
  simp [P2.top]
  refine oneN D2 P2 (by omega) fun z s3 nz P3 D3 f3 => ?_
  simp [P3.top]
  refine oneN D3 P3 (by omega) fun f s4 nf P4 D4 f4 => ?_
  simp [P4.top]
  refine oneW D4 P4 (by omega) fun u s5 nu P5 D5 f5 => ?_
  have F5 : Fr [d, l] s s5 := (((f1.trans f2).trans f3).trans f4).trans f5
  obtain ⟨A, hA⟩ : ∃ A : List Stm, A = [.make x, .keep x, .drop x, .wish x u, .name x y, .hold x f y, .weak x f y, .cut x f, .take z x f, .say u] := ⟨_, rfl⟩
  have okA : ∀ q ∈ A, q.ok g 0 ∧ q.cnt = 1 ∧ q.wgt = 1 ∧ q.sat Nm Wd := by
    intro q hq
    rw [hA] at hq
    have ox := nx.toWd.nice
    have oy := ny.toWd.nice
    have oz := nz.toWd.nice
    have of := nf.toWd.nice
    have ou := nu.nice
    simp only [List.mem_cons, List.not_mem_nil, or_false] at hq
    rcases hq with rfl | rfl | rfl | rfl | rfl | rfl | rfl | rfl | rfl | rfl
    · exact ⟨by unfold Stm.ok; exact ox, rfl, rfl, by unfold Stm.sat; exact nx⟩
    · exact ⟨by unfold Stm.ok; exact ox, rfl, rfl, by unfold Stm.sat; exact nx⟩
    · exact ⟨by unfold Stm.ok; exact ox, rfl, rfl, by unfold Stm.sat; exact nx⟩
    · exact ⟨by unfold Stm.ok; exact ⟨ox, ou⟩, rfl, rfl, by unfold Stm.sat; exact ⟨nx, nu⟩⟩
    · exact ⟨by unfold Stm.ok; exact ⟨ox, oy⟩, rfl, rfl, by unfold Stm.sat; exact ⟨nx, ny⟩⟩
    · exact ⟨by unfold Stm.ok; exact ⟨ox, of, oy⟩, rfl, rfl, by unfold Stm.sat; exact ⟨nx, nf, ny⟩⟩
    · exact ⟨by unfold Stm.ok; exact ⟨ox, of, oy⟩, rfl, rfl, by unfold Stm.sat; exact ⟨nx, nf, ny⟩⟩
    · exact ⟨by unfold Stm.ok; exact ⟨ox, of⟩, rfl, rfl, by unfold Stm.sat; exact ⟨nx, nf⟩⟩
    · exact ⟨by unfold Stm.ok; exact ⟨oz, ox, of⟩, rfl, rfl, by unfold Stm.sat; exact ⟨nz, nx, nf⟩⟩
    · exact ⟨by unfold Stm.ok; exact ou, rfl, rfl, by unfold Stm.sat; exact nu⟩
  have vA : [Vl.tup [.str "make", .str x], Vl.tup [.str "keep", .str x], Vl.tup [.str "drop", .str x], Vl.tup [.str "wish", .str x, .str u], Vl.tup [.str "name", .str x, .str y], Vl.tup [.str "hold", .str x, .str f, .str y], Vl.tup [.str "weak", .str x, .str f, .str y], Vl.tup [.str "cut", .str x, .str f], Vl.tup [.str "take", .str z, .str x, .str f], Vl.tup [.str "say", .str u]] = Stm.vls A := by rw [hA]; simp [Stm.vls, Stm.vl]
  have lA : (Stm.vls A).length = 10 := by rw [hA]; rfl
  clear hA
  simp
  rw [vA]
  obtain ⟨o1, ho1⟩ : ∃ o, o = Ob.lst [Vl.tup [.str "make", .str x], Vl.tup [.str "keep", .str x], Vl.tup [.str "drop", .str x], Vl.tup [.str "wish", .str x, .str u], Vl.tup [.str "name", .str x, .str y], Vl.tup [.str "hold", .str x, .str f, .str y]] := ⟨_, rfl⟩
  obtain ⟨o2, ho2⟩ : ∃ o, o = Ob.lst [Vl.tup [.str "weak", .str x, .str f, .str y], Vl.tup [.str "cut", .str x, .str f], Vl.tup [.str "take", .str z, .str x, .str f], Vl.tup [.str "say", .str u]] := ⟨_, rfl⟩
  rw [← ho1, ← ho2]
  have f6 : Fr [] s5 (s5 ++ [o1, o2, Ob.lst (Stm.vls A)]) := Fr.refl.app _
  have e6 : (s5 ++ [o1, o2, Ob.lst (Stm.vls A)])[s5.length + 2]? = some (.lst (Stm.vls A)) := by rw [List.getElem?_append_right (by omega)]; simp
  have lt5 := D5.lt
  have hr : s5.length + 2 ∉ [d, l] := by simp; omega
  generalize s5 ++ [o1, o2, Ob.lst (Stm.vls A)] = s6 at f6 e6
  generalize s5.length + 2 = r at e6 hr
  refine anyTest (D5.new f6) (P5.fr0 f6) (by omega) fun t s7 t1 t2 P7 D7 f7 => ?_
  have e7 := f7.at e6 hr
  have lt7 := D7.lt
  have F7 : Fr [d, l] s s7 := (F5.trans (f6.mono (by simp))).trans f7
  simp
  rw [opAdd_lst (get_push e7) get_last (limB (by simp; omega))]
  have hr2 : (s7 ++ [Ob.lst [Vl.tup [.str "ask", t.vl]]]).length ∉ [d, l] := by simp; omega
  have f8 : Fr [] s7 (s7 ++ [Ob.lst [Vl.tup [.str "ask", t.vl]]] ++ [Ob.lst (Stm.vls A ++ [Vl.tup [.str "ask", t.vl]])]) := (Fr.refl.push _).push _
  have e8 : (s7 ++ [Ob.lst [Vl.tup [.str "ask", t.vl]]] ++ [Ob.lst (Stm.vls A ++ [Vl.tup [.str "ask", t.vl]])])[(s7 ++ [Ob.lst [Vl.tup [.str "ask", t.vl]]]).length]? = some (.lst (Stm.vls A ++ [Vl.tup [.str "ask", t.vl]])) := get_last
  simp only [WO_some]
  generalize s7 ++ [Ob.lst [Vl.tup [.str "ask", t.vl]]] ++ [Ob.lst (Stm.vls A ++ [Vl.tup [.str "ask", t.vl]])] = s8 at f8 e8
  generalize (s7 ++ [Ob.lst [Vl.tup [.str "ask", t.vl]]]).length = r2 at e8 hr2
  simp
  refine one (D7.new f8) e8 hr2 (by simp) (by simp; omega) (by omega) fun v s9 hv D9 f9 => ?_
  have F9 : Fr [d, l] s s9 := (F7.trans (f8.mono (by simp))).trans f9
  rcases List.mem_append.mp hv with q | q
  · rw [Stm.vls_map] at q
    obtain ⟨st, hst, rfl⟩ := List.mem_map.mp q
    obtain ⟨a1, a2, a3, a4⟩ := okA st hst
    exact k st s9 a1 a2 a3 a4 (P.frD F9) (D9.mono (by omega)) F9
  · simp at q
    subst q
    exact k (.ask t) s9 (by unfold Stm.ok; exact t1) rfl rfl (by unfold Stm.sat; exact t2) (P.frD F9) (D9.mono (by omega)) F9
end
end K06

/-! R2: blocks of the F1 generator -/
namespace K06
open PySem L2 Sm
/-- the draws of a block, at most -/
def Zb (n : Nat) : Nat := 100 ^ (n + 1)
theorem Zb_succ {n : Nat} : Zb (n + 1) = 100 * Zb n := by unfold Zb; rw [Nat.pow_succ, Nat.mul_comm]
theorem Zb_pos {n : Nat} : 100 ≤ Zb n := by
  induction n with
  | zero => decide
  | succ n ih => rw [Zb_succ]; omega
def RowsS (mf : List Vl → M Vl) (M : Nat) : Prop := ∀ (s : Sto) (d l c p n w lf : Nat) (N W : List Str) (g T L Wt dp nest : Nat) (Q : Vl → Sto → Prop) (E : Ex → Sto → Prop), dp + nest = 5 → 0 < nest → 2 * nest ≤ M → Dk s d l c → Pl s d l p n w N W g → s[lf]? = some (.lst [.int (L : Nat), .int (Wt : Nat)]) → lf ∉ [d, l, p, n, w] → c + Zb nest + 1000 < CM →
  (∀ (b : List Stm) (L' W' : Nat) (s' : Sto), Stm.oks g nest b → Stm.sats Nm Wd b → L' + Stm.cnts b = L → W' + T * Stm.wgts b = Wt → s'[lf]? = some (.lst [.int (L' : Nat), .int (W' : Nat)]) → Pl s' d l p n w N W g → Dk s' d l (c + Zb nest) → Fr [d, l, lf] s s' → Q (.tup (Stm.vls b)) s') →
  WE (mf [.ref d, .ref p, .ref lf, .int (dp : Nat), .int (T : Nat)]) s Q E
/-- behind i turns -/
def RoI (s : Sto) (d l c p n w lf : Nat) (N W : List Str) (g T L Wt dp nest i : Nat) (lo : Lo) (s' : Sto) : Prop := ∃ (b : List Stm) (L' W' : Nat) (x6 x7 x8 x9 x10 : Option Vl), lo = [some (.ref d), some (.ref p), some (.ref lf), some (.int (dp : Nat)), some (.int (T : Nat)), some (.ref s.length), x6, x7, x8, x9, x10] ∧
  Stm.oks g nest b ∧ Stm.sats Nm Wd b ∧ L' + Stm.cnts b = L ∧ W' + T * Stm.wgts b = Wt ∧ b.length ≤ i ∧ s'[s.length]? = some (.lst (Stm.vls b)) ∧ s'[lf]? = some (.lst [.int (L' : Nat), .int (W' : Nat)]) ∧ Pl s' d l p n w N W g ∧ Dk s' d l (c + 2 + i * (30 + 2 * Zb (nest - 1))) ∧ Fr [d, l, lf] s s'
theorem firstDraw {s : Sto} {d l c dp : Nat} {Q : Vl → Sto → Prop} {E : Ex → Sto → Prop} {lo : Lo} (D : Dk s d l c) (hc : c + 10 < CM) (l0 : lo[0]? = some (some (.ref d))) (l3 : lo[3]? = some (some (.int (dp : Nat)))) (k : ∀ (r : Nat) s', r ≤ 30 → Dk s' d l (c + 2) → Fr [d, l] s s' → Q (.int (r : Nat)) s') :
    WE (eCall (arg 2 m__law_draw) (aCons (eVar 0) (aCons (eIfM (tVal (eOp opEq (eVar 3) (eC (.int 0)))) (eCall (arg 2 m__law_one) (aCons (eVar 0) (aCons (eCB oLst (aCons (eC (.int 3)) (aCons (eC (.int 6)) (aCons (eC (.int 31)) aNil)))) aNil))) (eC (.int 4))) aNil)) lo) s Q E := by
  by_cases h : dp = 0
  · subst h
    simp [l0, l3]
    refine oneNew D (by simp) (by simp) (by omega) fun v s1 hv D1 f1 => ?_
    simp
    obtain ⟨m, rfl, h1, h2⟩ : ∃ m : Int, v = .int m ∧ 0 < m ∧ m ≤ 31 := by
      simp only [List.mem_cons, List.not_mem_nil, or_false] at hv
      rcases hv with rfl | rfl | rfl
      · exact ⟨3, rfl, by omega, by omega⟩
      · exact ⟨6, rfl, by omega, by omega⟩
      · exact ⟨31, rfl, by omega, by omega⟩
    refine draw D1 h1 (by omega) (by omega) fun r s2 hr D2 f2 => k r s2 (by omega) D2 (f1.trans f2)
  · have h' : ¬ (dp : Int) = 0 := by omega
    simp [l0, l3, h, h']
    exact draw D (by omega) (by omega) (by omega) fun r s2 hr D2 f2 => k r s2 (by omega) (D2.mono (by omega)) f2
theorem rowsS : ∀ M : Nat, RowsS (R1 M 0) M
  | 0 => fun s d l c p n w lf N W g T L Wt dp nest Q E h5 h0 hM => by omega
  | 1 => fun s d l c p n w lf N W g T L Wt dp nest Q E h5 h0 hM => by omega
  | M + 2 => fun s d l c p n w lf N W g T L Wt dp nest Q E h5 h0 hM D P lfA hlf hc k => by
    have ih := rowsS M
    show WE (fnM 11 (b__law_rows (R1 (M + 1))) _) _ _ _
    have inner : ∀ (sA : Sto) (cA L1 W1 T' : Nat) (K : Vl → Sto → Prop), Dk sA d l cA → Pl sA d l p n w N W g → sA[lf]? = some (.lst [.int (L1 : Nat), .int (W1 : Nat)]) → cA + Zb (nest - 1) + 1000 < CM →
        (∀ (b' : List Stm) (L2 W2 : Nat) (s' : Sto), Stm.oks g (nest - 1) b' → Stm.sats Nm Wd b' → L2 + Stm.cnts b' = L1 → W2 + T' * Stm.wgts b' = W1 → s'[lf]? = some (.lst [.int (L2 : Nat), .int (W2 : Nat)]) → Pl s' d l p n w N W g → Dk s' d l (cA + Zb (nest - 1)) → Fr [d, l, lf] sA s' → K (.tup (Stm.vls b')) s') →
        WE (R1 (M + 1) 1 [.ref d, .ref p, .ref lf, .int (dp : Nat), .int (T' : Nat)]) sA K E := fun sA cA L1 W1 T' K DA PA lA hcA kk => by
      show WE (fnM 5 (b__law_inner (R1 M)) _) _ _ _
      unfold b__law_inner
      by_cases h : dp < 4
      · have h' : (dp : Int) < 4 := by omega
        have ed : (dp : Int) + 1 = ((dp + 1 : Nat) : Int) := by omega
        simp [h, h']
        rw [ed]
        exact ih sA d l cA p n w lf N W g T' L1 W1 (dp + 1) (nest - 1) K E (by omega) (by omega) (by omega) DA PA lA hlf hcA kk
      · have h' : ¬ (dp : Int) < 4 := by omega
        simp [h, h']
        exact kk [] L1 W1 sA trivial trivial (by simp [Stm.cnts]) (by simp [Stm.wgts]) lA PA (DA.mono (by omega)) Fr.refl
    unfold b__law_rows
    have lt0 := D.lt
    have ltlf := lt_of_get lfA
    have zp := Zb_pos (n := nest - 1)
    have zs : Zb nest = 100 * Zb (nest - 1) := by
      rw [← Zb_succ]
      congr 1
      omega
    generalize hE : (eCall (arg 2 m__law_draw) (aCons (eVar 0) (aCons (eIfM (tVal (eOp opEq (eVar 3) (eC (.int 0)))) (eCall (arg 2 m__law_one) (aCons (eVar 0) (aCons (eCB oLst (aCons (eC (.int 3)) (aCons (eC (.int 6)) (aCons (eC (.int 31)) aNil)))) aNil))) (eC (.int 4))) aNil))) = eI
    simp
    have f1 : Fr [] s (s ++ [Ob.lst []]) := Fr.refl.push _
    have e1 : (s ++ [Ob.lst []])[s.length]? = some (.lst []) := get_last
    have D1 := D.new f1
    have P1 := P.fr0 f1
    have lf1 := f1.at lfA (by simp)
    generalize s ++ [Ob.lst []] = s1 at f1 e1 D1 P1 lf1
    rw [← hE]
    refine firstDraw (dp := dp) D1 (by omega) rfl rfl fun r s2 hr D2 f2 => ?_
    simp
    rw [rngW_nat (by omega)]
    have hx : ∀ i ∈ [p, n, w], i ∉ [d, l, lf] := fun i hi => by
      have q := P.ne i hi
      simp at hi q hlf ⊢
      refine ⟨q.1, q.2, fun e => ?_⟩
      rcases hi with rfl | rfl | rfl <;> omega
    have lfd : lf ∉ [d, l] := by simp at hlf ⊢; omega
    refine loopX_inv (RoI s d l c p n w lf N W g T L Wt dp nest) ?_ ?_ ?_
    · exact ⟨[], L, Wt, none, none, none, none, none, rfl, trivial, trivial, by simp [Stm.cnts], by simp [Stm.wgts], by simp, f2.at e1 (by simp; omega), f2.at lf1 lfd, P1.frD f2, D2.mono (by omega), ((f1.mono (by simp)).trans f2).mono fun i hi => by simp at hi ⊢; omega⟩
    · rintro i v lo s3 hv ⟨b, L', W', x6, x7, x8, x9, x10, rfl, ob, sb, cL, cW, bl, e3, lf3, P3, D3, F3⟩
      obtain ⟨hi, rfl⟩ := rng_get hv
      have hi30 : i < 30 := by omega
      have hip : i * (30 + 2 * Zb (nest - 1)) + (30 + 2 * Zb (nest - 1)) ≤ 30 * (30 + 2 * Zb (nest - 1)) := by
        have := Nat.mul_le_mul_right (30 + 2 * Zb (nest - 1)) (show i + 1 ≤ 30 by omega)
        rw [Nat.succ_mul] at this
        exact this
      have hi1 : (i + 1) * (30 + 2 * Zb (nest - 1)) = i * (30 + 2 * Zb (nest - 1)) + (30 + 2 * Zb (nest - 1)) := Nat.succ_mul ..
      generalize hPi : i * (30 + 2 * Zb (nest - 1)) = Pi at hip hi1 D3
      have le3 := F3.le
      simp
      refine draw D3 (by omega) (by omega) (by omega) fun way s4 hw D4 f4 => ?_
      have lf4 := f4.at lf3 lfd
      have e4 := f4.at e3 (by simp; omega)
      have P4 := P3.frD f4
      have F4 : Fr [d, l, lf] s s4 := F3.trans (f4.mono fun i hi => by simp at hi ⊢; omega)
      have skip : RoI s d l c p n w lf N W g T L Wt dp nest (i + 1) [some (.ref d), some (.ref p), some (.ref lf), some (.int (dp : Nat)), some (.int (T : Nat)), some (.ref s.length), some (.int i), some (.int way), x8, x9, x10] s4 :=
        ⟨b, L', W', _, _, _, _, _, rfl, ob, sb, cL, cW, by omega, e4, lf4, P4, D4.mono (by rw [hi1]; omega), F4⟩
      by_cases hL : 0 < L'
      · by_cases hW : T ≤ W'
        · have hLi : (0 : Int) < (L' : Nat) := by omega
          have hWi : ((T : Nat) : Int) ≤ (W' : Nat) := by omega
          simp [lf4, hL, hLi, hW, hWi, ixN, get_set_self lf4]
          have f5 : Fr [lf] s4 (s4.set lf (Ob.lst [Vl.int (↑L' - 1), Vl.int (↑W' - ↑T)])) := Fr.refl.set (by simp)
          have eL : (L' : Int) - 1 = ((L' - 1 : Nat) : Int) := by omega
          have eW : (W' : Int) - (T : Int) = ((W' - T : Nat) : Int) := by omega
          have lf5 : (s4.set lf (Ob.lst [Vl.int (↑L' - 1), Vl.int (↑W' - ↑T)]))[lf]? = some (.lst [.int ((L' - 1 : Nat) : Nat), .int ((W' - T : Nat) : Nat)]) := by rw [get_set_self lf4, eL, eW]
          generalize s4.set lf (Ob.lst [Vl.int (↑L' - 1), Vl.int (↑W' - ↑T)]) = s5 at f5 lf5
          have P5 := P4.fr f5 fun i hi z => hx i hi (by simp at z ⊢; omega)
          have e5 := f5.at e4 (by simp; omega)
          have D5 := D4.fr f5 (by simp at hlf ⊢; omega) (by simp at hlf ⊢; omega)
          have F5 : Fr [d, l, lf] s s5 := F4.trans (f5.mono (by simp))
          -- the end of a turn
          have fin : ∀ (x : Stm) (L2 W2 : Nat) (s' : Sto) (y6 y7 y8 y9 y10 : Option Vl) (c' : Nat), x.ok g nest → x.sat Nm Wd → L2 + x.cnt = L' → W2 + T * x.wgt = W' → s'[lf]? = some (.lst [.int (L2 : Nat), .int (W2 : Nat)]) → Dk s' d l c' → c' ≤ c + 2 + (Pi + (30 + 2 * Zb (nest - 1))) → Fr [d, l, lf] s5 s' →
              kd .list (.ref s.length) s' = true ∧ ∃ s'', oAppend (.ref s.length) [x.vl] s' = some (.non, s'') ∧ RoI s d l c p n w lf N W g T L Wt dp nest (i + 1) [some (.ref d), some (.ref p), some (.ref lf), some (.int (dp : Nat)), some (.int (T : Nat)), some (.ref s.length), y6, y7, y8, y9, y10] s'' := fun x L2 W2 s' y6 y7 y8 y9 y10 c' ox sx oL oW lf' D' hc' f' => by
            have eS := f'.at e5 (by simp; omega)
            have bl12 : (Stm.vls b).length < LIM := limC (by rw [Stm.vls_map, List.length_map]; omega)
            refine ⟨kd_lst eS, _, oAppend_lst eS bl12, ?_⟩
            have fs : Fr [s.length] s' (s'.set s.length (.lst (Stm.vls b ++ [x.vl]))) := Fr.refl.set (by simp)
            have ltp := lt_of_get P.top
            have ltn := lt_of_get P.sn
            have ltw := lt_of_get P.sw
            have P' := (P5.fr f' hx).fr fs fun i hi => by simp at hi ⊢; rcases hi with rfl | rfl | rfl <;> omega
            refine ⟨b ++ [x], L2, W2, y6, y7, y8, y9, y10, rfl, Stm.oks_app.mpr ⟨ob, ox, trivial⟩, Stm.sats_app.mpr ⟨sb, sx, trivial⟩, ?_, ?_, by simp; omega, ?_, fs.at lf' (by simp; omega), P', ?_, ?_⟩
            · rw [Stm.cnts_app]; simp [Stm.cnts]; omega
            · rw [Stm.wgts_app]; simp only [Stm.wgts, Nat.mul_add]; simp; omega
            · rw [get_set_self eS]; simp [Stm.vls_map]
            · rw [hi1]; exact (D'.mono hc').fr fs (by simp; omega) (by simp; omega)
            · exact (F5.trans f').set (Or.inr (Nat.le_refl _))
          by_cases w4 : way < 4
          · have w4' : (way : Int) < 4 := by omega
            simp [w4, w4', kd_lst e5]
            refine row D5 P5 (by omega) fun x s6 ox cx wx sx P6 D6 f6 => ?_
            obtain ⟨_, s7, e7, q7⟩ := fin x (L' - 1) (W' - T) s6 (some (.int i)) (some (.int way)) x8 x9 x10 _ (ox.mono (by omega)) sx (by omega) (by rw [wx]; omega) (f6.at lf5 lfd) D6 (by omega) (f6.mono fun i hi => by simp at hi ⊢; omega)
            simp [e7]
            exact q7
          have w4' : ¬ (way : Int) < 4 := by omega
          by_cases w5 : way = 4
          · subst w5
            simp
            refine draw D5 (by omega) (by omega) (by omega) fun m s6 hm D6 f6 => ?_
            have emul : (T : Int) * (m : Int) = ((T * m : Nat) : Int) := by simp
            have tm64 : -(2 ^ 64) < (m : Int) ∧ (m : Int) < 2 ^ 64 := by omega
            have e6 := f6.at e5 (by simp; omega)
            simp [kd_lst e6, opMul_int (Or.inr tm64)]
            rw [emul]
            refine inner s6 _ (L' - 1) (W' - T) (T * m) _ D6 (P5.frD f6) (f6.at lf5 lfd) (by omega) fun b1 L1 W1 s7 ob1 sb1 cL1 cW1 lf7 P7 D7 f7 => ?_
            obtain ⟨_, s8, e8, q8⟩ := fin (.rep m b1) L1 W1 s7 (some (.int i)) (some (.int 4)) (some (.int m)) x9 x10 _ (by unfold Stm.ok; exact ⟨h0, by omega, ob1⟩) (by unfold Stm.sat; exact sb1) (by simp [Stm.cnt]; omega) (by simp only [Stm.wgt, Nat.mul_add]; rw [← Nat.mul_assoc]; omega) lf7 D7 (by omega) ((f6.mono fun i hi => by simp at hi ⊢; omega).trans f7)
            simp
            rw [show Vl.tup [Vl.str (Str.ofString "repeat"), Vl.int m, Vl.tup (Stm.vls b1)] = (Stm.rep m b1).vl from by rw [Stm.vl], e8]
            simp
            exact q8
          · have w5' : ¬ (way : Int) = 4 := by omega
            simp [w4, w4', w5, w5']
            refine anyTest D5 P5 (by omega) fun tt s6 t1 t2 P6 D6 f6 => ?_
            simp
            refine inner s6 _ (L' - 1) (W' - T) T _ D6 P6 (f6.at lf5 lfd) (by omega) fun b1 L1 W1 s7 ob1 sb1 cL1 cW1 lf7 P7 D7 f7 => ?_
            have e7 := f7.at (f6.at e5 (by simp; omega)) (by simp; omega)
            simp [kd_lst e7]
            refine inner s7 _ L1 W1 T _ D7 P7 lf7 (by omega) fun b2 L2 W2 s8 ob2 sb2 cL2 cW2 lf8 P8 D8 f8 => ?_
            obtain ⟨_, s9, e9, q9⟩ := fin (.ife tt b1 b2) L2 W2 s8 (some (.int i)) (some (.int way)) x8 (some tt.vl) (some (.tup (Stm.vls b1))) _ (by unfold Stm.ok; exact ⟨h0, t1, ob1, ob2⟩) (by unfold Stm.sat; exact ⟨t2, sb1, sb2⟩) (by simp [Stm.cnt]; omega) (by simp only [Stm.wgt, Nat.mul_add]; omega) lf8 D8 (by omega) (((f6.mono fun i hi => by simp at hi ⊢; omega).trans f7).trans f8)
            simp
            rw [show Vl.tup [Vl.str (Str.ofString "if"), tt.vl, Vl.tup (Stm.vls b1), Vl.tup (Stm.vls b2)] = (Stm.ife tt b1 b2).vl from by rw [Stm.vl], e9]
            simp
            exact q9
        · have hWi : ¬ ((T : Nat) : Int) ≤ (W' : Nat) := by omega
          have hLi : (0 : Int) < (L' : Nat) := by omega
          simp [hL, hLi, hW, hWi, lf4]
          exact skip
      · have hLi : ¬ (0 : Int) < (L' : Nat) := by omega
        simp [hL, hLi, lf4]
        exact skip
    · rintro lo s3 ⟨b, L', W', x6, x7, x8, x9, x10, rfl, ob, sb, cL, cW, bl, e3, lf3, P3, D3, F3⟩
      rw [rng_len] at D3
      have : r * (30 + 2 * Zb (nest - 1)) ≤ 30 * (30 + 2 * Zb (nest - 1)) := Nat.mul_le_mul_right _ hr
      simp [oTuple_lst e3]
      exact k b L' W' s3 ob sb cL cW lf3 P3 (D3.mono (by omega)) F3
end K06

/-! R3: programs of the F1 generator -/
namespace K06
open PySem L2 Sm
theorem freeS {s : Sto} {d l c most : Nat} {Q : Vl → Sto → Prop} {E : Ex → Sto → Prop} (D : Dk s d l c) (hm : most ≤ 100) (hc : c + Zb 5 + 5000 < CM)
    (k : ∀ (g : Nat) (b : List Stm) (p n w : Nat) (N W : List Str) (s' : Sto), g < 4 → Stm.oks g 5 b → Stm.sats Nm Wd b → Stm.cnts b ≤ most → Stm.wgts b ≤ 200 → Pl s' d l p n w N W g → Dk s' d l (c + Zb 5 + 200) → Fr [d, l] s s' → Q (.tup [.tup [.int (g : Nat), .tup (Stm.vls b)], .ref p]) s') :
    WE (m__law_free [.ref d, .int (most : Nat)]) s Q E := by
  unfold m__law_free b__law_free
  have lt0 := D.lt
  simp
  refine pool D (by omega) fun p n w N W g s1 P1 hp hn hw D1 f1 => ?_
  have lt1 := D1.lt
  have ltp := lt_of_get P1.top
  have ltn := lt_of_get P1.sn
  have ltw := lt_of_get P1.sw
  simp [P1.top]
  have f2 : Fr [] s1 (s1 ++ [Ob.lst [.int (most : Nat), .int 200]]) := Fr.refl.push _
  have e2 : (s1 ++ [Ob.lst [.int (most : Nat), .int 200]])[s1.length]? = some (.lst [.int (most : Nat), .int ((200 : Nat) : Int)]) := get_last
  have le1 := f1.le
  refine rowsS 12 _ d l _ p n w s1.length N W g 1 most 200 0 5 _ _ (by omega) (by omega) (by omega) (D1.new f2) (P1.fr0 f2) e2 (by simp; omega) (by omega) fun b L' W' s3 ob sb cL cW lf3 P3 D3 f3 => ?_
  simp
  have := k g b p n w N W s3 P1.g4 ob sb (by omega) (by omega) P3 (D3.mono (by omega)) ((f1.trans (f2.mono (by simp))).trans' f3 fun i hi => by simp at hi ⊢; omega)
  simpa using this
end K06

/-! S37: the texts of tests, statements and blocks -/
namespace Sm
open PySem L2
def nums (i : Nat) : Str := Str.ofString (toString ((i : Nat) : Int))
def Tst.txt : Tst → Str
  | .given i => "given " ++ nums i
  | .set x => "set " ++ x
  | .same x y => x ++ " is " ++ y
  | .full x f => "full " ++ x ++ "." ++ f
  | .wished w => "wished " ++ w
  | .not t => "not " ++ t.txt
def Stm.line : Stm → Str
  | .make x => "make " ++ x
  | .wish x w => "wish " ++ x ++ " " ++ w
  | .keep x => "keep " ++ x
  | .name x y => x ++ " = " ++ y
  | .drop x => "drop " ++ x
  | .hold x f y => x ++ "." ++ f ++ " = " ++ y
  | .weak x f y => x ++ "." ++ f ++ " ~ " ++ y
  | .cut x f => "cut " ++ x ++ "." ++ f
  | .take z x f => z ++ " = " ++ x ++ "." ++ f
  | .say w => "say " ++ w
  | .ask t => "ask " ++ t.txt
  | .ife t _ _ => "if " ++ t.txt
  | .rep k _ => "repeat " ++ nums k
mutual
/-- the lines of a statement -/
def Stm.lines (a : Str) : Stm → List Str
  | .ife t x y => (a ++ (Stm.ife t x y).line) :: ((match Stm.liness (a ++ "  ") x with | [] => [a ++ "  pass"] | ls => ls) ++ (match Stm.liness (a ++ "  ") y with | [] => [] | ls => (a ++ "else") :: ls))
  | .rep k x => (a ++ (Stm.rep k x).line) :: (match Stm.liness (a ++ "  ") x with | [] => [a ++ "  pass"] | ls => ls)
  | x => [a ++ x.line]
def Stm.liness (a : Str) : List Stm → List Str
  | [] => []
  | x :: xs => x.lines a ++ Stm.liness a xs
end
end Sm

/-! T1: texts of tests and statements -/
namespace K06
open PySem L2 Sm
theorem str_ext' {x y : Str} (h : x.cps.toList = y.cps.toList) : x = y := by
  cases x; cases y
  congr 1
  exact Array.toList_inj.mp h
theorem app_assoc {x y z : Str} : (x ++ y) ++ z = x ++ (y ++ z) := str_ext' (by simp [str_append])
theorem empty_app {x : Str} : Str.empty ++ x = x := str_ext' (by rw [str_append]; simp [Str.empty])
theorem nil_app {x : Str} : ("" : Str) ++ x = x := str_ext' (by
  have e : (("" : Str)).cps.toList = [] := by decide
  rw [str_append, e]
  rfl)
theorem nums_log {i : Nat} (h : i < 1000) : ((i : Nat) : Int).natAbs.log2 < 1920 := by
  have : ((i : Nat) : Int).natAbs = i := by omega
  rw [this]
  rcases Nat.eq_zero_or_pos i with z | z
  · subst z; decide
  · have := (Nat.log2_lt (by omega) (n := i) (k := 10)).mpr (by omega)
    omega
theorem nums_len {i : Nat} (h : i < 20) : (Str.ofString (Int.repr (i : Nat))).length ≤ 3 := by
  have : ∀ j : Fin 20, (Str.ofString (Int.repr ((j.val : Nat) : Int))).length ≤ 3 := by decide +kernel
  exact this ⟨i, h⟩
section
variable {s : Sto} {Q : Vl → Sto → Prop} {E : Ex → Sto → Prop}
def TI (t0 : Tst) (s0 : Sto) (g m : Nat) (lo : Lo) (s' : Sto) : Prop := ∃ (t : Tst) (x : Str), lo = [some t.vl, some (.str x)] ∧ x ++ t.txt = t0.txt ∧ t.ok g m ∧ x.length ≤ 4 * (3 - m) ∧ m ≤ 3 ∧ s' = s0
theorem testText {g : Nat} (hg : g ≤ 10) (t : Tst) (h : t.ok g 3) (k : Q (.str t.txt) s) : WE (m_test_text [t.vl]) s Q E := by
  unfold m_test_text b_test_text
  simp
  refine loopW_inv (TI t s g) 3 (by omega) ⟨t, "", rfl, nil_app, h, by decide, by omega, rfl⟩ ?_
  rintro m lo s1 ⟨u, x, rfl, hx, hu, hl, hm, rfl⟩
  cases u with
  | not u =>
    cases m with
    | zero => exact hu.elim
    | succ m =>
      have h4 : ("not " : Str).length = 4 := by decide
      have hL : x.length + ("not " : Str).length ≤ LIM := limB (by omega)
      simp [Tst.vl, opIAdd_str hL]
      refine ⟨m, by omega, u, _, rfl, ?_, hu, ?_, by omega, rfl⟩
      · rw [app_assoc]; exact hx
      · rw [len_app, h4]; omega
  | given i =>
    have hi : i < g := by cases m <;> exact hu
    have q1 := nums_log (i := i) (by omega)
    have hxL : x.length ≤ LIM := limB (by omega)
    have e1 : ("given" : Str).length = 5 := by decide
    have e2 : ("given" : Str).length ≤ LIM := limB (by omega)
    have e3 := nums_len (i := i) (by omega)
    have e4 : (" " : Str).length = 1 := by decide
    have ee : ("given" : Str) ++ (" " : Str) = "given " := by decide
    simp [Tst.vl, WE_eJnd, WE_jnd_cons, WE_jnd_nil, fmtW_str hxL, fmtW_str e2, fmtW_int q1, empty_app]
    refine ⟨hxL, limB (by simp only [len_app]; omega), limB (by simp only [len_app]; omega), limB (by simp only [len_app]; omega), ?_⟩
    have : x ++ "given" ++ " " ++ Str.ofString (Int.repr (i : Nat)) = t.txt := by rw [← hx, app_assoc (x := x), ee, app_assoc]; rfl
    rw [this]
    exact k
  | set y =>
    have hy : Nice y := by cases m <;> exact hu
    have yl := hy.len
    have hxL : x.length ≤ LIM := limB (by omega)
    have hyL : y.length ≤ LIM := limB (by omega)
    have e1 : ("set" : Str).length = 3 := by decide
    have e2 : ("set" : Str).length ≤ LIM := limB (by omega)
    have e4 : (" " : Str).length = 1 := by decide
    have ee : ("set" : Str) ++ (" " : Str) = "set " := by decide
    simp [Tst.vl, WE_eJnd, WE_jnd_cons, WE_jnd_nil, fmtW_str hxL, fmtW_str e2, fmtW_str hyL, empty_app]
    refine ⟨hxL, limB (by simp only [len_app]; omega), limB (by simp only [len_app]; omega), limB (by simp only [len_app]; omega), ?_⟩
    have : x ++ "set" ++ " " ++ y = t.txt := by rw [← hx, app_assoc (x := x), ee, app_assoc]; rfl
    rw [this]
    exact k
  | same y z =>
    have hy : Nice y ∧ Nice z := by cases m <;> exact hu
    have yl := hy.1.len
    have zl := hy.2.len
    have hxL : x.length ≤ LIM := limB (by omega)
    have hyL : y.length ≤ LIM := limB (by omega)
    have hzL : z.length ≤ LIM := limB (by omega)
    have e4 : (" is " : Str).length = 4 := by decide
    simp [Tst.vl, WE_eJnd, WE_jnd_cons, WE_jnd_nil, fmtW_str hxL, fmtW_str hzL, fmtW_str hyL, empty_app]
    refine ⟨hxL, limB (by simp only [len_app]; omega), limB (by simp only [len_app]; omega), limB (by simp only [len_app]; omega), ?_⟩
    have : x ++ y ++ " is " ++ z = t.txt := by rw [← hx, app_assoc (x := x), app_assoc]; rfl
    rw [this]
    exact k
  | full y z =>
    have hy : Nice y ∧ Nice z := by cases m <;> exact hu
    have yl := hy.1.len
    have zl := hy.2.len
    have hxL : x.length ≤ LIM := limB (by omega)
    have hyL : y.length ≤ LIM := limB (by omega)
    have hzL : z.length ≤ LIM := limB (by omega)
    have e4 : ("full " : Str).length = 5 := by decide
    have e5 : ("." : Str).length = 1 := by decide
    simp [Tst.vl, WE_eJnd, WE_jnd_cons, WE_jnd_nil, fmtW_str hxL, fmtW_str hzL, fmtW_str hyL, empty_app]
    refine ⟨hxL, limB (by simp only [len_app]; omega), limB (by simp only [len_app]; omega), limB (by simp only [len_app]; omega), limB (by simp only [len_app]; omega), ?_⟩
    have : x ++ "full " ++ y ++ "." ++ z = t.txt := by rw [← hx, app_assoc (x := x), app_assoc (x := x), app_assoc (x := x)]; rfl
    rw [this]
    exact k
  | wished y =>
    have hy : Nice y := by cases m <;> exact hu
    have yl := hy.len
    have hxL : x.length ≤ LIM := limB (by omega)
    have hyL : y.length ≤ LIM := limB (by omega)
    have e1 : ("wished" : Str).length = 6 := by decide
    have e2 : ("wished" : Str).length ≤ LIM := limB (by omega)
    have e4 : (" " : Str).length = 1 := by decide
    have ee : ("wished" : Str) ++ (" " : Str) = "wished " := by decide
    simp [Tst.vl, WE_eJnd, WE_jnd_cons, WE_jnd_nil, fmtW_str hxL, fmtW_str e2, fmtW_str hyL, empty_app]
    refine ⟨hxL, limB (by simp only [len_app]; omega), limB (by simp only [len_app]; omega), limB (by simp only [len_app]; omega), ?_⟩
    have : x ++ "wished" ++ " " ++ y = t.txt := by rw [← hx, app_assoc (x := x), ee, app_assoc]; rfl
    rw [this]
    exact k
end
end K06

/-! T2: texts of statements -/
namespace K06
open PySem L2 Sm
section
variable {s : Sto} {Q : Vl → Sto → Prop} {E : Ex → Sto → Prop}
theorem txt_len {g : Nat} (hg : g ≤ 10) : ∀ {n : Nat} {t : Tst}, t.ok g n → t.txt.length ≤ 60 + 4 * n
  | n, .given i, h => by
    have h : i < g := by cases n <;> exact h
    have := nums_len (i := i) (by omega)
    have e : ("given " : Str).length = 6 := by decide
    show ("given " ++ nums i).length ≤ _
    rw [len_app]
    have : (nums i).length ≤ 3 := this
    omega
  | n, .set x, h => by
    have h : Nice x := by cases n <;> exact h
    have e : ("set " : Str).length = 4 := by decide
    show ("set " ++ x).length ≤ _
    rw [len_app]
    have := h.len
    omega
  | n, .same x y, h => by
    have h : Nice x ∧ Nice y := by cases n <;> exact h
    have e : (" is " : Str).length = 4 := by decide
    show (x ++ " is " ++ y).length ≤ _
    rw [len_app, len_app]
    have := h.1.len
    have := h.2.len
    omega
  | n, .full x y, h => by
    have h : Nice x ∧ Nice y := by cases n <;> exact h
    have e : ("full " : Str).length = 5 := by decide
    have e2 : ("." : Str).length = 1 := by decide
    show ("full " ++ x ++ "." ++ y).length ≤ _
    rw [len_app, len_app, len_app]
    have := h.1.len
    have := h.2.len
    omega
  | n, .wished x, h => by
    have h : Nice x := by cases n <;> exact h
    have e : ("wished " : Str).length = 7 := by decide
    show ("wished " ++ x).length ≤ _
    rw [len_app]
    have := h.len
    omega
  | 0, .not t, h => h.elim
  | n + 1, .not t, h => by
    have := txt_len hg (n := n) (t := t) h
    have e : ("not " : Str).length = 4 := by decide
    show ("not " ++ t.txt).length ≤ _
    rw [len_app]
    omega
theorem stmText {g n : Nat} (hg : g ≤ 10) (x : Stm) (h : x.ok g n) (k : Q (.str x.line) s) : WE (m_statement_text [x.vl]) s Q E := by
  unfold m_statement_text b_statement_text
  cases x with
  | make x =>
    unfold Stm.ok at h
    have l_x := h.len
    have L_x : x.length ≤ LIM := limB (by omega)
    have n_0 : ("make" : Str).length = 4 := by decide
    have M_0 : ("make" : Str).length ≤ LIM := limB (by omega)
    have n_1 : (" " : Str).length = 1 := by decide
    have M_1 : (" " : Str).length ≤ LIM := limB (by omega)
    simp [Stm.vl, WE_eJnd, WE_jnd_cons, WE_jnd_nil, fmtW_str L_x, fmtW_str M_0, fmtW_str M_1, empty_app]
    refine ⟨M_0, limB (by simp only [len_app]; omega), limB (by simp only [len_app]; omega), ?_⟩
    have ee : ("make" : Str) ++ (" " : Str) = "make " := by decide
    have : ("make" : Str) ++ " " ++ x = (Stm.make x).line := by rw [ee]; rfl
    rw [this]
    exact k
  | wish x w =>
    unfold Stm.ok at h
    have l_x := h.1.len
    have l_w := h.2.len
    have L_x : x.length ≤ LIM := limB (by omega)
    have L_w : w.length ≤ LIM := limB (by omega)
    have n_0 : ("wish " : Str).length = 5 := by decide
    have M_0 : ("wish " : Str).length ≤ LIM := limB (by omega)
    have n_1 : (" " : Str).length = 1 := by decide
    have M_1 : (" " : Str).length ≤ LIM := limB (by omega)
    simp [Stm.vl, WE_eJnd, WE_jnd_cons, WE_jnd_nil, fmtW_str L_x, fmtW_str L_w, fmtW_str M_0, fmtW_str M_1, empty_app]
    refine ⟨M_0, limB (by simp only [len_app]; omega), limB (by simp only [len_app]; omega), limB (by simp only [len_app]; omega), ?_⟩
    have : ("wish " : Str) ++ x ++ " " ++ w = (Stm.wish x w).line := rfl
    rw [this]
    exact k
  | keep x =>
    unfold Stm.ok at h
    have l_x := h.len
    have L_x : x.length ≤ LIM := limB (by omega)
    have n_0 : ("keep" : Str).length = 4 := by decide
    have M_0 : ("keep" : Str).length ≤ LIM := limB (by omega)
    have n_1 : (" " : Str).length = 1 := by decide
    have M_1 : (" " : Str).length ≤ LIM := limB (by omega)
    simp [Stm.vl, WE_eJnd, WE_jnd_cons, WE_jnd_nil, fmtW_str L_x, fmtW_str M_0, fmtW_str M_1, empty_app]
    refine ⟨M_0, limB (by simp only [len_app]; omega), limB (by simp only [len_app]; omega), ?_⟩
    have ee : ("keep" : Str) ++ (" " : Str) = "keep " := by decide
    have : ("keep" : Str) ++ " " ++ x = (Stm.keep x).line := by rw [ee]; rfl
    rw [this]
    exact k
  | name x y =>
    unfold Stm.ok at h
    have l_x := h.1.len
    have l_y := h.2.len
    have L_x : x.length ≤ LIM := limB (by omega)
    have L_y : y.length ≤ LIM := limB (by omega)
    have n_0 : (" = " : Str).length = 3 := by decide
    have M_0 : (" = " : Str).length ≤ LIM := limB (by omega)
    simp [Stm.vl, WE_eJnd, WE_jnd_cons, WE_jnd_nil, fmtW_str L_x, fmtW_str L_y, fmtW_str M_0, empty_app]
    refine ⟨L_x, limB (by simp only [len_app]; omega), limB (by simp only [len_app]; omega), ?_⟩
    have : x ++ " = " ++ y = (Stm.name x y).line := rfl
    rw [this]
    exact k
  | drop x =>
    unfold Stm.ok at h
    have l_x := h.len
    have L_x : x.length ≤ LIM := limB (by omega)
    have n_0 : ("drop" : Str).length = 4 := by decide
    have M_0 : ("drop" : Str).length ≤ LIM := limB (by omega)
    have n_1 : (" " : Str).length = 1 := by decide
    have M_1 : (" " : Str).length ≤ LIM := limB (by omega)
    simp [Stm.vl, WE_eJnd, WE_jnd_cons, WE_jnd_nil, fmtW_str L_x, fmtW_str M_0, fmtW_str M_1, empty_app]
    refine ⟨M_0, limB (by simp only [len_app]; omega), limB (by simp only [len_app]; omega), ?_⟩
    have ee : ("drop" : Str) ++ (" " : Str) = "drop " := by decide
    have : ("drop" : Str) ++ " " ++ x = (Stm.drop x).line := by rw [ee]; rfl
    rw [this]
    exact k
  | hold x f y =>
    unfold Stm.ok at h
    have l_x := h.1.len
    have l_f := h.2.1.len
    have l_y := h.2.2.len
    have L_x : x.length ≤ LIM := limB (by omega)
    have L_f : f.length ≤ LIM := limB (by omega)
    have L_y : y.length ≤ LIM := limB (by omega)
    have n_0 : ("." : Str).length = 1 := by decide
    have M_0 : ("." : Str).length ≤ LIM := limB (by omega)
    have n_1 : (" " : Str).length = 1 := by decide
    have M_1 : (" " : Str).length ≤ LIM := limB (by omega)
    have n_2 : ("=" : Str).length = 1 := by decide
    have M_2 : ("=" : Str).length ≤ LIM := limB (by omega)
    simp [Stm.vl, WE_eJnd, WE_jnd_cons, WE_jnd_nil, fmtW_str L_x, fmtW_str L_f, fmtW_str L_y, fmtW_str M_0, fmtW_str M_1, fmtW_str M_2, empty_app]
    refine ⟨L_x, limB (by simp only [len_app]; omega), limB (by simp only [len_app]; omega), limB (by simp only [len_app]; omega), limB (by simp only [len_app]; omega), limB (by simp only [len_app]; omega), limB (by simp only [len_app]; omega), ?_⟩
    have ee : (" " : Str) ++ (("=" : Str) ++ (" " : Str)) = " = " := by decide
    have : x ++ "." ++ f ++ " " ++ "=" ++ " " ++ y = (Stm.hold x f y).line := by rw [app_assoc (x := x ++ "." ++ f), app_assoc (x := x ++ "." ++ f), app_assoc (x := (" " : Str)), ee]; rfl
    rw [this]
    exact k
  | weak x f y =>
    unfold Stm.ok at h
    have l_x := h.1.len
    have l_f := h.2.1.len
    have l_y := h.2.2.len
    have L_x : x.length ≤ LIM := limB (by omega)
    have L_f : f.length ≤ LIM := limB (by omega)
    have L_y : y.length ≤ LIM := limB (by omega)
    have n_0 : ("." : Str).length = 1 := by decide
    have M_0 : ("." : Str).length ≤ LIM := limB (by omega)
    have n_1 : (" " : Str).length = 1 := by decide
    have M_1 : (" " : Str).length ≤ LIM := limB (by omega)
    have n_2 : ("~" : Str).length = 1 := by decide
    have M_2 : ("~" : Str).length ≤ LIM := limB (by omega)
    simp [Stm.vl, WE_eJnd, WE_jnd_cons, WE_jnd_nil, fmtW_str L_x, fmtW_str L_f, fmtW_str L_y, fmtW_str M_0, fmtW_str M_1, fmtW_str M_2, empty_app]
    refine ⟨L_x, limB (by simp only [len_app]; omega), limB (by simp only [len_app]; omega), limB (by simp only [len_app]; omega), limB (by simp only [len_app]; omega), limB (by simp only [len_app]; omega), limB (by simp only [len_app]; omega), ?_⟩
    have ee : (" " : Str) ++ (("~" : Str) ++ (" " : Str)) = " ~ " := by decide
    have : x ++ "." ++ f ++ " " ++ "~" ++ " " ++ y = (Stm.weak x f y).line := by rw [app_assoc (x := x ++ "." ++ f), app_assoc (x := x ++ "." ++ f), app_assoc (x := (" " : Str)), ee]; rfl
    rw [this]
    exact k
  | cut x f =>
    unfold Stm.ok at h
    have l_x := h.1.len
    have l_f := h.2.len
    have L_x : x.length ≤ LIM := limB (by omega)
    have L_f : f.length ≤ LIM := limB (by omega)
    have n_0 : ("cut " : Str).length = 4 := by decide
    have M_0 : ("cut " : Str).length ≤ LIM := limB (by omega)
    have n_1 : ("." : Str).length = 1 := by decide
    have M_1 : ("." : Str).length ≤ LIM := limB (by omega)
    simp [Stm.vl, WE_eJnd, WE_jnd_cons, WE_jnd_nil, fmtW_str L_x, fmtW_str L_f, fmtW_str M_0, fmtW_str M_1, empty_app]
    refine ⟨M_0, limB (by simp only [len_app]; omega), limB (by simp only [len_app]; omega), limB (by simp only [len_app]; omega), ?_⟩
    have : ("cut " : Str) ++ x ++ "." ++ f = (Stm.cut x f).line := rfl
    rw [this]
    exact k
  | take z x f =>
    unfold Stm.ok at h
    have l_z := h.1.len
    have l_x := h.2.1.len
    have l_f := h.2.2.len
    have L_z : z.length ≤ LIM := limB (by omega)
    have L_x : x.length ≤ LIM := limB (by omega)
    have L_f : f.length ≤ LIM := limB (by omega)
    have n_0 : (" = " : Str).length = 3 := by decide
    have M_0 : (" = " : Str).length ≤ LIM := limB (by omega)
    have n_1 : ("." : Str).length = 1 := by decide
    have M_1 : ("." : Str).length ≤ LIM := limB (by omega)
    simp [Stm.vl, WE_eJnd, WE_jnd_cons, WE_jnd_nil, fmtW_str L_z, fmtW_str L_x, fmtW_str L_f, fmtW_str M_0, fmtW_str M_1, empty_app]
    refine ⟨L_z, limB (by simp only [len_app]; omega), limB (by simp only [len_app]; omega), limB (by simp only [len_app]; omega), limB (by simp only [len_app]; omega), ?_⟩
    have : z ++ " = " ++ x ++ "." ++ f = (Stm.take z x f).line := rfl
    rw [this]
    exact k
  | say w =>
    unfold Stm.ok at h
    have l_w := h.len
    have L_w : w.length ≤ LIM := limB (by omega)
    have n_0 : ("say" : Str).length = 3 := by decide
    have M_0 : ("say" : Str).length ≤ LIM := limB (by omega)
    have n_1 : (" " : Str).length = 1 := by decide
    have M_1 : (" " : Str).length ≤ LIM := limB (by omega)
    simp [Stm.vl, WE_eJnd, WE_jnd_cons, WE_jnd_nil, fmtW_str L_w, fmtW_str M_0, fmtW_str M_1, empty_app]
    refine ⟨M_0, limB (by simp only [len_app]; omega), limB (by simp only [len_app]; omega), ?_⟩
    have ee : ("say" : Str) ++ (" " : Str) = "say " := by decide
    have : ("say" : Str) ++ " " ++ w = (Stm.say w).line := by rw [ee]; rfl
    rw [this]
    exact k
  | ask t =>
    unfold Stm.ok at h
    have tl := txt_len hg h
    have T_ : t.txt.length ≤ LIM := limB (by omega)
    have n0 : ("ask" : Str).length = 3 := by decide
    have n1 : (" " : Str).length = 1 := by decide
    have M0 : ("ask" : Str).length ≤ LIM := limB (by omega)
    simp [Stm.vl, WE_eJnd, WE_jnd_cons, WE_jnd_nil, fmtW_str M0, empty_app]
    refine ⟨M0, limB (by simp only [len_app]; omega), testText hg t h ?_⟩
    simp [fmtW_str T_, WE_jnd_nil]
    refine ⟨limB (by simp only [len_app]; omega), ?_⟩
    have ee : ("ask" : Str) ++ (" " : Str) = "ask " := by decide
    have : ("ask" : Str) ++ " " ++ t.txt = (Stm.ask t).line := by rw [ee]; rfl
    rw [this]
    exact k
  | ife t a b =>
    unfold Stm.ok at h
    have tl := txt_len hg h.2.1
    have T_ : t.txt.length ≤ LIM := limB (by omega)
    have n0 : ("if" : Str).length = 2 := by decide
    have n1 : (" " : Str).length = 1 := by decide
    have M0 : ("if" : Str).length ≤ LIM := limB (by omega)
    simp [Stm.vl, WE_eJnd, WE_jnd_cons, WE_jnd_nil, fmtW_str M0, empty_app]
    refine ⟨M0, limB (by simp only [len_app]; omega), testText hg t h.2.1 ?_⟩
    simp [fmtW_str T_, WE_jnd_nil]
    refine ⟨limB (by simp only [len_app]; omega), ?_⟩
    have ee : ("if" : Str) ++ (" " : Str) = "if " := by decide
    have : ("if" : Str) ++ " " ++ t.txt = (Stm.ife t a b).line := by rw [ee]; rfl
    rw [this]
    exact k
  | rep m b =>
    unfold Stm.ok at h
    have q1 := nums_log (i := m) (by omega)
    have e3 := nums_len (i := m) (by omega)
    have n0 : ("repeat" : Str).length = 6 := by decide
    have n1 : (" " : Str).length = 1 := by decide
    have M0 : ("repeat" : Str).length ≤ LIM := limB (by omega)
    simp [Stm.vl, WE_eJnd, WE_jnd_cons, WE_jnd_nil, fmtW_str M0, fmtW_int q1, empty_app]
    refine ⟨M0, limB (by simp only [len_app]; omega), limB (by simp only [len_app]; omega), ?_⟩
    have ee : ("repeat" : Str) ++ (" " : Str) = "repeat " := by decide
    have : ("repeat" : Str) ++ " " ++ Str.ofString (Int.repr (m : Nat)) = (Stm.rep m b).line := by rw [ee]; rfl
    rw [this]
    exact k
end
end K06

/-! S38: values that can be laid out (==); short loops unrolled; lines -/
namespace Sm
open PySem L2
def La (n : Nat) (v : Vl) : Prop := ∃ d : PyData, (∀ s m, n ≤ m → toD m s v = some d) ∧ d.canLay0 = true
theorem La.mono {n m : Nat} {v : Vl} (h : La n v) (h1 : n ≤ m) : La m v := by
  obtain ⟨d, a, b⟩ := h
  exact ⟨d, fun s k hk => a s k (Nat.le_trans h1 hk), b⟩
theorem La.int {i : Int} : La 1 (.int i) := by
  refine ⟨.int i, fun s m hm => ?_, rfl⟩
  obtain ⟨m, rfl⟩ : ∃ k, m = k + 1 := ⟨m - 1, by omega⟩
  rfl
theorem La.str {x : Str} (h : PyData.strOk x = true) : La 1 (.str x) := by
  refine ⟨.str x, fun s m hm => ?_, h⟩
  obtain ⟨m, rfl⟩ : ∃ k, m = k + 1 := ⟨m - 1, by omega⟩
  rfl
theorem La.lit {x : Str} (h : (x.cps.toList.all fun c => decide (c < 128)) = true := by decide) : La 1 (.str x) := La.str (by
  unfold PyData.strOk
  rw [← Array.all_toList, List.all_eq_true]
  intro c hc
  have := of_decide_eq_true (List.all_eq_true.mp h c hc)
  exact decide_eq_true (by omega))
theorem Nice.la {x : Str} (h : Nice x) : La 1 (.str x) := La.str h.strOk
theorem La.all {n : Nat} : ∀ {xs : List Vl}, (∀ x ∈ xs, La n x) → ∃ ds : List PyData, (∀ s m, n ≤ m → mapO (toD m s) xs = some ds) ∧ PyData.canLayAll0 ds = true
  | [], _ => ⟨[], fun _ _ _ => rfl, rfl⟩
  | x :: xs, h => by
    obtain ⟨d, a, b⟩ := h x (List.mem_cons_self ..)
    obtain ⟨ds, a', b'⟩ := La.all fun y hy => h y (List.mem_cons_of_mem _ hy)
    refine ⟨d :: ds, fun s m hm => ?_, ?_⟩
    · simp only [mapO, a s m hm, a' s m hm]
    · simp only [PyData.canLayAll0, b, b', Bool.and_self]
theorem La.tup {n : Nat} {xs : List Vl} (h : ∀ x ∈ xs, La n x) : La (n + 1) (.tup xs) := by
  obtain ⟨ds, a, b⟩ := La.all h
  refine ⟨.tuple ds, fun s m hm => ?_, ?_⟩
  · obtain ⟨m, rfl⟩ : ∃ k, m = k + 1 := ⟨m - 1, by omega⟩
    simp only [toD, a s m (by omega), Option.map]
  · simpa only [PyData.canLay0] using b
theorem La.tup2 {n : Nat} {a b : Vl} (h1 : La n a) (h2 : La n b) : La (n + 1) (.tup [a, b]) := La.tup fun x hx => by
  simp at hx; rcases hx with rfl | rfl <;> assumption
theorem La.tup3 {n : Nat} {a b c : Vl} (h1 : La n a) (h2 : La n b) (h3 : La n c) : La (n + 1) (.tup [a, b, c]) := La.tup fun x hx => by
  simp at hx; rcases hx with rfl | rfl | rfl <;> assumption
theorem La.tup4 {n : Nat} {a b c d : Vl} (h1 : La n a) (h2 : La n b) (h3 : La n c) (h4 : La n d) : La (n + 1) (.tup [a, b, c, d]) := La.tup fun x hx => by
  simp at hx; rcases hx with rfl | rfl | rfl | rfl <;> assumption
theorem isEmpty_map0 {xs : List Vl} {ds : List PyData} {f : Vl → Option PyData} (h : mapO f xs = some ds) : ds.isEmpty = xs.isEmpty := by
  cases xs with
  | nil => cases h; rfl
  | cons x xs =>
    unfold mapO at h
    cases q : f x with
    | none => simp only [q] at h; cases h
    | some d =>
      simp only [q] at h
      cases q2 : mapO f xs with
      | none => simp only [q2] at h; cases h
      | some r => simp only [q2] at h; cases h; rfl
theorem eqM_tup0 {s : Sto} {n : Nat} {xs : List Vl} (h : ∀ x ∈ xs, La n x) (hn : n ≤ 39) : eqM (.tup xs) (.tup []) s = some xs.isEmpty := by
  obtain ⟨ds, a, b⟩ := La.all h
  have a := a s 39 hn
  have e1 : toD 40 s (.tup xs) = some (.tuple ds) := by unfold toD; simp only [a, Option.map]
  have e2 : toD 40 s (.tup []) = some (.tuple []) := rfl
  have e3 : PyData.canLay0 (.tuple ds) = true := by simpa only [PyData.canLay0] using b
  have e4 : PyData.canLay0 (.tuple []) = true := rfl
  simp only [eqM, eqS, e1, e2, e3, e4, Bool.and_self, if_true, PyData.eqv]
  rw [← isEmpty_map0 a]
  cases ds <;> simp [PyData.eqvAll]
theorem opEq_tup0 {s : Sto} {n : Nat} {xs : List Vl} (h : ∀ x ∈ xs, La n x) (hn : n ≤ 39) : opEq (.tup xs) (.tup []) s = some (.bl xs.isEmpty, s) := by
  simp only [opEq, eqM_tup0 h hn]
theorem opNe_tup0 {s : Sto} {n : Nat} {xs : List Vl} (h : ∀ x ∈ xs, La n x) (hn : n ≤ 39) : opNe (.tup xs) (.tup []) s = some (.bl (!xs.isEmpty), s) := by
  simp only [opNe, eqM_tup0 h hn]
theorem eqM_lst0 {s : Sto} {n a b : Nat} {xs : List Vl} (h1 : s[a]? = some (.lst xs)) (h2 : s[b]? = some (.lst [])) (h : ∀ x ∈ xs, La n x) (hn : n ≤ 39) : eqM (.ref a) (.ref b) s = some xs.isEmpty := by
  obtain ⟨ds, q, r⟩ := La.all h
  exact eqM_lstN h1 h2 (q s 39 hn) r
theorem opEq_lst0 {s : Sto} {n a b : Nat} {xs : List Vl} (h1 : s[a]? = some (.lst xs)) (h2 : s[b]? = some (.lst [])) (h : ∀ x ∈ xs, La n x) (hn : n ≤ 39) : opEq (.ref a) (.ref b) s = some (.bl xs.isEmpty, s) := by
  simp only [opEq, eqM_lst0 h1 h2 h hn]
theorem opNe_lst0 {s : Sto} {n a b : Nat} {xs : List Vl} (h1 : s[a]? = some (.lst xs)) (h2 : s[b]? = some (.lst [])) (h : ∀ x ∈ xs, La n x) (hn : n ≤ 39) : opNe (.ref a) (.ref b) s = some (.bl (!xs.isEmpty), s) := by
  simp only [opNe, eqM_lst0 h1 h2 h hn]
theorem Tst.la {g : Nat} : ∀ {n : Nat} {t : Tst}, t.ok g n → La (2 + n) t.vl
  | n, .given i, h => (La.tup2 La.lit La.int).mono (by omega)
  | n, .set x, h => by
    have h : Nice x := by cases n <;> exact h
    exact (La.tup2 La.lit h.la).mono (by omega)
  | n, .same x y, h => by
    have h : Nice x ∧ Nice y := by cases n <;> exact h
    exact (La.tup3 La.lit h.1.la h.2.la).mono (by omega)
  | n, .full x y, h => by
    have h : Nice x ∧ Nice y := by cases n <;> exact h
    exact (La.tup3 La.lit h.1.la h.2.la).mono (by omega)
  | n, .wished x, h => by
    have h : Nice x := by cases n <;> exact h
    exact (La.tup2 La.lit h.la).mono (by omega)
  | n + 1, .not t, h => by
    have ih := Tst.la (n := n) (t := t) h
    exact (La.tup2 (La.mono La.lit (by omega)) ih).mono (by omega)
  | 0, .not t, h => h.elim
mutual
theorem Stm.la {g : Nat} : ∀ {n : Nat} {x : Stm}, x.ok g n → La (6 + 2 * n) x.vl
  | n, .make x, h => by unfold Stm.ok at h; unfold Stm.vl; exact (La.tup2 La.lit h.la).mono (by omega)
  | n, .wish x w, h => by unfold Stm.ok at h; unfold Stm.vl; exact (La.tup3 La.lit h.1.la h.2.la).mono (by omega)
  | n, .keep x, h => by unfold Stm.ok at h; unfold Stm.vl; exact (La.tup2 La.lit h.la).mono (by omega)
  | n, .name x y, h => by unfold Stm.ok at h; unfold Stm.vl; exact (La.tup3 La.lit h.1.la h.2.la).mono (by omega)
  | n, .drop x, h => by unfold Stm.ok at h; unfold Stm.vl; exact (La.tup2 La.lit h.la).mono (by omega)
  | n, .hold x f y, h => by unfold Stm.ok at h; unfold Stm.vl; exact (La.tup4 La.lit h.1.la h.2.1.la h.2.2.la).mono (by omega)
  | n, .weak x f y, h => by unfold Stm.ok at h; unfold Stm.vl; exact (La.tup4 La.lit h.1.la h.2.1.la h.2.2.la).mono (by omega)
  | n, .cut x f, h => by unfold Stm.ok at h; unfold Stm.vl; exact (La.tup3 La.lit h.1.la h.2.la).mono (by omega)
  | n, .take z x f, h => by unfold Stm.ok at h; unfold Stm.vl; exact (La.tup4 La.lit h.1.la h.2.1.la h.2.2.la).mono (by omega)
  | n, .say w, h => by unfold Stm.ok at h; unfold Stm.vl; exact (La.tup2 La.lit h.la).mono (by omega)
  | n, .ask t, h => by
    unfold Stm.ok at h; unfold Stm.vl
    exact (La.tup2 (La.mono La.lit (show 1 ≤ 5 by omega)) (Tst.la h)).mono (by omega)
  | n, .ife t a b, h => by
    unfold Stm.ok at h; unfold Stm.vl
    have h1 : La (6 + 2 * (n - 1) + 1) (.tup (Stm.vls a)) := La.tup (Stm.lam h.2.2.1)
    have h2 : La (6 + 2 * (n - 1) + 1) (.tup (Stm.vls b)) := La.tup (Stm.lam h.2.2.2)
    have h3 := Tst.la h.2.1
    have e : 6 + 2 * (n - 1) + 1 = 5 + 2 * n := by omega
    rw [e] at h1 h2
    exact (La.tup4 (La.mono La.lit (show 1 ≤ 5 + 2 * n by omega)) (h3.mono (by omega)) h1 h2).mono (by omega)
  | n, .rep k b, h => by
    unfold Stm.ok at h; unfold Stm.vl
    have h1 : La (6 + 2 * (n - 1) + 1) (.tup (Stm.vls b)) := La.tup (Stm.lam h.2.2)
    have e : 6 + 2 * (n - 1) + 1 = 5 + 2 * n := by omega
    rw [e] at h1
    exact (La.tup3 (La.mono La.lit (show 1 ≤ 5 + 2 * n by omega)) (La.int.mono (show 1 ≤ 5 + 2 * n by omega)) h1).mono (by omega)
theorem Stm.lam {g : Nat} : ∀ {n : Nat} {xs : List Stm}, Stm.oks g n xs → ∀ v ∈ Stm.vls xs, La (6 + 2 * n) v
  | n, [], _, v, hv => by simp [Stm.vls] at hv
  | n, x :: xs, h, v, hv => by
    simp only [Stm.vls, List.mem_cons] at hv
    rcases hv with rfl | hv
    · exact Stm.la h.1
    · exact Stm.lam h.2 v hv
end
theorem Stm.las {g n : Nat} {xs : List Stm} (h : Stm.oks g n xs) : La (7 + 2 * n) (blk xs) := (La.tup (Stm.lam h)).mono (by omega)
/-! ### short loops -/
section
variable {s : Sto} {lo : Lo} {K : RK} {g : GM} {b : SM}
theorem WS_loopX_nil : WS (loopX g b []) lo s K = K.nx lo s := by simp only [WS_eq]; rfl
theorem WS_loopX_cons {v : Vl} {vs : List Vl} : WS (loopX g b (v :: vs)) lo s K = WG g v lo s (fun lo s => WS b lo s ⟨fun lo s => WS (loopX g b vs) lo s K, K.rt, K.nx, fun lo s => WS (loopX g b vs) lo s K, K.ex⟩) (fun e s => K.ex e lo s) := by
  simp only [WS_eq, WG_eq, WE_eq]
  unfold WS0 WE0
  have e : loopX g b (v :: vs) lo s = match g v lo s with | .ok lo' s' => (match b lo' s' with | .nx lo2 s2 => loopX g b vs lo2 s2 | .ct lo2 s2 => loopX g b vs lo2 s2 | .bk lo2 s2 => .nx lo2 s2 | .rt v s2 => .rt v s2 | .exc z lo2 s2 => .exc z lo2 s2 | .fail => .fail) | .exc z s' => .exc z lo s' | .fail => .fail := by
    conv => lhs; unfold loopX
    cases g v lo s with
    | fail => rfl
    | exc z s' => rfl
    | ok lo' s' => rfl
  rw [e]
  cases g v lo s with
  | fail => rfl
  | exc z s' => rfl
  | ok lo' s' =>
    simp only [WS_eq]
    cases b lo' s' <;> rfl
theorem WO_addS {x y : Str} {Q : Vl → Sto → Prop} : WO (opAdd (.str x) (.str y) s) Q = (x.length + y.length ≤ LIM ∧ Q (.str (x ++ y)) s) := by
  by_cases h : x.length + y.length ≤ LIM
  · rw [opAdd_str h, WO_some]; exact propext ⟨fun z => ⟨h, z⟩, fun z => z.2⟩
  · have : opAdd (.str x) (.str y) s = none := by simp only [opAdd, if_neg h]
    rw [this, WO_none]; exact propext ⟨fun z => z.elim, fun z => h z.1⟩
end
section
variable {s : Sto} {xs : List Vl} {x : Str} {i : Int} {k : Bool}
@[simp] theorem oIsi_tup_tuple : oIsi [.tup xs, .ty "tuple"] s = some (.bl true, s) := rfl
@[simp] theorem oIsi_tup_str : oIsi [.tup xs, .ty "str"] s = some (.bl false, s) := rfl
@[simp] theorem oIsi_tup_int : oIsi [.tup xs, .ty "int"] s = some (.bl false, s) := rfl
@[simp] theorem oIsi_tup_bool : oIsi [.tup xs, .ty "bool"] s = some (.bl false, s) := rfl
@[simp] theorem oIsi_tup_list : oIsi [.tup xs, .ty "list"] s = some (.bl false, s) := rfl
@[simp] theorem oIsi_tup_dict : oIsi [.tup xs, .ty "dict"] s = some (.bl false, s) := rfl
@[simp] theorem oIsi_str_tuple : oIsi [.str x, .ty "tuple"] s = some (.bl false, s) := rfl
@[simp] theorem oIsi_str_str : oIsi [.str x, .ty "str"] s = some (.bl true, s) := rfl
@[simp] theorem oIsi_str_int : oIsi [.str x, .ty "int"] s = some (.bl false, s) := rfl
@[simp] theorem oIsi_str_bool : oIsi [.str x, .ty "bool"] s = some (.bl false, s) := rfl
@[simp] theorem oIsi_str_list : oIsi [.str x, .ty "list"] s = some (.bl false, s) := rfl
@[simp] theorem oIsi_str_dict : oIsi [.str x, .ty "dict"] s = some (.bl false, s) := rfl
@[simp] theorem oIsi_int_tuple : oIsi [.int i, .ty "tuple"] s = some (.bl false, s) := rfl
@[simp] theorem oIsi_int_str : oIsi [.int i, .ty "str"] s = some (.bl false, s) := rfl
@[simp] theorem oIsi_int_int : oIsi [.int i, .ty "int"] s = some (.bl true, s) := rfl
@[simp] theorem oIsi_int_bool : oIsi [.int i, .ty "bool"] s = some (.bl false, s) := rfl
@[simp] theorem oIsi_int_list : oIsi [.int i, .ty "list"] s = some (.bl false, s) := rfl
@[simp] theorem oIsi_int_dict : oIsi [.int i, .ty "dict"] s = some (.bl false, s) := rfl
@[simp] theorem oIsi_bl_tuple : oIsi [.bl k, .ty "tuple"] s = some (.bl false, s) := rfl
@[simp] theorem oIsi_bl_str : oIsi [.bl k, .ty "str"] s = some (.bl false, s) := rfl
@[simp] theorem oIsi_bl_int : oIsi [.bl k, .ty "int"] s = some (.bl true, s) := rfl
@[simp] theorem oIsi_bl_bool : oIsi [.bl k, .ty "bool"] s = some (.bl true, s) := rfl
@[simp] theorem oIsi_bl_list : oIsi [.bl k, .ty "list"] s = some (.bl false, s) := rfl
@[simp] theorem oIsi_bl_dict : oIsi [.bl k, .ty "dict"] s = some (.bl false, s) := rfl
@[simp] theorem oIsi_non_tuple : oIsi [.non, .ty "tuple"] s = some (.bl false, s) := rfl
@[simp] theorem oIsi_non_str : oIsi [.non, .ty "str"] s = some (.bl false, s) := rfl
@[simp] theorem oIsi_non_int : oIsi [.non, .ty "int"] s = some (.bl false, s) := rfl
@[simp] theorem oIsi_non_bool : oIsi [.non, .ty "bool"] s = some (.bl false, s) := rfl
@[simp] theorem oIsi_non_list : oIsi [.non, .ty "list"] s = some (.bl false, s) := rfl
@[simp] theorem oIsi_non_dict : oIsi [.non, .ty "dict"] s = some (.bl false, s) := rfl
end
/-! ### lines -/
def padL (a : Str) (p : List Stm) : List Str := match Stm.liness (a ++ "  ") p with | [] => [a ++ "  pass"] | ls => ls
def elsL (a : Str) (p : List Stm) : List Str := match Stm.liness (a ++ "  ") p with | [] => [] | ls => (a ++ "else") :: ls
theorem Stm.lines_eq (a : Str) (x : Stm) : x.lines a = (a ++ x.line) :: (match x.ins with | [] => [] | [p] => padL a p | p :: q :: _ => padL a p ++ elsL a q) := by
  cases x
  case ife t p q => simp only [Stm.lines, Stm.ins, padL, elsL] <;> cases Stm.liness (a ++ "  ") p <;> cases Stm.liness (a ++ "  ") q <;> rfl
  case rep k p => simp only [Stm.lines, Stm.ins, padL, elsL] <;> cases Stm.liness (a ++ "  ") p <;> rfl
  all_goals simp [Stm.lines, Stm.ins]
theorem Stm.liness_app {a : Str} : ∀ xs ys : List Stm, Stm.liness a (xs ++ ys) = Stm.liness a xs ++ Stm.liness a ys
  | [], ys => by simp [Stm.liness]
  | x :: xs, ys => by simp only [List.cons_append, Stm.liness, Stm.liness_app xs ys, List.append_assoc]
theorem Stm.lines_ne {a : Str} {x : Stm} : x.lines a ≠ [] := by rw [Stm.lines_eq]; simp
theorem Stm.liness_nil {a : Str} {b : List Stm} : Stm.liness a b = [] ↔ b = [] := by
  cases b with
  | nil => simp [Stm.liness]
  | cons x b => simp [Stm.liness, Stm.lines_ne]
theorem padL_nil {a : Str} : padL a [] = [a ++ "  pass"] := by simp [padL, Stm.liness]
theorem padL_ne {a : Str} {p : List Stm} (h : p ≠ []) : padL a p = Stm.liness (a ++ "  ") p := by
  unfold padL
  cases q : Stm.liness (a ++ "  ") p with
  | nil => exact absurd (Stm.liness_nil.mp q) h
  | cons _ _ => rfl
theorem elsL_nil {a : Str} : elsL a [] = [] := by simp [elsL, Stm.liness]
theorem elsL_ne {a : Str} {p : List Stm} (h : p ≠ []) : elsL a p = (a ++ "else") :: Stm.liness (a ++ "  ") p := by
  unfold elsL
  cases q : Stm.liness (a ++ "  ") p with
  | nil => exact absurd (Stm.liness_nil.mp q) h
  | cons _ _ => rfl
end Sm

/-! T3: texts of blocks and programs -/
namespace K06
open PySem L2 Sm
theorem line_len {g n : Nat} (hg : g ≤ 10) {x : Stm} (h : x.ok g n) : x.line.length ≤ 100 := by
  cases x with
  | make x =>
    unfold Stm.ok at h
    have := h.len
    have e : ("make " : Str).length = 5 := by decide
    simp only [Stm.line, len_app]; omega
  | wish x w =>
    unfold Stm.ok at h
    have := h.1.len
    have := h.2.len
    have e : ("wish " : Str).length = 5 := by decide
    have e2 : (" " : Str).length = 1 := by decide
    simp only [Stm.line, len_app]; omega
  | keep x =>
    unfold Stm.ok at h
    have := h.len
    have e : ("keep " : Str).length = 5 := by decide
    simp only [Stm.line, len_app]; omega
  | name x w =>
    unfold Stm.ok at h
    have := h.1.len
    have := h.2.len
    have e : (" = " : Str).length = 3 := by decide
    simp only [Stm.line, len_app]; omega
  | drop x =>
    unfold Stm.ok at h
    have := h.len
    have e : ("drop " : Str).length = 5 := by decide
    simp only [Stm.line, len_app]; omega
  | hold x f y =>
    unfold Stm.ok at h
    have := h.1.len
    have := h.2.1.len
    have := h.2.2.len
    have e : (" = " : Str).length = 3 := by decide
    have e2 : ("." : Str).length = 1 := by decide
    simp only [Stm.line, len_app]; omega
  | weak x f y =>
    unfold Stm.ok at h
    have := h.1.len
    have := h.2.1.len
    have := h.2.2.len
    have e : (" ~ " : Str).length = 3 := by decide
    have e2 : ("." : Str).length = 1 := by decide
    simp only [Stm.line, len_app]; omega
  | cut x f =>
    unfold Stm.ok at h
    have := h.1.len
    have := h.2.len
    have e : ("cut " : Str).length = 4 := by decide
    have e2 : ("." : Str).length = 1 := by decide
    simp only [Stm.line, len_app]; omega
  | take z x f =>
    unfold Stm.ok at h
    have := h.1.len
    have := h.2.1.len
    have := h.2.2.len
    have e : (" = " : Str).length = 3 := by decide
    have e2 : ("." : Str).length = 1 := by decide
    simp only [Stm.line, len_app]; omega
  | say w =>
    unfold Stm.ok at h
    have := h.len
    have e : ("say " : Str).length = 4 := by decide
    simp only [Stm.line, len_app]; omega
  | ask t =>
    unfold Stm.ok at h
    have := txt_len hg h
    have e : ("ask " : Str).length = 4 := by decide
    simp only [Stm.line, len_app]; omega
  | ife t a b =>
    unfold Stm.ok at h
    have := txt_len hg h.2.1
    have e : ("if " : Str).length = 3 := by decide
    simp only [Stm.line, len_app]; omega
  | rep m b =>
    unfold Stm.ok at h
    have e3 : (nums m).length ≤ 3 := nums_len (i := m) (by omega)
    have e : ("repeat " : Str).length = 7 := by decide
    simp only [Stm.line, len_app]; omega
/-- few lines, none of them long -/
def Few (n w : Nat) (ls : List Str) : Prop := ls.length ≤ n ∧ ∀ l ∈ ls, l.length ≤ w
theorem Few.app {n m w : Nat} {xs ys : List Str} (h : Few n w xs) (k : Few m w ys) : Few (n + m) w (xs ++ ys) := ⟨by have := h.1; have := k.1; simp; omega, fun l hl => (List.mem_append.mp hl).elim (h.2 l) (k.2 l)⟩
theorem Few.mono {n m w z : Nat} {xs : List Str} (h : Few n w xs) (h1 : n ≤ m) (h2 : w ≤ z) : Few m z xs := ⟨Nat.le_trans h.1 h1, fun l hl => Nat.le_trans (h.2 l hl) h2⟩
theorem Few.one {w : Nat} {x : Str} (h : x.length ≤ w) : Few 1 w [x] := ⟨by simp, fun l hl => by simp at hl; subst hl; exact h⟩
theorem Few.nil {w : Nat} : Few 0 w [] := ⟨by simp, fun l hl => by simp at hl⟩
theorem sp2 : ("  " : Str).length = 2 := by decide
mutual
theorem few {g : Nat} (hg : g ≤ 10) : ∀ {n : Nat} {a : Str} {x : Stm}, x.ok g n → Few (3 * x.cnt) (a.length + 2 * n + 110) (x.lines a)
  | n, a, .make x, h => (Few.one (by have := line_len hg h; rw [len_app]; omega)).mono (by simp [Stm.cnt]) (Nat.le_refl _)
  | n, a, .wish x w, h => (Few.one (by have := line_len hg h; rw [len_app]; omega)).mono (by simp [Stm.cnt]) (Nat.le_refl _)
  | n, a, .keep x, h => (Few.one (by have := line_len hg h; rw [len_app]; omega)).mono (by simp [Stm.cnt]) (Nat.le_refl _)
  | n, a, .name x y, h => (Few.one (by have := line_len hg h; rw [len_app]; omega)).mono (by simp [Stm.cnt]) (Nat.le_refl _)
  | n, a, .drop x, h => (Few.one (by have := line_len hg h; rw [len_app]; omega)).mono (by simp [Stm.cnt]) (Nat.le_refl _)
  | n, a, .hold x f y, h => (Few.one (by have := line_len hg h; rw [len_app]; omega)).mono (by simp [Stm.cnt]) (Nat.le_refl _)
  | n, a, .weak x f y, h => (Few.one (by have := line_len hg h; rw [len_app]; omega)).mono (by simp [Stm.cnt]) (Nat.le_refl _)
  | n, a, .cut x f, h => (Few.one (by have := line_len hg h; rw [len_app]; omega)).mono (by simp [Stm.cnt]) (Nat.le_refl _)
  | n, a, .take z x f, h => (Few.one (by have := line_len hg h; rw [len_app]; omega)).mono (by simp [Stm.cnt]) (Nat.le_refl _)
  | n, a, .say w, h => (Few.one (by have := line_len hg h; rw [len_app]; omega)).mono (by simp [Stm.cnt]) (Nat.le_refl _)
  | n, a, .ask t, h => (Few.one (by have := line_len hg h; rw [len_app]; omega)).mono (by simp [Stm.cnt]) (Nat.le_refl _)
  | n, a, .ife t p q, h => by
    have hl := line_len hg h
    unfold Stm.ok at h
    have h1 := fews hg (n := n - 1) (a := a ++ "  ") h.2.2.1
    have h2 := fews hg (n := n - 1) (a := a ++ "  ") h.2.2.2
    have e : (a ++ "  ").length + 2 * (n - 1) + 110 ≤ a.length + 2 * n + 110 := by rw [len_app, sp2]; omega
    have ep : ("  pass" : Str).length = 6 := by decide
    have ee : ("else" : Str).length = 4 := by decide
    have k0 : Few 1 (a.length + 2 * n + 110) [a ++ (Stm.ife t p q).line] := Few.one (by rw [len_app]; omega)
    have k1 : Few (3 * Stm.cnts p + 1) (a.length + 2 * n + 110) (padL a p) := by
      by_cases z : p = []
      · subst z; rw [padL_nil]; exact (Few.one (by rw [len_app]; omega)).mono (by omega) (Nat.le_refl _)
      · rw [padL_ne z]; exact h1.mono (by omega) e
    have k2 : Few (3 * Stm.cnts q + 1) (a.length + 2 * n + 110) (elsL a q) := by
      by_cases z : q = []
      · subst z; rw [elsL_nil]; exact Few.nil.mono (by omega) (Nat.le_refl _)
      · rw [elsL_ne z]; exact ((Few.one (x := a ++ "else") (by rw [len_app]; omega)).app (h2.mono (Nat.le_refl _) e)).mono (by omega) (Nat.le_refl _)
    rw [Stm.lines_eq]
    exact (k0.app (k1.app k2)).mono (by simp only [Stm.cnt]; omega) (Nat.le_refl _)
  | n, a, .rep m p, h => by
    have hl := line_len hg h
    unfold Stm.ok at h
    have h1 := fews hg (n := n - 1) (a := a ++ "  ") h.2.2
    have e : (a ++ "  ").length + 2 * (n - 1) + 110 ≤ a.length + 2 * n + 110 := by rw [len_app, sp2]; omega
    have ep : ("  pass" : Str).length = 6 := by decide
    have k0 : Few 1 (a.length + 2 * n + 110) [a ++ (Stm.rep m p).line] := Few.one (by rw [len_app]; omega)
    have k1 : Few (3 * Stm.cnts p + 1) (a.length + 2 * n + 110) (padL a p) := by
      by_cases z : p = []
      · subst z; rw [padL_nil]; exact (Few.one (by rw [len_app]; omega)).mono (by omega) (Nat.le_refl _)
      · rw [padL_ne z]; exact h1.mono (by omega) e
    rw [Stm.lines_eq]
    exact (k0.app k1).mono (by simp only [Stm.cnt]; omega) (Nat.le_refl _)
theorem fews {g : Nat} (hg : g ≤ 10) : ∀ {n : Nat} {a : Str} {b : List Stm}, Stm.oks g n b → Few (3 * Stm.cnts b) (a.length + 2 * n + 110) (Stm.liness a b)
  | n, a, [], h => by simp only [Stm.liness]; exact Few.nil.mono (by omega) (Nat.le_refl _)
  | n, a, x :: b, h => by
    simp only [Stm.liness]
    exact ((few hg h.1).app (fews hg h.2)).mono (by simp only [Stm.cnts]; omega) (Nat.le_refl _)
end
section
variable {s : Sto} {Q : Vl → Sto → Prop} {E : Ex → Sto → Prop}
theorem innerT (x : Stm) (k : Q (.tup (x.ins.map blk)) s) : WE (m_inner_blocks [x.vl]) s Q E := by
  unfold m_inner_blocks b_inner_blocks
  have c4 : ∀ a b c e : Vl, cutL [a, b, c, e] (some 2) none = [c, e] := fun a b c e => cutL_from (n := 2) (xs := [a, b, c, e])
  have c3 : ∀ a b c : Vl, cutL [a, b, c] (some 2) none = [c] := fun a b c => cutL_from (n := 2) (xs := [a, b, c])
  cases x <;> simp [Stm.vl, Stm.ins, c3, c4] <;> exact k
end
def sts (ls : List Str) : List Vl := ls.map Vl.str
theorem sts_app {x y : List Str} : sts (x ++ y) = sts x ++ sts y := by simp [sts]
theorem sts_len {x : List Str} : (sts x).length = x.length := by simp [sts]
theorem padLen {a : Str} {p : List Stm} {c : Nat} (h : (Stm.liness (a ++ "  ") p).length ≤ c) (hc : c ≤ 3001) : (padL a p).length ≤ 3001 := by
  by_cases z : p = []
  · subst z; rw [padL_nil]; simp
  · rw [padL_ne z]; omega
/-- the lines of a first block, or pass -/
theorem orPad {s3 : Sto} {a : Str} {p : List Stm} {r : Nat} {lo : Lo} {Q : Vl → Sto → Prop} {E : Ex → Sto → Prop} (e3 : s3[r]? = some (.lst (sts (Stm.liness (a ++ "  ") p)))) (ha : lo[1]? = some (some (.str a))) (al : a.length ≤ 100)
    (k : ∀ r' s4, s4[r']? = some (.lst (sts (padL a p))) → Fr [] s3 s4 → Q (.ref r') s4) :
    (match lstOf (.ref r) s3 with | some xs => if xs.isEmpty = true then WE (eCB oLst (aCons (eOp opAdd (eOp opAdd (eVar 1) (eC (.str "  "))) (eC (.str "pass"))) aNil) lo) s3 Q E else Q (.ref r) s3 | none => False) := by
  rw [lstOf_ref e3]
  by_cases z : p = []
  · subst z
    have a2 : a.length + ("  " : Str).length ≤ LIM := limB (by rw [sp2]; omega)
    have a3 : (a ++ "  ").length + ("pass" : Str).length ≤ LIM := limB (by have : ("pass" : Str).length = 4 := (by decide); rw [len_app, sp2]; omega)
    have ee : ("  " : Str) ++ ("pass" : Str) = "  pass" := by decide
    simp [Stm.liness, sts, ha, opAdd_str a2, opAdd_str a3]
    refine k _ _ ?_ (Fr.refl.push _)
    rw [get_last, padL_nil, app_assoc, ee]
    rfl
  · have : (sts (Stm.liness (a ++ "  ") p)).isEmpty = false := by
      cases q : Stm.liness (a ++ "  ") p with
      | nil => exact absurd (Stm.liness_nil.mp q) z
      | cons _ _ => rfl
    simp [this]
    exact k r s3 (by rw [e3, padL_ne z]) Fr.refl
def TLI (s : Sto) (b : List Stm) (a : Str) (i : Nat) (lo : Lo) (s' : Sto) : Prop := ∃ x3 x4 : Option Vl, lo = [some (blk b), some (.str a), some (.ref s.length), x3, x4] ∧ s'[s.length]? = some (.lst (sts (Stm.liness a (b.take i)))) ∧ Fr [] s s'
def LinS (mf : List Vl → M Vl) (M : Nat) : Prop := ∀ (s : Sto) (b : List Stm) (n g : Nat) (a : Str) (Q : Vl → Sto → Prop) (E : Ex → Sto → Prop), g ≤ 10 → n < M → n ≤ 10 → Stm.oks g n b → Stm.cnts b ≤ 1000 → a.length + 2 * n ≤ 100 →
  (∀ r s', s.length ≤ r → s'[r]? = some (.lst (sts (Stm.liness a b))) → Fr [] s s' → Q (.ref r) s') → WE (mf [blk b, .str a]) s Q E
theorem linesS : ∀ M : Nat, LinS (R0 M 0) M
  | 0 => fun s b n g a Q E hg hn => by omega
  | M + 1 => fun s b n g a Q E hg hn hn10 ob hb ha k => by
    have ih := linesS M
    show WE (fnM 5 (b_block_lines (R0 M)) _) _ _ _
    unfold b_block_lines
    simp
    show match blk b with | .tup xs => _ | _ => False
    simp only [blk]
    refine loopX_inv (TLI s b a) ?_ ?_ ?_
    · exact ⟨none, none, rfl, by simp [Stm.liness, sts], Fr.refl.push _⟩
    · rintro i v lo s1 hv ⟨x3, x4, rfl, e1, f1⟩
      obtain ⟨x, hx, rfl⟩ := vls_get hv
      have hxm := List.mem_of_getElem? hx
      have okx := Stm.oks_mem ob x hxm
      have cx := Stm.cnts_mem x hxm
      have ct := Stm.cnts_take (b := b) (i := i)
      have xl := line_len hg okx
      have obt : Stm.oks g n (b.take i) := by
        have := ob
        rw [← List.take_append_drop i b] at this
        exact (Stm.oks_app.mp this).1
      have tl := (fews hg (a := a) obt).1
      have e1l : (sts (Stm.liness a (b.take i))).length < LIM := limC (by rw [sts_len]; omega)
      have aL : a.length + x.line.length ≤ LIM := limB (by omega)
      have a2 : a.length + ("  " : Str).length ≤ LIM := limB (by rw [sp2]; omega)
      simp [kd_lst e1]
      refine stmText hg x okx ?_
      simp [opAdd_str aL, oAppend_lst e1 e1l]
      generalize hL0 : sts (Stm.liness a (b.take i)) ++ [Vl.str (a ++ x.line)] = L0
      have l0 : L0.length ≤ 3001 := by rw [← hL0, List.length_append, sts_len]; simp; omega
      have e2 : (s1.set s.length (.lst L0))[s.length]? = some (.lst L0) := get_set_self e1
      have f2 : Fr [] s (s1.set s.length (.lst L0)) := f1.set (Or.inr (Nat.le_refl _))
      generalize (s1.set s.length (.lst L0)) = s2 at e2 f2
      have fin : ∀ (ls : List Str) (x4 : Option Vl) (s' : Sto), x.lines a = (a ++ x.line) :: ls → s'[s.length]? = some (.lst (L0 ++ sts ls)) → Fr [] s s' → TLI s b a (i + 1) [some (blk b), some (.str a), some (.ref s.length), some x.vl, x4] s' := fun ls x4 s' e q f => by
        refine ⟨_, _, rfl, ?_, f⟩
        rw [q, take_succ_get hx, Stm.liness_app, sts_app]
        simp [Stm.liness, e, sts, ← hL0]
      refine innerT x ?_
      have okI := Stm.ok_ins okx
      have cI := Stm.cnt_in (x := x)
      have la : ∀ v ∈ x.ins.map blk, La 30 v := fun v hv => by
        obtain ⟨p, hp, rfl⟩ := List.mem_map.mp hv
        exact (Stm.las (okI p hp).2).mono (by omega)
      have lq := Stm.lines_eq a x
      rcases hI : x.ins with _ | ⟨p, _ | ⟨q, _ | ⟨u, w⟩⟩⟩
      · rw [hI] at lq
        simp [opNe_tup0 (xs := []) (n := 30) (by simp)]
        exact fin [] _ s2 lq (by simpa [sts] using e2) f2
      · rw [hI] at lq okI cI la
        simp only [List.map_cons, List.map_nil] at la
        obtain ⟨n0, op⟩ := okI p (by simp)
        have cp := cI p (by simp)
        have lp := (fews hg (a := a ++ "  ") op).1
        simp [opNe_tup0 la, kd_lst e2, opAdd_str a2]
        refine ih s2 p (n - 1) g _ _ _ hg (by omega) (by omega) op (by omega) (by rw [len_app, sp2]; omega) fun r s3 hr e3 f3 => ?_
        have pl : (padL a p).length ≤ 3001 := padLen lp (by omega)
        refine orPad (p := p) e3 rfl (by omega) fun r' s4' e4' f4' => ?_
        have e40 := (f3.trans f4').at e2 (by simp)
        have l40 : L0.length + (sts (padL a p)).length ≤ LIM := limB (by rw [sts_len]; omega)
        simp [oExtend_lst e40 e4' l40]
        have f4 : Fr [] s (s4'.set s.length (.lst (L0 ++ sts (padL a p)))) := ((f2.trans f3).trans f4').set (Or.inr (Nat.le_refl _))
        have e4 : (s4'.set s.length (.lst (L0 ++ sts (padL a p))))[s.length]? = some (.lst (L0 ++ sts (padL a p))) := get_set_self e40
        generalize (s4'.set s.length (.lst (L0 ++ sts (padL a p)))) = s4 at e4 f4
        exact fin _ _ s4 lq e4 f4
      · rw [hI] at lq okI cI la
        simp only [List.map_cons, List.map_nil] at la
        obtain ⟨n0, op⟩ := okI p (by simp)
        obtain ⟨_, oq⟩ := okI q (by simp)
        have cp := cI p (by simp)
        have cq := cI q (by simp)
        have lp := (fews hg (a := a ++ "  ") op).1
        have lq2 := (fews hg (a := a ++ "  ") oq).1
        have laq : ∀ v ∈ Stm.vls q, La 30 v := fun v hv => (Stm.lam oq v hv).mono (by omega)
        simp [opNe_tup0 la, kd_lst e2, opAdd_str a2]
        refine ih s2 p (n - 1) g _ _ _ hg (by omega) (by omega) op (by omega) (by rw [len_app, sp2]; omega) fun r s3 hr e3 f3 => ?_
        have pl : (padL a p).length ≤ 3001 := padLen lp (by omega)
        refine orPad (p := p) e3 rfl (by omega) fun r' s4' e4' f4' => ?_
        have e40 := (f3.trans f4').at e2 (by simp)
        have l40 : L0.length + (sts (padL a p)).length ≤ LIM := limB (by rw [sts_len]; omega)
        simp [oExtend_lst e40 e4' l40]
        have f4 : Fr [] s (s4'.set s.length (.lst (L0 ++ sts (padL a p)))) := ((f2.trans f3).trans f4').set (Or.inr (Nat.le_refl _))
        have e4 : (s4'.set s.length (.lst (L0 ++ sts (padL a p))))[s.length]? = some (.lst (L0 ++ sts (padL a p))) := get_set_self e40
        generalize (s4'.set s.length (.lst (L0 ++ sts (padL a p)))) = s4 at e4 f4
        have nq : opNe (blk q) (.tup []) s4 = some (.bl (!(Stm.vls q).isEmpty), s4) := opNe_tup0 laq (by omega)
        simp [nq]
        by_cases z : q = []
        · subst z
          simp [Stm.vls]
          have lq : x.lines a = (a ++ x.line) :: (padL a p ++ elsL a []) := lq
          rw [elsL_nil, List.append_nil] at lq
          exact fin _ _ s4 lq e4 f4
        · have zv : (Stm.vls q).isEmpty = false := by cases q with | nil => exact absurd rfl z | cons _ _ => rfl
          have zn : ¬ Stm.vls q = [] := by cases q with | nil => exact absurd rfl z | cons _ _ => simp [Stm.vls]
          have eL : a.length + ("else" : Str).length ≤ LIM := limB (by have : ("else" : Str).length = 4 := (by decide); omega)
          have l4 : (L0 ++ sts (padL a p)).length < LIM := limC (by rw [List.length_append, sts_len]; omega)
          simp [zv, kd_lst e4, opAdd_str eL, oAppend_lst e4 l4, opAdd_str a2, kd_lst (get_set_self e4)]
          generalize hL1 : L0 ++ (sts (padL a p) ++ [Vl.str (a ++ "else")]) = L1
          have l1 : L1.length ≤ 6100 := by rw [← hL1]; simp [sts_len]; omega
          have e5 : (s4.set s.length (.lst L1))[s.length]? = some (.lst L1) := get_set_self e4
          have f5 : Fr [] s (s4.set s.length (.lst L1)) := f4.set (Or.inr (Nat.le_refl _))
          generalize (s4.set s.length (.lst L1)) = s5 at e5 f5
          rw [if_neg zn]
          refine ih s5 q (n - 1) g _ _ _ hg (by omega) (by omega) oq (by omega) (by rw [len_app, sp2]; omega) fun r s6 hr e6 f6 => ?_
          have e7 := f6.at e5 (by simp)
          have l6 : L1.length + (sts (Stm.liness (a ++ "  ") q)).length ≤ LIM := limB (by rw [sts_len]; omega)
          simp [oExtend_lst e7 e6 l6]
          refine fin (padL a p ++ elsL a q) _ _ lq ?_ ((f5.trans f6).set (Or.inr (Nat.le_refl _)))
          rw [get_set_self e7, elsL_ne z, ← hL1]
          simp [sts]
      · have := Stm.ins_len x
        rw [hI] at this
        simp at this
    · rintro lo s1 ⟨x3, x4, rfl, e1, f1⟩
      rw [vls_len, List.take_length] at e1
      simp
      exact k _ s1 (Nat.le_refl _) e1 f1
theorem join_len {n w : Nat} {ls : List Str} {x : Str} (h : Few n w ls) (h2 : n * (w + x.length) ≤ 1000000) : (ls.map (·.length)).sum + ls.length * x.length ≤ LIM := by
  refine limB (Nat.le_trans ?_ h2)
  have : ∀ ls : List Str, (∀ l ∈ ls, l.length ≤ w) → (ls.map (·.length)).sum + ls.length * x.length ≤ ls.length * (w + x.length) := by
    intro ls
    induction ls with
    | nil => intro _; simp
    | cons l ls ih =>
      intro hl
      have h1 := hl l (List.mem_cons_self ..)
      have h2 := ih fun y hy => hl y (List.mem_cons_of_mem _ hy)
      simp only [List.map_cons, List.sum_cons, List.length_cons, Nat.succ_mul]
      omega
  exact Nat.le_trans (this ls h.2) (Nat.mul_le_mul_right _ h.1)
/-- the lines of a program -/
def allL (g : Nat) (b : List Stm) : List Str := ("givens " ++ nums g) :: Stm.liness "" b
theorem allL_few {g n : Nat} {b : List Stm} (hg : g ≤ 10) (hn : n ≤ 10) (ob : Stm.oks g n b) : Few (3 * Stm.cnts b + 1) 130 (allL g b) := by
  have e0 : ("" : Str).length = 0 := by decide
  have e1 : ("givens " : Str).length = 7 := by decide
  have e3 : (nums g).length ≤ 3 := nums_len (i := g) (by omega)
  exact ((Few.one (x := "givens " ++ nums g) (w := 130) (by rw [len_app]; omega)).app ((fews hg (a := "") ob).mono (Nat.le_refl _) (by omega))).mono (by omega) (Nat.le_refl _)
theorem progText {s : Sto} {g n : Nat} {b : List Stm} {Q : Vl → Sto → Prop} {E : Ex → Sto → Prop} (hg : g ≤ 10) (hn : n ≤ 10) (ob : Stm.oks g n b) (hb : Stm.cnts b ≤ 100) (k : ∀ s', Fr [] s s' → Q (.str (Txt.join "\n" (allL g b))) s') : WE (m_program_text [.tup [.int (g : Nat), blk b]]) s Q E := by
  unfold m_program_text b_program_text
  have e0 : ("" : Str).length = 0 := by decide
  have e1 : ("givens " : Str).length = 7 := by decide
  have e3 : (nums g).length ≤ 3 := nums_len (i := g) (by omega)
  have q1 := nums_log (i := g) (by omega)
  have M0 : ("givens " : Str).length ≤ LIM := limB (by omega)
  simp [WE_eJnd, WE_jnd_cons, WE_jnd_nil, fmtW_int q1, empty_app]
  refine ⟨M0, limB (by simp only [len_app]; have : (Str.ofString (Int.repr (g : Nat))).length ≤ 3 := e3; omega), ?_⟩
  have f1 : Fr [] s (s ++ [.lst [.str ("givens " ++ Str.ofString (Int.repr (g : Nat)))]]) := Fr.refl.push _
  have g1 : (s ++ [Ob.lst [.str ("givens " ++ Str.ofString (Int.repr (g : Nat)))]])[s.length]? = some (.lst [.str ("givens " ++ Str.ofString (Int.repr (g : Nat)))]) := get_last
  generalize (s ++ [Ob.lst [.str ("givens " ++ Str.ofString (Int.repr (g : Nat)))]]) = s1 at f1 g1
  refine linesS 12 s1 b n g "" _ _ hg (by omega) hn ob (by omega) (by omega) fun r s2 hr e2 f2 => ?_
  have g2 := f2.at g1 (by simp)
  have lf := fews hg (a := "") ob
  have ll : [Vl.str ("givens " ++ Str.ofString (Int.repr (g : Nat)))].length + (sts (Stm.liness "" b)).length ≤ LIM := limB (by have := lf.1; rw [sts_len]; simp; omega)
  have e4 : (s2 ++ [Ob.lst ([Vl.str ("givens " ++ Str.ofString (Int.repr (g : Nat)))] ++ sts (Stm.liness "" b))])[s2.length]? = some (.lst ((allL g b).map Vl.str)) := get_last
  rw [opAdd_lst g2 e2 ll]
  simp only [WO_some, WE_aNil]
  have jl : ((allL g b).map (·.length)).sum + (allL g b).length * ("\n" : Str).length ≤ LIM := join_len (allL_few hg hn ob) (by have : ("\n" : Str).length = 1 := (by decide); rw [this]; omega)
  rw [oJoin_strs e4 jl]
  simp only [WO_some]
  exact k _ ((f1.trans f2).push _)
end K06

/-! T4: the law's own texts of tests and statements -/
namespace K06
open PySem L2 Sm
def TxtS (mf : List Vl → M Vl) (M : Nat) : Prop := ∀ (s : Sto) (t : Tst) (n g : Nat) (Q : Vl → Sto → Prop) (E : Ex → Sto → Prop), g ≤ 10 → n < M → n ≤ 3 → t.ok g n → Q (.str t.txt) s → WE (mf [t.vl]) s Q E
theorem txtS : ∀ M : Nat, TxtS (R2 M 0) M
  | 0 => fun s t n g Q E hg hn => by omega
  | M + 1 => fun s t n g Q E hg hn hn3 ot k => by
    have ih := txtS M
    show WE (fnM 1 (b__law_test_text (R2 M)) _) _ _ _
    unfold b__law_test_text
    have n4 : ("not " : Str).length = 4 := by decide
    have n1 : (" " : Str).length = 1 := by decide
    have nd : ("." : Str).length = 1 := by decide
    have ni : (" is " : Str).length = 4 := by decide
    have nf : ("full " : Str).length = 5 := by decide
    have ns : ("set" : Str).length = 3 := by decide
    have ng : ("given" : Str).length = 5 := by decide
    have nw : ("wished" : Str).length = 6 := by decide
    cases t with
    | not t =>
      cases n with
      | zero => exact ot.elim
      | succ n =>
        have ot : t.ok g n := ot
        have tl := txt_len hg ot
        simp [Tst.vl]
        refine ih s t n g _ _ hg (by omega) (by omega) ot ?_
        simp only [WO_addS]
        exact ⟨limB (by omega), k⟩
    | given i =>
      have hi : i < g := by cases n <;> exact ot
      have q1 := nums_log (i := i) (by omega)
      have e3 := nums_len (i := i) (by omega)
      have ee : ("given" : Str) ++ (" " : Str) = "given " := by decide
      simp [Tst.vl, WO_addS, oStrD_int q1]
      refine ⟨limB (by omega), limB (by simp only [len_app]; omega), ?_⟩
      rw [ee]
      exact k
    | set y =>
      have hy : Nice y := by cases n <;> exact ot
      have yl := hy.len
      have ee : ("set" : Str) ++ (" " : Str) = "set " := by decide
      simp [Tst.vl, WO_addS]
      refine ⟨limB (by omega), limB (by simp only [len_app]; omega), ?_⟩
      rw [ee]
      exact k
    | same y z =>
      have hy : Nice y ∧ Nice z := by cases n <;> exact ot
      have yl := hy.1.len
      have zl := hy.2.len
      simp [Tst.vl, WO_addS]
      refine ⟨limB (by omega), limB (by simp only [len_app]; omega), ?_⟩
      exact k
    | full y z =>
      have hy : Nice y ∧ Nice z := by cases n <;> exact ot
      have yl := hy.1.len
      have zl := hy.2.len
      simp [Tst.vl, WO_addS]
      refine ⟨limB (by omega), limB (by simp only [len_app]; omega), limB (by simp only [len_app]; omega), ?_⟩
      exact k
    | wished y =>
      have hy : Nice y := by cases n <;> exact ot
      have yl := hy.len
      have ee : ("wished" : Str) ++ (" " : Str) = "wished " := by decide
      simp [Tst.vl, WO_addS]
      refine ⟨limB (by omega), limB (by simp only [len_app]; omega), ?_⟩
      rw [ee]
      exact k
/-- str of an item -/
def strF (v : Vl) : Option Vl := (oStrD [v] []).map (·.1)
def Strd (v : Vl) : Prop := ∃ x, ∀ s, oStrD [v] s = some (.str x, s)
theorem restL {s : Sto} {lo : Lo} {xs : List Vl} {Q : Sto → Prop} (hl : xs.length < 1000) (h3 : 3 < lo.length) (h : ∀ v ∈ xs, Strd v) (k : Q (s ++ [.lst (xs.filterMap strF)])) : WL (lcX (glN 3) tTrue (eCB oStrD (aCons (eVar 3) aNil)) s.length lo xs (s ++ [.lst []])) Q := by
  refine lcX_p (xs := xs) s strF rfl rfl (by omega) ?_ k
  intro v hv acc
  obtain ⟨x, hx⟩ := h v hv
  refine ⟨_, rfl, ?_⟩
  simp [tTrue, h3, hx, strF]
theorem Strd.str {x : Str} : Strd (.str x) := ⟨x, fun _ => rfl⟩
theorem Strd.int {i : Int} (h : i.natAbs.log2 < 1920) : Strd (.int i) := ⟨_, fun _ => oStrD_int h⟩
theorem Pn.sd {n w : Nat} {xs : List Vl} (h : Pn n w (.tup xs)) (hn : n ≤ 40) (hw : w ≤ 2 ^ 20) : Strd (.tup xs) := by
  obtain ⟨x, hx⟩ := h.strD hn hw
  exact ⟨x, hx⟩
theorem strF_str {x : Str} : strF (.str x) = some (.str x) := rfl
theorem strF_int {i : Int} (h : i.natAbs.log2 < 1920) : strF (.int i) = some (.str (Str.ofString (toString i))) := by simp [strF, oStrD_int h]
theorem Strd.f {v : Vl} (h : Strd v) : ∃ x, strF v = some (.str x) := by
  obtain ⟨x, hx⟩ := h
  exact ⟨x, by simp [strF, hx]⟩
theorem tst_sd {g n : Nat} (hg : g ≤ 10) (hn : n ≤ 3) {t : Tst} (h : t.ok g n) : Strd t.vl := by
  have := Tst.pn (by omega) h
  cases t <;> exact Pn.sd this (by omega) (by omega)
theorem blk_sd {g n : Nat} (hg : g ≤ 10) (hn : n ≤ 10) {b : List Stm} (h : Stm.oks g n b) (hb : Stm.cnts b ≤ 100) : Strd (.tup (Stm.vls b)) := Pn.sd (Stm.pns (by omega) h) (by omega) (by omega)
theorem join2 {x a b : Str} : Txt.join x [a, b] = a ++ (x ++ b) := by
  show a ++ x ++ b = _
  rw [app_assoc]
theorem join3 {x a b c : Str} : Txt.join x [a, b, c] = a ++ (x ++ (b ++ (x ++ c))) := by
  show a ++ x ++ b ++ x ++ c = _
  simp only [app_assoc]
section
variable {s : Sto} {Q : Vl → Sto → Prop} {E : Ex → Sto → Prop}
theorem lineS {g n : Nat} (hg : g ≤ 10) (hn : n ≤ 10) (x : Stm) (h : x.ok g n) (hc : x.cnt ≤ 100) (k : ∀ s', Fr [] s s' → Q (.str x.line) s') : WE (m__law_line [x.vl]) s Q E := by
  unfold m__law_line b__law_line
  have c4 : ∀ a b c e : Vl, cutL [a, b, c, e] (some 1) none = [b, c, e] := fun a b c e => cutL_from (n := 1) (xs := [a, b, c, e])
  have c3 : ∀ a b c : Vl, cutL [a, b, c] (some 1) none = [b, c] := fun a b c => cutL_from (n := 1) (xs := [a, b, c])
  have c2 : ∀ a b : Vl, cutL [a, b] (some 1) none = [b] := fun a b => cutL_from (n := 1) (xs := [a, b])
  cases x with
  | make x =>
    unfold Stm.ok at h
    have := h.len
    have n_0 : ("make" : Str).length = 4 := by decide
    have n_1 : (" " : Str).length = 1 := by decide
    simp [Stm.vl, c2, c3, c4]
    refine restL (by simp) (by simp [wipeL]) (by simp [Strd.str]) ?_
    have ee : ("make" : Str) ++ (" " : Str) = "make " := by decide
    simp [strF_str, get_last]
    have e4 : (s ++ [Ob.lst [.str x], Ob.lst [.str "make"], Ob.lst [.str "make", .str x]])[s.length + 2]? = some (.lst ([("make" : Str), x].map Vl.str)) := by simp
    rw [oJoin_strs e4 (limB (by simp; omega))]
    simp only [WO_some]
    have : Txt.join " " [("make" : Str), x] = (Stm.make x).line := by rw [join2, ← app_assoc, ee]; rfl
    rw [this]
    exact k _ (Fr.refl.app _)
  | wish x w =>
    unfold Stm.ok at h
    have := h.1.len
    have := h.2.len
    have n_0 : ("wish" : Str).length = 4 := by decide
    have n_1 : (" " : Str).length = 1 := by decide
    simp [Stm.vl, c2, c3, c4]
    refine restL (by simp) (by simp [wipeL]) (by simp [Strd.str]) ?_
    have ee : ("wish" : Str) ++ (" " : Str) = "wish " := by decide
    simp [strF_str, get_last]
    have e4 : (s ++ [Ob.lst [.str x, .str w], Ob.lst [.str "wish"], Ob.lst [.str "wish", .str x, .str w]])[s.length + 2]? = some (.lst ([("wish" : Str), x, w].map Vl.str)) := by simp
    rw [oJoin_strs e4 (limB (by simp; omega))]
    simp only [WO_some]
    have : Txt.join " " [("wish" : Str), x, w] = (Stm.wish x w).line := by rw [join3, ← app_assoc, ee, ← app_assoc, ← app_assoc]; rfl
    rw [this]
    exact k _ (Fr.refl.app _)
  | keep x =>
    unfold Stm.ok at h
    have := h.len
    have n_0 : ("keep" : Str).length = 4 := by decide
    have n_1 : (" " : Str).length = 1 := by decide
    simp [Stm.vl, c2, c3, c4]
    refine restL (by simp) (by simp [wipeL]) (by simp [Strd.str]) ?_
    have ee : ("keep" : Str) ++ (" " : Str) = "keep " := by decide
    simp [strF_str, get_last]
    have e4 : (s ++ [Ob.lst [.str x], Ob.lst [.str "keep"], Ob.lst [.str "keep", .str x]])[s.length + 2]? = some (.lst ([("keep" : Str), x].map Vl.str)) := by simp
    rw [oJoin_strs e4 (limB (by simp; omega))]
    simp only [WO_some]
    have : Txt.join " " [("keep" : Str), x] = (Stm.keep x).line := by rw [join2, ← app_assoc, ee]; rfl
    rw [this]
    exact k _ (Fr.refl.app _)
  | name x y =>
    unfold Stm.ok at h
    have := h.1.len
    have := h.2.len
    have n_0 : (" = " : Str).length = 3 := by decide
    simp [Stm.vl, c2, c3, c4]
    refine restL (by simp) (by simp [wipeL]) (by simp [Strd.str]) ?_
    simp [strF_str, get_last, WO_addS]
    refine ⟨limB (by omega), limB (by simp only [len_app]; omega), ?_⟩
    exact k _ (Fr.refl.push _)
  | drop x =>
    unfold Stm.ok at h
    have := h.len
    have n_0 : ("drop" : Str).length = 4 := by decide
    have n_1 : (" " : Str).length = 1 := by decide
    simp [Stm.vl, c2, c3, c4]
    refine restL (by simp) (by simp [wipeL]) (by simp [Strd.str]) ?_
    have ee : ("drop" : Str) ++ (" " : Str) = "drop " := by decide
    simp [strF_str, get_last]
    have e4 : (s ++ [Ob.lst [.str x], Ob.lst [.str "drop"], Ob.lst [.str "drop", .str x]])[s.length + 2]? = some (.lst ([("drop" : Str), x].map Vl.str)) := by simp
    rw [oJoin_strs e4 (limB (by simp; omega))]
    simp only [WO_some]
    have : Txt.join " " [("drop" : Str), x] = (Stm.drop x).line := by rw [join2, ← app_assoc, ee]; rfl
    rw [this]
    exact k _ (Fr.refl.app _)
  | hold x f y =>
    unfold Stm.ok at h
    have := h.1.len
    have := h.2.1.len
    have := h.2.2.len
    have n_0 : ("." : Str).length = 1 := by decide
    have n_1 : (" = " : Str).length = 3 := by decide
    simp [Stm.vl, c2, c3, c4]
    refine restL (by simp) (by simp [wipeL]) (by simp [Strd.str]) ?_
    simp [strF_str, get_last, WO_addS]
    refine ⟨limB (by omega), limB (by simp only [len_app]; omega), limB (by simp only [len_app]; omega), limB (by simp only [len_app]; omega), ?_⟩
    exact k _ (Fr.refl.push _)
  | weak x f y =>
    unfold Stm.ok at h
    have := h.1.len
    have := h.2.1.len
    have := h.2.2.len
    have n_0 : ("." : Str).length = 1 := by decide
    have n_1 : (" ~ " : Str).length = 3 := by decide
    simp [Stm.vl, c2, c3, c4]
    refine restL (by simp) (by simp [wipeL]) (by simp [Strd.str]) ?_
    simp [strF_str, get_last, WO_addS]
    refine ⟨limB (by omega), limB (by simp only [len_app]; omega), limB (by simp only [len_app]; omega), limB (by simp only [len_app]; omega), ?_⟩
    exact k _ (Fr.refl.push _)
  | cut x f =>
    unfold Stm.ok at h
    have := h.1.len
    have := h.2.len
    have n_0 : ("cut " : Str).length = 4 := by decide
    have n_1 : ("." : Str).length = 1 := by decide
    simp [Stm.vl, c2, c3, c4]
    refine restL (by simp) (by simp [wipeL]) (by simp [Strd.str]) ?_
    simp [strF_str, get_last, WO_addS]
    refine ⟨limB (by omega), limB (by simp only [len_app]; omega), limB (by simp only [len_app]; omega), ?_⟩
    exact k _ (Fr.refl.push _)
  | take z x f =>
    unfold Stm.ok at h
    have := h.1.len
    have := h.2.1.len
    have := h.2.2.len
    have n_0 : (" = " : Str).length = 3 := by decide
    have n_1 : ("." : Str).length = 1 := by decide
    simp [Stm.vl, c2, c3, c4]
    refine restL (by simp) (by simp [wipeL]) (by simp [Strd.str]) ?_
    simp [strF_str, get_last, WO_addS]
    refine ⟨limB (by omega), limB (by simp only [len_app]; omega), limB (by simp only [len_app]; omega), limB (by simp only [len_app]; omega), ?_⟩
    exact k _ (Fr.refl.push _)
  | say w =>
    unfold Stm.ok at h
    have := h.len
    have n_0 : ("say" : Str).length = 3 := by decide
    have n_1 : (" " : Str).length = 1 := by decide
    simp [Stm.vl, c2, c3, c4]
    refine restL (by simp) (by simp [wipeL]) (by simp [Strd.str]) ?_
    have ee : ("say" : Str) ++ (" " : Str) = "say " := by decide
    simp [strF_str, get_last]
    have e4 : (s ++ [Ob.lst [.str w], Ob.lst [.str "say"], Ob.lst [.str "say", .str w]])[s.length + 2]? = some (.lst ([("say" : Str), w].map Vl.str)) := by simp
    rw [oJoin_strs e4 (limB (by simp; omega))]
    simp only [WO_some]
    have : Txt.join " " [("say" : Str), w] = (Stm.say w).line := by rw [join2, ← app_assoc, ee]; rfl
    rw [this]
    exact k _ (Fr.refl.app _)
  | ask t =>
    unfold Stm.ok at h
    have tl := txt_len hg h
    have n_0 : ("ask" : Str).length = 3 := by decide
    have n_1 : (" " : Str).length = 1 := by decide
    have ee : ("ask" : Str) ++ (" " : Str) = "ask " := by decide
    simp [Stm.vl, c2, c3, c4]
    obtain ⟨y, hy⟩ := (tst_sd hg (by omega) h).f
    refine restL (by simp) (by simp [wipeL]) (by simpa using tst_sd hg (by omega) h) ?_
    simp [hy, get_last, WO_addS]
    refine ⟨limB (by omega), ?_⟩
    refine txtS 12 _ t 3 g _ _ hg (by omega) (by omega) h ?_
    simp only [WO_addS]
    refine ⟨limB (by simp only [len_app]; omega), ?_⟩
    rw [ee]
    exact k _ (Fr.refl.push _)
  | ife t a b =>
    unfold Stm.cnt at hc
    unfold Stm.ok at h
    have tl := txt_len hg h.2.1
    have n_0 : ("if" : Str).length = 2 := by decide
    have n_1 : (" " : Str).length = 1 := by decide
    have ee : ("if" : Str) ++ (" " : Str) = "if " := by decide
    simp [Stm.vl, c2, c3, c4]
    have d1 := tst_sd hg (by omega) h.2.1
    have d2 := blk_sd hg (by omega) h.2.2.1 (by omega)
    have d3 := blk_sd hg (by omega) h.2.2.2 (by omega)
    refine restL (by simp) (by simp [wipeL]) (by simp [d1, d2, d3]) ?_
    simp [get_last, WO_addS]
    refine ⟨limB (by omega), ?_⟩
    refine txtS 12 _ t 3 g _ _ hg (by omega) (by omega) h.2.1 ?_
    simp only [WO_addS]
    refine ⟨limB (by simp only [len_app]; omega), ?_⟩
    rw [ee]
    exact k _ (Fr.refl.push _)
  | rep m b =>
    unfold Stm.cnt at hc
    unfold Stm.ok at h
    have q1 := nums_log (i := m) (by omega)
    have e3 := nums_len (i := m) (by omega)
    have n_0 : ("repeat " : Str).length = 7 := by decide
    have d2 := blk_sd hg (by omega) h.2.2 (by omega)
    simp [Stm.vl, c2, c3, c4]
    refine restL (by simp) (by simp [wipeL]) (by simp [d2, Strd.int q1]) ?_
    simp [get_last, WO_addS, strF_int q1]
    refine ⟨limB (by omega), ?_⟩
    exact k _ (Fr.refl.push _)
end
end K06

/-! T5: the law's own lines -/
namespace K06
open PySem L2 Sm
section
variable {s : Sto} {Q : Vl → Sto → Prop} {E : Ex → Sto → Prop}
theorem blocksS (x : Stm) (k : ∀ r s', s.length ≤ r → s'[r]? = some (.lst (x.ins.map blk)) → Fr [] s s' → Q (.ref r) s') : WE (m__law_blocks [x.vl]) s Q E := by
  unfold m__law_blocks b__law_blocks
  have c4 : ∀ a b c e : Vl, cutL [a, b, c, e] (some 2) none = [c, e] := fun a b c e => cutL_from (n := 2) (xs := [a, b, c, e])
  have c3 : ∀ a b c : Vl, cutL [a, b, c] (some 2) none = [c] := fun a b c => cutL_from (n := 2) (xs := [a, b, c])
  cases x
  case ife t a b =>
    simp [Stm.vl, Stm.ins, c3, c4]
    refine lcX_p (xs := [.tup (Stm.vls a), .tup (Stm.vls b)]) s some rfl rfl (by simp) ?_ ?_
    · intro v hv acc
      refine ⟨_, rfl, ?_⟩
      simp at hv
      rcases hv with rfl | rfl <;> simp [wipeL]
    · exact k _ _ (Nat.le_refl _) get_last (Fr.refl.push _)
  case rep m b =>
    simp [Stm.vl, Stm.ins, c3, c4]
    refine lcX_p (xs := [.tup (Stm.vls b)]) s some rfl rfl (by simp) ?_ ?_
    · intro v hv acc
      refine ⟨_, rfl, ?_⟩
      simp at hv
      subst hv
      simp [wipeL]
    · exact k _ _ (Nat.le_refl _) get_last (Fr.refl.push _)
  all_goals
    simp [Stm.vl, Stm.ins, c3, c4]
    exact k _ _ (Nat.le_refl _) get_last (Fr.refl.push _)
end
/-! ### plain signs -/
def Asc (x : Str) : Prop := ∀ c ∈ x.cps.toList, c < 128
theorem Asc.app {x y : Str} (h : Asc x) (k : Asc y) : Asc (x ++ y) := fun c hc => by
  rw [str_append] at hc
  exact (List.mem_append.mp hc).elim (h c) (k c)
theorem Asc.lit {x : Str} (h : (x.cps.toList.all fun c => decide (c < 128)) = true := by decide) : Asc x := fun c hc => of_decide_eq_true (List.all_eq_true.mp h c hc)
theorem Asc.la {x : Str} (h : Asc x) : La 1 (.str x) := La.lit (List.all_eq_true.mpr fun c hc => decide_eq_true (h c hc))
theorem nums_asc {i : Nat} (h : i < 20) : Asc (nums i) := by
  have : ∀ j : Fin 20, ((nums j.val).cps.toList.all fun c => decide (c < 128)) = true := by decide +kernel
  exact Asc.lit (this ⟨i, h⟩)
theorem txt_asc {g : Nat} (hg : g ≤ 10) : ∀ {n : Nat} {t : Tst}, t.ok g n → Asc t.txt
  | n, .given i, h => by
    have h : i < g := by cases n <;> exact h
    exact Asc.app Asc.lit (nums_asc (by omega))
  | n, .set x, h => by
    have h : Nice x := by cases n <;> exact h
    exact Asc.app Asc.lit h.sgn
  | n, .same x y, h => by
    have h : Nice x ∧ Nice y := by cases n <;> exact h
    exact (Asc.app h.1.sgn Asc.lit).app h.2.sgn
  | n, .full x y, h => by
    have h : Nice x ∧ Nice y := by cases n <;> exact h
    exact ((Asc.app Asc.lit h.1.sgn).app Asc.lit).app h.2.sgn
  | n, .wished x, h => by
    have h : Nice x := by cases n <;> exact h
    exact Asc.app Asc.lit h.sgn
  | 0, .not t, h => h.elim
  | n + 1, .not t, h => Asc.app Asc.lit (txt_asc hg (n := n) (t := t) h)
theorem line_asc {g n : Nat} (hg : g ≤ 10) {x : Stm} (h : x.ok g n) : Asc x.line := by
  cases x with
  | make x => unfold Stm.ok at h; exact Asc.app Asc.lit h.sgn
  | wish x w => unfold Stm.ok at h; exact ((Asc.app Asc.lit h.1.sgn).app Asc.lit).app h.2.sgn
  | keep x => unfold Stm.ok at h; exact Asc.app Asc.lit h.sgn
  | name x w => unfold Stm.ok at h; exact (Asc.app h.1.sgn Asc.lit).app h.2.sgn
  | drop x => unfold Stm.ok at h; exact Asc.app Asc.lit h.sgn
  | hold x f y => unfold Stm.ok at h; exact (((Asc.app h.1.sgn Asc.lit).app h.2.1.sgn).app Asc.lit).app h.2.2.sgn
  | weak x f y => unfold Stm.ok at h; exact (((Asc.app h.1.sgn Asc.lit).app h.2.1.sgn).app Asc.lit).app h.2.2.sgn
  | cut x f => unfold Stm.ok at h; exact ((Asc.app Asc.lit h.1.sgn).app Asc.lit).app h.2.sgn
  | take z x f => unfold Stm.ok at h; exact (((Asc.app h.1.sgn Asc.lit).app h.2.1.sgn).app Asc.lit).app h.2.2.sgn
  | say w => unfold Stm.ok at h; exact Asc.app Asc.lit h.sgn
  | ask t => unfold Stm.ok at h; exact Asc.app Asc.lit (txt_asc hg h)
  | ife t a b => unfold Stm.ok at h; exact Asc.app Asc.lit (txt_asc hg h.2.1)
  | rep m b => unfold Stm.ok at h; exact Asc.app Asc.lit (nums_asc (by omega))
def AscL (ls : List Str) : Prop := ∀ l ∈ ls, Asc l
theorem AscL.cons {x : Str} {ls : List Str} (h : Asc x) (k : AscL ls) : AscL (x :: ls) := fun l hl => (List.mem_cons.mp hl).elim (fun e => e ▸ h) (k l)
theorem AscL.nil : AscL [] := fun l hl => by simp at hl
theorem AscL.app {xs ys : List Str} (h : AscL xs) (k : AscL ys) : AscL (xs ++ ys) := fun l hl => (List.mem_append.mp hl).elim (h l) (k l)
theorem pad_asc {a : Str} {p : List Stm} (ha : Asc a) (h : AscL (Stm.liness (a ++ "  ") p)) : AscL (padL a p) := by
  by_cases z : p = []
  · subst z; rw [padL_nil]; exact AscL.nil.cons (ha.app Asc.lit)
  · rw [padL_ne z]; exact h
theorem els_asc {a : Str} {p : List Stm} (ha : Asc a) (h : AscL (Stm.liness (a ++ "  ") p)) : AscL (elsL a p) := by
  by_cases z : p = []
  · subst z; rw [elsL_nil]; exact AscL.nil
  · rw [elsL_ne z]; exact h.cons (ha.app Asc.lit)
mutual
theorem asc {g : Nat} (hg : g ≤ 10) : ∀ {n : Nat} {a : Str} {x : Stm}, Asc a → x.ok g n → AscL (x.lines a)
  | n, a, .make x, ha, h => AscL.nil.cons (ha.app (line_asc hg h))
  | n, a, .wish x w, ha, h => AscL.nil.cons (ha.app (line_asc hg h))
  | n, a, .keep x, ha, h => AscL.nil.cons (ha.app (line_asc hg h))
  | n, a, .name x y, ha, h => AscL.nil.cons (ha.app (line_asc hg h))
  | n, a, .drop x, ha, h => AscL.nil.cons (ha.app (line_asc hg h))
  | n, a, .hold x f y, ha, h => AscL.nil.cons (ha.app (line_asc hg h))
  | n, a, .weak x f y, ha, h => AscL.nil.cons (ha.app (line_asc hg h))
  | n, a, .cut x f, ha, h => AscL.nil.cons (ha.app (line_asc hg h))
  | n, a, .take z x f, ha, h => AscL.nil.cons (ha.app (line_asc hg h))
  | n, a, .say w, ha, h => AscL.nil.cons (ha.app (line_asc hg h))
  | n, a, .ask t, ha, h => AscL.nil.cons (ha.app (line_asc hg h))
  | n, a, .ife t p q, ha, h => by
    have hl := line_asc hg h
    unfold Stm.ok at h
    have h1 := ascs hg (n := n - 1) (ha.app (Asc.lit (x := "  "))) h.2.2.1
    have h2 := ascs hg (n := n - 1) (ha.app (Asc.lit (x := "  "))) h.2.2.2
    rw [Stm.lines_eq]
    exact AscL.cons (ha.app hl) ((pad_asc ha h1).app (els_asc ha h2))
  | n, a, .rep m p, ha, h => by
    have hl := line_asc hg h
    unfold Stm.ok at h
    have h1 := ascs hg (n := n - 1) (ha.app (Asc.lit (x := "  "))) h.2.2
    rw [Stm.lines_eq]
    exact AscL.cons (ha.app hl) (pad_asc ha h1)
theorem ascs {g : Nat} (hg : g ≤ 10) : ∀ {n : Nat} {a : Str} {b : List Stm}, Asc a → Stm.oks g n b → AscL (Stm.liness a b)
  | n, a, [], ha, h => by simp only [Stm.liness]; exact AscL.nil
  | n, a, x :: b, ha, h => by
    simp only [Stm.liness]
    exact (asc hg ha h.1).app (ascs hg ha h.2)
end
theorem sts_la {ls : List Str} (h : AscL ls) : ∀ v ∈ sts ls, La 1 v := fun v hv => by
  obtain ⟨l, hl, rfl⟩ := List.mem_map.mp hv
  exact (h l hl).la
theorem sts_emp {ls : List Str} : (sts ls).isEmpty = ls.isEmpty := by cases ls <;> rfl
/-- the rest of a turn of the law's inner loop -/
def bTurn : SM := sSeq (sIf (tAndM (tVal (eOp opEq (eVar 5) (eC (.int 0)))) (tVal (eOp opEq (eVar 6) (eCB oLst aNil)))) (sSet 6 (eCB oLst (aCons (eOp opAdd (eVar 1) (eC (.str "  pass"))) aNil))) sNil)
  (sSet 2 (eOp opAdd (eOp opAdd (eVar 2) (eIfM (tAndM (tVal (eOp opEq (eVar 5) (eC (.int 1)))) (tVal (eOp opNe (eVar 6) (eCB oLst aNil)))) (eCB oLst (aCons (eOp opAdd (eVar 1) (eC (.str "else"))) aNil)) (eCB oLst aNil))) (eVar 6)))
theorem twoAdd {s1 : Sto} {r m q : Nat} {L A B : List Vl} {lo : Lo} {N : Vl → Sto → Prop} {E : Ex → Sto → Prop} (e1 : s1[r]? = some (.lst L)) (e2 : s1[m]? = some (.lst A)) (e3 : s1[q]? = some (.lst B)) (hl : L.length + A.length + B.length ≤ 1000000) (h6 : lo[6]? = some (some (.ref q)))
    (k : ∀ r' s', s1.length ≤ r' → s'[r']? = some (.lst (L ++ A ++ B)) → Fr [] s1 s' → N (.ref r') s') : WO (opAdd (.ref r) (.ref m) s1) (fun x s => WE (eVar 6 lo) s (fun y s => WO (opAdd x y s) N) E) := by
  rw [opAdd_lst e1 e2 (limB (by omega))]
  simp only [WO_some]
  rw [WE_eVar h6, opAdd_lst get_last (get_push e3) (limB (by simp; omega))]
  simp only [WO_some]
  exact k _ _ (by simp) get_last ((Fr.refl.push _).push _)
theorem turn0 {s : Sto} {B X RB : Vl} {a : Str} {r r5 : Nat} {L0 : List Vl} {p : List Stm} {K : RK} (er : s[r]? = some (.lst L0)) (e5 : s[r5]? = some (.lst (sts (Stm.liness (a ++ "  ") p)))) (hL : L0.length ≤ 5000) (hp : (Stm.liness (a ++ "  ") p).length ≤ 3000) (ha : a.length ≤ 100) (h : AscL (Stm.liness (a ++ "  ") p))
    (k : ∀ r' y s', s.length ≤ r' → s'[r']? = some (.lst (L0 ++ sts (padL a p))) → Fr [] s s' → K.nx [some B, some (.str a), some (.ref r'), some X, some RB, some (.int 0), y] s') : WS bTurn [some B, some (.str a), some (.ref r), some X, some RB, some (.int 0), some (.ref r5)] s K := by
  unfold bTurn
  have q := opEq_lst0 (get_push e5) (get_last (s := s) (o := Ob.lst [])) (sts_la h) (by omega)
  have er1 : (s ++ [Ob.lst []])[r]? = some (.lst L0) := get_push er
  have e51 : (s ++ [Ob.lst []])[r5]? = some (.lst (sts (Stm.liness (a ++ "  ") p))) := get_push e5
  have f1 : Fr [] s (s ++ [Ob.lst []]) := Fr.refl.push _
  by_cases z : p = []
  · subst z
    have n6 : ("  pass" : Str).length = 6 := by decide
    have a6 : a.length + ("  pass" : Str).length ≤ LIM := limB (by omega)
    have q : opEq (.ref r5) (.ref s.length) (s ++ [Ob.lst []]) = some (.bl true, s ++ [Ob.lst []]) := q
    simp [q, opAdd_str a6]
    have f2 : Fr [] s (s ++ [Ob.lst [], Ob.lst [Vl.str (a ++ Str.ofString "  pass")], Ob.lst []]) := Fr.refl.app _
    have g1 : (s ++ [Ob.lst [], Ob.lst [Vl.str (a ++ Str.ofString "  pass")], Ob.lst []])[s.length + 2]? = some (.lst []) := by simp
    have g2 : (s ++ [Ob.lst [], Ob.lst [Vl.str (a ++ Str.ofString "  pass")], Ob.lst []])[s.length + 1]? = some (.lst [Vl.str (a ++ Str.ofString "  pass")]) := by simp
    refine twoAdd (f2.at er (by simp)) g1 g2 (by simp; omega) rfl fun r' s' hr e f => ?_
    refine k _ _ _ (Nat.le_trans f2.le hr) ?_ (f2.trans f)
    rw [e, padL_nil]
    simp [sts]
  · have zz : (sts (Stm.liness (a ++ "  ") p)).isEmpty = false := by
      cases q : Stm.liness (a ++ "  ") p with
      | nil => exact absurd (Stm.liness_nil.mp q) z
      | cons _ _ => rfl
    simp [q, zz]
    have f2 : Fr [] s (s ++ [Ob.lst [], Ob.lst []]) := Fr.refl.app _
    have g1 : (s ++ [Ob.lst [], Ob.lst []])[s.length + 1]? = some (.lst []) := by simp
    refine twoAdd (f2.at er (by simp)) g1 (f2.at e5 (by simp)) (by rw [sts_len]; simp; omega) rfl fun r' s' hr e f => ?_
    refine k _ _ _ (Nat.le_trans f2.le hr) ?_ (f2.trans f)
    rw [e, padL_ne z]
    simp
theorem turn1 {s : Sto} {B X RB : Vl} {a : Str} {r r5 : Nat} {L0 : List Vl} {p : List Stm} {K : RK} (er : s[r]? = some (.lst L0)) (e5 : s[r5]? = some (.lst (sts (Stm.liness (a ++ "  ") p)))) (hL : L0.length ≤ 10000) (hp : (Stm.liness (a ++ "  ") p).length ≤ 3000) (ha : a.length ≤ 100) (h : AscL (Stm.liness (a ++ "  ") p))
    (k : ∀ r' y s', s.length ≤ r' → s'[r']? = some (.lst (L0 ++ sts (elsL a p))) → Fr [] s s' → K.nx [some B, some (.str a), some (.ref r'), some X, some RB, some (.int 1), y] s') : WS bTurn [some B, some (.str a), some (.ref r), some X, some RB, some (.int 1), some (.ref r5)] s K := by
  unfold bTurn
  have q := opNe_lst0 (get_push e5) (get_last (s := s) (o := Ob.lst [])) (sts_la h) (by omega)
  have f1 : Fr [] s (s ++ [Ob.lst []]) := Fr.refl.push _
  by_cases z : p = []
  · subst z
    have q : opNe (.ref r5) (.ref s.length) (s ++ [Ob.lst []]) = some (.bl false, s ++ [Ob.lst []]) := q
    simp [q]
    have f2 : Fr [] s (s ++ [Ob.lst [], Ob.lst []]) := Fr.refl.app _
    have g1 : (s ++ [Ob.lst [], Ob.lst []])[s.length + 1]? = some (.lst []) := by simp
    refine twoAdd (f2.at er (by simp)) g1 (f2.at e5 (by simp)) (by rw [sts_len]; simp; omega) rfl fun r' s' hr e f => ?_
    refine k _ _ _ (Nat.le_trans f2.le hr) ?_ (f2.trans f)
    rw [e, elsL_nil]
    simp [Stm.liness, sts]
  · have zz : (sts (Stm.liness (a ++ "  ") p)).isEmpty = false := by
      cases q : Stm.liness (a ++ "  ") p with
      | nil => exact absurd (Stm.liness_nil.mp q) z
      | cons _ _ => rfl
    have n6 : ("else" : Str).length = 4 := by decide
    have a6 : a.length + ("else" : Str).length ≤ LIM := limB (by omega)
    simp [q, zz, opAdd_str a6]
    have f2 : Fr [] s (s ++ [Ob.lst [], Ob.lst [Vl.str (a ++ Str.ofString "else")]]) := Fr.refl.app _
    have g1 : (s ++ [Ob.lst [], Ob.lst [Vl.str (a ++ Str.ofString "else")]])[s.length + 1]? = some (.lst [Vl.str (a ++ Str.ofString "else")]) := by simp
    refine twoAdd (f2.at er (by simp)) g1 (f2.at e5 (by simp)) (by rw [sts_len]; simp; omega) rfl fun r' s' hr e f => ?_
    refine k _ _ _ (Nat.le_trans f2.le hr) ?_ (f2.trans f)
    rw [e, elsL_ne z]
    simp [sts]
def LLI (s : Sto) (b : List Stm) (a : Str) (i : Nat) (lo : Lo) (s' : Sto) : Prop := ∃ (x3 x4 x5 x6 : Option Vl) (r : Nat), lo = [some (blk b), some (.str a), some (.ref r), x3, x4, x5, x6] ∧ s.length ≤ r ∧ s'[r]? = some (.lst (sts (Stm.liness a (b.take i)))) ∧ Fr [] s s'
def LawS (mf : List Vl → M Vl) (M : Nat) : Prop := ∀ (s : Sto) (b : List Stm) (n g : Nat) (a : Str) (Q : Vl → Sto → Prop) (E : Ex → Sto → Prop), g ≤ 10 → n < M → n ≤ 10 → Stm.oks g n b → Stm.cnts b ≤ 100 → Asc a → a.length + 2 * n ≤ 100 →
  (∀ r s', s.length ≤ r → s'[r]? = some (.lst (sts (Stm.liness a b))) → Fr [] s s' → Q (.ref r) s') → WE (mf [blk b, .str a]) s Q E
theorem lawS : ∀ M : Nat, LawS (R3 M 0) M
  | 0 => fun s b n g a Q E hg hn => by omega
  | M + 1 => fun s b n g a Q E hg hn hn10 ob hb ha0 ha k => by
    have ih := lawS M
    show WE (fnM 7 (b__law_lines (R3 M)) _) _ _ _
    unfold b__law_lines
    simp
    show match blk b with | .tup xs => _ | _ => False
    simp only [blk]
    refine loopX_inv (LLI s b a) ?_ ?_ ?_
    · exact ⟨none, none, none, none, s.length, rfl, Nat.le_refl _, by simp [Stm.liness, sts], Fr.refl.push _⟩
    · rintro i v lo s1 hv ⟨x3, x4, x5, x6, r, rfl, hr, e1, f1⟩
      obtain ⟨x, hx, rfl⟩ := vls_get hv
      have hxm := List.mem_of_getElem? hx
      have okx := Stm.oks_mem ob x hxm
      have cx := Stm.cnts_mem x hxm
      have ct := Stm.cnts_take (b := b) (i := i)
      have xl := line_len hg okx
      have obt : Stm.oks g n (b.take i) := by
        have := ob
        rw [← List.take_append_drop i b] at this
        exact (Stm.oks_app.mp this).1
      have tl := (fews hg (a := a) obt).1
      have e1l : (sts (Stm.liness a (b.take i))).length < LIM := limC (by rw [sts_len]; omega)
      have aL : a.length + x.line.length ≤ LIM := limB (by omega)
      have a2 : a.length + ("  " : Str).length ≤ LIM := limB (by rw [sp2]; omega)
      simp [kd_lst e1]
      refine lineS hg hn10 x okx (by omega) fun s2 f2 => ?_
      have e2 := f2.at e1 (by simp)
      simp [opAdd_str aL, oAppend_lst e2 e1l]
      generalize hL0 : sts (Stm.liness a (b.take i)) ++ [Vl.str (a ++ x.line)] = L0
      have l0 : L0.length ≤ 3001 := by rw [← hL0, List.length_append, sts_len]; simp; omega
      have e3 : (s2.set r (.lst L0))[r]? = some (.lst L0) := get_set_self e2
      have f3 : Fr [] s (s2.set r (.lst L0)) := (f1.trans f2).set (Or.inr hr)
      generalize (s2.set r (.lst L0)) = s3 at e3 f3
      have fin : ∀ (ls : List Str) (x4 x5 x6 : Option Vl) (r' : Nat) (s' : Sto), x.lines a = (a ++ x.line) :: ls → s.length ≤ r' → s'[r']? = some (.lst (L0 ++ sts ls)) → Fr [] s s' → LLI s b a (i + 1) [some (blk b), some (.str a), some (.ref r'), some x.vl, x4, x5, x6] s' := fun ls x4 x5 x6 r' s' e hr' q f => by
        refine ⟨_, _, _, _, _, rfl, hr', ?_, f⟩
        rw [q, take_succ_get hx, Stm.liness_app, sts_app]
        simp [Stm.liness, e, sts, ← hL0]
      refine blocksS x fun rb s4 hrb e4 f4 => ?_
      have okI := Stm.ok_ins okx
      have cI := Stm.cnt_in (x := x)
      have lq := Stm.lines_eq a x
      have f04 := f3.trans f4
      have e34 := f4.at e3 (by simp)
      rcases hI : x.ins with _ | ⟨p, _ | ⟨q, _ | ⟨u, w⟩⟩⟩
      · rw [hI] at lq e4
        simp [oLen_lst e4]
        rw [rngW_lit (n := 0) (by omega), show rng 0 0 = [] from rfl, WS_loopX_nil]
        exact fin [] _ _ _ _ s4 lq hr (by simpa [sts] using e34) f04
      · rw [hI] at lq e4 okI cI
        obtain ⟨n0, op⟩ := okI p (by simp)
        have cp := cI p (by simp)
        have lp := (fews hg (a := a ++ "  ") op).1
        simp [oLen_lst e4]
        rw [rngW_lit (n := 1) (by omega), show rng 0 1 = [.int 0] from rfl, WS_loopX_cons]
        simp [opIx_lst e4, opAdd_str a2]
        refine ih s4 p (n - 1) g _ _ _ hg (by omega) (by omega) op (by omega) (ha0.app Asc.lit) (by rw [len_app, sp2]; omega) fun r5 s5 hr5 e5 f5 => ?_
        show WS bTurn _ _ _
        refine turn0 (f5.at e34 (by simp)) e5 (by omega) (by omega) (by omega) (ascs hg (ha0.app Asc.lit) op) fun r' y s6 hr6 e6 f6 => ?_
        simp only [WS_loopX_nil]
        exact fin (padL a p) _ _ _ _ s6 lq (by have := f04.le; have := f5.le; omega) e6 ((f04.trans f5).trans f6)
      · rw [hI] at lq e4 okI cI
        obtain ⟨n0, op⟩ := okI p (by simp)
        obtain ⟨_, oq⟩ := okI q (by simp)
        have cp := cI p (by simp)
        have cq := cI q (by simp)
        have lp := (fews hg (a := a ++ "  ") op).1
        have lq2 := (fews hg (a := a ++ "  ") oq).1
        have pl : (padL a p).length ≤ 3001 := padLen lp (by omega)
        simp [oLen_lst e4]
        rw [rngW_lit (n := 2) (by omega), show rng 0 2 = [.int 0, .int 1] from rfl, WS_loopX_cons]
        simp [opIx_lst e4, opAdd_str a2]
        refine ih s4 p (n - 1) g _ _ _ hg (by omega) (by omega) op (by omega) (ha0.app Asc.lit) (by rw [len_app, sp2]; omega) fun r5 s5 hr5 e5 f5 => ?_
        show WS bTurn _ _ _
        refine turn0 (f5.at e34 (by simp)) e5 (by omega) (by omega) (by omega) (ascs hg (ha0.app Asc.lit) op) fun r' y s6 hr6 e6 f6 => ?_
        simp only [WS_loopX_cons]
        have e46 := f6.at (f5.at e4 (by simp)) (by simp)
        simp [opIx_lst e46, opAdd_str a2]
        refine ih s6 q (n - 1) g _ _ _ hg (by omega) (by omega) oq (by omega) (ha0.app Asc.lit) (by rw [len_app, sp2]; omega) fun r7 s7 hr7 e7 f7 => ?_
        show WS bTurn _ _ _
        refine turn1 (f7.at e6 (by simp)) e7 (by rw [List.length_append, sts_len]; omega) (by omega) (by omega) (ascs hg (ha0.app Asc.lit) oq) fun r'' y s8 hr8 e8 f8 => ?_
        simp only [WS_loopX_nil]
        refine fin (padL a p ++ elsL a q) _ _ _ _ s8 lq ?_ ?_ ((((f04.trans f5).trans f6).trans f7).trans f8)
        · have := f04.le; have := f5.le; have := f6.le; have := f7.le; omega
        · rw [e8, sts_app, List.append_assoc]
      · have := Stm.ins_len x
        rw [hI] at this
        simp at this
    · rintro lo s1 ⟨x3, x4, x5, x6, r, rfl, hr, e1, f1⟩
      rw [vls_len, List.take_length] at e1
      simp
      exact k _ s1 hr e1 f1
end K06

/-! T6: all lines; texts of lists of strings -/
namespace K06
open PySem L2 Sm
theorem Pn.strL {x : Str} {w : Nat} (h : Asc x) (hl : x.length ≤ w) : Pn 1 w (.str x) := by
  refine ⟨.str x, fun s m hm => ?_, ?_, rfl, hl⟩
  · obtain ⟨m, rfl⟩ : ∃ k, m = k + 1 := ⟨m - 1, by omega⟩
    rfl
  · show (x.cps.toList.all fun c => decide (c < 16 ^ 8)) = true
    rw [List.all_eq_true]
    intro c hc
    have := h c hc
    exact decide_eq_true (by omega)
theorem Pn.reprL {n w : Nat} {xs : List Vl} (h : ∀ x ∈ xs, Pn n w x) (hn : n ≤ 39) (hw : xs.length * (w + 1) ≤ 2 ^ 20) : ∃ y, ∀ s a, s[a]? = some (.lst xs) → oRepr [.ref a] s = some (.str y, s) := by
  obtain ⟨ds, a, b, c, e⟩ := Pn.all h
  refine ⟨(PyData.list ds).shown, fun s j hj => ?_⟩
  have l1 : PyData.leavesShort 13 (.list ds) = true := by simpa only [PyData.leavesShort] using b
  have l2 : PyData.showable (.list ds) = true := by simpa only [PyData.showable] using c
  have l3 : PyData.weight (.list ds) ≤ 2 ^ 20 := by simp only [PyData.weight]; omega
  have : (PyData.list ds).shown.length ≤ LIM := by
    rw [← lim_eq]
    exact PyData.shown_fits (by omega) (by omega) l1 (by omega)
  have e1 : toD 40 s (.ref j) = some (.list ds) := by rw [toD_lst (m := 39) hj, a s 39 hn]; rfl
  simp only [oRepr, e1, l2, this, decide_true, Bool.and_self, if_true]
theorem join_asc {x : Str} {ls : List Str} (hx : Asc x) (h : AscL ls) : Asc (Txt.join x ls) := by
  cases ls with
  | nil => intro c hc; exact absurd hc (by simp [Txt.join, Builtin.Str.glued, Str.empty])
  | cons l ls =>
    have key : ∀ (ls : List Str) (acc : Array Nat), (∀ c ∈ acc.toList, c < 128) → AscL ls → ∀ c ∈ (ls.foldl (fun acc p => acc ++ x.cps ++ p.cps) acc).toList, c < 128 := by
      intro ls
      induction ls with
      | nil => intro acc ha _; exact ha
      | cons y ys ih =>
        intro acc ha hl
        refine ih _ (fun c hc => ?_) fun z hz => hl z (List.mem_cons_of_mem _ hz)
        simp only [Array.toList_append, List.mem_append] at hc
        rcases hc with (hc | hc) | hc
        · exact ha c hc
        · exact hx c hc
        · exact hl y (List.mem_cons_self ..) c hc
    exact key ls l.cps (h l (List.mem_cons_self ..)) fun z hz => h z (List.mem_cons_of_mem _ hz)
theorem join_size {x : Str} {n w : Nat} {ls : List Str} (h : Few n w ls) : (Txt.join x ls).length ≤ n * (w + x.length) := by
  cases ls with
  | nil => exact Nat.zero_le _
  | cons l ls =>
    have key : ∀ (ls : List Str) (acc : Array Nat), (∀ z ∈ ls, z.length ≤ w) → (ls.foldl (fun acc p => acc ++ x.cps ++ p.cps) acc).size ≤ acc.size + ls.length * (w + x.length) := by
      intro ls
      induction ls with
      | nil => intro acc _; simp
      | cons y ys ih =>
        intro acc hl
        have h1 := ih (acc ++ x.cps ++ y.cps) fun z hz => hl z (List.mem_cons_of_mem _ hz)
        have h2 : y.cps.size ≤ w := hl y (List.mem_cons_self ..)
        have h3 : x.cps.size = x.length := rfl
        simp only [Array.size_append] at h1
        simp only [List.foldl_cons, List.length_cons, Nat.succ_mul]
        omega
    have h1 := key ls l.cps fun z hz => h.2 z (List.mem_cons_of_mem _ hz)
    have h2 : l.cps.size ≤ w := h.2 l (List.mem_cons_self ..)
    have h3 := h.1
    have h4 : (ls.length + 1) * (w + x.length) ≤ n * (w + x.length) := Nat.mul_le_mul_right _ (by simpa using h3)
    rw [Nat.succ_mul] at h4
    refine Nat.le_trans h1 ?_
    omega
theorem allL_asc {g n : Nat} {b : List Stm} (hg : g ≤ 10) (ob : Stm.oks g n b) : AscL (allL g b) := AscL.cons (Asc.app Asc.lit (nums_asc (by omega))) (ascs hg (Asc.lit (x := "")) ob)
theorem allS {s : Sto} {g n : Nat} {b : List Stm} {Q : Vl → Sto → Prop} {E : Ex → Sto → Prop} (hg : g ≤ 10) (hn : n ≤ 10) (ob : Stm.oks g n b) (hb : Stm.cnts b ≤ 100) (k : ∀ r s', s'[r]? = some (.lst ((allL g b).map Vl.str)) → Fr [] s s' → Q (.ref r) s') : WE (m__law_all_lines [.tup [.int (g : Nat), blk b]]) s Q E := by
  unfold m__law_all_lines b__law_all_lines
  have e0 : ("" : Str).length = 0 := by decide
  have e1 : ("givens " : Str).length = 7 := by decide
  have e3 : (nums g).length ≤ 3 := nums_len (i := g) (by omega)
  have q1 := nums_log (i := g) (by omega)
  simp [oStrD_int q1, WO_addS]
  refine ⟨limB (by have : (Str.ofString (Int.repr (g : Nat))).length ≤ 3 := e3; omega), ?_⟩
  have f1 : Fr [] s (s ++ [.lst [.str ("givens " ++ Str.ofString (Int.repr (g : Nat)))]]) := Fr.refl.push _
  have g1 : (s ++ [Ob.lst [.str ("givens " ++ Str.ofString (Int.repr (g : Nat)))]])[s.length]? = some (.lst [.str ("givens " ++ Str.ofString (Int.repr (g : Nat)))]) := get_last
  generalize (s ++ [Ob.lst [.str ("givens " ++ Str.ofString (Int.repr (g : Nat)))]]) = s1 at f1 g1
  refine lawS 12 s1 b n g "" _ _ hg (by omega) hn ob (by omega) Asc.lit (by omega) fun r s2 hr e2 f2 => ?_
  have g2 := f2.at g1 (by simp)
  have lf := fews hg (a := "") ob
  have ll : [Vl.str ("givens " ++ Str.ofString (Int.repr (g : Nat)))].length + (sts (Stm.liness "" b)).length ≤ LIM := limB (by have := lf.1; rw [sts_len]; simp; omega)
  rw [opAdd_lst g2 e2 ll]
  simp only [WO_some]
  exact k _ _ get_last ((f1.trans f2).push _)
end K06

/-! L06: the law -/
namespace K06
open PySem L2 Sm
theorem pure_law : ∀ ns : List Int, ns.length ≤ 63 → ∃ st, m_law [.scr ns] [] = .ok (.bl true) st := by
  intro ns hns
  have hCM : CM = 1000000000000000 := rfl
  have Z5 : Zb 5 ≤ 100000000000000 := by decide +kernel
  have key : WE (m_law [.scr ns]) [] (fun v _ => v = .bl true) NoX := by
    unfold m_law b_law
    simp
    refine deck hns fun d l s1 D1 f1 => ?_
    simp
    rw [rngW_lit (n := 2) (by omega)]
    refine loopX_inv (fun t lo s' => ∃ x2 x3 x4 x5, lo = [some (.scr ns), some (.ref d), x2, x3, x4, x5] ∧ Dk s' d l (t * (Zb 5 + 1000))) ?_ ?_ ?_
    · exact ⟨none, none, none, none, rfl, D1.mono (by omega)⟩
    · rintro t v lo s2 hv ⟨x2, x3, x4, x5, rfl, D2⟩
      obtain ⟨ht, rfl⟩ := rng_get hv
      have ht2 : t * (Zb 5 + 1000) ≤ 1 * (Zb 5 + 1000) := Nat.mul_le_mul_right _ (by omega)
      simp
      refine draw D2 (by omega) (by omega) (by omega) fun m s3 hm D3 f3 => ?_
      have em : (1 : Int) + (m : Nat) = ((m + 1 : Nat) : Int) := by omega
      simp
      rw [em]
      refine freeS D3 (by omega) (by omega) fun g b p n w N W s4 hg ob sb cb wb P4 D4 f4 => ?_
      simp
      refine allS (n := 5) (by omega) (by omega) ob (by omega) fun r s5 e5 f5 => ?_
      have lfew := allL_few (g := g) (by omega) (by omega) ob
      have nl1 : ("\n" : Str).length = 1 := by decide
      have jl : ((allL g b).map (·.length)).sum + (allL g b).length * ("\n" : Str).length ≤ LIM := join_len lfew (by rw [nl1]; omega)
      simp only [WE_aNil]
      rw [oJoin_strs e5 jl]
      simp
      refine progText (n := 5) (by omega) (by omega) ob (by omega) fun s6 f6 => ?_
      simp
      refine progText (n := 5) (by omega) (by omega) ob (by omega) fun s7 f7 => ?_
      have tl := join_size (x := "\n") lfew
      rw [nl1] at tl
      have pj : Pn 1 20000 (.str (Txt.join "\n" (allL g b))) := Pn.strL (join_asc Asc.lit (allL_asc (by omega) ob)) (by omega)
      obtain ⟨y, hy⟩ := Pn.reprL (n := 1) (w := 20000) (xs := [.str (Txt.join "\n" (allL g b)), .str (Txt.join "\n" (allL g b))]) (by simp [pj]) (by omega) (by simp)
      simp [hy _ _ get_last]
      have e8 : (s7 ++ [Ob.lst [.str (Txt.join "\n" (allL g b)), .str (Txt.join "\n" (allL g b))], Ob.lst [.str (Txt.join "\n" (allL g b)), .str (Txt.join "\n" (allL g b))]])[s7.length + 1]? = some (.lst [.str (Txt.join "\n" (allL g b)), .str (Txt.join "\n" (allL g b))]) := by simp
      simp [hy _ _ e8]
      have fz : Fr [] s4 (s7 ++ [Ob.lst [.str (Txt.join "\n" (allL g b)), .str (Txt.join "\n" (allL g b))], Ob.lst [.str (Txt.join "\n" (allL g b)), .str (Txt.join "\n" (allL g b))]]) := ((f5.trans f6).trans f7).app _
      exact (D4.new fz).mono (by rw [Nat.succ_mul]; omega)
    · rintro lo s2 ⟨x2, x3, x4, x5, rfl, D2⟩
      simp
  obtain ⟨a, s', e, rfl⟩ := key.get
  exact ⟨s', e⟩
end K06

open PySem PySem.W PyProof.Rows
set_option maxRecDepth 100000 in
set_option maxHeartbeats 0 in
theorem PySem.Challenge.cw_maybegone_k06_texts_of_programs_holds : PySem.Challenge.rw_maybegone_k06_texts_of_programs.Holds := by
  w_on; o_law; k_head; (case hw => w_witness2)
  k_fill
  refine Sm.walk_G (l := PySem.Challenge.rw_maybegone_k06_texts_of_programs) (n := 63) (k := 27) (x := "_law_script") (m := K06.m_law) rfl (by decide) rfl ⟨rfl, by decide, by decide⟩ (fun w h Y => PySem.W.kIn_of Y) ?F K06.pure_law
  case F =>
    intro w mg fa h KX G hmg
    refine' K06.all_mk KX G hmg ?a_inner_blocks ?a_test_text ?a_statement_text ?a_block_lines ?a_program_text ?a__law_deck ?a__law_draw ?a__law_one ?a__law_kept ?a__law_name ?a__law_word ?a__law_pool ?a__law_any_test ?a__law_row ?a__law_rows ?a__law_inner ?a__law_free ?a__law_blocks ?a__law_test_text ?a__law_line ?a__law_lines ?a__law_all_lines ?a_law ?l_inner_blocks ?c_inner_blocks ?k_inner_blocks ?l_test_text ?c_test_text ?k_test_text ?l_statement_text ?c_statement_text ?k_statement_text ?l_block_lines ?c_block_lines ?k_block_lines ?l_program_text ?c_program_text ?k_program_text ?l__law_deck ?c__law_deck ?k__law_deck ?l__law_draw ?c__law_draw ?k__law_draw ?l__law_one ?c__law_one ?k__law_one ?l__law_kept ?c__law_kept ?k__law_kept ?l__law_name ?c__law_name ?k__law_name ?l__law_word ?c__law_word ?k__law_word ?l__law_pool ?c__law_pool ?k__law_pool ?l__law_any_test ?c__law_any_test ?k__law_any_test ?l__law_row ?c__law_row ?k__law_row ?l__law_rows ?c__law_rows ?k__law_rows ?l__law_inner ?c__law_inner ?k__law_inner ?l__law_free ?c__law_free ?k__law_free ?l__law_blocks ?c__law_blocks ?k__law_blocks ?l__law_test_text ?c__law_test_text ?k__law_test_text ?l__law_line ?c__law_line ?k__law_line ?l__law_lines ?c__law_lines ?k__law_lines ?l__law_all_lines ?c__law_all_lines ?k__law_all_lines ?l_law ?c_law ?k_law ?v_STEP ?z_abs ?z_int ?z_isinstance ?z_len ?z_range ?z_repr ?z_str ?z_tuple
    (case a_inner_blocks => k_is)
    (case a_test_text => k_is)
    (case a_statement_text => k_is)
    (case a_block_lines => k_is)
    (case a_program_text => k_is)
    (case a__law_deck => k_is)
    (case a__law_draw => k_is)
    (case a__law_one => k_is)
    (case a__law_kept => k_is)
    (case a__law_name => k_is)
    (case a__law_word => k_is)
    (case a__law_pool => k_is)
    (case a__law_any_test => k_is)
    (case a__law_row => k_is)
    (case a__law_rows => k_is)
    (case a__law_inner => k_is)
    (case a__law_free => k_is)
    (case a__law_blocks => k_is)
    (case a__law_test_text => k_is)
    (case a__law_line => k_is)
    (case a__law_lines => k_is)
    (case a__law_all_lines => k_is)
    (case a_law => k_is)
    (case l_inner_blocks => k_is)
    (case c_inner_blocks => k_is)
    (case k_inner_blocks => k_is)
    (case l_test_text => k_is)
    (case c_test_text => k_is)
    (case k_test_text => k_is)
    (case l_statement_text => k_is)
    (case c_statement_text => k_is)
    (case k_statement_text => k_is)
    (case l_block_lines => k_is)
    (case c_block_lines => k_is)
    (case k_block_lines => k_is)
    (case l_program_text => k_is)
    (case c_program_text => k_is)
    (case k_program_text => k_is)
    (case l__law_deck => k_is)
    (case c__law_deck => k_is)
    (case k__law_deck => k_is)
    (case l__law_draw => k_is)
    (case c__law_draw => k_is)
    (case k__law_draw => k_is)
    (case l__law_one => k_is)
    (case c__law_one => k_is)
    (case k__law_one => k_is)
    (case l__law_kept => k_is)
    (case c__law_kept => k_is)
    (case k__law_kept => k_is)
    (case l__law_name => k_is)
    (case c__law_name => k_is)
    (case k__law_name => k_is)
    (case l__law_word => k_is)
    (case c__law_word => k_is)
    (case k__law_word => k_is)
    (case l__law_pool => k_is)
    (case c__law_pool => k_is)
    (case k__law_pool => k_is)
    (case l__law_any_test => k_is)
    (case c__law_any_test => k_is)
    (case k__law_any_test => k_is)
    (case l__law_row => k_is)
    (case c__law_row => k_is)
    (case k__law_row => k_is)
    (case l__law_rows => k_is)
    (case c__law_rows => k_is)
    (case k__law_rows => k_is)
    (case l__law_inner => k_is)
    (case c__law_inner => k_is)
    (case k__law_inner => k_is)
    (case l__law_free => k_is)
    (case c__law_free => k_is)
    (case k__law_free => k_is)
    (case l__law_blocks => k_is)
    (case c__law_blocks => k_is)
    (case k__law_blocks => k_is)
    (case l__law_test_text => k_is)
    (case c__law_test_text => k_is)
    (case k__law_test_text => k_is)
    (case l__law_line => k_is)
    (case c__law_line => k_is)
    (case k__law_line => k_is)
    (case l__law_lines => k_is)
    (case c__law_lines => k_is)
    (case k__law_lines => k_is)
    (case l__law_all_lines => k_is)
    (case c__law_all_lines => k_is)
    (case k__law_all_lines => k_is)
    (case l_law => k_is)
    (case c_law => k_is)
    (case k_law => k_is)
    (case v_STEP => k_is)
    (case z_abs => k_is)
    (case z_int => k_is)
    (case z_isinstance => k_is)
    (case z_len => k_is)
    (case z_range => k_is)
    (case z_repr => k_is)
    (case z_str => k_is)
    (case z_tuple => k_is)
