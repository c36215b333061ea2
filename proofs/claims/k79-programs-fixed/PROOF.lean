import PyProof.Rows.All
import Wide.All
import OpenK.AllK
import Wide.FinOn
import HandS.ForMost
import HandS.ForExc
import HandS.CallSlots
import HandS.Wide
import HandS.Strs
import HandS.TupAny
import HandS.Deep
import HandS.Conv
import HandS.SortInts
import PyProof.ReprRoads
import HandS.Style
import HandS.ExcOwn
import HandS.ExcCtx
import HandS.SetFor
import HandS.New0
import HandS.Star
import HandS.Text
import HandS.More
import HandS.IsInst
import HandS.SetKeys
import KE.GoesMore
import HandS.Defaults
import HandS.NoneIn
import HandS.FStr
import HandS.Flow
import HandS.RaiseMore
import HandS.ExcField
import HandS.ExcSuper
import HandS.HotCalls
import KE.KExcInit
import HandS.TryOnly
import HandS.ExcInitHot
import KE.KSuper
import HandS.Nested
import KE.KExcIs
import PySem.Challenge.RW_maybegone_k79_programs_fixed
import KE.RegKTryMore
import KE.RegKIsAll
import PyProof.ReprLen
set_option Elab.async false
set_option linter.all false
set_option maxRecDepth 100000
set_option maxHeartbeats 4000000
/-! S0: a pure world beside the abstract heap: values, objects, stores, results; how they stand for each other -/
namespace Sm
open PySem L2

/-- pure values: a tuple is its items, a mutable object is its number -/
inductive Vl where
  | non | bl (b : Bool) | int (i : Int) | str (x : Str) | tup (xs : List Vl) | ref (i : Nat) | scr (ns : List Int) | ty (n : String) | fn (i : Nat)
/-- mutable objects -/
inductive Ob where
  | lst (xs : List Vl)
  | dic (kvs : List (Key × Vl))
  | dit (kvs : List (List Key × Vl))
  | fdic (kvs : List (Key × Vl))
  | ins (c : Nat) (fs : List (Str × Vl))
  | set (xs : List Int)
abbrev Sto := List Ob
/-- an exception: its class, its fields (none: it has no dict) -/
structure Ex where
  c : Nat
  fs : Option (List (Str × Vl))
inductive Res (α : Type) where
  | ok (a : α) (s : Sto) | exc (e : Ex) (s : Sto) | fail
abbrev M (α : Type) := Sto → Res α
abbrev Lo := List (Option Vl)
def bnd {α β : Type} (m : M α) (f : α → M β) : M β := fun s => match m s with
  | .ok a s' => f a s'
  | .exc e s' => .exc e s'
  | .fail => .fail
def ret {α : Type} (a : α) : M α := fun s => .ok a s
def failM {α : Type} : M α := fun _ => .fail
def lift {α : Type} (f : Sto → Option (α × Sto)) : M α := fun s => match f s with
  | some (a, s') => .ok a s'
  | none => .fail

/-- the exception that an except suite handles: its slot, its address, its dict's address, its fields -/
structure XI where
  i : Nat
  a : Addr
  d : Addr
  ns : List Str
  xs : List Vl
/-- the tables: the written part, the classes, the defs held as values -/
structure Tb where
  K : PySem.W.Frag
  w : World
  cl : List Addr
  fns : List Addr
  xs : List XI := []

mutual
inductive RV (T : Tb) (ρ : List Addr) (H : Hp) : Vl → V → Prop
  | non : RV T ρ H .non .non
  | bl (b : Bool) : RV T ρ H (.bl b) (.bl b)
  | int (i : Int) : RV T ρ H (.int i) (.int i)
  | str (x : Str) : RV T ρ H (.str x) (.str x)
  | tup {a : Addr} {vs : List V} {xs : List Vl} : SqT T.K H a vs → RVs T ρ H xs vs → RV T ρ H (.tup xs) (.ref a)
  | ref {i : Nat} {a : Addr} : ρ[i]? = some a → RV T ρ H (.ref i) (.ref a)
  | scr {ns : List Int} {a : Addr} {o : Obj} : H a = some (.frz o (.lst (ns.map V.int))) → RV T ρ H (.scr ns) (.ref a)
  | scrK {ns : List Int} {a : Addr} : (∀ H' : Hp, SqL T.K H' a (ns.map V.int)) → RV T ρ H (.scr ns) (.ref a)
  | ty (n : String) : RV T ρ H (.ty n) (.ty n)
  | fn {i : Nat} {a : Addr} : T.fns[i]? = some a → RV T ρ H (.fn i) (.ref a)
inductive RVs (T : Tb) (ρ : List Addr) (H : Hp) : List Vl → List V → Prop
  | nil : RVs T ρ H [] []
  | cons {x : Vl} {v : V} {xs : List Vl} {vs : List V} : RV T ρ H x v → RVs T ρ H xs vs → RVs T ρ H (x :: xs) (v :: vs)
end

/-- more is known, nothing that cannot change has changed -/
structure Ext0 (T : Tb) (ρ : List Addr) (H : Hp) (ρ' : List Addr) (H' : Hp) : Prop where
  pre : ∀ (i : Nat) (a : Addr), ρ[i]? = some a → ρ'[i]? = some a
  tup : ∀ a vs, SqT T.K H a vs → SqT T.K H' a vs
  frz : ∀ a o u, H a = some (.frz o (.lst u)) → H' a = some (.frz o (.lst u))
  xd : ∀ a u, H a = some (.xd u) → H' a = some (.xd u)
structure Ext (T : Tb) (ρ : List Addr) (H : Hp) (ρ' : List Addr) (H' : Hp) : Prop extends Ext0 T ρ H ρ' H' where
  frd : ∀ a o u, H a = some (.frz o (.dK u)) → H' a = some (.frz o (.dK u))
theorem Ext.refl {T : Tb} {ρ : List Addr} {H : Hp} : Ext T ρ H ρ H := ⟨⟨fun _ _ h => h, fun _ _ h => h, fun _ _ _ h => h, fun _ _ h => h⟩, fun _ _ _ h => h⟩
theorem Ext.trans {T : Tb} {ρ ρ1 ρ2 : List Addr} {H H1 H2 : Hp} (a : Ext T ρ H ρ1 H1) (b : Ext T ρ1 H1 ρ2 H2) : Ext T ρ H ρ2 H2 :=
  ⟨⟨fun i x h => b.pre i x (a.pre i x h), fun x vs h => b.tup x vs (a.tup x vs h), fun x o u h => b.frz x o u (a.frz x o u h), fun x u h => b.xd x u (a.xd x u h)⟩, fun x o u h => b.frd x o u (a.frd x o u h)⟩

section
variable {T : Tb} {ρ ρ' : List Addr} {H H' : Hp}
mutual
theorem RV.mono0 (e : Ext0 T ρ H ρ' H') : ∀ {x : Vl} {v : V}, RV T ρ H x v → RV T ρ' H' x v
  | _, _, .non => .non
  | _, _, .bl b => .bl b
  | _, _, .int i => .int i
  | _, _, .str x => .str x
  | _, _, .tup h hs => .tup (e.tup _ _ h) (RVs.mono0 e hs)
  | _, _, .ref h => .ref (e.pre _ _ h)
  | _, _, .scr h => .scr (e.frz _ _ _ h)
  | _, _, .scrK h => .scrK h
  | _, _, .ty n => .ty n
  | _, _, .fn h => .fn h
theorem RVs.mono0 (e : Ext0 T ρ H ρ' H') : ∀ {xs : List Vl} {vs : List V}, RVs T ρ H xs vs → RVs T ρ' H' xs vs
  | _, _, .nil => .nil
  | _, _, .cons h hs => .cons (RV.mono0 e h) (RVs.mono0 e hs)
end
theorem RV.mono {x : Vl} {v : V} (h : RV T ρ H x v) (e : Ext T ρ H ρ' H') : RV T ρ' H' x v := h.mono0 e.toExt0
theorem RVs.mono {xs : List Vl} {vs : List V} (h : RVs T ρ H xs vs) (e : Ext T ρ H ρ' H') : RVs T ρ' H' xs vs := h.mono0 e.toExt0
theorem RVs.length : ∀ {xs : List Vl} {vs : List V}, RVs T ρ H xs vs → xs.length = vs.length
  | _, _, .nil => rfl
  | _, _, .cons _ hs => by
    rw [List.length_cons, List.length_cons, RVs.length hs]
theorem RVs.append : ∀ {xs ys : List Vl} {vs us : List V}, RVs T ρ H xs vs → RVs T ρ H ys us → RVs T ρ H (xs ++ ys) (vs ++ us)
  | _, _, _, _, .nil, h => h
  | _, _, _, _, .cons a b, h => .cons a (RVs.append b h)
theorem RVs.get : ∀ {xs : List Vl} {vs : List V} {i : Nat} {x : Vl}, RVs T ρ H xs vs → xs[i]? = some x → ∃ v, vs[i]? = some v ∧ RV T ρ H x v
  | _, _, _, _, .nil, e => by simp at e
  | _, _, 0, _, .cons a _, e => by simp at e; subst e; exact ⟨_, rfl, a⟩
  | _, _, i + 1, x, .cons _ b, e => by
    obtain ⟨v, h1, h2⟩ := RVs.get (i := i) (x := x) b (by simpa using e)
    exact ⟨v, by simpa using h1, h2⟩
theorem RVs.get' : ∀ {xs : List Vl} {vs : List V} {i : Nat} {v : V}, RVs T ρ H xs vs → vs[i]? = some v → ∃ x, xs[i]? = some x ∧ RV T ρ H x v
  | _, _, _, _, .nil, e => by simp at e
  | _, _, 0, _, .cons a _, e => by simp at e; subst e; exact ⟨_, rfl, a⟩
  | _, _, i + 1, v, .cons _ b, e => by
    obtain ⟨x, h1, h2⟩ := RVs.get' (i := i) (v := v) b (by simpa using e)
    exact ⟨x, by simpa using h1, h2⟩
theorem RVs.set {x : Vl} {v : V} (r : RV T ρ H x v) : ∀ {xs : List Vl} {vs : List V} (i : Nat), RVs T ρ H xs vs → RVs T ρ H (xs.set i x) (vs.set i v)
  | _, _, _, .nil => .nil
  | _, _, 0, .cons _ t => .cons r t
  | _, _, i + 1, .cons q t => .cons q (RVs.set r i t)
theorem RVs.take : ∀ {xs : List Vl} {vs : List V} (n : Nat), RVs T ρ H xs vs → RVs T ρ H (xs.take n) (vs.take n)
  | _, _, 0, _ => .nil
  | _, _, _ + 1, .nil => .nil
  | _, _, n + 1, .cons r t => .cons r (RVs.take n t)
theorem RVs.drop : ∀ {xs : List Vl} {vs : List V} (n : Nat), RVs T ρ H xs vs → RVs T ρ H (xs.drop n) (vs.drop n)
  | _, _, 0, r => r
  | _, _, _ + 1, .nil => .nil
  | _, _, n + 1, .cons _ t => RVs.drop n t
end

/-- an object of the store and what stands at its address -/
def RO (T : Tb) (ρ : List Addr) (H : Hp) : Ob → Addr → Prop
  | .lst xs, a => ∃ vs, H a = some (.lst vs) ∧ RVs T ρ H xs vs
  | .dic kvs, a => ∃ vs : List (Key × V), H a = some (.dK vs) ∧ vs.map (·.1) = kvs.map (·.1) ∧ RVs T ρ H (kvs.map (·.2)) (vs.map (·.2))
  | .dit kvs, a => ∃ vs : List (List Key × V), H a = some (.dT vs) ∧ vs.map (·.1) = kvs.map (·.1) ∧ RVs T ρ H (kvs.map (·.2)) (vs.map (·.2))
  | .fdic kvs, a => ∃ (o : Obj) (vs : List (Key × V)), H a = some (.frz o (.dK vs)) ∧ vs.map (·.1) = kvs.map (·.1) ∧ RVs T ρ H (kvs.map (·.2)) (vs.map (·.2))
  | .set xs, a => xs.Nodup ∧ ∃ S : Int → Bool, (∀ k, S k = true ↔ k ∈ xs) ∧ H a = some (SetO T.w a S xs.length)
  | .ins c fs, a => ∃ (C dx : Addr) (vs : List (Str × V)), T.cl[c]? = some C ∧ H a = some (.ins C dx vs) ∧ vs.map (·.1) = fs.map (·.1) ∧ RVs T ρ H (fs.map (·.2)) (vs.map (·.2))
/-- what never stands at a store's address -/
def Fixd : HO → Prop
  | .tup _ => True
  | .xd _ => True
  | .frz _ _ => True
  | _ => False
/-- what a store's address never holds -/
def FixT : HO → Prop
  | .tup _ => True
  | .xd _ => True
  | .frz _ (.lst _) => True
  | .frz _ (.tup _) => True
  | _ => False
theorem RO.some {T : Tb} {ρ : List Addr} {H : Hp} {o : Ob} {a : Addr} (h : RO T ρ H o a) : ∃ u, H a = some u ∧ ¬ FixT u := by
  cases o with
  | lst xs => obtain ⟨vs, h, _⟩ := h; exact ⟨_, h, fun z => z⟩
  | dic xs => obtain ⟨vs, h, _⟩ := h; exact ⟨_, h, fun z => z⟩
  | dit xs => obtain ⟨vs, h, _⟩ := h; exact ⟨_, h, fun z => z⟩
  | fdic xs => obtain ⟨o, vs, h, _⟩ := h; exact ⟨_, h, fun z => z⟩
  | set xs => obtain ⟨_, S, _, h⟩ := h; exact ⟨_, h, fun z => z⟩
  | ins c xs => obtain ⟨C, dx, vs, _, h, _⟩ := h; exact ⟨_, h, fun z => z⟩
theorem RO.mono {T : Tb} {ρ ρ' : List Addr} {H H' : Hp} {o : Ob} {a : Addr} (h : RO T ρ H o a) (e : Ext0 T ρ H ρ' H') (k : H' a = H a) : RO T ρ' H' o a := by
  cases o with
  | lst xs => obtain ⟨vs, h, r⟩ := h; exact ⟨vs, k.trans h, r.mono0 e⟩
  | dic xs => obtain ⟨vs, h, n, r⟩ := h; exact ⟨vs, k.trans h, n, r.mono0 e⟩
  | dit xs => obtain ⟨vs, h, n, r⟩ := h; exact ⟨vs, k.trans h, n, r.mono0 e⟩
  | fdic xs => obtain ⟨o, vs, h, n, r⟩ := h; exact ⟨o, vs, k.trans h, n, r.mono0 e⟩
  | set xs => obtain ⟨n, S, q, h⟩ := h; exact ⟨n, S, q, k.trans h⟩
  | ins c xs => obtain ⟨C, dx, vs, hc, h, n, r⟩ := h; exact ⟨C, dx, vs, hc, k.trans h, n, r.mono0 e⟩

structure Rel (T : Tb) (ρ : List Addr) (H : Hp) (s : Sto) : Prop where
  len : ρ.length = s.length
  nd : ρ.Nodup
  ob : ∀ (i : Nat) (a : Addr) (o : Ob), ρ[i]? = some a → s[i]? = some o → RO T ρ H o a

section
variable {T : Tb} {ρ ρ' : List Addr} {H H' : Hp} {s : Sto}
theorem Rel.at (r : Rel T ρ H s) {i : Nat} {o : Ob} (h : s[i]? = some o) : ∃ a, ρ[i]? = some a ∧ RO T ρ H o a := by
  have hi : i < ρ.length := by
    have := (List.getElem?_eq_some_iff.mp h).1
    rw [r.len]; exact this
  exact ⟨ρ[i], List.getElem?_eq_getElem hi, r.ob i _ o (List.getElem?_eq_getElem hi) h⟩
theorem Rel.tracked (r : Rel T ρ H s) {i : Nat} {a : Addr} (h : ρ[i]? = some a) : ∃ u, H a = some u ∧ ¬ FixT u := by
  have hi : i < s.length := by
    have := (List.getElem?_eq_some_iff.mp h).1
    rw [← r.len]; exact this
  exact (r.ob i a _ h (List.getElem?_eq_getElem hi)).some
theorem rd_ne {H : Hp} {a p : Addr} {u o : HO} (h : Rd H a u) (hp : H p = none) : Rd (upd H p o) a u := by
  rcases h with h | ⟨z, h⟩
  · exact .inl (by rw [upd_ne (ne_of_none h hp)]; exact h)
  · exact .inr ⟨z, by rw [upd_ne (ne_of_none h hp)]; exact h⟩
/-- a new address -/
theorem ext_upd {p : Addr} {o : HO} (hp : H p = none) : Ext T ρ H ρ (upd H p o) :=
  ⟨⟨fun _ _ h => h, fun a vs h => h.elim (fun q => .inl (rd_ne q hp)) .inr, fun a z u h => by rw [upd_ne (ne_of_none h hp)]; exact h, fun a u h => by rw [upd_ne (ne_of_none h hp)]; exact h⟩, fun a z u h => by rw [upd_ne (ne_of_none h hp)]; exact h⟩
theorem ext_push {p : Addr} : Ext T ρ H (ρ ++ [p]) H :=
  ⟨⟨fun i a h => by rw [List.getElem?_append_left (List.getElem?_eq_some_iff.mp h).1]; exact h, fun _ _ h => h, fun _ _ _ h => h, fun _ _ h => h⟩, fun _ _ _ h => h⟩
/-- a change where nothing fixed stands -/
theorem ext0_set {a : Addr} {u o : HO} (ha : H a = some u) (hu : ¬ FixT u) : Ext0 T ρ H ρ (upd H a o) := by
  refine ⟨fun _ _ h => h, fun b vs h => ?_, fun b z w h => ?_, fun b w h => ?_⟩
  · rcases h with (h | ⟨z, h⟩) | h
    · have : b ≠ a := fun e => by subst e; rw [h] at ha; cases ha; exact hu trivial
      exact .inl (.inl (by rw [upd_ne this]; exact h))
    · have : b ≠ a := fun e => by subst e; rw [h] at ha; cases ha; exact hu trivial
      exact .inl (.inr ⟨z, by rw [upd_ne this]; exact h⟩)
    · exact .inr h
  · have : b ≠ a := fun e => by subst e; rw [h] at ha; cases ha; exact hu trivial
    rw [upd_ne this]; exact h
  · have : b ≠ a := fun e => by subst e; rw [h] at ha; cases ha; exact hu trivial
    rw [upd_ne this]; exact h
theorem FixT.fixd {u : HO} (h : FixT u) : Fixd u := by
  cases u <;> first | exact trivial | exact h
theorem ext_set {a : Addr} {u o : HO} (ha : H a = some u) (hu : ¬ Fixd u) : Ext T ρ H ρ (upd H a o) :=
  ⟨ext0_set ha fun z => hu z.fixd, fun b z w h => by
    have : b ≠ a := fun e => by subst e; rw [h] at ha; cases ha; exact hu trivial
    rw [upd_ne this]; exact h⟩
/-- something that the store does not know is laid -/
theorem Rel.laid (r : Rel T ρ H s) {p : Addr} {o : HO} (hp : H p = none) : Rel T ρ (upd H p o) s :=
  ⟨r.len, r.nd, fun i a o h1 h2 => (r.ob i a o h1 h2).mono (ext_upd hp).toExt0 (by
    obtain ⟨u, hu, _⟩ := r.tracked h1
    exact upd_ne (ne_of_none hu hp))⟩
theorem getElem?_snoc {α : Type} {l : List α} {x y : α} {i : Nat} (h : (l ++ [x])[i]? = some y) : l[i]? = some y ∨ (i = l.length ∧ y = x) := by
  by_cases hi : i < l.length
  · rw [List.getElem?_append_left hi] at h; exact .inl h
  · rw [List.getElem?_append_right (by omega)] at h
    have h' := h
    have : i - l.length = 0 := by
      cases e : i - l.length with
      | zero => rfl
      | succ n => rw [e] at h; simp at h
    rw [this] at h
    simp at h
    exact .inr ⟨by omega, h.symm⟩
/-- a new object -/
theorem Rel.new (r : Rel T ρ H s) {p : Addr} {o : HO} {b : Ob} (hp : H p = none) (hb : RO T (ρ ++ [p]) (upd H p o) b p) : Rel T (ρ ++ [p]) (upd H p o) (s ++ [b]) := by
  refine ⟨by rw [List.length_append, List.length_append, r.len]; rfl, ?_, fun i a o' h1 h2 => ?_⟩
  · rw [List.nodup_append]
    refine ⟨r.nd, by simp, fun x hx y hy => ?_⟩
    simp at hy
    subst hy
    obtain ⟨i, hi⟩ := List.getElem?_of_mem hx
    obtain ⟨u, hu, _⟩ := r.tracked hi
    exact ne_of_none hu hp
  · rcases getElem?_snoc h1 with q1 | ⟨e1, e2⟩
    · rcases getElem?_snoc h2 with q2 | ⟨e3, e4⟩
      · obtain ⟨u, hu, _⟩ := r.tracked q1
        exact (r.ob i a o' q1 q2).mono ((ext_upd hp).trans ext_push).toExt0 (upd_ne (ne_of_none hu hp))
      · exfalso
        have := (List.getElem?_eq_some_iff.mp q1).1
        have := r.len
        omega
    · rcases getElem?_snoc h2 with q2 | ⟨e3, e4⟩
      · exfalso
        have := (List.getElem?_eq_some_iff.mp q2).1
        have := r.len
        omega
      · subst e2 e4
        exact hb
theorem Rel.newExt (r : Rel T ρ H s) {p : Addr} {o : HO} (hp : H p = none) : Ext T ρ H (ρ ++ [p]) (upd H p o) := (ext_upd hp).trans ext_push
theorem Rel.newRef (r : Rel T ρ H s) {p : Addr} {H1 : Hp} : RV T (ρ ++ [p]) H1 (.ref s.length) (.ref p) :=
  .ref (by rw [← r.len, List.getElem?_append_right (Nat.le_refl _)]; simp)
/-- an object changed -/
theorem Rel.set (r : Rel T ρ H s) {i : Nat} {a : Addr} {o : HO} {b : Ob} (ha : ρ[i]? = some a) (hb : RO T ρ (upd H a o) b a) : Rel T ρ (upd H a o) (s.set i b) := by
  obtain ⟨u, hu, nf⟩ := r.tracked ha
  refine ⟨by rw [List.length_set]; exact r.len, r.nd, fun j c o' h1 h2 => ?_⟩
  by_cases e : j = i
  · subst e
    have ec : c = a := Option.some.inj (h1.symm.trans ha)
    subst ec
    have hl : j < s.length := by rw [← r.len]; exact (List.getElem?_eq_some_iff.mp h1).1
    rw [List.getElem?_set_self hl] at h2
    cases h2
    exact hb
  · rw [List.getElem?_set_ne (fun z => e z.symm)] at h2
    have nc : c ≠ a := fun z => by
      subst z
      exact e (nodup_at r.nd h1 ha)
    exact (r.ob j c o' h1 h2).mono (ext0_set hu nf) (upd_ne nc)
where
  nodup_at {α : Type} {l : List α} {x : α} {i j : Nat} (nd : l.Nodup) (a : l[i]? = some x) (b : l[j]? = some x) : i = j := by
    exact (List.getElem?_inj (List.getElem?_eq_some_iff.mp a).1 nd).mp (a.trans b.symm)
theorem Rel.setExt (r : Rel T ρ H s) {i : Nat} {a : Addr} {o u : HO} (ha : ρ[i]? = some a) (hu : H a = some u) (nf : ¬ Fixd u := by exact fun z => z) : Ext T ρ H ρ (upd H a o) := ext_set hu nf
end

/-- the frame's slots -/
structure RL (T : Tb) (ρ : List Addr) (H : Hp) (lo : Lo) (σ : St) : Prop where
  len : lo.length = σ.length
  at_ : ∀ (i : Nat) (x : Vl), lo[i]? = some (some x) → ∃ v, σ[i]? = some (some v) ∧ RV T ρ H x v
  xc : ∀ p ∈ T.xs, lo[p.i]? = some none → σ[p.i]? = some (some (.ref p.a)) ∧ ∃ vs : List (Str × V), H p.d = some (.xd vs) ∧ vs.map (·.1) = p.ns ∧ RVs T ρ H p.xs (vs.map (·.2))
theorem RL.mono {T : Tb} {ρ ρ' : List Addr} {H H' : Hp} {lo : Lo} {σ : St} (r : RL T ρ H lo σ) (e : Ext T ρ H ρ' H') : RL T ρ' H' lo σ :=
  ⟨r.len, fun i x h => let ⟨v, h1, h2⟩ := r.at_ i x h; ⟨v, h1, h2.mono e⟩, fun p hp h => let ⟨h1, vs, h2, h3, h4⟩ := r.xc p hp h; ⟨h1, vs, e.xd _ _ h2, h3, h4.mono e⟩⟩
theorem RL.set {T : Tb} {ρ : List Addr} {H : Hp} {lo : Lo} {σ : St} (r : RL T ρ H lo σ) {x : Vl} {v : V} (i : Nat) (h : RV T ρ H x v) : RL T ρ H (lo.set i (some x)) (σ.set i (some v)) := by
  refine ⟨by rw [List.length_set, List.length_set]; exact r.len, fun j y hj => ?_, fun p hp hj => ?_⟩
  rotate_left
  · by_cases e : p.i = i
    · exfalso
      rw [e] at hj
      by_cases hl : i < lo.length
      · rw [List.getElem?_set_self hl] at hj; cases hj
      · rw [List.getElem?_eq_none (by rw [List.length_set]; omega)] at hj; cases hj
    · rw [List.getElem?_set_ne (fun z => e z.symm)] at hj ⊢
      exact r.xc p hp hj
  by_cases e : j = i
  · subst e
    have hl : j < lo.length := by have := (List.getElem?_eq_some_iff.mp hj).1; rw [List.length_set] at this; exact this
    rw [List.getElem?_set_self hl] at hj
    cases hj
    exact ⟨v, List.getElem?_set_self (by rw [← r.len]; exact hl), h⟩
  · rw [List.getElem?_set_ne (fun z => e z.symm)] at hj
    obtain ⟨w, h1, h2⟩ := r.at_ j y hj
    exact ⟨w, by rw [List.getElem?_set_ne (fun z => e z.symm)]; exact h1, h2⟩

/-- an exception as it is handed on -/
def PoX (T : Tb) (W : XK) (ρ : List Addr) (H : Hp) (e : Ex) (s : Sto) : Prop :=
  ∀ (ρ' : List Addr) (H' : Hp) (C : Addr), Ext T ρ H ρ' H' → Rel T ρ' H' s → T.cl[e.c]? = some C →
    match e.fs with
    | none => W (.ref C) none H'
    | some fs => ∀ (d : Addr) (vs : List (Str × V)), H' d = some (.xd vs) → vs.map (·.1) = fs.map (·.1) → RVs T ρ' H' (fs.map (·.2)) (vs.map (·.2)) → W (.ref C) (some d) H'
/-- what is asked behind a computation -/
def Po {α β : Type} (R : List Addr → Hp → α → β → Prop) (T : Tb) (W : XK) (ρ : List Addr) (H : Hp) (r : Res α) (Q : β → Hp → Prop) : Prop := match r with
  | .ok a s => ∀ (ρ' : List Addr) (H' : Hp) (b : β), Ext T ρ H ρ' H' → Rel T ρ' H' s → R ρ' H' a b → Q b H'
  | .exc e s => PoX T W ρ H e s
  | .fail => False
theorem Po.mono {α β : Type} {R : List Addr → Hp → α → β → Prop} {T : Tb} {W : XK} {ρ ρ' : List Addr} {H H' : Hp} {r : Res α} {Q : β → Hp → Prop} (p : Po R T W ρ H r Q) (e : Ext T ρ H ρ' H') : Po R T W ρ' H' r Q := by
  cases r with
  | ok a s => exact fun ρ2 H2 b e2 => p ρ2 H2 b (e.trans e2)
  | exc x s => exact fun ρ2 H2 C e2 => p ρ2 H2 C (e.trans e2)
  | fail => exact p
/-- the reading of a computation -/
def tG {α β : Type} (R : List Addr → Hp → α → β → Prop) (T : Tb) (W : WX) (m : Lo → M α) : St → Hp → (β → Hp → Prop) → Prop := fun σ H Q =>
  ∃ (ρ : List Addr) (s : Sto) (lo : Lo), Rel T ρ H s ∧ RL T ρ H lo σ ∧ Po R T (fun c d H' => W c d σ H') ρ H (m lo s) Q
abbrev tE (T : Tb) (W : WX) (m : Lo → M Vl) : TE := tG (RV T) T W m
abbrev tA (T : Tb) (W : WX) (m : Lo → M (List Vl)) : TA := tG (RVs T) T W m
abbrev RB : List Addr → Hp → Bool → Bool → Prop := fun _ _ a b => a = b
abbrev tT (T : Tb) (W : WX) (m : Lo → M Bool) : TT := tG RB T W m
/-- the state behind a part -/
structure Bh {α β : Type} (R : List Addr → Hp → α → β → Prop) (T : Tb) (σ : St) (H : Hp) (b : β) (k : List Addr → Sto → Lo → α → Prop) : Prop where
  ex : ∃ (ρ : List Addr) (s : Sto) (lo : Lo) (a : α), Rel T ρ H s ∧ RL T ρ H lo σ ∧ R ρ H a b ∧ k ρ s lo a
/-- THE step: a part, then the rest -/
theorem tG_bnd {α β γ δ : Type} {R : List Addr → Hp → α → β → Prop} {R' : List Addr → Hp → γ → δ → Prop} {T : Tb} {W : WX} {m : Lo → M α} {f : Lo → α → M γ} {σ : St} {H : Hp} {Q : δ → Hp → Prop} {Q' : β → Hp → Prop}
    (h : tG R' T W (fun lo => bnd (m lo) (f lo)) σ H Q)
    (k : ∀ (ρ : List Addr) (s : Sto) (lo : Lo) (a : α) (b : β) (H1 : Hp), Rel T ρ H1 s → RL T ρ H1 lo σ → R ρ H1 a b → Po R' T (fun c d H' => W c d σ H') ρ H1 (f lo a s) Q → Q' b H1) : tG R T W m σ H Q' := by
  obtain ⟨ρ, s, lo, r, rl, p⟩ := h
  refine ⟨ρ, s, lo, r, rl, ?_⟩
  have p : Po R' T _ ρ H (bnd (m lo) (f lo) s) Q := p
  unfold bnd at p
  cases e : m lo s with
  | ok a s1 =>
    rw [e] at p
    exact fun ρ' H' b x r' hb => k ρ' s1 lo a b H' r' (rl.mono x) hb (p.mono x)
  | exc z s1 =>
    rw [e] at p
    exact p
  | fail =>
    rw [e] at p
    exact p
end Sm

/-! S1: expressions: names, constants, operators, tests, displays -/
namespace Sm
open PySem L2

theorem pe_mono {X : Cx} {e : Expr} {t t' : TE} (h : PE X e t) (k : ∀ σ H Q, t' σ H Q → t σ H Q) : PE X e t' := ⟨fun pins s σ H Q I q => h.run pins s σ H Q I (k σ H Q q)⟩
theorem pt_mono {X : Cx} {e : Expr} {t t' : TT} (h : PT X e t) (k : ∀ σ H Q, t' σ H Q → t σ H Q) : PT X e t' := ⟨fun pins s σ H Q I q => h.run pins s σ H Q I (k σ H Q q)⟩
theorem pw_mono {X : Cx} {e : Expr} {t t' : TT} (h : PW X e t) (k : ∀ σ H Q, t' σ H Q → t σ H Q) : PW X e t' := ⟨fun w pins s σ H Q I q => h.run w pins s σ H Q I (k σ H Q q)⟩
theorem pa_mono {X : Cx} {es : List Expr} {t t' : TA} (h : PA X es t) (k : ∀ σ H Q, t' σ H Q → t σ H Q) : PA X es t' := ⟨fun p pins s σ H Q I q => h.run p pins s σ H Q I (k σ H Q q)⟩

/-! ### the combinators -/
abbrev EM := Lo → M Vl
abbrev TM := Lo → M Bool
abbrev AM := Lo → M (List Vl)
abbrev O1 := Vl → Sto → Option (Vl × Sto)
abbrev O2 := Vl → Vl → Sto → Option (Vl × Sto)
abbrev OC := List Vl → Sto → Option (Vl × Sto)
abbrev OMt := Vl → List Vl → Sto → Option (Vl × Sto)
def eVar (i : Nat) : EM := fun lo s => match lo[i]? with
  | some (some v) => .ok v s
  | _ => .fail
def eC (v : Vl) : EM := fun _ s => .ok v s
def eOp1 (f : O1) (a : EM) : EM := fun lo => bnd (a lo) fun x => lift (f x)
def eOp (f : O2) (a b : EM) : EM := fun lo => bnd (a lo) fun x => bnd (b lo) fun y => lift (f x y)
def aNil : AM := fun _ s => .ok [] s
def aCons (a : EM) (r : AM) : AM := fun lo => bnd (a lo) fun x => bnd (r lo) fun xs => ret (x :: xs)
def eCB (f : OC) (a : AM) : EM := fun lo => bnd (a lo) fun xs => lift (f xs)
def eMt (f : OMt) (o : EM) (a : AM) : EM := fun lo => bnd (o lo) fun x => bnd (a lo) fun xs => lift (f x xs)
def tVal (a : EM) : TM := fun lo => bnd (a lo) fun x => match x with
  | .bl b => ret b
  | _ => failM
def tAndM (a b : TM) : TM := fun lo => bnd (a lo) fun x => match x with
  | true => b lo
  | false => ret false
def tOrM (a b : TM) : TM := fun lo => bnd (a lo) fun x => match x with
  | true => ret true
  | false => b lo
def tNotM (a : TM) : TM := fun lo => bnd (a lo) fun x => ret (!x)
def eAndM (a b : EM) : EM := fun lo => bnd (a lo) fun x => match x with
  | .bl true => b lo
  | .bl false => ret (.bl false)
  | _ => failM
def eOrM (a b : EM) : EM := fun lo => bnd (a lo) fun x => match x with
  | .bl false => b lo
  | .bl true => ret (.bl true)
  | _ => failM
def eNotM (a : EM) : EM := fun lo => bnd (a lo) fun x => match x with
  | .bl b => ret (.bl (!b))
  | _ => failM
def eIfM (t : TM) (a b : EM) : EM := fun lo => bnd (t lo) fun x => match x with
  | true => a lo
  | false => b lo
abbrev LIM : Nat := 16777216
theorem lim_eq : sizeLine = LIM := sizeLine_eq
def oTup : OC := fun xs s => if xs.length ≤ LIM then some (.tup xs, s) else none
def oLst : OC := fun xs s => if xs.length ≤ LIM then some (.ref s.length, s ++ [.lst xs]) else none

/-! ### behind an operation -/
def Aft (T : Tb) (ρ : List Addr) (H : Hp) (s : Sto) (v : Vl) (Q : VK) : Prop := ∀ (ρ' : List Addr) (H' : Hp) (z : V), Ext T ρ H ρ' H' → Rel T ρ' H' s → RV T ρ' H' v z → Q z H'
section
variable {T : Tb} {ρ : List Addr} {H : Hp} {s s' : Sto} {v : Vl} {Q : VK}
theorem Aft.here (k : Aft T ρ H s v Q) (r : Rel T ρ H s) {z : V} (h : RV T ρ H v z) : Q z H := k ρ H z .refl r h
theorem Aft.tup {xs : List Vl} {vs : List V} (k : Aft T ρ H s (.tup xs) Q) (r : Rel T ρ H s) (h : RVs T ρ H xs vs) {p : Addr} (hp : H p = none) : Q (.ref p) (upd H p (.tup vs)) :=
  k ρ _ _ (ext_upd hp) (r.laid hp) (.tup (SqT.of upd_same) (h.mono (ext_upd hp)))
theorem Aft.new {b : Ob} {o : HO} (k : Aft T ρ H (s ++ [b]) (.ref s.length) Q) (r : Rel T ρ H s) {p : Addr} (hp : H p = none) (hb : RO T (ρ ++ [p]) (upd H p o) b p) : Q (.ref p) (upd H p o) :=
  k _ _ _ (r.newExt hp) (r.new hp hb) r.newRef
theorem Aft.lst {xs : List Vl} {vs : List V} (k : Aft T ρ H (s ++ [.lst xs]) (.ref s.length) Q) (r : Rel T ρ H s) (h : RVs T ρ H xs vs) {p : Addr} (hp : H p = none) : Q (.ref p) (upd H p (.lst vs)) :=
  k.new r hp ⟨vs, upd_same, h.mono (r.newExt hp)⟩
theorem Aft.set {i : Nat} {b : Ob} {o u : HO} {a : Addr} {v : Vl} {z : V} (k : Aft T ρ H (s.set i b) v Q) (r : Rel T ρ H s) (ha : ρ[i]? = some a) (hu : H a = some u) (nf : ¬ Fixd u) (hb : RO T ρ (upd H a o) b a) (hv : RV T ρ H v z) : Q z (upd H a o) :=
  k _ _ _ (r.setExt ha hu nf) (r.set ha hb) (hv.mono (r.setExt ha hu nf))
end
def rO1 (T : Tb) (f : O1) : V → Hp → VK → Prop := fun x H Q => ∃ ρ s a v s', Rel T ρ H s ∧ RV T ρ H a x ∧ f a s = some (v, s') ∧ Aft T ρ H s' v Q
def rO (T : Tb) (f : O2) : R2 := fun x y H Q => ∃ ρ s a b v s', Rel T ρ H s ∧ RV T ρ H a x ∧ RV T ρ H b y ∧ f a b s = some (v, s') ∧ Aft T ρ H s' v Q
def rC (T : Tb) (f : OC) : List V → Hp → VK → Prop := fun xs H Q => ∃ ρ s as v s', Rel T ρ H s ∧ RVs T ρ H as xs ∧ f as s = some (v, s') ∧ Aft T ρ H s' v Q
def rMt (T : Tb) (f : OMt) : V → List V → Hp → VK → Prop := fun x xs H Q => ∃ ρ s a as v s', Rel T ρ H s ∧ RV T ρ H a x ∧ RVs T ρ H as xs ∧ f a as s = some (v, s') ∧ Aft T ρ H s' v Q
theorem po_lift {T : Tb} {W : XK} {ρ : List Addr} {H : Hp} {s : Sto} {f : Sto → Option (Vl × Sto)} {Q : VK} (p : Po (RV T) T W ρ H (lift f s) Q) : ∃ v s', f s = some (v, s') ∧ Aft T ρ H s' v Q := by
  unfold lift at p
  cases e : f s with
  | none => rw [e] at p; exact p.elim
  | some q =>
    obtain ⟨v, s'⟩ := q
    rw [e] at p
    exact ⟨v, s', rfl, p⟩
theorem po_ret {α β : Type} {R : List Addr → Hp → α → β → Prop} {T : Tb} {W : XK} {ρ : List Addr} {H : Hp} {s : Sto} {a : α} {Q : β → Hp → Prop} (p : Po R T W ρ H (ret a s) Q) (r : Rel T ρ H s) {b : β} (h : R ρ H a b) : Q b H := p ρ H b .refl r h
theorem po_bnd {α β γ δ : Type} {R : List Addr → Hp → α → β → Prop} {R' : List Addr → Hp → γ → δ → Prop} {T : Tb} {W : WX} {m : Lo → M α} {f : α → M γ} {ρ : List Addr} {s : Sto} {lo : Lo} {σ : St} {H : Hp} {Q : δ → Hp → Prop} {Q' : β → Hp → Prop}
    (r : Rel T ρ H s) (rl : RL T ρ H lo σ) (p : Po R' T (fun c d H' => W c d σ H') ρ H (bnd (m lo) f s) Q)
    (k : ∀ (ρ' : List Addr) (s' : Sto) (a : α) (b : β) (H' : Hp), Ext T ρ H ρ' H' → Rel T ρ' H' s' → RL T ρ' H' lo σ → R ρ' H' a b → Po R' T (fun c d H' => W c d σ H') ρ' H' (f a s') Q → Q' b H') : tG R T W m σ H Q' := by
  refine ⟨ρ, s, lo, r, rl, ?_⟩
  unfold bnd at p
  cases e : m lo s with
  | ok a s1 =>
    rw [e] at p
    exact fun ρ' H' b x r' hb => k ρ' s1 a b H' x r' (rl.mono x) hb (p.mono x)
  | exc z s1 => rw [e] at p; exact p
  | fail => rw [e] at p; exact p

section
variable {X : Cx} {T : Tb} {W : WX} {a b c e : Expr} {es : List Expr} {ma mb mc me : EM} {ta tb : TM} {mr : AM} {pos : Pos}
theorem ce_var (i : Nat) {x : Str} (hN : X.N[i]? = some x := by rfl) (hv : Vis X.env.scope x := by first | exact Or.inl rfl | exact Or.inr (Or.inl rfl) | exact Or.inr (Or.inr rfl)) (hd : (x == ("__debug__" : Str)) = false := by decide)
    (hcd : (x == ("__classdict__" : Str)) = false := by decide) : PE X (.Name x pos) (tE T W (eVar i)) :=
  pe_mono (pe_var hN hv hd hcd) fun σ H Q h => by
    obtain ⟨ρ, s, lo, r, rl, p⟩ := h
    have p : Po (RV T) T _ ρ H (eVar i lo s) Q := p
    unfold eVar at p
    split at p
    · rename_i v hv
      obtain ⟨z, h1, h2⟩ := rl.at_ i v hv
      exact ⟨z, h1, p ρ H z .refl r h2⟩
    · exact p.elim
theorem ce_of {v : Vl} {z : V} (h : PE X e (tC z)) (hv : ∀ ρ H, RV T ρ H v z) : PE X e (tE T W (eC v)) :=
  pe_mono h fun σ H Q h => by
    obtain ⟨ρ, s, lo, r, rl, p⟩ := h
    exact p ρ H z .refl r (hv ρ H)
theorem ce_int {i j} : PE X (.Constant (.int i) j pos) (tE T W (eC (.int i))) := ce_of pe_int fun _ _ => .int i
theorem ce_bl {i j} : PE X (.Constant (.bool i) j pos) (tE T W (eC (.bl i))) := ce_of pe_bl fun _ _ => .bl i
theorem ce_non {j} : PE X (.Constant .none j pos) (tE T W (eC .non)) := ce_of pe_non fun _ _ => .non
theorem ce_str {i j} : PE X (.Constant (.str i) j pos) (tE T W (eC (.str i))) := ce_of pe_str fun _ _ => .str i
/-- two parts and an operation of their values -/
theorem top_le {f : O2} {σ : St} {H : Hp} {Q : VK} (h : tE T W (eOp f ma mb) σ H Q) : tOp (rO T f) (tE T W ma) (tE T W mb) σ H Q :=
  tG_bnd (f := fun lo x => bnd (mb lo) fun y => lift (f x y)) h fun ρ s lo x z H1 r rl hx p =>
    po_bnd (m := mb) r rl p fun ρ' s' y z' H' ext r' rl' hy p' => by
      obtain ⟨v, s2, e, k⟩ := po_lift p'
      exact ⟨ρ', s', x, y, v, s2, r', hx.mono ext, hy, e, k⟩
theorem ce_op {op : Operator} {f : O2} (ho : OpR X (binaryOp op) (rO T f)) (ha : PE X a (tE T W ma)) (hb : PE X b (tE T W mb)) : PE X (.BinOp a op b pos) (tE T W (eOp f ma mb)) :=
  pe_mono (pe_op ho ha hb) fun _ _ _ h => top_le h
theorem ce_cmp {op : CmpOp} {f : O2} (ho : OpR X (compareOp op) (rO T f)) (ha : PE X a (tE T W ma)) (hb : PE X b (tE T W mb)) (hm : behindInMarks op b = false := by first | exact nomark _ | rfl) : PE X (.Compare a [op] [b] pos) (tE T W (eOp f ma mb)) :=
  pe_mono (pe_cmpR ho ha hb hm) fun _ _ _ h => top_le h
theorem ce_ix {f : O2} (ho : IxR X (rO T f)) (ha : PE X a (tE T W ma)) (hb : PE X b (tE T W mb)) (hs : PlainIx b := by exact fun _ _ => rfl) : PE X (.Subscript a b pos) (tE T W (eOp f ma mb)) :=
  pe_mono (pe_ix ho ha hb hs) fun _ _ _ h => top_le h
theorem ce_un {op : UnaryOp} {f : O1} (ho : UnR X (unaryOp op) (rO1 T f)) (ha : PE X a (tE T W ma)) : PE X (.UnaryOp op a pos) (tE T W (eOp1 f ma)) :=
  pe_mono (pe_un ho ha) fun σ H Q h =>
    tG_bnd (f := fun lo x => lift (f x)) h fun ρ s lo x z H1 r rl hx p => by
      obtain ⟨v, s2, e, k⟩ := po_lift p
      exact ⟨ρ, s, x, v, s2, r, hx, e, k⟩
/-! ### tests -/
theorem tval_le {σ : St} {H : Hp} {Q : Bool → Hp → Prop} (h : tT T W (tVal ma) σ H Q) : tE T W ma σ H fun x H1 => ∃ k, x = .bl k ∧ Q k H1 :=
  tG_bnd h fun ρ s lo x z H1 r rl hx p => by
    cases hx with
    | bl k => exact ⟨k, rfl, p ρ H1 k .refl r rfl⟩
    | _ => exact p.elim
theorem ct_val (h : PE X e (tE T W me)) (he : ∀ whole, isTrue e X.env whole = (do let v ← whole; standAt e.pos; holding [v] (truthy v)) := by intro _; rfl) : PT X e (tT T W (tVal me)) :=
  pt_mono (pt_val h he) fun _ _ _ h => tval_le h
theorem ct_cmp {op : CmpOp} {f : O2} (ho : OpR X (compareOp op) (rO T f)) (ha : PE X a (tE T W ma)) (hb : PE X b (tE T W mb)) (hm : behindInMarks op b = false := by first | exact nomark _ | rfl) : PT X (.Compare a [op] [b] pos) (tT T W (tVal (eOp f ma mb))) :=
  pt_mono (pt_cmpR ho ha hb hm) fun _ _ _ h => top_le (tval_le h)
theorem ct_not (h : PT X a (tT T W ta)) : PT X (.UnaryOp .Not a pos) (tT T W (tNotM ta)) :=
  pt_mono (pt_not h) fun _ _ _ h => tG_bnd h fun ρ s lo x z H1 r rl hx p => by
    cases hx
    exact po_ret (R := RB) p r rfl
theorem cw_and1 (ha : PT X a (tT T W ta)) : PW X (.BoolOp .And [a] pos) (tT T W ta) := pw_and1 ha
theorem cw_or1 (ha : PT X a (tT T W ta)) : PW X (.BoolOp .Or [a] pos) (tT T W ta) := pw_or1 ha
theorem cw_and (ha : PT X a (tT T W ta)) (hb : PW X (.BoolOp .And (b :: es) pos) (tT T W tb)) : PW X (.BoolOp .And (a :: b :: es) pos) (tT T W (tAndM ta tb)) :=
  pw_mono (pw_and ha hb) fun _ _ _ h => tG_bnd h fun ρ s lo x z H1 r rl hx p => by
    cases hx
    cases x with
    | true => exact ⟨ρ, s, lo, r, rl, p⟩
    | false => exact po_ret (R := RB) p r rfl
theorem cw_or (ha : PT X a (tT T W ta)) (hb : PW X (.BoolOp .Or (b :: es) pos) (tT T W tb)) : PW X (.BoolOp .Or (a :: b :: es) pos) (tT T W (tOrM ta tb)) :=
  pw_mono (pw_or ha hb) fun _ _ _ h => tG_bnd h fun ρ s lo x z H1 r rl hx p => by
    cases hx
    cases x with
    | false => exact ⟨ρ, s, lo, r, rl, p⟩
    | true => exact po_ret (R := RB) p r rfl
/-! ### and, or, not, if as values -/
theorem ce_one {op} (h : PE X a (tE T W ma)) : PE X (.BoolOp op [a] pos) (tE T W ma) := pe_one h
theorem ce_and (ha : PE X a (tE T W ma)) (hb : PE X (.BoolOp .And (b :: es) pos) (tE T W mb)) : PE X (.BoolOp .And (a :: b :: es) pos) (tE T W (eAndM ma mb)) :=
  pe_mono (pe_and ha hb) fun _ _ _ h => tG_bnd h fun ρ s lo x z H1 r rl hx p => by
    cases hx with
    | bl k =>
      cases k with
      | true => exact ⟨true, rfl, ρ, s, lo, r, rl, p⟩
      | false => exact ⟨false, rfl, po_ret (R := RV T) p r (.bl false)⟩
    | _ => exact p.elim
theorem ce_or (ha : PE X a (tE T W ma)) (hb : PE X (.BoolOp .Or (b :: es) pos) (tE T W mb)) : PE X (.BoolOp .Or (a :: b :: es) pos) (tE T W (eOrM ma mb)) :=
  pe_mono (pe_or ha hb) fun _ _ _ h => tG_bnd h fun ρ s lo x z H1 r rl hx p => by
    cases hx with
    | bl k =>
      cases k with
      | false => exact ⟨false, rfl, ρ, s, lo, r, rl, p⟩
      | true => exact ⟨true, rfl, po_ret (R := RV T) p r (.bl true)⟩
    | _ => exact p.elim
theorem ce_not (ha : PE X a (tE T W ma)) : PE X (.UnaryOp .Not a pos) (tE T W (eNotM ma)) :=
  pe_mono (pe_not ha) fun _ _ _ h => tG_bnd h fun ρ s lo x z H1 r rl hx p => by
    cases hx with
    | bl k => exact ⟨k, rfl, po_ret (R := RV T) p r (.bl _)⟩
    | _ => exact p.elim
theorem ce_if (hc : PT X c (tT T W ta)) (ha : PE X a (tE T W ma)) (hb : PE X b (tE T W mb)) : PE X (.IfExp c a b pos) (tE T W (eIfM ta ma mb)) :=
  pe_mono (pe_ifExp hc ha hb) fun _ _ _ h => tG_bnd h fun ρ s lo x z H1 r rl hx p => by
    cases hx
    cases x with
    | true => exact ⟨ρ, s, lo, r, rl, p⟩
    | false => exact ⟨ρ, s, lo, r, rl, p⟩
/-! ### argument lists, displays -/
theorem ca_nil : PA X [] (tA T W aNil) := pa_mono pa_nil fun σ H Q h => by
  obtain ⟨ρ, s, lo, r, rl, p⟩ := h
  exact p ρ H [] .refl r .nil
theorem ca_cons (ha : PE X e (tE T W me)) (hr : PA X es (tA T W mr)) (hs : starEach (e :: es) X.env = (false, eval e X.env) :: starEach es X.env := by rfl) : PA X (e :: es) (tA T W (aCons me mr)) :=
  pa_mono (pa_cons ha hr hs) fun _ _ _ h => tG_bnd (R := RV T) h fun ρ s lo x z H1 r rl hx p =>
    po_bnd (R := RVs T) (m := mr) r rl p fun ρ' s' xs zs H' ext r' rl' hxs p' => po_ret (R := RVs T) p' r' (.cons (hx.mono ext) hxs)
theorem tcb_le {f : OC} {σ : St} {H : Hp} {Q : VK} (h : tE T W (eCB f mr) σ H Q) : tA T W mr σ H fun vs H1 => rC T f vs H1 Q :=
  tG_bnd (R := RVs T) h fun ρ s lo xs zs H1 r rl hx p => by
    obtain ⟨v, s2, e, k⟩ := po_lift p
    exact ⟨ρ, s, xs, v, s2, r, hx, e, k⟩
theorem ce_tup {x1} (h : PA X es (tA T W mr)) : PE X (.Tuple es x1 pos) (tE T W (eCB oTup mr)) :=
  pe_mono (pe_tup h) fun _ _ _ h => tG_bnd (R := RVs T) h fun ρ s lo xs zs H1 r rl hx p => by
    obtain ⟨v, s2, e, k⟩ := po_lift p
    unfold oTup at e
    split at e
    · rename_i hl
      cases e
      exact ⟨by rw [← hx.length, lim_eq]; exact hl, fun q hq => k.tup r hx hq⟩
    · cases e
theorem ce_lst (h : PA X es (tA T W mr)) : PE X (.List es pos) (tE T W (eCB oLst mr)) :=
  pe_mono (pe_lst h) fun _ _ _ h => tG_bnd (R := RVs T) h fun ρ s lo xs zs H1 r rl hx p => by
    obtain ⟨v, s2, e, k⟩ := po_lift p
    unfold oLst at e
    split at e
    · rename_i hl
      cases e
      exact ⟨by rw [← hx.length, lim_eq]; exact hl, fun q hq => k.lst r hx hq⟩
    · cases e
/-! ### built-ins by name; methods of built-in types -/
theorem ce_callB {x : Str} {p : Pos} {id : String} {f : OC} (hc : CallR X (.builtin id) (rC T f)) (hg : Gl X x) (hm : X.mg x = none) (hv : bootBuiltins x = some (.builtin id)) (ha : PA X (e :: es) (tA T W mr)) (hn : x ≠ "__name__" := by decide) (hdb : (x == ("__debug__" : Str)) = false := by decide)
    (he : starEach (e :: es) X.env = (false, eval e X.env) :: starEach es X.env := by rfl) (hpl : (backTo pos (starEach es X.env)).any (·.1) = false := by rfl) : PE X (.Call (.Name x p) (e :: es) [] pos) (tE T W (eCB f mr)) :=
  pe_mono (pe_callB hc hg hm hv ha hn hdb he hpl) fun _ _ _ h => tcb_le h
theorem ce_callTy {x : Str} {p : Pos} {id : String} {f : OC} (hc : CallR X (.type id) (rC T f)) (hg : Gl X x) (hm : X.mg x = none) (hv : bootBuiltins x = some (.type id)) (ha : PA X (e :: es) (tA T W mr)) (hn : x ≠ "__name__" := by decide) (hdb : (x == ("__debug__" : Str)) = false := by decide)
    (he : starEach (e :: es) X.env = (false, eval e X.env) :: starEach es X.env := by rfl) (hpl : (backTo pos (starEach es X.env)).any (·.1) = false := by rfl) : PE X (.Call (.Name x p) (e :: es) [] pos) (tE T W (eCB f mr)) :=
  pe_mono (pe_callTy hc hg hm hv ha hn hdb he hpl) fun _ _ _ h => tcb_le h
end
end Sm

/-! S2: operators on values -/
namespace Sm
open PySem L2

/-! ### values that are known by their form -/
section
variable {T : Tb} {ρ : List Addr} {H : Hp} {z : V}
theorem RV.nonE (h : RV T ρ H .non z) : z = .non := by cases h; rfl
theorem RV.blE {b : Bool} (h : RV T ρ H (.bl b) z) : z = .bl b := by cases h; rfl
theorem RV.intE {i : Int} (h : RV T ρ H (.int i) z) : z = .int i := by cases h; rfl
theorem RV.strE {x : Str} (h : RV T ρ H (.str x) z) : z = .str x := by cases h; rfl
theorem RV.refE {i : Nat} (h : RV T ρ H (.ref i) z) : ∃ a, z = .ref a ∧ ρ[i]? = some a := by cases h; exact ⟨_, rfl, by assumption⟩
theorem RV.tupE {xs : List Vl} (h : RV T ρ H (.tup xs) z) : ∃ a vs, z = .ref a ∧ SqT T.K H a vs ∧ RVs T ρ H xs vs := by cases h; exact ⟨_, _, rfl, by assumption, by assumption⟩
theorem RV.scrE {ns : List Int} (h : RV T ρ H (.scr ns) z) : ∃ a, z = .ref a ∧ SqL T.K H a (ns.map V.int) := by
  cases h with
  | scr h => exact ⟨_, rfl, .inl (.inr ⟨_, h⟩)⟩
  | scrK h => exact ⟨_, rfl, h H⟩
theorem Rel.lst {s : Sto} {i : Nat} {xs : List Vl} {a : Addr} (r : Rel T ρ H s) (h : s[i]? = some (.lst xs)) (ha : ρ[i]? = some a) : ∃ vs, H a = some (.lst vs) ∧ RVs T ρ H xs vs := r.ob i a _ ha h
theorem Rel.dic {s : Sto} {i : Nat} {kvs : List (Key × Vl)} {a : Addr} (r : Rel T ρ H s) (h : s[i]? = some (.dic kvs)) (ha : ρ[i]? = some a) :
    ∃ vs : List (Key × V), H a = some (.dK vs) ∧ vs.map (·.1) = kvs.map (·.1) ∧ RVs T ρ H (kvs.map (·.2)) (vs.map (·.2)) := r.ob i a _ ha h
end

/-! ### ints -/
def opSub : O2
  | .int i, .int j, s => some (.int (i - j), s)
  | _, _, _ => none
def opMul : O2
  | .int i, .int j, s => if (-(2 ^ 64) < i ∧ i < 2 ^ 64) ∨ (-(2 ^ 64) < j ∧ j < 2 ^ 64) then some (.int (i * j), s) else none
  | .ref i, .int k, s => match s[i]? with
    | some (.lst xs) => if 0 ≤ k ∧ k < 2 ^ 60 ∧ xs.length * k.toNat ≤ LIM then some (.ref s.length, s ++ [.lst (List.replicate k.toNat xs).flatten]) else none
    | _ => none
  | _, _, _ => none
def opFdiv : O2
  | .int i, .int j, s => if 0 < j ∧ j < 1267650600228229401496703205376 then some (.int (i / j), s) else none
  | _, _, _ => none
def opMod : O2
  | .int i, .int j, s => if 0 < j then some (.int (i % j), s) else none
  | _, _, _ => none
def opPow : O2
  | .int i, .int j, s => if 0 ≤ j ∧ j ≤ 1000000 ∧ i.natAbs < 2 ^ 64 then some (.int (i ^ j.toNat), s) else none
  | _, _, _ => none
def opAdd : O2
  | .int i, .int j, s => some (.int (i + j), s)
  | .str x, .str y, s => if x.length + y.length ≤ LIM then some (.str (x ++ y), s) else none
  | .tup xs, .tup ys, s => if xs.length + ys.length ≤ LIM then some (.tup (xs ++ ys), s) else none
  | .ref i, .ref j, s => match s[i]?, s[j]? with
    | some (.lst xs), some (.lst ys) => if xs.length + ys.length ≤ LIM then some (.ref s.length, s ++ [.lst (xs ++ ys)]) else none
    | _, _ => none
  | _, _, _ => none
def opLt : O2
  | .int i, .int j, s => some (.bl (decide (i < j)), s)
  | _, _, _ => none
def opLe : O2
  | .int i, .int j, s => some (.bl (decide (i ≤ j)), s)
  | _, _, _ => none
def opGt : O2
  | .int i, .int j, s => some (.bl (decide (j < i)), s)
  | _, _, _ => none
def opGe : O2
  | .int i, .int j, s => some (.bl (decide (j ≤ i)), s)
  | _, _, _ => none
def isNon : Vl → Bool
  | .non => true
  | _ => false
def opIsN : O2
  | x, .non, s => some (.bl (isNon x), s)
  | _, _, _ => none
def opNotN : O2
  | x, .non, s => some (.bl (!isNon x), s)
  | _, _, _ => none
def opNeg : O1
  | .int i, s => some (.int (-i), s)
  | _, _ => none
section
variable {X : Cx} {T : Tb}
theorem OpR.imp {f : Value → Value → Sem Value} {r r' : R2} (h : OpR X f r) (k : ∀ x y H Q, r' x y H Q → r x y H Q) : OpR X f r' := fun pins s σ H x y v u Q I rx ry q => h pins s σ H x y v u Q I rx ry (k x y H Q q)
theorem oi {f : Value → Value → Sem Value} {C : Int → Int → Prop} {g : Int → Int → Vl} {gv : Int → Int → V} {op : O2} (hg : ∀ ρ H i j, RV T ρ H (g i j) (gv i j)) (h : OpR X f (rI C gv))
    (hop : ∀ a b s v s', op a b s = some (v, s') → ∃ i j, a = .int i ∧ b = .int j ∧ C i j ∧ v = g i j ∧ s' = s) : OpR X f (rO T op) := OpR.imp h fun x y H Q q => by
  obtain ⟨ρ, s, a, b, v, s', r, ha, hb, e, k⟩ := q
  obtain ⟨i, j, rfl, rfl, c, rfl, rfl⟩ := hop a b s v s' e
  exact ⟨i, j, ha.intE, hb.intE, c, k.here r (hg ρ H i j)⟩
theorem oi0 {f : Value → Value → Sem Value} {g : Int → Int → Vl} {gv : Int → Int → V} {op : O2} (hg : ∀ ρ H i j, RV T ρ H (g i j) (gv i j)) (h : OpR X f (rI0 gv))
    (hop : ∀ a b s v s', op a b s = some (v, s') → ∃ i j, a = .int i ∧ b = .int j ∧ v = g i j ∧ s' = s) : OpR X f (rO T op) := OpR.imp h fun x y H Q q => by
  obtain ⟨ρ, s, a, b, v, s', r, ha, hb, e, k⟩ := q
  obtain ⟨i, j, rfl, rfl, rfl, rfl⟩ := hop a b s v s' e
  exact ⟨i, j, ha.intE, hb.intE, k.here r (hg ρ H i j)⟩
theorem o_sub : OpR X (binaryOp .Sub) (rO T opSub) := oi0 (g := fun i j => .int (i - j)) (fun _ _ i j => .int _) op_sub fun a b s v s' e => by
  cases a <;> cases b <;> simp [opSub] at e
  exact ⟨_, _, rfl, rfl, e.1.symm, e.2.symm⟩
theorem o_lt : OpR X (compareOp .Lt) (rO T opLt) := oi0 (g := fun i j => .bl (decide (i < j))) (fun _ _ i j => .bl _) op_lt fun a b s v s' e => by
  cases a <;> cases b <;> simp [opLt] at e
  exact ⟨_, _, rfl, rfl, e.1.symm, e.2.symm⟩
theorem o_le : OpR X (compareOp .LtE) (rO T opLe) := oi0 (g := fun i j => .bl (decide (i ≤ j))) (fun _ _ i j => .bl _) op_le fun a b s v s' e => by
  cases a <;> cases b <;> simp [opLe] at e
  exact ⟨_, _, rfl, rfl, e.1.symm, e.2.symm⟩
theorem o_gt : OpR X (compareOp .Gt) (rO T opGt) := oi0 (g := fun i j => .bl (decide (j < i))) (fun _ _ i j => .bl _) op_gt fun a b s v s' e => by
  cases a <;> cases b <;> simp [opGt] at e
  exact ⟨_, _, rfl, rfl, e.1.symm, e.2.symm⟩
theorem o_ge : OpR X (compareOp .GtE) (rO T opGe) := oi0 (g := fun i j => .bl (decide (j ≤ i))) (fun _ _ i j => .bl _) op_ge fun a b s v s' e => by
  cases a <;> cases b <;> simp [opGe] at e
  exact ⟨_, _, rfl, rfl, e.1.symm, e.2.symm⟩
theorem o_fdiv : OpR X (binaryOp .FloorDiv) (rO T opFdiv) := oi (C := CDivW) (g := fun i j => .int (i / j)) (fun _ _ i j => .int _) op_fdivW fun a b s v s' e => by
  cases a <;> cases b <;> simp [opFdiv] at e
  exact ⟨_, _, rfl, rfl, wide_div (b := 100) e.1.1 (by have := e.1.1; have := e.1.2; omega) (by decide) (by decide), e.2.1.symm, e.2.2.symm⟩
theorem o_mod : OpR X (binaryOp .Mod) (rO T opMod) := oi (C := fun _ j => 0 < j) (g := fun i j => .int (i % j)) (fun _ _ i j => .int _) op_mod fun a b s v s' e => by
  cases a <;> cases b <;> simp [opMod] at e
  exact ⟨_, _, rfl, rfl, e.1, e.2.1.symm, e.2.2.symm⟩
theorem o_pow : OpR X (binaryOp .Pow) (rO T opPow) := oi (C := CPow) (g := fun i j => .int (i ^ j.toNat)) (fun _ _ i j => .int _) op_pow fun a b s v s' e => by
  cases a <;> cases b <;> simp only [opPow] at e <;> try cases e
  split at e
  · rename_i h
    cases e
    exact ⟨_, _, rfl, rfl, h, rfl, rfl⟩
  · cases e
theorem o_neg : UnR X (unaryOp .USub) (rO1 T opNeg) := fun pins s σ H x v Q I rx q => by
  obtain ⟨ρ, st, a, w, s', r, ha, e, k⟩ := q
  cases a <;> simp [opNeg] at e
  obtain ⟨rfl, rfl⟩ := e
  exact un_neg pins s σ H x v Q I rx ⟨_, ha.intE, k.here r (.int _)⟩
theorem o_add (hK : X.K = T.K := by rfl) : OpR X (binaryOp .Add) (rO T opAdd) := fun pins s σ H x y v u Q I rx ry q => by
  obtain ⟨ρ, st, a, b, w, s', r, ha, hb, e, k⟩ := q
  cases a <;> cases b <;> simp only [opAdd] at e <;> try cases e
  · exact op_add pins s σ H x y v u Q I rx ry ⟨_, _, ha.intE, hb.intE, k.here r (.int _)⟩
  · split at e
    · rename_i h
      cases e
      exact op_add_str pins s σ H x y v u Q I rx ry ⟨_, _, ha.strE, hb.strE, by rw [lim_eq]; exact h, k.here r (.str _)⟩
    · cases e
  · split at e
    · rename_i xs ys h
      cases e
      obtain ⟨p, vs, rfl, h1, h2⟩ := ha.tupE
      obtain ⟨p', vs', rfl, h1', h2'⟩ := hb.tupE
      refine op_catA pins s σ H _ _ v u Q I rx ry ⟨p, p', vs, vs', rfl, rfl, by rw [hK]; exact h1, by rw [hK]; exact h1', by rw [← h2.length, ← h2'.length, lim_eq]; exact h, ?_, ?_, ?_⟩
      · intro e
        subst e
        cases h2
        exact k.here r (.tup h1' h2')
      · intro _ e
        subst e
        cases h2'
        rw [List.append_nil] at k
        exact k.here r (.tup h1 h2)
      · intro _ _ q hq
        exact k.tup r (h2.append h2') hq
    · cases e
  · rename_i i j
    split at e
    · rename_i xs ys h1 h2
      split at e
      · rename_i h
        cases e
        obtain ⟨p, rfl, hp⟩ := ha.refE
        obtain ⟨p', rfl, hp'⟩ := hb.refE
        obtain ⟨vs, g1, g2⟩ := r.lst h1 hp
        obtain ⟨vs', g1', g2'⟩ := r.lst h2 hp'
        exact op_cat pins s σ H _ _ v u Q I rx ry ⟨p, p', vs, vs', rfl, rfl, g1, g1', by rw [← g2.length, ← g2'.length, lim_eq]; exact h, fun q hq => k.lst r (g2.append g2') hq⟩
      · cases e
    · cases e
theorem RVs.rep {ρ : List Addr} {H : Hp} {xs : List Vl} {vs : List V} (h : RVs T ρ H xs vs) : ∀ n : Nat, RVs T ρ H (List.replicate n xs).flatten (List.replicate n vs).flatten
  | 0 => .nil
  | n + 1 => by
    rw [List.replicate_succ, List.replicate_succ, List.flatten_cons, List.flatten_cons]
    exact h.append (RVs.rep h n)
theorem o_mul : OpR X (binaryOp .Mult) (rO T opMul) := fun pins s σ H x y v u Q I rx ry q => by
  obtain ⟨ρ, st, a, b, w, s', r, ha, hb, e, k⟩ := q
  cases a <;> cases b <;> simp only [opMul] at e <;> try cases e
  · split at e
    · rename_i h
      cases e
      exact op_mul pins s σ H x y v u Q I rx ry ⟨_, _, ha.intE, hb.intE, h, k.here r (.int _)⟩
    · cases e
  · split at e
    · rename_i xs h1
      split at e
      · rename_i h
        cases e
        obtain ⟨p, rfl, hp⟩ := ha.refE
        obtain ⟨vs, g1, g2⟩ := r.lst h1 hp
        have hz := h.2.1
        exact op_rep pins s σ H _ _ v u Q I rx ry ⟨p, _, vs, rfl, hb.intE, g1, by omega, by omega, by rw [← g2.length, lim_eq]; exact h.2.2, fun q hq => k.lst r (g2.rep _) hq⟩
      · cases e
    · cases e
theorem RV.non_iff {ρ : List Addr} {H : Hp} {a : Vl} {x : V} (h : RV T ρ H a x) : decide (x = .non) = isNon a := by
  cases h <;> simp [isNon]
theorem o_isN : OpR X (compareOp .Is) (rO T opIsN) := fun pins s σ H x y v u Q I rx ry q => by
  obtain ⟨ρ, st, a, b, w, s', r, ha, hb, e, k⟩ := q
  cases b <;> simp only [opIsN] at e <;> try cases e
  exact op_isN pins s σ H x y v u Q I rx ry ⟨hb.nonE, by rw [ha.non_iff]; exact k.here r (.bl _)⟩
theorem o_notN : OpR X (compareOp .IsNot) (rO T opNotN) := fun pins s σ H x y v u Q I rx ry q => by
  obtain ⟨ρ, st, a, b, w, s', r, ha, hb, e, k⟩ := q
  cases b <;> simp only [opNotN] at e <;> try cases e
  refine op_notN pins s σ H x y v u Q I rx ry ⟨hb.nonE, ?_⟩
  rw [ha.non_iff]
  exact k.here r (.bl _)
end

/-! ### data -/
def mapO {α β : Type} (f : α → Option β) : List α → Option (List β)
  | [] => some []
  | x :: xs => match f x, mapO f xs with
    | some y, some ys => some (y :: ys)
    | _, _ => none
def toD : Nat → Sto → Vl → Option PyData
  | 0, _, _ => none
  | n + 1, s, v => match v with
    | .non => some .none
    | .bl b => some (.bool b)
    | .int i => some (.int i)
    | .str x => some (.str x)
    | .tup xs => (mapO (toD n s) xs).map .tuple
    | .ref i => match s[i]? with
      | some (.lst xs) => (mapO (toD n s) xs).map .list
      | _ => none
    | _ => none
section
variable {T : Tb} {ρ : List Addr} {H : Hp} {s : Sto}
theorem toDs_dp {f : Vl → Option PyData} {n : Nat} (hf : ∀ v z d, RV T ρ H v z → f v = some d → Dp T.K H z d ∧ d.depth ≤ n) : ∀ {xs : List Vl} {vs : List V} {ds : List PyData}, RVs T ρ H xs vs → mapO f xs = some ds → DpAll T.K H vs ds ∧ PyData.depthAll ds ≤ n
  | _, _, _, .nil, e => by
    simp only [mapO] at e
    cases e
    exact ⟨.nil, by simp only [PyData.depthAll]; omega⟩
  | _, _, _, .cons h hs, e => by
    simp only [mapO] at e
    split at e
    · rename_i y ys e1 e2
      cases e
      obtain ⟨a1, a2⟩ := hf _ _ _ h e1
      obtain ⟨b1, b2⟩ := toDs_dp hf hs e2
      refine ⟨.cons a1 b1, ?_⟩
      simp only [PyData.depthAll]
      omega
    · cases e
theorem toD_dp (r : Rel T ρ H s) : ∀ (n : Nat) (v : Vl) (z : V) (d : PyData), RV T ρ H v z → toD n s v = some d → Dp T.K H z d ∧ d.depth ≤ n
  | 0, _, _, _, _, e => by cases e
  | n + 1, v, z, d, h, e => by
    have ih := toD_dp r n
    cases v <;> simp only [toD] at e <;> try cases e
    · rw [h.nonE]; exact ⟨.non, by simp only [PyData.depth]; omega⟩
    · rw [h.blE]; exact ⟨.bl _, by simp only [PyData.depth]; omega⟩
    · rw [h.intE]; exact ⟨.int _, by simp only [PyData.depth]; omega⟩
    · rw [h.strE]; exact ⟨.str _, by simp only [PyData.depth]; omega⟩
    · rename_i xs
      cases e1 : mapO (toD n s) xs with
      | none => rw [e1] at e; cases e
      | some ds =>
        rw [e1] at e
        cases e
        obtain ⟨a, vs, rfl, h1, h2⟩ := h.tupE
        obtain ⟨b1, b2⟩ := toDs_dp ih h2 e1
        exact ⟨.tup h1 b1, by simp only [PyData.depth]; omega⟩
    · rename_i i
      split at e
      · rename_i xs hx
        cases e1 : mapO (toD n s) xs with
        | none => rw [e1] at e; cases e
        | some ds =>
          rw [e1] at e
          cases e
          obtain ⟨a, rfl, ha⟩ := h.refE
          obtain ⟨vs, h1, h2⟩ := r.lst hx ha
          obtain ⟨b1, b2⟩ := toDs_dp ih h2 e1
          exact ⟨.lst (SqL.of h1) b1, by simp only [PyData.depth]; omega⟩
      · cases e
end
/-- == -/
def eqS : Vl → Vl → Option Bool
  | .non, .non => some true
  | .int i, .int j => some (i == j)
  | .bl i, .bl j => some (i == j)
  | .str i, .str j => some (i == j)
  | .non, .int _ => some false
  | .non, .str _ => some false
  | .int _, .non => some false
  | .int _, .str _ => some false
  | .str _, .non => some false
  | .str _, .int _ => some false
  | _, _ => none
def eqM (a b : Vl) (s : Sto) : Option Bool := match eqS a b with
  | some k => some k
  | none => match toD 40 s a, toD 40 s b with
    | some d, some e => if d.canLay0 && e.canLay0 then some (PyData.eqv d e) else none
    | _, _ => none
def opEq : O2 := fun a b s => match eqM a b s with
  | some k => some (.bl k, s)
  | none => none
def opNe : O2 := fun a b s => match eqM a b s with
  | some k => some (.bl (!k), s)
  | none => none
section
variable {X : Cx} {T : Tb}
theorem eqS_ok {ρ : List Addr} {H : Hp} {a b : Vl} {x y : V} {k : Bool} (ha : RV T ρ H a x) (hb : RV T ρ H b y) (e : eqS a b = some k) : scal x y = true ∧ decide (x = y) = k := by
  cases ha <;> cases hb <;> simp only [eqS] at e <;> try cases e
  all_goals (refine ⟨rfl, ?_⟩)
  all_goals first
    | (rw [dec_int]; done)
    | (rw [dec_bl]; done)
    | (rw [dec_str]; done)
    | simp
theorem sh40 {d : PyData} (h : d.canLay0 = true) (h2 : d.depth ≤ 40) : SeqAt.shaped d = true := by
  unfold SeqAt.shaped
  rw [h, decide_eq_true (by omega)]
  rfl
theorem o_eq (hu : X.A.units + 64 < cLine) (hK : X.K = T.K := by rfl) : OpR X (compareOp .Eq) (rO T opEq) := fun pins s σ H x y v u Q I rx ry q => by
  obtain ⟨ρ, st, a, b, w, s', r, ha, hb, e, k⟩ := q
  unfold opEq at e
  split at e
  · rename_i c hc
    cases e
    unfold eqM at hc
    split at hc
    · rename_i c' hs
      cases hc
      obtain ⟨h1, h2⟩ := eqS_ok ha hb hs
      exact op_eq pins s σ H x y v u Q I rx ry ⟨h1, by rw [h2]; exact k.here r (.bl _)⟩
    · split at hc
      · rename_i d e hd he
        split at hc
        · rename_i hl
          cases hc
          obtain ⟨l1, l2⟩ := Bool.and_eq_true_iff.mp hl
          obtain ⟨p1, p2⟩ := toD_dp r 40 a x d ha hd
          obtain ⟨q1, q2⟩ := toD_dp r 40 b y e hb he
          exact op_eqD hu pins s σ H x y v u Q I rx ry ⟨d, e, by rw [hK]; exact p1, by rw [hK]; exact q1, sh40 l1 p2, sh40 l2 q2, k.here r (.bl _)⟩
        · cases hc
      · cases hc
  · cases e
theorem o_ne (hu : X.A.units + 64 < cLine) (hK : X.K = T.K := by rfl) : OpR X (compareOp .NotEq) (rO T opNe) := fun pins s σ H x y v u Q I rx ry q => by
  obtain ⟨ρ, st, a, b, w, s', r, ha, hb, e, k⟩ := q
  unfold opNe at e
  split at e
  · rename_i c hc
    cases e
    unfold eqM at hc
    split at hc
    · rename_i c' hs
      cases hc
      obtain ⟨h1, h2⟩ := eqS_ok ha hb hs
      exact op_ne pins s σ H x y v u Q I rx ry ⟨h1, by rw [h2]; exact k.here r (.bl _)⟩
    · split at hc
      · rename_i d e hd he
        split at hc
        · rename_i hl
          cases hc
          obtain ⟨l1, l2⟩ := Bool.and_eq_true_iff.mp hl
          obtain ⟨p1, p2⟩ := toD_dp r 40 a x d ha hd
          obtain ⟨q1, q2⟩ := toD_dp r 40 b y e hb he
          exact op_neD hu pins s σ H x y v u Q I rx ry ⟨d, e, by rw [hK]; exact p1, by rw [hK]; exact q1, sh40 l1 p2, sh40 l2 q2, k.here r (.bl _)⟩
        · cases hc
      · cases hc
  · cases e
end
end Sm

/-! S3: subscripts, slices, in, stores, built-in calls, methods of built-in types -/
namespace Sm
open PySem L2

/-! ### dicts as lists of pairs -/
section
variable {κ : Type} [DecidableEq κ]
def look (kvs : List (κ × Vl)) (k : κ) : Option Vl := match kvs with
  | [] => none
  | p :: r => if p.1 = k then some p.2 else look r k
def hasK (kvs : List (κ × Vl)) (k : κ) : Bool := match kvs with
  | [] => false
  | p :: r => if p.1 = k then true else hasK r k
/-- in its place, or at the end -/
def put (kvs : List (κ × Vl)) (k : κ) (v : Vl) : List (κ × Vl) := match kvs with
  | [] => [(k, v)]
  | p :: r => if p.1 = k then (k, v) :: r else p :: put r k v
variable {T : Tb} {ρ : List Addr} {H : Hp}
theorem look_ok {k : κ} : ∀ {kvs : List (κ × Vl)} {vs : List (κ × V)}, vs.map (·.1) = kvs.map (·.1) → RVs T ρ H (kvs.map (·.2)) (vs.map (·.2)) →
    (look kvs k = none → valV vs k = none) ∧ ∀ v, look kvs k = some v → ∃ z, valV vs k = some z ∧ RV T ρ H v z
  | [], [], _, _ => ⟨fun _ => rfl, fun v e => by simp [look] at e⟩
  | [], _ :: _, e, _ => by simp at e
  | _ :: _, [], e, _ => by simp at e
  | p :: r, q :: t, e, h => by
    simp only [List.map_cons, List.cons.injEq] at e
    rw [List.map_cons, List.map_cons] at h
    cases h with
    | cons h1 h2 =>
      have ih := look_ok (k := k) e.2 h2
      by_cases hk : p.1 = k
      · have hq : q.1 = k := e.1.trans hk
        rw [valV_pos hq]
        refine ⟨fun z => ?_, fun v z => ?_⟩
        · simp only [look, if_pos hk] at z; cases z
        · simp only [look, if_pos hk] at z; cases z; exact ⟨_, rfl, h1⟩
      · have hq : ¬ q.1 = k := fun z => hk (e.1.symm.trans z)
        rw [valV_neg hq]
        simp only [look, if_neg hk]
        exact ih
theorem hasK_look (kvs : List (κ × Vl)) (k : κ) : hasK kvs k = (look kvs k).isSome := by
  induction kvs with
  | nil => rfl
  | cons p r ih =>
    unfold hasK look
    by_cases h : p.1 = k
    · rw [if_pos h, if_pos h]; rfl
    · rw [if_neg h, if_neg h]; exact ih
theorem hasK_ok {k : κ} {kvs : List (κ × Vl)} {vs : List (κ × V)} (e : vs.map (·.1) = kvs.map (·.1)) (h : RVs T ρ H (kvs.map (·.2)) (vs.map (·.2))) : hasK kvs k = (valV vs k).isSome := by
  rw [hasK_look]
  obtain ⟨h1, h2⟩ := look_ok (k := k) e h
  cases q : look kvs k with
  | none => rw [h1 q]; rfl
  | some v => obtain ⟨z, hz, _⟩ := h2 v q; rw [hz]; rfl
theorem putK_cons_eq {k : κ} {q : κ × V} {t : List (κ × V)} {z : V} (nd : q.1 = k) (hn : valV t k = none) : putK (q :: t) k z = (k, z) :: t := by
  unfold putK
  rw [if_pos (by simp [nd])]
  rw [List.map_cons, if_pos nd, nd]
  congr 1
  rw [List.map_congr_left (g := id)]
  · simp
  · intro p hp
    have : ¬ p.1 = k := fun e => by
      have h2 : (valV t k).isSome = true := by
        rw [← valV_any]
        exact List.any_eq_true.mpr ⟨p, hp, by simp [e]⟩
      rw [hn] at h2; cases h2
    rw [if_neg this]; rfl
theorem putK_cons_ne {k : κ} {q : κ × V} {t : List (κ × V)} {z : V} (h : ¬ q.1 = k) : putK (q :: t) k z = q :: putK t k z := by
  unfold putK
  rw [List.any_cons, decide_eq_false h, Bool.false_or]
  split
  · rw [List.map_cons, if_neg h]
  · rfl
theorem put_ok {k : κ} {v : Vl} {z : V} (hv : RV T ρ H v z) : ∀ {kvs : List (κ × Vl)} {vs : List (κ × V)}, (vs.map (·.1)).Nodup → vs.map (·.1) = kvs.map (·.1) → RVs T ρ H (kvs.map (·.2)) (vs.map (·.2)) →
    (putK vs k z).map (·.1) = (put kvs k v).map (·.1) ∧ RVs T ρ H ((put kvs k v).map (·.2)) ((putK vs k z).map (·.2))
  | [], [], _, _, _ => ⟨rfl, .cons hv .nil⟩
  | [], _ :: _, _, e, _ => by simp at e
  | _ :: _, [], _, e, _ => by simp at e
  | p :: r, q :: t, nd, e, h => by
    simp only [List.map_cons, List.cons.injEq] at e
    rw [List.map_cons, List.nodup_cons] at nd
    rw [List.map_cons, List.map_cons] at h
    cases h with
    | cons h1 h2 =>
      by_cases hk : p.1 = k
      · have hq : q.1 = k := e.1.trans hk
        have hn : valV t k = none := by
          cases w : valV t k with
          | none => rfl
          | some u =>
            exfalso
            have h3 : (t.any fun kv => decide (kv.1 = k)) = true := by rw [valV_any, w]; rfl
            obtain ⟨p', hp, e'⟩ := List.any_eq_true.mp h3
            exact nd.1 (by rw [hq, ← of_decide_eq_true e']; exact List.mem_map_of_mem hp)
        rw [putK_cons_eq hq hn]
        simp only [put, if_pos hk]
        exact ⟨by simp [e.2], .cons hv h2⟩
      · have hq : ¬ q.1 = k := fun z => hk (e.1.symm.trans z)
        rw [putK_cons_ne hq]
        simp only [put, if_neg hk]
        obtain ⟨a, b⟩ := put_ok hv nd.2 e.2 h2
        exact ⟨by simp [e.1, a], .cons h1 b⟩
end
def keyOf : Vl → Option Key
  | .int i => some (.inl i)
  | .str x => some (.inr x)
  | _ => none
def keyVl : Key → Vl
  | .inl i => .int i
  | .inr x => .str x
section
variable {T : Tb} {ρ : List Addr} {H : Hp}
theorem keyOf_ok {a : Vl} {x : V} {k : Key} (h : RV T ρ H a x) (e : keyOf a = some k) : x = kV k := by
  cases a <;> simp [keyOf] at e
  · subst e; exact h.intE
  · subst e; exact h.strE
theorem keyVl_ok (k : Key) : RV T ρ H (keyVl k) (kV k) := by
  cases k with
  | inl i => exact .int i
  | inr x => exact .str x
theorem RVs.at : ∀ {xs : List Vl} {vs : List V} {i : Int} {x : Vl}, RVs T ρ H xs vs → atI xs i = some x → ∃ v, atI vs i = some v ∧ RV T ρ H x v := fun {xs vs i x} h e => by
  unfold atI at e ⊢
  rw [← h.length]
  cases q : ixN xs.length i with
  | none => rw [q] at e; cases e
  | some j =>
    rw [q] at e
    exact h.get e
end
/-- the dict's keys are unlike: by the abstract heap -/
theorem dk_nodup {X : Cx} {pins : List (Addr × Obj)} {σ : St} {H : Hp} {s : Shared} {a : Addr} {vs : List (Key × V)} (I : Inv X pins σ H s) (h : H a = some (.dK vs)) : (vs.map (·.1)).Nodup := by
  obtain ⟨_, _, us, rel, dd⟩ := dk_of I.hok h
  have e := rel.keys
  rw [e]
  obtain ⟨_, _, _, _, _, _, _, _, nd⟩ := dd
  exact nd
/-! ### subscripts -/
def opIx : O2
  | .tup xs, .int i, s => (atI xs i).map fun v => (v, s)
  | .scr ns, .int i, s => (atI ns i).map fun v => (.int v, s)
  | .str x, .int i, s => if x.length ≤ LIM then (atI x.cps.toList i).map fun c => (.str ⟨#[c]⟩, s) else none
  | .ref j, y, s => match s[j]? with
    | some (.lst xs) => match y with
      | .int i => (atI xs i).map fun v => (v, s)
      | _ => none
    | some (.dic kvs) => match keyOf y with
      | some k => (look kvs k).map fun v => (v, s)
      | none => none
    | _ => none
  | _, _, _ => none
section
variable {X : Cx} {T : Tb}
theorem o_ix (hu : X.A.units + 1 < cLine) (hK : X.K = T.K := by rfl) : IxR X (rO T opIx) := fun value slice pins s σ H x y v u Q I rx ry q hs => by
  obtain ⟨ρ, st, a, b, w, s', r, ha, hb, e, k⟩ := q
  cases a with
  | tup xs =>
    cases b <;> simp only [opIx] at e <;> try cases e
    obtain ⟨z, hz, e⟩ := Option.map_eq_some_iff.mp e
    cases e
    obtain ⟨p, vs, rfl, h1, h2⟩ := ha.tupE
    obtain ⟨z', h3, h4⟩ := h2.at hz
    exact ix_tup value slice pins s σ H _ y v u Q I rx ry ⟨p, vs, _, z', rfl, hb.intE, by rw [hK]; exact h1, h3, k.here r h4⟩ hs
  | scr ns =>
    cases b <;> simp only [opIx] at e <;> try cases e
    obtain ⟨z, hz, e⟩ := Option.map_eq_some_iff.mp e
    cases e
    obtain ⟨p, rfl, h1⟩ := ha.scrE
    refine ix_list value slice pins s σ H _ y v u Q I rx ry ⟨p, _, _, .int z, rfl, hb.intE, by rw [hK]; exact h1, ?_, k.here r (.int z)⟩ hs
    unfold atI at hz ⊢
    rw [List.length_map]
    cases q : ixN ns.length _ with
    | none => rw [q] at hz; cases hz
    | some j =>
      rw [q] at hz
      have hz : ns[j]? = some z := hz
      show (ns.map V.int)[j]? = some (V.int z)
      rw [List.getElem?_map, hz]; rfl
  | str t =>
    cases b <;> simp only [opIx] at e <;> try cases e
    split at e
    · rename_i hl
      obtain ⟨z, hz, e⟩ := Option.map_eq_some_iff.mp e
      cases e
      exact ix_str value slice pins s σ H x y v u Q I rx ry ⟨t, _, z, ha.strE, hb.intE, by rw [lim_eq]; exact hl, hz, k.here r (.str _)⟩ hs
    · cases e
  | ref j =>
    obtain ⟨p, rfl, hp⟩ := ha.refE
    simp only [opIx] at e
    split at e
    · rename_i xs hx
      split at e
      · obtain ⟨z, hz, e⟩ := Option.map_eq_some_iff.mp e
        cases e
        obtain ⟨vs, h1, h2⟩ := r.lst hx hp
        obtain ⟨z', h3, h4⟩ := h2.at hz
        exact ix_list value slice pins s σ H _ y v u Q I rx ry ⟨p, vs, _, z', rfl, hb.intE, SqL.of h1, h3, k.here r h4⟩ hs
      · cases e
    · rename_i kvs hx
      split at e
      · rename_i key hk
        obtain ⟨z, hz, e⟩ := Option.map_eq_some_iff.mp e
        cases e
        obtain ⟨vs, h1, h2, h3⟩ := r.dic hx hp
        obtain ⟨z', h4, h5⟩ := (look_ok (k := key) h2 h3).2 _ hz
        have ey := keyOf_ok hb hk
        subst ey
        have g : DGet H p (kV key) (some z') := by rw [← h4]; exact DGet.k h1
        obtain rfl : v = Value.ref p := rx
        exact PyProof.Rows.tail_any (dict_typeIs I g) PySem.F.slot_dict_getitem.lookup (d_getItem hu I g ry fun w' s3 I3 rw' => ⟨z', H, I3, rw', k.here r h5⟩) hs
      · cases e
    · cases e
  | _ => simp only [opIx] at e; cases e
end
/-! ### slices -/
def cutL {α : Type} (xs : List α) (lo hi : Option Int) : List α := (xs.drop (HT.sIx xs.length 0 lo)).take (HT.sIx xs.length xs.length hi - HT.sIx xs.length 0 lo)
abbrev OSl := Vl → Option Int → Option Int → Sto → Option (Vl × Sto)
def opSl : OSl
  | .tup xs, lo, hi, s => some (.tup (cutL xs lo hi), s)
  | .scr ns, lo, hi, s => some (.ref s.length, s ++ [.lst ((cutL ns lo hi).map Vl.int)])
  | .str x, lo, hi, s => if x.length ≤ LIM then some (.str (cutS x lo hi), s) else none
  | .ref j, lo, hi, s => match s[j]? with
    | some (.lst xs) => some (.ref s.length, s ++ [.lst (cutL xs lo hi)])
    | _ => none
  | _, _, _, _ => none
def oPart : Option EM → Lo → M (Option Int)
  | none, _ => ret none
  | some m, lo => bnd (m lo) fun x => match x with
    | .int i => ret (some i)
    | _ => failM
def eSl (f : OSl) (a : EM) (l h : Option EM) : EM := fun lo => bnd (a lo) fun x => bnd (oPart l lo) fun i => bnd (oPart h lo) fun j => lift (f x i j)
theorem cutL_map {α β : Type} (f : α → β) (xs : List α) (lo hi : Option Int) : cutL (xs.map f) lo hi = (cutL xs lo hi).map f := by
  unfold cutL
  rw [List.length_map, List.map_take, List.map_drop]
def rSl (T : Tb) (f : OSl) : V → Option Int → Option Int → Hp → VK → Prop := fun x lo hi H Q => ∃ ρ s a v s', Rel T ρ H s ∧ RV T ρ H a x ∧ f a lo hi s = some (v, s') ∧ Aft T ρ H s' v Q
section
variable {X : Cx} {T : Tb} {W : WX}
theorem RVs.cut {ρ : List Addr} {H : Hp} {xs : List Vl} {vs : List V} (h : RVs T ρ H xs vs) (lo hi : Option Int) : RVs T ρ H (cutL xs lo hi) (cutV vs lo hi) := by
  unfold cutL cutV
  rw [h.length]
  exact (h.drop _).take _
theorem RVs.ints {ρ : List Addr} {H : Hp} : ∀ ns : List Int, RVs T ρ H (ns.map Vl.int) (ns.map V.int)
  | [] => .nil
  | n :: ns => .cons (.int n) (RVs.ints ns)
theorem o_sl (hK : X.K = T.K := by rfl) : SlR X (rSl T opSl) := fun pins s σ H x v vl vu lo hi sl Q I rx hs pl pu q => by
  obtain ⟨ρ, st, a, w, s', r, ha, e, k⟩ := q
  cases a with
  | tup xs =>
    simp only [opSl] at e
    cases e
    obtain ⟨p, vs, rfl, h1, h2⟩ := ha.tupE
    refine sl_tupA pins s σ H _ v vl vu lo hi sl Q I rx hs pl pu ⟨p, vs, rfl, by rw [hK]; exact h1, fun hw => ?_, fun _ q hq => k.tup r (h2.cut lo hi) hq⟩
    have : cutL xs lo hi = xs := by
      unfold cutL
      rw [h2.length, hw.1, hw.2]
      rw [List.drop_zero, Nat.sub_zero, ← h2.length, List.take_length]
    rw [this] at k
    exact k.here r (.tup h1 h2)
  | scr ns =>
    simp only [opSl] at e
    cases e
    obtain ⟨p, rfl, h1⟩ := ha.scrE
    refine sl_list pins s σ H _ v vl vu lo hi sl Q I rx hs pl pu ⟨p, _, rfl, by rw [hK]; exact h1, fun q hq => ?_⟩
    refine k.lst r ?_ hq
    rw [← cutL_map]
    exact RVs.cut (RVs.ints ns) lo hi
  | str t =>
    simp only [opSl] at e
    split at e
    · rename_i hl
      cases e
      exact sl_str pins s σ H x v vl vu lo hi sl Q I rx hs pl pu ⟨t, ha.strE, by rw [lim_eq]; exact hl, k.here r (.str _)⟩
    · cases e
  | ref j =>
    simp only [opSl] at e
    split at e
    · rename_i xs hx
      cases e
      obtain ⟨p, rfl, hp⟩ := ha.refE
      obtain ⟨vs, h1, h2⟩ := r.lst hx hp
      exact sl_list pins s σ H _ v vl vu lo hi sl Q I rx hs pl pu ⟨p, vs, rfl, SqL.of h1, fun q hq => k.lst r (h2.cut lo hi) hq⟩
    · cases e
  | _ => simp only [opSl] at e; cases e
/-- a slice's part -/
abbrev tO (T : Tb) (W : WX) (m : Option EM) : TO := tG (fun _ _ a b => a = b) T W (oPart m)
theorem co_none : PO X none (tO T W none) := ⟨fun pins s σ H Q I h => po_none.run pins s σ H Q I (by
  obtain ⟨ρ, st, lo, r, rl, p⟩ := h
  exact p ρ H none .refl r rfl)⟩
theorem co_some {e : Expr} {me : EM} (he : PE X e (tE T W me)) : PO X (some e) (tO T W (some me)) := ⟨fun pins s σ H Q I h => (po_some he).run pins s σ H Q I (by
  refine tG_bnd (R := RV T) h fun ρ st lo x z H1 r rl hx p => ?_
  cases hx with
  | int i => exact ⟨i, rfl, p ρ H1 (some i) .refl r rfl⟩
  | _ => exact p.elim)⟩
theorem ce_slice {e : Expr} {l h : Option Expr} {me : EM} {ml mh : Option EM} {pos p2 : Pos} {f : OSl} (hr : SlR X (rSl T f)) (he : PE X e (tE T W me)) (hl : PO X l (tO T W ml)) (hh : PO X h (tO T W mh)) : PE X (.Subscript e (.Slice l h none p2) pos) (tE T W (eSl f me ml mh)) :=
  pe_mono (pe_slice hr he hl hh) fun σ H Q q => tG_bnd (R := RV T) q fun ρ s lo x z H1 r rl hx p =>
    po_bnd (R := fun _ _ a b => a = b) (m := oPart ml) r rl p fun ρ1 s1 i i' H2 ext1 r1 rl1 hi p1 =>
      po_bnd (R := fun _ _ a b => a = b) (m := oPart mh) r1 rl1 p1 fun ρ2 s2 j j' H3 ext2 r2 rl2 hj p2 => by
        subst hi hj
        obtain ⟨v, s3, e, k⟩ := po_lift p2
        exact ⟨ρ2, s2, x, v, s3, r2, hx.mono (ext1.trans ext2), e, k⟩
end
/-! ### in -/
def flat : Vl → Bool
  | .non => true
  | .bl _ => true
  | .int _ => true
  | .str _ => true
  | _ => false
def eqF : Vl → Vl → Bool
  | .non, .non => true
  | .bl a, .bl b => a == b
  | .bl a, .int b => (if a then 1 else 0) == b
  | .int a, .bl b => a == (if b then 1 else 0)
  | .int a, .int b => a == b
  | .str a, .str b => a == b
  | _, _ => false
def inF (x : Vl) (xs : List Vl) : Bool := xs.any fun y => eqF y x
def inM (x y : Vl) (s : Sto) : Option Bool := match y with
  | .tup ys => if flat x && ys.all flat then some (inF x ys) else none
  | .str b => match x with
    | .str a => match a.cps.toList with
      | [c] => some (decide (c ∈ b.cps.toList))
      | _ => none
    | _ => none
  | .ref j => match s[j]? with
    | some (.lst ys) => if flat x && ys.all flat then some (inF x ys) else none
    | some (.dic kvs) => match keyOf x with
      | some k => some (hasK kvs k)
      | none => none
    | _ => none
  | _ => none
def opIn : O2 := fun x y s => match inM x y s with
  | some b => some (.bl b, s)
  | none => none
def opNotIn : O2 := fun x y s => match inM x y s with
  | some b => some (.bl (!b), s)
  | none => none
section
variable {X : Cx} {T : Tb} {ρ : List Addr} {H : Hp}
theorem flat_ok {a : Vl} {x : V} (h : RV T ρ H a x) (f : flat a = true) : flatV x = true := by
  cases h <;> simp [flat] at f <;> rfl
theorem eqF_ok {a b : Vl} {x y : V} (h : RV T ρ H a x) (g : RV T ρ H b y) (fa : flat a = true) (fb : flat b = true) : eqV x y = eqF a b := by
  cases h <;> simp [flat] at fa <;> cases g <;> simp [flat] at fb <;> rfl
theorem flats_ok : ∀ {xs : List Vl} {vs : List V}, RVs T ρ H xs vs → xs.all flat = true → vs.all flatV = true
  | _, _, .nil, _ => rfl
  | _, _, .cons h hs, e => by
    rw [List.all_cons, Bool.and_eq_true_iff] at e
    rw [List.all_cons, flat_ok h e.1, flats_ok hs e.2]; rfl
theorem inF_ok {a : Vl} {x : V} (h : RV T ρ H a x) (f : flat a = true) : ∀ {xs : List Vl} {vs : List V}, RVs T ρ H xs vs → xs.all flat = true → inV x vs = inF a xs
  | _, _, .nil, _ => rfl
  | _, _, .cons g hs, e => by
    rw [List.all_cons, Bool.and_eq_true_iff] at e
    have ih := inF_ok h f hs e.2
    unfold inV inF at ih ⊢
    rw [List.any_cons, List.any_cons, ih, eqF_ok g h e.1 f]
/-- the four kinds, told apart -/
theorem inM_cases {s : Sto} {a b : Vl} {x y : V} {c : Bool} (r : Rel T ρ H s) (ha : RV T ρ H a x) (hb : RV T ρ H b y) (e : inM a b s = some c) :
    (∃ p vs, y = .ref p ∧ (SqL T.K H p vs ∨ SqT T.K H p vs) ∧ flatV x = true ∧ vs.all flatV = true ∧ inV x vs = c) ∨ (∃ (n : Nat) (z : Str), x = .str ⟨#[n]⟩ ∧ y = .str z ∧ decide (n ∈ z.cps.toList) = c) ∨
    ∃ p o, y = .ref p ∧ DGet H p x o ∧ o.isSome = c := by
  cases b with
  | tup ys =>
    simp only [inM] at e
    split at e
    · rename_i hf
      cases e
      obtain ⟨f1, f2⟩ := Bool.and_eq_true_iff.mp hf
      obtain ⟨p, vs, rfl, h1, h2⟩ := hb.tupE
      exact .inl ⟨p, vs, rfl, .inr h1, flat_ok ha f1, flats_ok h2 f2, inF_ok ha f1 h2 f2⟩
    · cases e
  | str z =>
    simp only [inM] at e
    cases a <;> simp only at e <;> try cases e
    rename_i t
    split at e
    · rename_i c' hc
      cases e
      refine .inr (.inl ⟨c', z, ?_, hb.strE, rfl⟩)
      rw [ha.strE]
      obtain ⟨⟨l⟩⟩ := t
      have hc : l = [c'] := hc
      subst hc; rfl
    · cases e
  | ref j =>
    obtain ⟨p, rfl, hp⟩ := hb.refE
    simp only [inM] at e
    split at e
    · rename_i ys hx
      split at e
      · rename_i hf
        cases e
        obtain ⟨f1, f2⟩ := Bool.and_eq_true_iff.mp hf
        obtain ⟨vs, h1, h2⟩ := r.lst hx hp
        exact .inl ⟨p, vs, rfl, .inl (SqL.of h1), flat_ok ha f1, flats_ok h2 f2, inF_ok ha f1 h2 f2⟩
      · cases e
    · rename_i kvs hx
      split at e
      · rename_i k hk
        cases e
        obtain ⟨vs, h1, h2, h3⟩ := r.dic hx hp
        have ey := keyOf_ok ha hk
        subst ey
        exact .inr (.inr ⟨p, _, rfl, DGet.k h1, (hasK_ok h2 h3).symm⟩)
      · cases e
    · cases e
  | _ => simp only [inM] at e; cases e
theorem o_in (hu : X.A.units + 1 < cLine) (hK : X.K = T.K := by rfl) : OpR X (compareOp .In) (rO T opIn) := fun pins s σ H x y v u Q I rx ry q => by
  obtain ⟨ρ, st, a, b, w, s', r, ha, hb, e, k⟩ := q
  unfold opIn at e
  split at e
  · rename_i c hc
    cases e
    rcases inM_cases r ha hb hc with ⟨p, vs, rfl, h1, h2, h3, h4⟩ | ⟨n, z, rfl, rfl, h4⟩ | ⟨p, o, rfl, g, h4⟩
    · exact op_in_seq pins s σ H x _ v u Q I rx ry ⟨p, vs, rfl, by rw [hK]; exact h1, h2, h3, by rw [if_neg (by decide), h4]; exact k.here r (.bl _)⟩
    · exact op_in_sign pins s σ H _ _ v u Q I rx ry ⟨n, z, rfl, rfl, by rw [h4]; exact k.here r (.bl _)⟩
    · obtain rfl : u = Value.ref p := ry
      exact d_in hu I g rx fun s3 I3 => ⟨.bl o.isSome, H, I3, rfl, by rw [h4]; exact k.here r (.bl _)⟩
  · cases e
theorem o_notIn (hu : X.A.units + 1 < cLine) (hK : X.K = T.K := by rfl) : OpR X (compareOp .NotIn) (rO T opNotIn) := fun pins s σ H x y v u Q I rx ry q => by
  obtain ⟨ρ, st, a, b, w, s', r, ha, hb, e, k⟩ := q
  unfold opNotIn at e
  split at e
  · rename_i c hc
    cases e
    rcases inM_cases r ha hb hc with ⟨p, vs, rfl, h1, h2, h3, h4⟩ | ⟨n, z, rfl, rfl, h4⟩ | ⟨p, o, rfl, g, h4⟩
    · exact op_notIn_seq pins s σ H x _ v u Q I rx ry ⟨p, vs, rfl, by rw [hK]; exact h1, h2, h3, by rw [if_pos rfl, h4]; exact k.here r (.bl _)⟩
    · exact op_notIn_sign pins s σ H _ _ v u Q I rx ry ⟨n, z, rfl, rfl, by rw [h4]; exact k.here r (.bl _)⟩
    · obtain rfl : u = Value.ref p := ry
      exact d_notIn hu I g rx fun s3 I3 => ⟨.bl (!o.isSome), H, I3, rfl, by rw [h4]; exact k.here r (.bl _)⟩
  · cases e
end
end Sm

/-! S4: built-in calls and methods of built-in types -/
namespace Sm
open PySem L2
section
variable {T : Tb} {ρ : List Addr} {H : Hp}
theorem RVs.one {a : Vl} {xs : List V} (h : RVs T ρ H [a] xs) : ∃ x, xs = [x] ∧ RV T ρ H a x := by
  cases h with
  | cons h1 h2 => cases h2; exact ⟨_, rfl, h1⟩
theorem RVs.two {a b : Vl} {xs : List V} (h : RVs T ρ H [a, b] xs) : ∃ x y, xs = [x, y] ∧ RV T ρ H a x ∧ RV T ρ H b y := by
  cases h with
  | cons h1 h2 =>
    obtain ⟨y, rfl, h3⟩ := h2.one
    exact ⟨_, y, rfl, h1, h3⟩
theorem RVs.zero {xs : List V} (h : RVs T ρ H [] xs) : xs = [] := by cases h; rfl
def asInt : Vl → Option Int
  | .int i => some i
  | _ => none
def asBl : Vl → Option Bool
  | .bl i => some i
  | _ => none
def asStr : Vl → Option Str
  | .str i => some i
  | _ => none
theorem asInts_ok : ∀ {xs : List Vl} {vs : List V} {ns : List Int}, RVs T ρ H xs vs → mapO asInt xs = some ns → vs = ns.map V.int
  | _, _, _, .nil, e => by simp [mapO] at e; subst e; rfl
  | _, _, _, .cons h hs, e => by
    simp only [mapO] at e
    split at e
    · rename_i y ys e1 e2
      cases e
      have := asInts_ok hs e2
      subst this
      cases h <;> simp [asInt] at e1
      subst e1; rfl
    · cases e
theorem asBls_ok : ∀ {xs : List Vl} {vs : List V} {ns : List Bool}, RVs T ρ H xs vs → mapO asBl xs = some ns → vs = ns.map V.bl
  | _, _, _, .nil, e => by simp [mapO] at e; subst e; rfl
  | _, _, _, .cons h hs, e => by
    simp only [mapO] at e
    split at e
    · rename_i y ys e1 e2
      cases e
      have := asBls_ok hs e2
      subst this
      cases h <;> simp [asBl] at e1
      subst e1; rfl
    · cases e
theorem asStrs_ok : ∀ {xs : List Vl} {vs : List V} {ns : List Str}, RVs T ρ H xs vs → mapO asStr xs = some ns → vs = ns.map V.str
  | _, _, _, .nil, e => by simp [mapO] at e; subst e; rfl
  | _, _, _, .cons h hs, e => by
    simp only [mapO] at e
    split at e
    · rename_i y ys e1 e2
      cases e
      have := asStrs_ok hs e2
      subst this
      cases h <;> simp [asStr] at e1
      subst e1; rfl
    · cases e
end
theorem mapO_ints (ns : List Int) : mapO asInt (ns.map Vl.int) = some ns := by
  induction ns with
  | nil => rfl
  | cons n ns ih => simp only [List.map_cons, mapO, asInt, ih]
theorem mapO_bls (ns : List Bool) : mapO asBl (ns.map Vl.bl) = some ns := by
  induction ns with
  | nil => rfl
  | cons n ns ih => simp only [List.map_cons, mapO, asBl, ih]
theorem mapO_strs (ns : List Str) : mapO asStr (ns.map Vl.str) = some ns := by
  induction ns with
  | nil => rfl
  | cons n ns ih => simp only [List.map_cons, mapO, asStr, ih]
/-! ### sorting ints -/
def insS (x : Int) : List Int → List Int
  | [] => [x]
  | y :: ys => if x ≤ y then x :: y :: ys else y :: insS x ys
def srt : List Int → List Int
  | [] => []
  | x :: xs => insS x (srt xs)
theorem insS_perm (x : Int) : ∀ ys : List Int, (insS x ys).Perm (x :: ys)
  | [] => .refl _
  | y :: ys => by
    unfold insS
    split
    · exact .refl _
    · exact (List.Perm.cons y (insS_perm x ys)).trans (List.Perm.swap x y ys)
theorem srt_perm : ∀ xs : List Int, (srt xs).Perm xs
  | [] => .refl _
  | x :: xs => (insS_perm x (srt xs)).trans (List.Perm.cons x (srt_perm xs))
theorem insS_mem {x z : Int} {ys : List Int} : z ∈ insS x ys ↔ z = x ∨ z ∈ ys := by
  rw [(insS_perm x ys).mem_iff, List.mem_cons]
theorem insS_sorted (x : Int) : ∀ ys : List Int, ys.Pairwise (· ≤ ·) → (insS x ys).Pairwise (· ≤ ·)
  | [], _ => List.pairwise_singleton _ _
  | y :: ys, h => by
    unfold insS
    split
    · rename_i hle
      refine List.pairwise_cons.mpr ⟨fun z hz => ?_, h⟩
      rcases List.mem_cons.mp hz with rfl | hz
      · exact hle
      · exact Int.le_trans hle ((List.pairwise_cons.mp h).1 z hz)
    · rename_i hle
      refine List.pairwise_cons.mpr ⟨fun z hz => ?_, insS_sorted x ys (List.pairwise_cons.mp h).2⟩
      rcases insS_mem.mp hz with rfl | hz
      · omega
      · exact (List.pairwise_cons.mp h).1 z hz
theorem srt_sorted : ∀ xs : List Int, (srt xs).Pairwise (· ≤ ·)
  | [] => List.Pairwise.nil
  | x :: xs => insS_sorted x _ (srt_sorted xs)
theorem srt_eq {xs ys : List Int} (p : ys.Perm xs) (h : ys.Pairwise (· ≤ ·)) : ys = srt xs := PySem.W.ksm_same (p.trans (srt_perm xs).symm) h (srt_sorted xs)
theorem srt_mem {z : Int} {xs : List Int} : z ∈ srt xs ↔ z ∈ xs := (srt_perm xs).mem_iff
theorem srt_length (xs : List Int) : (srt xs).length = xs.length := (srt_perm xs).length_eq

/-! ### calls -/
def lenM (x : Vl) (s : Sto) : Option Nat := match x with
  | .tup xs => some xs.length
  | .scr ns => some ns.length
  | .str z => if z.length ≤ LIM then some z.length else none
  | .ref j => match s[j]? with
    | some (.lst xs) => some xs.length
    | some (.dic kvs) => some kvs.length
    | _ => none
  | _ => none
def oLen : OC
  | [x], s => (lenM x s).map fun n => (.int n, s)
  | _, _ => none
def oAbs : OC
  | [.int i], s => some (.int (if i < 0 then -i else i), s)
  | _, _ => none
def oInt : OC
  | [.int i], s => some (.int i, s)
  | [.bl b], s => some (.int (if b then 1 else 0), s)
  | _, _ => none
def oStr : OC
  | [.int i], s => if i.natAbs.log2 < 1920 then some (.str (toString i), s) else none
  | _, _ => none
def oMax : OC
  | [.int i, .int j], s => some (.int (if j > i then j else i), s)
  | _, _ => none
def oMin : OC
  | [.int i, .int j], s => some (.int (if j < i then j else i), s)
  | _, _ => none
def oTuple : OC
  | [.tup xs], s => some (.tup xs, s)
  | [.ref j], s => match s[j]? with
    | some (.lst xs) => some (.tup xs, s)
    | _ => none
  | _, _ => none
def oList : OC
  | [.tup xs], s => some (.ref s.length, s ++ [.lst xs])
  | [.ref j], s => match s[j]? with
    | some (.lst xs) => some (.ref s.length, s ++ [.lst xs])
    | some (.dic kvs) => some (.ref s.length, s ++ [.lst (kvs.map fun kv => keyVl kv.1)])
    | _ => none
  | _, _ => none
def lstOf (x : Vl) (s : Sto) : Option (List Vl) := match x with
  | .ref j => match s[j]? with
    | some (.lst xs) => some xs
    | _ => none
  | _ => none
def oSum : OC
  | [x], s => match lstOf x s with
    | some xs => (mapO asInt xs).map fun ns => (.int ns.sum, s)
    | none => none
  | _, _ => none
def oAll : OC
  | [x], s => match lstOf x s with
    | some xs => (mapO asBl xs).map fun ns => (.bl (ns.all id), s)
    | none => none
  | _, _ => none
def oAny : OC
  | [x], s => match lstOf x s with
    | some xs => (mapO asBl xs).map fun ns => (.bl (ns.any id), s)
    | none => none
  | _, _ => none
def oSorted : OC
  | [x], s => match lstOf x s with
    | some xs => (mapO asInt xs).map fun ns => (.ref s.length, s ++ [.lst ((srt ns).map Vl.int)])
    | none => none
  | _, _ => none
def oRepr : OC
  | [x], s => match toD 40 s x with
    | some d => if d.showable && decide (d.shown.length ≤ LIM) then some (.str d.shown, s) else none
    | none => none
  | _, _ => none
section
variable {X : Cx} {T : Tb}
theorem CallR.imp {f : Value} {r r' : List V → Hp → VK → Prop} (h : CallR X f r) (k : ∀ xs H Q, r' xs H Q → r xs H Q) : CallR X f r' := fun pins s σ H xs us Q I rs q => h pins s σ H xs us Q I rs (k xs H Q q)
theorem d_lenC {H : Hp} {a : Addr} {kvs : List (Key × V)} : ∀ (pins : List (Addr × Obj)) (s : Shared) (σ : St) (xs : List V) (us : List Value) (Q : VK), Inv X pins σ H s → Vals xs us → xs = [.ref a] → H a = some (.dK kvs) → Q (.int kvs.length) H →
    wpAny (model X.prog X.w) X.A (call (.builtin "len") us) (EP X pins σ Q) X.xe s := fun pins s σ xs us Q I r e h q => by
  subst e
  cases r with
  | cons r1 r2 =>
    cases r2
    obtain rfl := r1
    exact d_len I (.inl h) fun t s' I' => ⟨.int _, H, I', ⟨t, rfl⟩, q⟩
theorem c_len (hK : X.K = T.K := by rfl) : CallR X (.builtin "len") (rC T oLen) := fun pins s σ H xs us Q I rs q => by
  obtain ⟨ρ, st, as, w, s', r, ha, e, k⟩ := q
  unfold oLen at e
  split at e
  · rename_i x
    obtain ⟨z, rfl, hz⟩ := ha.one
    obtain ⟨n, hn, e⟩ := Option.map_eq_some_iff.mp e
    cases e
    have fin := k.here r (.int (n : Int))
    cases x with
    | tup ys =>
      obtain ⟨p, vs, rfl, h1, h2⟩ := hz.tupE
      cases hn
      rw [h2.length] at fin
      exact call_len_seq pins s σ H _ us Q I rs ⟨p, vs, rfl, .inr (by rw [hK]; exact h1), fin⟩
    | scr ns =>
      obtain ⟨p, rfl, h1⟩ := hz.scrE
      cases hn
      exact call_len_seq pins s σ H _ us Q I rs ⟨p, _, rfl, .inl (by rw [hK]; exact h1), by rw [List.length_map]; exact fin⟩
    | str t =>
      simp only [lenM] at hn
      split at hn
      · rename_i hl
        cases hn
        exact call_len pins s σ H _ us Q I rs ⟨_, _, rfl, by rw [hz.strE]; exact ⟨by rw [lim_eq]; exact hl, rfl⟩, fin⟩
      · cases hn
    | ref j =>
      obtain ⟨p, rfl, hp⟩ := hz.refE
      simp only [lenM] at hn
      split at hn
      · rename_i ys hx
        cases hn
        obtain ⟨vs, h1, h2⟩ := r.lst hx hp
        rw [h2.length] at fin
        exact call_len_seq pins s σ H _ us Q I rs ⟨p, vs, rfl, .inl (SqL.of h1), fin⟩
      · rename_i kvs hx
        cases hn
        obtain ⟨vs, h1, h2, h3⟩ := r.dic hx hp
        have : kvs.length = vs.length := by have := congrArg List.length h2; simpa using this.symm
        rw [this] at fin
        exact d_lenC pins s σ _ us Q I rs rfl h1 fin
      · cases hn
    | _ => cases hn
  · cases e
theorem c_abs : CallR X (.builtin "abs") (rC T oAbs) := CallR.imp call_abs fun xs H Q q => by
  obtain ⟨ρ, st, as, w, s', r, ha, e, k⟩ := q
  unfold oAbs at e
  split at e
  · obtain ⟨z, rfl, hz⟩ := ha.one
    cases e
    exact ⟨_, by rw [hz.intE], k.here r (.int _)⟩
  · cases e
theorem c_int : CallR X (.type "int") (rC T oInt) := CallR.imp call_int1 fun xs H Q q => by
  obtain ⟨ρ, st, as, w, s', r, ha, e, k⟩ := q
  unfold oInt at e
  split at e
  · obtain ⟨z, rfl, hz⟩ := ha.one
    cases e
    exact .inl ⟨_, by rw [hz.intE], k.here r (.int _)⟩
  · obtain ⟨z, rfl, hz⟩ := ha.one
    cases e
    exact .inr ⟨_, by rw [hz.blE], k.here r (.int _)⟩
  · cases e
theorem c_str : CallR X (.type "str") (rC T oStr) := CallR.imp call_str_int fun xs H Q q => by
  obtain ⟨ρ, st, as, w, s', r, ha, e, k⟩ := q
  unfold oStr at e
  split at e
  · split at e
    · rename_i hl
      obtain ⟨z, rfl, hz⟩ := ha.one
      cases e
      exact ⟨_, by rw [hz.intE], hl, k.here r (.str _)⟩
    · cases e
  · cases e
theorem c_max (hc : X.calm = true := by rfl) : CallR X (.builtin "max") (rC T oMax) := CallR.imp (call_max2 hc) fun xs H Q q => by
  obtain ⟨ρ, st, as, w, s', r, ha, e, k⟩ := q
  unfold oMax at e
  split at e
  · obtain ⟨z, z', rfl, hz, hz'⟩ := ha.two
    cases e
    exact ⟨_, _, by rw [hz.intE, hz'.intE], k.here r (.int _)⟩
  · cases e
theorem c_min (hc : X.calm = true := by rfl) : CallR X (.builtin "min") (rC T oMin) := CallR.imp (call_min2 hc) fun xs H Q q => by
  obtain ⟨ρ, st, as, w, s', r, ha, e, k⟩ := q
  unfold oMin at e
  split at e
  · obtain ⟨z, z', rfl, hz, hz'⟩ := ha.two
    cases e
    exact ⟨_, _, by rw [hz.intE, hz'.intE], k.here r (.int _)⟩
  · cases e
theorem c_tuple (hK : X.K = T.K := by rfl) : CallR X (.type "tuple") (rC T oTuple) := CallR.imp call_tuple_of fun xs H Q q => by
  obtain ⟨ρ, st, as, w, s', r, ha, e, k⟩ := q
  unfold oTuple at e
  split at e
  · obtain ⟨z, rfl, hz⟩ := ha.one
    cases e
    obtain ⟨p, vs, rfl, h1, h2⟩ := hz.tupE
    exact ⟨p, vs, rfl, .inr ⟨by rw [hK]; exact h1, k.here r (.tup h1 h2)⟩⟩
  · split at e
    · rename_i xs hx
      cases e
      obtain ⟨z, rfl, hz⟩ := ha.one
      obtain ⟨p, rfl, hp⟩ := hz.refE
      obtain ⟨vs, h1, h2⟩ := r.lst hx hp
      exact ⟨p, vs, rfl, .inl ⟨SqL.of h1, fun q hq => k.tup r h2 hq⟩⟩
    · cases e
  · cases e
theorem keys_ok {ρ : List Addr} {H : Hp} : ∀ {kvs : List (Key × Vl)} {vs : List (Key × V)}, vs.map (·.1) = kvs.map (·.1) → RVs T ρ H (kvs.map fun kv => keyVl kv.1) (vs.map fun kv => kV kv.1)
  | [], [], _ => .nil
  | [], _ :: _, e => by simp at e
  | _ :: _, [], e => by simp at e
  | p :: r, q :: t, e => by
    simp only [List.map_cons, List.cons.injEq] at e
    rw [List.map_cons, List.map_cons, e.1]
    exact .cons (keyVl_ok _) (keys_ok e.2)
theorem c_list (hc : X.calm = true := by rfl) (hK : X.K = T.K := by rfl) : CallR X (.type "list") (rC T oList) := fun pins s σ H xs us Q I rs q => by
  obtain ⟨ρ, st, as, w, s', r, ha, e, k⟩ := q
  unfold oList at e
  split at e
  · obtain ⟨z, rfl, hz⟩ := ha.one
    cases e
    obtain ⟨p, vs, rfl, h1, h2⟩ := hz.tupE
    exact call_list_of pins s σ H _ us Q I rs ⟨p, vs, rfl, .inr (by rw [hK]; exact h1), fun q hq => k.lst r h2 hq⟩
  · obtain ⟨z, rfl, hz⟩ := ha.one
    obtain ⟨p, rfl, hp⟩ := hz.refE
    split at e
    · rename_i xs hx
      cases e
      obtain ⟨vs, h1, h2⟩ := r.lst hx hp
      exact call_list_of pins s σ H _ us Q I rs ⟨p, vs, rfl, .inl (SqL.of h1), fun q hq => k.lst r h2 hq⟩
    · rename_i kvs hx
      cases e
      obtain ⟨vs, h1, h2, h3⟩ := r.dic hx hp
      exact call_list_dK hc pins s σ H _ us Q I rs ⟨p, vs, rfl, h1, fun q hq => k.lst r (keys_ok h2) hq⟩
    · cases e
  · cases e
theorem lstOf_ok {ρ : List Addr} {H : Hp} {s : Sto} {x : Vl} {z : V} {xs : List Vl} (r : Rel T ρ H s) (hz : RV T ρ H x z) (e : lstOf x s = some xs) : ∃ p vs, z = .ref p ∧ H p = some (.lst vs) ∧ RVs T ρ H xs vs := by
  unfold lstOf at e
  split at e
  · split at e
    · rename_i ys hx
      cases e
      obtain ⟨p, rfl, hp⟩ := hz.refE
      obtain ⟨vs, h1, h2⟩ := r.lst hx hp
      exact ⟨p, vs, rfl, h1, h2⟩
    · cases e
  · cases e
theorem c_sum (hc : X.calm = true := by rfl) : CallR X (.builtin "sum") (rC T oSum) := CallR.imp (cr_sum hc) fun xs H Q q => by
  obtain ⟨ρ, st, as, w, s', r, ha, e, k⟩ := q
  unfold oSum at e
  split at e
  · split at e
    · rename_i x xs hx
      obtain ⟨z, rfl, hz⟩ := ha.one
      obtain ⟨ns, hn, e⟩ := Option.map_eq_some_iff.mp e
      cases e
      obtain ⟨p, vs, rfl, h1, h2⟩ := lstOf_ok r hz hx
      rw [asInts_ok h2 hn] at h1
      exact ⟨p, ns, rfl, SqL.of h1, k.here r (.int _)⟩
    · cases e
  · cases e
theorem c_all (hc : X.calm = true := by rfl) : CallR X (.builtin "all") (rC T oAll) := CallR.imp (cr_all hc) fun xs H Q q => by
  obtain ⟨ρ, st, as, w, s', r, ha, e, k⟩ := q
  unfold oAll at e
  split at e
  · split at e
    · rename_i x xs hx
      obtain ⟨z, rfl, hz⟩ := ha.one
      obtain ⟨ns, hn, e⟩ := Option.map_eq_some_iff.mp e
      cases e
      obtain ⟨p, vs, rfl, h1, h2⟩ := lstOf_ok r hz hx
      rw [asBls_ok h2 hn] at h1
      exact ⟨p, ns, rfl, SqL.of h1, k.here r (.bl _)⟩
    · cases e
  · cases e
theorem c_any (hc : X.calm = true := by rfl) : CallR X (.builtin "any") (rC T oAny) := CallR.imp (cr_any hc) fun xs H Q q => by
  obtain ⟨ρ, st, as, w, s', r, ha, e, k⟩ := q
  unfold oAny at e
  split at e
  · split at e
    · rename_i x xs hx
      obtain ⟨z, rfl, hz⟩ := ha.one
      obtain ⟨ns, hn, e⟩ := Option.map_eq_some_iff.mp e
      cases e
      obtain ⟨p, vs, rfl, h1, h2⟩ := lstOf_ok r hz hx
      rw [asBls_ok h2 hn] at h1
      exact ⟨p, ns, rfl, SqL.of h1, k.here r (.bl _)⟩
    · cases e
  · cases e
theorem c_sorted : CallR X (.builtin "sorted") (rC T oSorted) := CallR.imp cr_sortedI fun xs H Q q => by
  obtain ⟨ρ, st, as, w, s', r, ha, e, k⟩ := q
  unfold oSorted at e
  split at e
  · split at e
    · rename_i x xs hx
      obtain ⟨z, rfl, hz⟩ := ha.one
      obtain ⟨ns, hn, e⟩ := Option.map_eq_some_iff.mp e
      cases e
      obtain ⟨p, vs, rfl, h1, h2⟩ := lstOf_ok r hz hx
      rw [asInts_ok h2 hn] at h1
      refine ⟨p, ns, rfl, SqL.of h1, fun ns' q hp hs hq => ?_⟩
      rw [srt_eq hp hs]
      exact k.lst r (RVs.ints _) hq
    · cases e
  · cases e
/-- repr of data -/
theorem dp_noDict {K : PySem.W.Frag} {H : Hp} : ∀ (d : PyData) (v : V), Dp K H v d → d.hasDict = false
  | .none, _, _ => by simp only [PyData.hasDict]
  | .bool _, _, _ => by simp only [PyData.hasDict]
  | .int _, _, _ => by simp only [PyData.hasDict]
  | .str _, _, _ => by simp only [PyData.hasDict]
  | .list ds, _, .lst _ h => by
    simp only [PyData.hasDict]
    exact go ds _ h
  | .tuple ds, _, .tup _ h => by
    simp only [PyData.hasDict]
    exact go ds _ h
where
  go {K : PySem.W.Frag} {H : Hp} : ∀ (ds : List PyData) (vs : List V), DpAll K H vs ds → PyData.hasDictAll ds = false
  | [], _, _ => by simp only [PyData.hasDictAll]
  | d :: ds, _, .cons h hs => by
    simp only [PyData.hasDictAll]
    rw [dp_noDict d _ h, go ds _ hs]
    rfl
theorem c_repr (hg : X.A.guards = some []) (hu : X.A.units + 64 < cLine) (hK : X.K = T.K := by rfl) : CallR X (.builtin "repr") (rC T oRepr) := fun pins s σ H xs us Q I rs q => by
  obtain ⟨ρ, st, as, w, s', r, ha, e, k⟩ := q
  unfold oRepr at e
  split at e
  · rename_i x
    split at e
    · rename_i d hd
      split at e
      · rename_i hb
        cases e
        obtain ⟨hs, hl⟩ := Bool.and_eq_true_iff.mp hb
        have hl := of_decide_eq_true hl
        obtain ⟨z, rfl, hz⟩ := ha.one
        obtain ⟨p1, p2⟩ := toD_dp r 40 x z d hz hd
        have nd := dp_noDict d z p1
        have fin := k.here r (.str d.shown)
        cases rs with
        | cons r1 r2 =>
          cases r2
          rename_i u
          rw [← hK] at p1
          obtain ⟨bs, rd⟩ := Dp.reads I d z u p1 r1
          cases p1 with
          | non =>
            obtain rfl := r1
            simp only [PyData.shown] at fin
            exact PySem.P.repr_of_none ⟨.str _, H, I.tok _, ⟨_, rfl⟩, fin⟩
          | bl b =>
            obtain rfl := r1
            simp only [PyData.shown] at fin
            refine PySem.P.repr_of_bool ⟨.str _, H, I.tok _, ⟨_, rfl⟩, fin⟩
          | int i =>
            obtain ⟨t, rfl⟩ := r1
            simp only [PyData.shown] at fin
            simp only [PyData.showable] at hs
            exact PySem.P.repr_of_int (of_decide_eq_true hs) ⟨.str _, H, I.tok _, ⟨_, rfl⟩, fin⟩
          | str y =>
            obtain ⟨t, rfl⟩ := r1
            simp only [PyData.shown] at fin hl
            exact PySem.P.repr_of_str ⟨.str _, H, I.tok _, ⟨_, rfl⟩, fin⟩ (by rw [lim_eq]; exact hl)
          | lst g1 g2 =>
            obtain rfl := r1
            exact repr_of_reads' rd hs (fun z => by rw [nd] at z; cases z) hg (by omega) (fun _ _ e => e) (fun h' u tk hk => ⟨.str _, H, I.kept (t' := tk) hk, ⟨_, rfl⟩, fin⟩) (by rw [lim_eq]; exact hl)
          | tup g1 g2 =>
            obtain rfl := r1
            exact repr_of_reads' rd hs (fun z => by rw [nd] at z; cases z) hg (by omega) (fun _ _ e => e) (fun h' u tk hk => ⟨.str _, H, I.kept (t' := tk) hk, ⟨_, rfl⟩, fin⟩) (by rw [lim_eq]; exact hl)
      · cases e
    · cases e
  · cases e
end
/-! ### methods of built-in types -/
inductive Kd where
  | list | dict | str
def kd (k : Kd) (x : Vl) (s : Sto) : Bool := match k, x with
  | .str, .str _ => true
  | .list, .ref j => match s[j]? with
    | some (.lst _) => true
    | _ => false
  | .dict, .ref j => match s[j]? with
    | some (.dic _) => true
    | _ => false
  | _, _ => false
def Kd.nm : Kd → String
  | .list => "list"
  | .dict => "dict"
  | .str => "str"
def eBm (t : Kd) (f : OMt) (o : EM) (a : AM) : EM := fun lo => bnd (o lo) fun x s => match kd t x s with
  | true => bnd (a lo) (fun xs => lift (f x xs)) s
  | false => .fail
def eBm0 (t : Kd) (f : OMt) (o : EM) : EM := fun lo => bnd (o lo) fun x s => match kd t x s with
  | true => lift (f x []) s
  | false => .fail
def oAppend : OMt
  | .ref j, [v], s => match s[j]? with
    | some (.lst xs) => if xs.length < LIM then some (.non, s.set j (.lst (xs ++ [v]))) else none
    | _ => none
  | _, _, _ => none
def oExtend : OMt
  | .ref j, [.ref i], s => match s[j]?, s[i]? with
    | some (.lst xs), some (.lst ys) => if xs.length + ys.length ≤ LIM then some (.non, s.set j (.lst (xs ++ ys))) else none
    | _, _ => none
  | .ref j, [.tup ys], s => match s[j]? with
    | some (.lst xs) => if xs.length + ys.length ≤ LIM then some (.non, s.set j (.lst (xs ++ ys))) else none
    | _ => none
  | _, _, _ => none
def oPop : OMt
  | .ref j, [], s => match s[j]? with
    | some (.lst xs) => match xs[xs.length - 1]? with
      | some v => some (v, s.set j (.lst xs.dropLast))
      | none => none
    | _ => none
  | _, _, _ => none
section
variable {X : Cx} {T : Tb} {W : WX} {o e : Expr} {es : List Expr} {mo : EM} {ma : AM} {name : Str} {apos cpos : Pos} {id : String} {f : OMt} {t : Kd}
theorem kd_ok {ρ : List Addr} {H : Hp} {s : Sto} {x : Vl} {z : V} (r : Rel T ρ H s) (hz : RV T ρ H x z) (h : kd t x s = true) : tyV X.K t.nm z H := by
  cases t <;> cases x <;> simp only [kd] at h <;> try cases h
  · split at h
    · rename_i hx
      obtain ⟨p, rfl, hp⟩ := hz.refE
      obtain ⟨vs, h1, h2⟩ := r.lst hx hp
      exact .inl ⟨rfl, vs, SqL.of h1⟩
    · cases h
  · split at h
    · rename_i hx
      obtain ⟨p, rfl, hp⟩ := hz.refE
      obtain ⟨vs, h1, h2⟩ := r.dic hx hp
      exact .inr (.inr (.inl ⟨rfl, .inl ⟨vs, h1⟩⟩))
    · cases h
  · rw [hz.strE]; exact rfl
theorem ce_bm (pa : PlainAttrs t.nm) (slot : Slot t.nm name id) (hty : typeOf (.builtin id) = pure (.type "method_descriptor")) (hm : MtR X id (rMt T f)) (ho : PE X o (tE T W mo)) (ha : PA X (e :: es) (tA T W ma))
    (hbase : attributeBase o name X.env (eval o X.env) = eval o X.env := by rfl)
    (hfew : ((backTo cpos (starEach (e :: es) X.env)).all (fun x => !x.1) && (backToKw cpos (keywordEach [] X.env)).all (fun x => x.1.isSome)
      && decide ((e :: es).length + ([] : List Keyword).length + (if ([] : List Keyword).isEmpty then 0 else 1) < 30)) = true := by rfl)
    (hline : (apos.endLine == cpos.line) = true := by rfl) (hs : starEach (e :: es) X.env = (false, eval e X.env) :: starEach es X.env := by rfl) (hplain : (backTo cpos (starEach es X.env)).any (·.1) = false := by rfl) :
    PE X (.Call (.Attribute o name apos) (e :: es) [] cpos) (tE T W (eBm t f mo ma)) :=
  pe_mono (pe_bm pa slot hty hm ho ha hbase hfew hline hs hplain) fun σ H Q h => tG_bnd (R := RV T) h fun ρ s lo x z H1 r rl hx p => by
    cases hk : kd t x s with
    | false => simp only [hk] at p; exact p.elim
    | true =>
      simp only [hk] at p
      refine ⟨kd_ok r hx hk, po_bnd (R := RVs T) (m := ma) r rl p fun ρ' s' xs zs H' ext r' rl' hxs p' => ?_⟩
      obtain ⟨v, s3, e, k⟩ := po_lift p'
      exact ⟨ρ', s', x, xs, v, s3, r', hx.mono ext, hxs, e, k⟩
theorem ce_bm0 (pa : PlainAttrs t.nm) (slot : Slot t.nm name id) (hty : typeOf (.builtin id) = pure (.type "method_descriptor")) (hm : MtR X id (rMt T f)) (ho : PE X o (tE T W mo))
    (hbase : attributeBase o name X.env (eval o X.env) = eval o X.env := by rfl) (hline : (apos.endLine == cpos.line) = true := by rfl) : PE X (.Call (.Attribute o name apos) [] [] cpos) (tE T W (eBm0 t f mo)) :=
  pe_mono (pe_bm0 pa slot hty hm ho hbase hline) fun σ H Q h => tG_bnd (R := RV T) h fun ρ s lo x z H1 r rl hx p => by
    cases hk : kd t x s with
    | false => simp only [hk] at p; exact p.elim
    | true =>
      simp only [hk] at p
      obtain ⟨v, s3, e, k⟩ := po_lift p
      exact ⟨kd_ok r hx hk, ρ, s, x, [], v, s3, r, hx, .nil, e, k⟩
theorem MtR.imp {r r' : V → List V → Hp → VK → Prop} (h : MtR X id r) (k : ∀ x xs H Q, r' x xs H Q → r x xs H Q) : MtR X id r' := fun pins s σ H x xs v us Q I rx rs q => h pins s σ H x xs v us Q I rx rs (k x xs H Q q)
theorem m_append : MtR X "list.append" (rMt T oAppend) := MtR.imp mt_append fun x xs H Q q => by
  obtain ⟨ρ, st, a, as, w, s', r, ha, hs, e, k⟩ := q
  unfold oAppend at e
  split at e
  · split at e
    · rename_i v s j ys hx
      split at e
      · rename_i hl
        cases e
        obtain ⟨p, rfl, hp⟩ := ha.refE
        obtain ⟨z, rfl, hz⟩ := hs.one
        obtain ⟨vs, h1, h2⟩ := r.lst hx hp
        refine ⟨p, vs, z, rfl, rfl, h1, by rw [← h2.length, lim_eq]; exact hl, ?_⟩
        exact k.set r hp h1 (fun z => z) ⟨_, upd_same, (h2.append (.cons hz .nil)).mono (r.setExt hp h1)⟩ .non
      · cases e
    · cases e
  · cases e
/-- extend by a tuple -/
theorem list_extend_tup (l : Addr) (items : Array Value) (n : Nat) (b : Addr) (items2 : Array Value) (n2 : Nat) (od : Option Addr) (sl : Array (Option Value)) (hs0 : ¬(!items.isEmpty && Builtin.List.listTooLong (items.size + items2.size)) = true) (hs1 : items.size ≤ sizeLine) (hs2 : items.size + items2.size ≤ sizeLine + 1) :
    PySem.Meets (Builtin.«list.extend» ⟨[.ref l, .ref b], []⟩) (fun _ R s => s.heap.get? l = some { cls := .type "list", dict := none, data := .seq items n, slots := #[] } ∧ s.heap.get? b = some { cls := .type "tuple", dict := od, data := .seq items2 n2, slots := sl } ∧ R (.ok (.ret Value.none)) { s with heap := s.heap.update l (Obj.mapSeq fun x => x ++ items2), toks := s.toks }) :=
  .of_wp fun prog w A R s h => by
    obtain ⟨hp, g, d, tk, os⟩ := s; obtain ⟨hl, hb, h⟩ := h; have f1 := PySem.AutoSeq1.idx_int; have f2 := PySem.AutoSeq1.sub_tuple_tuple; have f3 := PySem.AutoSeq1.sub_list_list; have f4 := PySem.AutoSeq1.sub_tuple_list; have f5 := PySem.AutoSeq1.sub_list_tuple
    have hz' : (items ++ items2).size ≤ sizeLine + 1 := by rw [Array.size_append]; exact hs2
    wp_walk using (wpAny_updateSeq hl rfl (hz := hs1) (_hz' := hz')), PySem.AutoSeq1.wpAny_loadPart' hl, PySem.AutoSeq1.wpAny_loadPart' hb; exact ⟨_, rfl, h⟩
def rExtT (K : PySem.W.Frag) : V → List V → Hp → VK → Prop := fun x vs H Q => ∃ l b xs zs, x = .ref l ∧ vs = [.ref b] ∧ H l = some (.lst xs) ∧ SqT K H b zs ∧ xs.length + zs.length ≤ sizeLine ∧ Q .non (upd H l (.lst (xs ++ zs)))
theorem mt_extendT : MtM X "list.extend" (rExtT X.K) := by
  intro pins s σ H x vs v us Q I rx rv h
  obtain ⟨l, b, xs, zs, rfl, rfl, hH, hB, hz, q⟩ := h
  cases rx
  obtain ⟨u, rfl, ru⟩ := rv.one
  cases ru
  obtain ⟨z, its, n, r, hl, e⟩ := I.lstM hH
  obtain ⟨its2, r2, ⟨o, h1, h2, n2, h3⟩, z2⟩ := I.tuple hB
  have hl2 := r2.length
  obtain ⟨oc, od, dt, sl⟩ := o
  simp only at h2 h3
  subst h2 h3
  have hsz : its.toArray.size + its2.toArray.size ≤ sizeLine := by rw [List.size_toArray, List.size_toArray]; omega
  have hlong : ¬ (!its.toArray.isEmpty && Builtin.List.listTooLong (its.toArray.size + its2.toArray.size)) = true := by
    rw [notLongL hsz, Bool.and_false]
    exact Bool.false_ne_true
  refine PySem.call_meets PySem.F.slot_list_extend ⟨_, e, rfl⟩ PySem.F.entry_list_extend (PySem.F.args_list_extend_2 _ _)
    (list_extend_tup l its.toArray n b its2.toArray n2 od sl hlong (by rw [List.size_toArray]; omega) (by omega)) ⟨e, h1, ?_⟩
  refine ⟨.non, _, I.lset (its' := its ++ its2) hH e (by simp) (r.append r2) ?_, rfl, q⟩
  rw [List.length_append]
  omega
theorem m_extend (hK : X.K = T.K := by rfl) : MtR X "list.extend" (rMt T oExtend) := by
  intro pins s σ H x vs v us Q I rx rv h
  obtain ⟨ρ, st, a, as, w, s', r, ha, hs, e, k⟩ := h
  unfold oExtend at e
  split at e
  · split at e
    · rename_i ys zs hx hy
      split at e
      · rename_i hl
        cases e
        obtain ⟨p, rfl, hp⟩ := ha.refE
        obtain ⟨z, rfl, hz⟩ := hs.one
        obtain ⟨q, rfl, hq⟩ := hz.refE
        obtain ⟨vs, h1, h2⟩ := r.lst hx hp
        obtain ⟨us, h3, h4⟩ := r.lst hy hq
        refine mt_extend pins s σ H _ _ v _ Q I rx rv ⟨p, q, vs, us, rfl, rfl, h1, h3, by rw [← h2.length, ← h4.length, lim_eq]; exact hl, ?_⟩
        exact k.set r hp h1 (fun z => z) ⟨_, upd_same, (h2.append h4).mono (r.setExt hp h1)⟩ .non
      · cases e
    · cases e
  · split at e
    · rename_i ys hx
      split at e
      · rename_i hl
        cases e
        obtain ⟨p, rfl, hp⟩ := ha.refE
        obtain ⟨z, rfl, hz⟩ := hs.one
        obtain ⟨q, us, rfl, hq, h4⟩ := hz.tupE
        obtain ⟨vs, h1, h2⟩ := r.lst hx hp
        refine mt_extendT pins s σ H _ _ v _ Q I rx rv ⟨p, q, vs, us, rfl, rfl, h1, by rw [hK]; exact hq, by rw [← h2.length, ← h4.length, lim_eq]; exact hl, ?_⟩
        exact k.set r hp h1 (fun z => z) ⟨_, upd_same, (h2.append h4).mono (r.setExt hp h1)⟩ .non
      · cases e
    · cases e
  · cases e
theorem RVs.dropLast {ρ : List Addr} {H : Hp} {xs : List Vl} {vs : List V} (h : RVs T ρ H xs vs) : RVs T ρ H xs.dropLast vs.dropLast := by
  rw [List.dropLast_eq_take, List.dropLast_eq_take, h.length]
  exact h.take _
theorem m_pop : MtR X "list.pop" (rMt T oPop) := MtR.imp mt_pop fun x xs H Q q => by
  obtain ⟨ρ, st, a, as, w, s', r, ha, hs, e, k⟩ := q
  unfold oPop at e
  split at e
  · split at e
    · rename_i ys hx
      split at e
      · rename_i v hv
        cases e
        obtain ⟨p, rfl, hp⟩ := ha.refE
        rw [hs.zero]
        obtain ⟨vs, h1, h2⟩ := r.lst hx hp
        obtain ⟨z, hz, rz⟩ := h2.get hv
        refine ⟨p, vs, z, rfl, rfl, h1, by rw [← h2.length]; exact hz, ?_⟩
        exact k.set r hp h1 (fun z => z) ⟨_, upd_same, h2.dropLast.mono (r.setExt hp h1)⟩ rz
      · cases e
    · cases e
  · cases e
end
end Sm

/-! S5: statements -/
namespace Sm
open PySem L2

inductive RS where
  | nx (lo : Lo) (s : Sto) | rt (v : Vl) (s : Sto) | bk (lo : Lo) (s : Sto) | ct (lo : Lo) (s : Sto) | exc (e : Ex) (lo : Lo) (s : Sto) | fail
abbrev SM := Lo → Sto → RS
def bndS {α : Type} (m : Lo → M α) (f : Lo → α → Sto → RS) : SM := fun lo s => match m lo s with
  | .ok a s' => f lo a s'
  | .exc e s' => .exc e lo s'
  | .fail => .fail
def sNil : SM := fun lo s => .nx lo s
def sSeq (a b : SM) : SM := fun lo s => match a lo s with
  | .nx lo' s' => b lo' s'
  | .rt v s' => .rt v s'
  | .bk lo' s' => .bk lo' s'
  | .ct lo' s' => .ct lo' s'
  | .exc e lo' s' => .exc e lo' s'
  | .fail => .fail
def sExpr (e : EM) : SM := bndS e fun lo _ s => .nx lo s
def sRet (e : EM) : SM := bndS e fun _ v s => .rt v s
def sRetN : SM := fun _ s => .rt .non s
def sSet (i : Nat) (e : EM) : SM := bndS e fun lo v s => .nx (lo.set i (some v)) s
def sIf (t : TM) (a b : SM) : SM := bndS t fun lo c s => match c with
  | true => a lo s
  | false => b lo s
def sBreak : SM := fun lo s => .bk lo s
def sCont : SM := fun lo s => .ct lo s
/-- a, b = e1, e2 and three -/
def sPar (i j : Nat) (a : AM) : SM := bndS a fun lo vs s => match vs with
  | [v, w] => .nx ((lo.set i (some v)).set j (some w)) s
  | _ => .fail
def sPar3 (i j l : Nat) (a : AM) : SM := bndS a fun lo vs s => match vs with
  | [v, w, x] => .nx (((lo.set i (some v)).set j (some w)).set l (some x)) s
  | _ => .fail

/-- what is asked behind a statement -/
def PoXS (T : Tb) (W : WX) (ρ : List Addr) (H : Hp) (e : Ex) (lo : Lo) (s : Sto) : Prop :=
  ∀ (ρ' : List Addr) (H' : Hp) (σ' : St) (C : Addr), Ext T ρ H ρ' H' → Rel T ρ' H' s → RL T ρ' H' lo σ' → T.cl[e.c]? = some C →
    match e.fs with
    | none => W (.ref C) none σ' H'
    | some fs => ∀ (d : Addr) (vs : List (Str × V)), H' d = some (.xd vs) → vs.map (·.1) = fs.map (·.1) → RVs T ρ' H' (fs.map (·.2)) (vs.map (·.2)) → W (.ref C) (some d) σ' H'
def PoN (T : Tb) (ρ : List Addr) (H : Hp) (lo : Lo) (s : Sto) (Q : St → Hp → Prop) : Prop := ∀ (ρ' : List Addr) (H' : Hp) (σ' : St), Ext T ρ H ρ' H' → Rel T ρ' H' s → RL T ρ' H' lo σ' → Q σ' H'
def PoS (T : Tb) (W : WX) (ρ : List Addr) (H : Hp) (r : RS) (D : Ends) : Prop := match r with
  | .nx lo s => PoN T ρ H lo s D.nx
  | .rt v s => ∀ (ρ' : List Addr) (H' : Hp) (z : V), Ext T ρ H ρ' H' → Rel T ρ' H' s → RV T ρ' H' v z → D.rt z H'
  | .bk lo s => PoN T ρ H lo s D.bk
  | .ct lo s => PoN T ρ H lo s D.ct
  | .exc e lo s => PoXS T W ρ H e lo s
  | .fail => False
theorem PoN.mono {T : Tb} {ρ ρ' : List Addr} {H H' : Hp} {lo : Lo} {s : Sto} {Q : St → Hp → Prop} (p : PoN T ρ H lo s Q) (e : Ext T ρ H ρ' H') : PoN T ρ' H' lo s Q := fun ρ2 H2 σ2 e2 => p ρ2 H2 σ2 (e.trans e2)
theorem PoS.mono {T : Tb} {W : WX} {ρ ρ' : List Addr} {H H' : Hp} {r : RS} {D : Ends} (p : PoS T W ρ H r D) (e : Ext T ρ H ρ' H') : PoS T W ρ' H' r D := by
  cases r with
  | nx lo s => exact PoN.mono (lo := lo) p e
  | rt v s => exact fun ρ2 H2 z e2 => p ρ2 H2 z (e.trans e2)
  | bk lo s => exact PoN.mono (lo := lo) p e
  | ct lo s => exact PoN.mono (lo := lo) p e
  | exc x lo s => exact fun ρ2 H2 σ2 C e2 => p ρ2 H2 σ2 C (e.trans e2)
  | fail => exact p
def tS (T : Tb) (W : WX) (m : SM) : TS := fun D σ H => ∃ (ρ : List Addr) (s : Sto) (lo : Lo), Rel T ρ H s ∧ RL T ρ H lo σ ∧ PoS T W ρ H (m lo s) D
theorem ps_mono {X : Cx} {e : Stmt} {t t' : TS} (h : PS X e t) (k : ∀ D σ H, t' D σ H → t D σ H) : PS X e t' := ⟨fun pins s σ H D I q => h.run pins s σ H D I (k D σ H q)⟩
theorem pss_mono {X : Cx} {e : List Stmt} {t t' : TS} (h : PSs X e t) (k : ∀ D σ H, t' D σ H → t D σ H) : PSs X e t' := ⟨fun pins s σ H D I q => h.run pins s σ H D I (k D σ H q)⟩
/-- a part of a statement, then the rest -/
theorem poS_bnd {α β : Type} {R : List Addr → Hp → α → β → Prop} {T : Tb} {W : WX} {m : Lo → M α} {f : Lo → α → Sto → RS} {ρ : List Addr} {s : Sto} {lo : Lo} {σ : St} {H : Hp} {D : Ends} {Q' : β → Hp → Prop}
    (r : Rel T ρ H s) (rl : RL T ρ H lo σ) (p : PoS T W ρ H (bndS m f lo s) D)
    (k : ∀ (ρ' : List Addr) (s' : Sto) (a : α) (b : β) (H' : Hp), Ext T ρ H ρ' H' → Rel T ρ' H' s' → RL T ρ' H' lo σ → R ρ' H' a b → PoS T W ρ' H' (f lo a s') D → Q' b H') : tG R T W m σ H Q' := by
  refine ⟨ρ, s, lo, r, rl, ?_⟩
  unfold bndS at p
  cases e : m lo s with
  | ok a s1 =>
    rw [e] at p
    exact fun ρ' H' b x r' hb => k ρ' s1 a b H' x r' (rl.mono x) hb (p.mono x)
  | exc z s1 =>
    rw [e] at p
    exact fun ρ' H' C x r' hC => p ρ' H' σ C x r' (rl.mono x) hC
  | fail => rw [e] at p; exact p
theorem tS_bnd {α β : Type} {R : List Addr → Hp → α → β → Prop} {T : Tb} {W : WX} {m : Lo → M α} {f : Lo → α → Sto → RS} {σ : St} {H : Hp} {D : Ends} {Q' : β → Hp → Prop} (h : tS T W (bndS m f) D σ H)
    (k : ∀ (ρ : List Addr) (s : Sto) (lo : Lo) (a : α) (b : β) (H' : Hp), Rel T ρ H' s → RL T ρ H' lo σ → R ρ H' a b → PoS T W ρ H' (f lo a s) D → Q' b H') : tG R T W m σ H Q' := by
  obtain ⟨ρ, s, lo, r, rl, p⟩ := h
  exact poS_bnd r rl p fun ρ' s' a b H' _ r' rl' hb p' => k ρ' s' lo a b H' r' rl' hb p'
section
variable {X : Cx} {T : Tb} {W : WX} {e c : Expr} {st : Stmt} {rest a b : List Stmt} {me : EM} {mt : TM} {ms mr ma mb : SM} {pos : Pos}
theorem cs_nil : PSs X [] (tS T W sNil) := pss_mono pss_nil fun D σ H h => by
  obtain ⟨ρ, s, lo, r, rl, p⟩ := h
  exact p ρ H σ .refl r rl
theorem cs_cons (h1 : PS X st (tS T W ms)) (h2 : PSs X rest (tS T W mr)) : PSs X (st :: rest) (tS T W (sSeq ms mr)) := pss_mono (pss_cons h1 h2) fun D σ H h => by
  obtain ⟨ρ, s, lo, r, rl, p⟩ := h
  refine ⟨ρ, s, lo, r, rl, ?_⟩
  unfold sSeq at p
  cases e : ms lo s with
  | nx lo' s' =>
    rw [e] at p
    exact fun ρ' H' σ' x r' rl' => ⟨ρ', s', lo', r', rl', p.mono x⟩
  | rt v s' => rw [e] at p; exact p
  | bk lo' s' => rw [e] at p; exact p
  | ct lo' s' => rw [e] at p; exact p
  | exc z lo' s' => rw [e] at p; exact p
  | fail => rw [e] at p; exact p
theorem cs_one (h1 : PS X st (tS T W ms)) : PSs X [st] (tS T W ms) := pss_one h1
theorem cs_expr (he : PE X e (tE T W me)) (hs : swapsWith e none pos.line X.env = pure false := by rfl) : PS X (.Expr e pos) (tS T W (sExpr me)) := ps_mono (ps_expr he hs) fun D σ H h =>
  tS_bnd (R := RV T) h fun ρ s lo x z H' r rl hx p => p ρ H' σ .refl r rl
theorem cs_ret (he : PE X e (tE T W me)) : PS X (.Return (some e) pos) (tS T W (sRet me)) := ps_mono (ps_ret he) fun D σ H h =>
  tS_bnd (R := RV T) h fun ρ s lo x z H' r rl hx p => p ρ H' z .refl r hx
theorem cs_retN : PS X (.Return none pos) (tS T W sRetN) := ps_mono ps_retN fun D σ H h => by
  obtain ⟨ρ, s, lo, r, rl, p⟩ := h
  exact p ρ H .non .refl r .non
theorem cs_pass : PS X (.Pass pos) (tS T W sNil) := ps_mono ps_pass fun D σ H h => by
  obtain ⟨ρ, s, lo, r, rl, p⟩ := h
  exact p ρ H σ .refl r rl
theorem cs_break : PS X (.Break pos) (tS T W sBreak) := ps_mono ps_break fun D σ H h => by
  obtain ⟨ρ, s, lo, r, rl, p⟩ := h
  exact p ρ H σ .refl r rl
theorem cs_continue : PS X (.Continue pos) (tS T W sCont) := ps_mono ps_continue fun D σ H h => by
  obtain ⟨ρ, s, lo, r, rl, p⟩ := h
  exact p ρ H σ .refl r rl
theorem cs_if (hc : PT X c (tT T W mt)) (ha : PSs X a (tS T W ma)) (hb : PSs X b (tS T W mb)) : PS X (.If c a b pos) (tS T W (sIf mt ma mb)) := ps_mono (ps_if hc ha hb) fun D σ H h =>
  tS_bnd (R := RB) h fun ρ s lo x z H' r rl hx p => by
    cases hx
    cases x with
    | true => exact ⟨ρ, s, lo, r, rl, p⟩
    | false => exact ⟨ρ, s, lo, r, rl, p⟩
theorem tasg_le {i : Nat} {D : Ends} {σ : St} {H : Hp} (h : tS T W (sSet i me) D σ H) : tAsg (tE T W me) (gName i) D σ H :=
  tS_bnd (R := RV T) h fun ρ s lo x z H' r rl hx p => p ρ H' _ .refl r (rl.set i hx)
theorem cs_set {i : Nat} {x : Str} {pos' : Pos} (hN : X.N.Nodup) (hi : X.N[i]? = some x) (hx : Loc X.env.scope x) (he : PE X e (tE T W me)) (hs : swapsWith e (some (.Name x pos')) pos.line X.env = pure false := by rfl) (hf : X.fn x = true ∨ X.env.scope.names.lookup x = some .local := by first | exact .inl rfl | exact .inr rfl | assumption) :
    PS X (.Assign [.Name x pos'] e pos) (tS T W (sSet i me)) := ps_mono (ps_set hN hi hx he hs hf) fun D σ H h => tasg_le h
theorem cs_par {i j : Nat} {x y : Str} {a b : Expr} {ma : AM} {px py pt : Pos} {kt k2 pt2} (hc : X.calm = true) (hN : X.N.Nodup) (hi : X.N[i]? = some x) (hj : X.N[j]? = some y) (hij : i ≠ j)
    (hx : X.env.scope.names.lookup x = some .local) (hy : X.env.scope.names.lookup y = some .local) (ha : PA X [a, b] (tA T W ma))
    (hw : swappedStores [.Tuple [.Name x px, .Name y py] kt pt] (.Tuple [a, b] k2 pt2) X.env = pure (some [x, y]))
    (hs : swapsWithSole [.Tuple [.Name x px, .Name y py] kt pt] (.Tuple [a, b] k2 pt2) pos.line X.env = pure false := by rfl) :
    PS X (.Assign [.Tuple [.Name x px, .Name y py] kt pt] (.Tuple [a, b] k2 pt2) pos) (tS T W (sPar i j ma)) := ps_mono (ps_par hc hN hi hj hij hx hy ha hw hs) fun D σ H h =>
  tS_bnd (R := RVs T) h fun ρ s lo vs zs H' r rl hx p => by
    cases hx with
    | nil => exact p.elim
    | cons h1 h2 =>
      cases h2 with
      | nil => exact p.elim
      | cons h2 h3 =>
        cases h3 with
        | nil => exact ⟨_, _, rfl, p ρ H' _ .refl r ((rl.set i h1).set j h2)⟩
        | cons h3 h4 => exact p.elim
theorem cs_par3 {i j l : Nat} {x y z : Str} {a b c : Expr} {ma : AM} {px py pz pt : Pos} {kt k2 pt2} (hc : X.calm = true) (hN : X.N.Nodup) (hi : X.N[i]? = some x) (hj : X.N[j]? = some y) (hl : X.N[l]? = some z) (hij : i ≠ j) (hil : i ≠ l) (hjl : j ≠ l)
    (hx : X.env.scope.names.lookup x = some .local) (hy : X.env.scope.names.lookup y = some .local) (hz : X.env.scope.names.lookup z = some .local) (ha : PA X [a, b, c] (tA T W ma))
    (hw : swappedStores [.Tuple [.Name x px, .Name y py, .Name z pz] kt pt] (.Tuple [a, b, c] k2 pt2) X.env = pure (some [x, y, z]))
    (hs : swapsWithSole [.Tuple [.Name x px, .Name y py, .Name z pz] kt pt] (.Tuple [a, b, c] k2 pt2) pos.line X.env = pure false := by rfl) :
    PS X (.Assign [.Tuple [.Name x px, .Name y py, .Name z pz] kt pt] (.Tuple [a, b, c] k2 pt2) pos) (tS T W (sPar3 i j l ma)) := ps_mono (ps_par3 hc hN hi hj hl hij hil hjl hx hy hz ha hw hs) fun D σ H h =>
  tS_bnd (R := RVs T) h fun ρ s lo vs zs H' r rl hx p => by
    cases hx with
    | nil => exact p.elim
    | cons h1 h2 =>
      cases h2 with
      | nil => exact p.elim
      | cons h2 h3 =>
        cases h3 with
        | nil => exact p.elim
        | cons h3 h4 =>
          cases h4 with
          | nil => exact ⟨_, _, _, rfl, p ρ H' _ .refl r (((rl.set i h1).set j h2).set l h3)⟩
          | cons h4 h5 => exact p.elim
end

/-! ### targets -/
abbrev GM := Vl → Lo → M Lo
def gNm (i : Nat) : GM := fun v lo s => .ok (lo.set i (some v)) s
abbrev OSet := Vl → Vl → Vl → Sto → Option Sto
def liftU (f : Sto → Option Sto) (lo : Lo) : M Lo := fun s => match f s with
  | some s' => .ok lo s'
  | none => .fail
def gSb (f : OSet) (o i : EM) : GM := fun v lo => bnd (o lo) fun x => bnd (i lo) fun y => liftU (f x y v) lo
def gNms (js : List Nat) (vs : List Vl) (lo : Lo) : Option Lo := match js, vs with
  | [], [] => some lo
  | j :: js, v :: vs => gNms js vs (lo.set j (some v))
  | _, _ => none
/-- names in brackets -/
def gTp (js : List Nat) : GM := fun v lo s => match v with
  | .tup xs => match gNms js xs lo with
    | some lo' => .ok lo' s
    | none => .fail
  | _ => .fail
/-- the readings of targets -/
abbrev RLo (T : Tb) : List Addr → Hp → Lo → St → Prop := fun ρ H lo σ => RL T ρ H lo σ
def tGt (T : Tb) (W : WX) (g : GM) : TG := fun z σ H Q => ∃ (ρ : List Addr) (s : Sto) (lo : Lo) (v : Vl), Rel T ρ H s ∧ RL T ρ H lo σ ∧ RV T ρ H v z ∧ Po (RLo T) T (fun c d H' => W c d σ H') ρ H (g v lo s) Q
def sAsg (g : GM) (e : EM) : SM := bndS e fun lo v s => match g v lo s with
  | .ok lo' s' => .nx lo' s'
  | .exc x s' => .exc x lo s'
  | .fail => .fail
theorem pg_mono {X : Cx} {e : Expr} {t t' : TG} (h : PG X e t) (k : ∀ v σ H Q, t' v σ H Q → t v σ H Q) : PG X e t' := ⟨fun pins s σ H v u Q I r q => h.run pins s σ H v u Q I r (k v σ H Q q)⟩
def opSet : OSet
  | .ref j, y, v, s => match s[j]? with
    | some (.lst xs) => match y with
      | .int i => match ixN xs.length i with
        | some n => some (s.set j (.lst (xs.set n v)))
        | none => none
      | _ => none
    | some (.dic kvs) => match keyOf y with
      | some k => if kvs.length < LIM then some (s.set j (.dic (put kvs k v))) else none
      | none => none
    | _ => none
  | _, _, _, _ => none
def rSt (T : Tb) (f : OSet) : TSet := fun o i v H Q => ∃ ρ s a b c s', Rel T ρ H s ∧ RV T ρ H a o ∧ RV T ρ H b i ∧ RV T ρ H c v ∧ f a b c s = some s' ∧ ∀ (ρ' : List Addr) (H' : Hp), Ext T ρ H ρ' H' → Rel T ρ' H' s' → Q H'
section
variable {X : Cx} {T : Tb} {W : WX} {o i e tg : Expr} {mo mi me : EM} {g : GM} {f : OSet} {pos : Pos}
theorem cg_name {n : Nat} {x : Str} (hN : X.N.Nodup) (hi : X.N[n]? = some x) (hx : Loc X.env.scope x) (hf : X.fn x = true ∨ X.env.scope.names.lookup x = some .local := by first | exact .inl rfl | exact .inr rfl | assumption) : PG X (.Name x pos) (tGt T W (gNm n)) :=
  pg_mono (pg_name hN hi hx hf) fun v σ H Q h => by
    obtain ⟨ρ, s, lo, x, r, rl, hx, p⟩ := h
    exact p ρ H _ .refl r (rl.set n hx)
theorem cg_sub (ho : PE X o (tE T W mo)) (hi : PE X i (tE T W mi)) (hs : PSet X (rSt T f)) (k : PG X (.Subscript o i pos) (gSub (tE T W mo) (tE T W mi) (rSt T f))) : PG X (.Subscript o i pos) (tGt T W (gSb f mo mi)) :=
  pg_mono k fun v σ H Q h => by
    obtain ⟨ρ, s, lo, x, r, rl, hx, p⟩ := h
    refine po_bnd (R := RV T) (m := mo) r rl p fun ρ1 s1 a z H1 ext1 r1 rl1 ha p1 => po_bnd (R := RV T) (m := mi) r1 rl1 p1 fun ρ2 s2 b y H2 ext2 r2 rl2 hb p2 => ?_
    unfold liftU at p2
    cases e : f a b x s2 with
    | none => rw [e] at p2; exact p2.elim
    | some s3 =>
      rw [e] at p2
      exact ⟨ρ2, s2, a, b, x, s3, r2, ha.mono ext2, hb, hx.mono (ext1.trans ext2), e, fun ρ3 H3 e3 r3 => p2 ρ3 H3 σ e3 r3 (rl2.mono e3)⟩
theorem cs_asg (he : PE X e (tE T W me)) (hg : PG X tg (tGt T W g)) (hs : swapsWithSole [tg] e pos.line X.env = pure false := by rfl) (hw : swappedStores [tg] e X.env = pure none := by rfl)
    (h1 : (assignEach [tg] X.env).map (·.2) = [assign tg X.env] := by rfl) : PS X (.Assign [tg] e pos) (tS T W (sAsg g me)) := ps_mono (ps_asg he hg hs hw h1) fun D σ H h =>
  tS_bnd (R := RV T) h fun ρ s lo x z H' r rl hx p => ⟨ρ, s, lo, x, r, rl, hx, by
    cases e : g x lo s with
    | ok lo' s' =>
      rw [e] at p
      exact fun ρ2 H2 σ2 e2 r2 rl2 => p ρ2 H2 σ2 e2 r2 rl2
    | exc y s' =>
      rw [e] at p
      exact fun ρ2 H2 C e2 r2 hC => p ρ2 H2 σ C e2 r2 (rl.mono e2) hC
    | fail => rw [e] at p; exact p⟩
theorem p_set (hu : X.A.units + 1 < cLine) : PSet X (rSt T opSet) := by
  intro pins s σ H ov iv v ou iu u Q I ro ri rv h
  obtain ⟨ρ, st, a, b, c, s', r, ha, hb, hc, e, k⟩ := h
  unfold opSet at e
  split at e
  · rename_i j y w s0
    obtain ⟨p, rfl, hp⟩ := ha.refE
    split at e
    · rename_i xs hx
      split at e
      · rename_i i
        split at e
        · rename_i n hn
          cases e
          obtain ⟨vs, h1, h2⟩ := r.lst hx hp
          refine set_list pins s σ H _ _ v ou iu u Q I ro ri rv ⟨p, vs, i, n, rfl, hb.intE, h1, by rw [← h2.length]; exact hn, ?_⟩
          exact k ρ _ (r.setExt hp h1) (r.set hp ⟨_, upd_same, (h2.set hc n).mono (r.setExt hp h1)⟩)
        · cases e
      · cases e
    · rename_i kvs hx
      split at e
      · rename_i key hk
        split at e
        · rename_i hl
          cases e
          obtain ⟨vs, h1, h2, h3⟩ := r.dic hx hp
          have ey := keyOf_ok hb hk
          subst ey
          have hlen : vs.length = kvs.length := by have := congrArg List.length h2; simpa using this
          have nd := dk_nodup I h1
          obtain ⟨q1, q2⟩ := put_ok (k := key) hc nd h2 h3
          obtain rfl : ou = Value.ref p := ro
          refine d_setItem hu I (DPut.k (v := v) h1 (by rw [hlen, lim_eq]; exact hl)) ri rv fun s4 I4 => ⟨_, I4, ?_⟩
          exact k ρ _ (r.setExt hp h1) (r.set hp ⟨_, upd_same, q1, q2.mono (r.setExt hp h1)⟩)
        · cases e
      · cases e
    · cases e
  · cases e
end
end Sm

/-! S6: loops and comprehensions -/
namespace Sm
open PySem L2

/-- the i-th item of what is walked: an item, the end, or nothing known -/
abbrev NX := Nat → Sto → Option (Option Vl)
def nxFix (xs : List Vl) : NX := fun i _ => some xs[i]?
def nxLst (j : Nat) : NX := fun i s => match s[j]? with
  | some (.lst xs) => some xs[i]?
  | _ => none
def nxEnum (j : Nat) : NX := fun i s => match s[j]? with
  | some (.lst xs) => match xs[i]? with
    | some v => some (some (.tup [.int (i : Nat), v]))
    | none => some none
  | _ => none
/-- an iterator of the model yields what nx says -/
def ItOk (T : Tb) (J : It) (nx : NX) (ρ : List Addr) (H : Hp) : Prop := ∀ (ρ1 : List Addr) (H1 : Hp) (s : Sto) (i : Nat), Ext T ρ H ρ1 H1 → Rel T ρ1 H1 s → match nx i s with
  | some (some v) => J.go i H1 ∧ ∀ x H2, J.yld i H1 x H2 → Ext T ρ1 H1 ρ1 H2 ∧ Rel T ρ1 H2 s ∧ RV T ρ1 H2 v x
  | some none => J.stop i H1
  | none => True
theorem ItOk.mono {T : Tb} {J : It} {nx : NX} {ρ ρ' : List Addr} {H H' : Hp} (h : ItOk T J nx ρ H) (e : Ext T ρ H ρ' H') : ItOk T J nx ρ' H' := fun ρ1 H1 s i e1 r => h ρ1 H1 s i (e.trans e1) r
abbrev IM := Lo → M NX
abbrev tI (T : Tb) (W : WX) (m : IM) : TI := fun σ H R => tG (fun ρ H nx J => ItOk T J nx ρ H) T W m σ H R
/-- the loop, by fuel -/
def loopN (nx : NX) (g : GM) (b : SM) : Nat → Nat → SM
  | 0, _, _, _ => .fail
  | n + 1, i, lo, s => match nx i s with
    | none => .fail
    | some none => .nx lo s
    | some (some v) => match g v lo s with
      | .fail => .fail
      | .exc e s' => .exc e lo s'
      | .ok lo' s' => match b lo' s' with
        | .nx lo2 s2 => loopN nx g b n (i + 1) lo2 s2
        | .ct lo2 s2 => loopN nx g b n (i + 1) lo2 s2
        | .bk lo2 s2 => .nx lo2 s2
        | .rt v2 s2 => .rt v2 s2
        | .exc e lo2 s2 => .exc e lo2 s2
        | .fail => .fail
def sFor (n : Nat) (m : IM) (g : GM) (b : SM) : SM := bndS m fun lo nx s => loopN nx g b n 0 lo s
/-- the same over items that are known -/
def loopX (g : GM) (b : SM) : List Vl → SM
  | [], lo, s => .nx lo s
  | v :: vs, lo, s => match g v lo s with
    | .fail => .fail
    | .exc e s' => .exc e lo s'
    | .ok lo' s' => match b lo' s' with
      | .nx lo2 s2 => loopX g b vs lo2 s2
      | .ct lo2 s2 => loopX g b vs lo2 s2
      | .bk lo2 s2 => .nx lo2 s2
      | .rt v2 s2 => .rt v2 s2
      | .exc e lo2 s2 => .exc e lo2 s2
      | .fail => .fail
def sForX (m : AM) (g : GM) (b : SM) : SM := bndS m fun lo xs s => loopX g b xs lo s
theorem loopX_eq (g : GM) (b : SM) (all : List Vl) : ∀ (n i : Nat) (lo : Lo) (s : Sto), all.length - i < n → loopN (nxFix all) g b n i lo s = loopX g b (all.drop i) lo s := by
  intro n
  induction n with
  | zero => intro i lo s h; omega
  | succ n ih =>
    intro i lo s h
    unfold loopN
    simp only [nxFix]
    cases e : all[i]? with
    | none =>
      have : all.length ≤ i := List.getElem?_eq_none_iff.mp e
      rw [List.drop_eq_nil_of_le this]
      rfl
    | some v =>
      obtain ⟨hi, hv⟩ := List.getElem?_eq_some_iff.mp e
      rw [List.drop_eq_getElem_cons hi, hv]
      simp only [loopX]
      cases g v lo s with
      | fail => rfl
      | exc e s' => rfl
      | ok lo' s' =>
        simp only
        cases b lo' s' with
        | nx lo2 s2 => exact ih (i + 1) lo2 s2 (by omega)
        | ct lo2 s2 => exact ih (i + 1) lo2 s2 (by omega)
        | bk lo2 s2 => rfl
        | rt v2 s2 => rfl
        | exc e lo2 s2 => rfl
        | fail => rfl
section
variable {X : Cx} {T : Tb} {W : WX} {tg iter : Expr} {body : List Stmt} {m : IM} {ma : AM} {g : GM} {b : SM} {pos : Pos}
theorem loop_le {n : Nat} {D : Ends} {σ : St} {H : Hp} (h : tS T W (sFor n m g b) D σ H) : tFor (tI T W m) (tGt T W g) (tS T W b) D σ H :=
  tS_bnd (R := fun ρ H nx J => ItOk T J nx ρ H) h fun ρ0 s0 lo0 nx J H0 r0 rl0 ok p0 => by
    refine ⟨fun i k σ H => ∃ ρ s lo, Rel T ρ H s ∧ RL T ρ H lo σ ∧ ItOk T J nx ρ H ∧ PoS T W ρ H (loopN nx g b k i lo s) D, ⟨n, ρ0, s0, lo0, r0, rl0, ok, p0⟩, ?_⟩
    rintro i k σ1 H1 ⟨ρ, s, lo, r, rl, ok, p⟩
    cases k with
    | zero => exact p.elim
    | succ k =>
      unfold loopN at p
      have q := ok ρ H1 s i .refl r
      cases e : nx i s with
      | none => simp only [e] at p; exact p.elim
      | some o =>
        simp only [e] at p q
        cases o with
        | none => exact .inl ⟨q, p ρ H1 σ1 .refl r rl⟩
        | some v =>
          obtain ⟨go, yl⟩ := q
          refine .inr ⟨go, fun σ' H' => ∃ ρ s lo, Rel T ρ H' s ∧ RL T ρ H' lo σ' ∧ ItOk T J nx ρ H' ∧ PoS T W ρ H' (loopN nx g b k (i + 1) lo s) D, fun σ' H' h => ⟨k, Nat.lt_succ_self k, h⟩, fun x H2 y => ?_⟩
          obtain ⟨x1, r2, hv⟩ := yl x H2 y
          refine ⟨ρ, s, lo, v, r2, rl.mono x1, hv, ?_⟩
          have p := p.mono x1
          cases e2 : g v lo s with
          | fail => simp only [e2] at p; exact p
          | exc z s' => simp only [e2] at p; exact fun ρ' H' C x r' hC => p ρ' H' σ1 C x r' (rl.mono (x1.trans x)) hC
          | ok lo' s' =>
            simp only [e2] at p
            intro ρ3 H3 σ3 x3 r3 rl3
            refine ⟨ρ3, s', lo', r3, rl3, ?_⟩
            have p := p.mono x3
            have ok3 := ok.mono (x1.trans x3)
            cases e3 : b lo' s' with
            | nx lo2 s2 => simp only [e3] at p; exact fun ρ4 H4 σ4 x4 r4 rl4 => ⟨ρ4, s2, lo2, r4, rl4, ok3.mono x4, p.mono x4⟩
            | ct lo2 s2 => simp only [e3] at p; exact fun ρ4 H4 σ4 x4 r4 rl4 => ⟨ρ4, s2, lo2, r4, rl4, ok3.mono x4, p.mono x4⟩
            | bk lo2 s2 => simp only [e3] at p; exact p
            | rt v2 s2 => simp only [e3] at p; exact p
            | exc z lo2 s2 => simp only [e3] at p; exact p
            | fail => simp only [e3] at p; exact p
theorem cs_for (n : Nat) (hp : PassesOwn (model X.prog X.w) X.A X.env X.xe) (hc : X.calm = true) (hi : PI X tg iter (tI T W m)) (hg : PG X tg (tGt T W g)) (hb : PSs X body (tS T W b))
    (hs : ∀ x, foldedSetIterable iter X.env x = pure x := by intro _; rfl) : PS X (.For tg iter body [] pos) (tS T W (sFor n m g b)) := ps_mono (ps_for hp hc hi hg hb hs) fun D σ H h => loop_le h
/-- what is walked as a list that is known -/
def iFix (ma : AM) : IM := fun lo => bnd (ma lo) fun xs => ret (nxFix xs)
theorem cs_forX (hp : PassesOwn (model X.prog X.w) X.A X.env X.xe) (hc : X.calm = true) (hi : PI X tg iter (tI T W (iFix ma))) (hg : PG X tg (tGt T W g)) (hb : PSs X body (tS T W b))
    (hs : ∀ x, foldedSetIterable iter X.env x = pure x := by intro _; rfl) : PS X (.For tg iter body [] pos) (tS T W (sForX ma g b)) := ps_mono (ps_for hp hc hi hg hb hs) fun D σ H h => by
  obtain ⟨ρ, s, lo, r, rl, p⟩ := h
  unfold sForX bndS at p
  cases e : ma lo s with
  | ok xs s' =>
    refine loop_le (n := xs.length + 1) ⟨ρ, s, lo, r, rl, ?_⟩
    have : sFor (xs.length + 1) (iFix ma) g b lo s = loopX g b xs lo s' := by
      unfold sFor bndS iFix bnd
      rw [e]
      simp only [ret]
      rw [loopX_eq g b xs (xs.length + 1) 0 lo s' (by omega), List.drop_zero]
    rw [this]
    rw [e] at p
    exact p
  | exc z s' =>
    refine loop_le (n := 1) ⟨ρ, s, lo, r, rl, ?_⟩
    have : sFor 1 (iFix ma) g b lo s = .exc z lo s' := by
      unfold sFor bndS iFix bnd
      rw [e]
    rw [this]
    rw [e] at p
    exact p
  | fail =>
    rw [e] at p
    exact p.elim
theorem pi_mono {tg iter : Expr} {t t' : TI} (h : PI X tg iter t) (k : ∀ σ H R, t' σ H R → t σ H R) : PI X tg iter t' := ⟨fun pins s σ H R I q => h.run pins s σ H R I (k σ H R q)⟩
/-- over a tuple -/
def aTup (e : EM) : AM := fun lo => bnd (e lo) fun x => match x with
  | .tup xs => ret xs
  | _ => failM
/-- over range(n), range(a, b) -/
def rng (lo : Int) (n : Nat) : List Vl := (List.range n).map fun i => Vl.int (lo + (i : Nat))
def aRng (a : AM) : AM := fun lo => bnd (a lo) fun xs => match xs with
  | [.int n] => if -(2 ^ 62) ≤ n ∧ n < 2 ^ 62 then ret (rng 0 n.toNat) else failM
  | _ => failM
def aRng2 (a : AM) : AM := fun lo => bnd (a lo) fun xs => match xs with
  | [.int i, .int j] => if -(2 ^ 62) ≤ i ∧ i < 2 ^ 62 ∧ -(2 ^ 62) ≤ j ∧ j < 2 ^ 62 then ret (rng i (j - i).toNat) else failM
  | _ => failM
/-- over a list, enumerate(list): the list's number -/
def iLst (e : EM) : IM := fun lo => bnd (e lo) fun x => match x with
  | .ref j => fun s => match s[j]? with
    | some (.lst _) => .ok (nxLst j) s
    | _ => .fail
  | _ => failM
def iEnm (a : AM) : IM := fun lo => bnd (a lo) fun xs => match xs with
  | [.ref j] => fun s => match s[j]? with
    | some (.lst _) => .ok (nxEnum j) s
    | _ => .fail
  | _ => failM
theorem bnd_bnd {α β γ : Type} (m : M α) (f : α → M β) (g : β → M γ) : bnd (bnd m f) g = bnd m fun x => bnd (f x) g := by
  funext s
  unfold bnd
  cases m s <;> rfl
theorem fix_le {R : It → Hp → Prop} {σ : St} {H : Hp} (h : tI T W (iFix ma) σ H R) : tA T W (fun lo => ma lo) σ H fun vs H1 => ∀ J, (∀ ρ s xs, Rel T ρ H1 s → RVs T ρ H1 xs vs → ItOk T J (nxFix xs) ρ H1) → R J H1 :=
  tG_bnd (R := RVs T) h fun ρ s lo xs vs H1 r rl hx p J hJ => p ρ H1 J .refl r (hJ ρ s xs r hx)
theorem ci_tup {e : Expr} {me : EM} (he : PE X e (tE T W me)) (hK : X.K = T.K := by rfl) : PI X tg e (tI T W (iFix (aTup me))) := pi_mono (pi_tup he) fun σ H R h => by
  obtain ⟨ρ, s, lo, r, rl, p⟩ := h
  refine po_bnd (R := RV T) (m := me) (f := fun x => bnd (match x with | .tup xs => ret xs | _ => failM) fun xs => ret (nxFix xs)) (R' := fun ρ H nx J => ItOk T J nx ρ H) (Q := R) r rl ?_ fun ρ1 s1 x z H1 ext1 r1 rl1 hx p1 => ?_
  · unfold iFix aTup at p
    unfold bnd at p ⊢
    cases e : me lo s <;> rw [e] at p <;> exact p
  · cases hx with
    | tup h1 h2 =>
      rename_i a vs xs
      refine ⟨a, rfl, ⟨vs, by rw [hK]; exact h1⟩, p1 ρ1 H1 _ .refl r1 ?_⟩
      intro ρ2 H2 s2 i e2 r2
      have h1' := e2.tup _ _ h1
      have h2' := h2.mono e2
      rw [← hK] at h1'
      simp only [nxFix]
      cases e : xs[i]? with
      | none =>
        have : xs.length ≤ i := List.getElem?_eq_none_iff.mp e
        exact ⟨vs, h1', by rw [← h2'.length]; exact this⟩
      | some v =>
        obtain ⟨z, hz, rz⟩ := h2'.get e
        refine ⟨⟨vs, z, h1', hz⟩, fun x H3 y => ?_⟩
        obtain ⟨rfl, y⟩ := y
        have := y vs h1'
        rw [hz] at this
        cases this
        exact ⟨.refl, r2, rz⟩
    | _ => exact p1.elim
end
end Sm

/-! S7: what is walked; while; comprehensions -/
namespace Sm
open PySem L2
section
variable {X : Cx} {T : Tb} {W : WX} {tg : Expr} {pos p : Pos}
theorem ok_rng {lo : Int} {n : Nat} {ρ : List Addr} {H : Hp} : ItOk T (Itr lo n) (nxFix (rng lo n)) ρ H := by
  intro ρ1 H1 s i e r
  simp only [nxFix, rng]
  by_cases h : i < n
  · rw [List.getElem?_map, List.getElem?_range h]
    refine ⟨h, fun x H2 y => ?_⟩
    obtain ⟨rfl, rfl⟩ := y
    exact ⟨.refl, r, .int _⟩
  · rw [List.getElem?_eq_none (by simp; omega)]
    exact Nat.le_of_not_lt h
theorem ci_rng1 {a : Expr} {ma : AM} (hg : Gl X "range") (hm : X.mg "range" = none) (ha : PA X [a] (tA T W ma)) (hs : starEach [a] X.env = [(false, eval a X.env)] := by rfl) : PI X tg (.Call (.Name "range" p) [a] [] pos) (tI T W (iFix (aRng ma))) :=
  pi_mono (pi_range1 hg hm ha hs) fun σ H R h => by
    obtain ⟨ρ, s, lo, r, rl, q⟩ := h
    unfold iFix aRng at q
    rw [bnd_bnd] at q
    refine po_bnd (R := RVs T) (m := ma) r rl q fun ρ1 s1 xs zs H1 ext1 r1 rl1 hx p1 => ?_
    split at p1
    · rename_i n
      split at p1
      · rename_i hn
        obtain ⟨z, rfl, hz⟩ := hx.one
        exact ⟨n, by rw [hz.intE], hn.1, hn.2, p1 ρ1 H1 _ .refl r1 ok_rng⟩
      · exact p1.elim
    · exact p1.elim
theorem ci_rng2 {a b : Expr} {ma : AM} (hg : Gl X "range") (hm : X.mg "range" = none) (ha : PA X [a, b] (tA T W ma)) (hs : starEach [a, b] X.env = [(false, eval a X.env), (false, eval b X.env)] := by rfl) (hs2 : starEach [b] X.env = [(false, eval b X.env)] := by rfl) :
    PI X tg (.Call (.Name "range" p) [a, b] [] pos) (tI T W (iFix (aRng2 ma))) :=
  pi_mono (pi_range2 hg hm ha hs hs2) fun σ H R h => by
    obtain ⟨ρ, s, lo, r, rl, q⟩ := h
    unfold iFix aRng2 at q
    rw [bnd_bnd] at q
    refine po_bnd (R := RVs T) (m := ma) r rl q fun ρ1 s1 xs zs H1 ext1 r1 rl1 hx p1 => ?_
    split at p1
    · rename_i i j
      split at p1
      · rename_i hn
        obtain ⟨z, z', rfl, hz, hz'⟩ := hx.two
        exact ⟨i, j, by rw [hz.intE, hz'.intE], hn, p1 ρ1 H1 _ .refl r1 ok_rng⟩
      · exact p1.elim
    · exact p1.elim
theorem ci_lst {e : Expr} {me : EM} (he : PE X e (tE T W me)) (hK : X.K = T.K := by rfl) : PI X tg e (tI T W (iLst me)) := pi_mono (pi_list he) fun σ H R h => by
  obtain ⟨ρ, s, lo, r, rl, q⟩ := h
  refine po_bnd (R := RV T) (m := me) r rl q fun ρ1 s1 x z H1 ext1 r1 rl1 hx p1 => ?_
  cases hx with
  | ref ha =>
    rename_i j a
    simp only at p1
    split at p1
    · rename_i xs hj
      obtain ⟨vs, h1, h2⟩ := r1.lst hj ha
      refine ⟨a, rfl, ⟨vs, SqL.of h1⟩, p1 ρ1 H1 _ .refl r1 ?_⟩
      intro ρ2 H2 s2 i e2 r2
      have ha2 := e2.pre _ _ ha
      unfold nxLst
      cases e : s2[j]? with
      | none => trivial
      | some o =>
        cases o with
        | lst ys =>
          obtain ⟨us, g1, g2⟩ := r2.lst e ha2
          simp only
          cases e3 : ys[i]? with
          | none => exact ⟨us, SqL.of g1, by rw [← g2.length]; exact List.getElem?_eq_none_iff.mp e3⟩
          | some v =>
            obtain ⟨w, hw, rw'⟩ := g2.get e3
            refine ⟨⟨us, w, SqL.of g1, hw⟩, fun x H3 y => ?_⟩
            obtain ⟨rfl, y⟩ := y
            have := y us (SqL.of g1)
            rw [hw] at this
            cases this
            exact ⟨.refl, r2, rw'⟩
        | _ => trivial
    · exact p1.elim
  | _ => exact p1.elim
/-- enumerate(list) -/
theorem ci_enm {e : Expr} {ma : AM} {elts : List Expr} {kk : Nat} {tpos : Pos} (hg : Gl X "enumerate") (hm : X.mg "enumerate" = none) (ha : PA X [e] (tA T W ma)) (hs : starEach [e] X.env = [(false, eval e X.env)] := by rfl) (hK : X.K = T.K := by rfl) :
    PI X (.Tuple elts kk tpos) (.Call (.Name "enumerate" p) [e] [] pos) (tI T W (iEnm ma)) := pi_mono (pi_enum hg hm ha hs) fun σ H R h => by
  obtain ⟨ρ, s, lo, r, rl, q⟩ := h
  refine po_bnd (R := RVs T) (m := ma) r rl q fun ρ1 s1 xs zs H1 ext1 r1 rl1 hx p1 => ?_
  split at p1
  · rename_i j
    obtain ⟨z, rfl, hz⟩ := hx.one
    obtain ⟨a, rfl, ha⟩ := hz.refE
    split at p1
    · rename_i ys hj
      obtain ⟨vs, h1, h2⟩ := r1.lst hj ha
      refine ⟨a, vs, rfl, SqL.of h1, p1 ρ1 H1 _ .refl r1 ?_⟩
      intro ρ2 H2 s2 i e2 r2
      have ha2 := e2.pre _ _ ha
      unfold nxEnum
      cases e : s2[j]? with
      | none => trivial
      | some o =>
        cases o with
        | lst ys =>
          obtain ⟨us, g1, g2⟩ := r2.lst e ha2
          simp only
          cases e3 : ys[i]? with
          | none => exact ⟨us, SqL.of g1, by rw [← g2.length]; exact List.getElem?_eq_none_iff.mp e3⟩
          | some v =>
            obtain ⟨w, hw, rw'⟩ := g2.get e3
            refine ⟨⟨us, w, SqL.of g1, hw⟩, fun x H3 y => ?_⟩
            obtain ⟨q, u, rfl, hq, rfl, y⟩ := y
            have := y us (SqL.of g1)
            rw [hw] at this
            cases this
            exact ⟨ext_upd hq, r2.laid hq, .tup (SqT.of upd_same) (.cons (.int _) (.cons (rw'.mono (ext_upd hq)) .nil))⟩
        | _ => trivial
    · exact p1.elim
  · exact p1.elim
end
/-! ### while -/
def loopW (t : TM) (b : SM) : Nat → SM
  | 0, _, _ => .fail
  | n + 1, lo, s => match t lo s with
    | .fail => .fail
    | .exc e s' => .exc e lo s'
    | .ok false s' => .nx lo s'
    | .ok true s' => match b lo s' with
      | .nx lo2 s2 => loopW t b n lo2 s2
      | .ct lo2 s2 => loopW t b n lo2 s2
      | .bk lo2 s2 => .nx lo2 s2
      | .rt v2 s2 => .rt v2 s2
      | .exc e lo2 s2 => .exc e lo2 s2
      | .fail => .fail
section
variable {X : Cx} {T : Tb} {W : WX} {c : Expr} {body : List Stmt} {mt : TM} {b : SM} {pos : Pos}
theorem cs_while (n : Nat) (hp : PassesOwn (model X.prog X.w) X.A X.env X.xe) (hc : PT X c (tT T W mt)) (hb : PSs X body (tS T W b)) : PS X (.While c body [] pos) (tS T W (loopW mt b n)) :=
  ps_mono (ps_while hp hc hb) fun D σ H h => by
    obtain ⟨ρ, s, lo, r, rl, p⟩ := h
    refine ⟨fun k σ H => ∃ ρ s lo, Rel T ρ H s ∧ RL T ρ H lo σ ∧ PoS T W ρ H (loopW mt b k lo s) D, ⟨n, ρ, s, lo, r, rl, p⟩, ?_⟩
    rintro k σ1 H1 ⟨ρ, s, lo, r, rl, p⟩
    cases k with
    | zero => exact p.elim
    | succ k =>
      unfold loopW at p
      refine ⟨ρ, s, lo, r, rl, ?_⟩
      cases e : mt lo s with
      | fail => simp only [e] at p; exact p
      | exc z s' => simp only [e] at p; exact fun ρ' H' C x r' hC => p ρ' H' σ1 C x r' (rl.mono x) hC
      | ok c s' =>
        intro ρ2 H2 c' x2 r2 ec
        cases ec
        cases c with
        | false =>
          simp only [e] at p
          exact p ρ2 H2 σ1 x2 r2 (rl.mono x2)
        | true =>
          simp only [e] at p
          refine ⟨fun σ' H' => ∃ ρ s lo, Rel T ρ H' s ∧ RL T ρ H' lo σ' ∧ PoS T W ρ H' (loopW mt b k lo s) D, fun σ' H' h => ⟨k, Nat.lt_succ_self k, h⟩, ρ2, s', lo, r2, rl.mono x2, ?_⟩
          have p := p.mono x2
          cases e3 : b lo s' with
          | nx lo2 s2 => simp only [e3] at p; exact fun ρ4 H4 σ4 x4 r4 rl4 => ⟨ρ4, s2, lo2, r4, rl4, p.mono x4⟩
          | ct lo2 s2 => simp only [e3] at p; exact fun ρ4 H4 σ4 x4 r4 rl4 => ⟨ρ4, s2, lo2, r4, rl4, p.mono x4⟩
          | bk lo2 s2 => simp only [e3] at p; exact p
          | rt v2 s2 => simp only [e3] at p; exact p
          | exc z lo2 s2 => simp only [e3] at p; exact p
          | fail => simp only [e3] at p; exact p
end
/-! ### targets of several names -/
def gNs : List Nat → TGs
  | [] => gNil
  | j :: js => gCons (gName j) (gNs js)
section
variable {X : Cx} {T : Tb} {W : WX} {pos : Pos}
theorem gNs_ok {ρ : List Addr} {H : Hp} {Q : St → Hp → Prop} : ∀ {js : List Nat} {xs : List Vl} {vs : List V} {lo lo' : Lo} {σ : St}, RVs T ρ H xs vs → RL T ρ H lo σ → gNms js xs lo = some lo' → (∀ σ', RL T ρ H lo' σ' → Q σ' H) → gNs js vs σ H Q
  | [], [], _, _, _, _, .nil, rl, e, k => by
    cases e
    exact ⟨rfl, k _ rl⟩
  | [], _ :: _, _, _, _, _, _, _, e, _ => by cases e
  | _ :: _, [], _, _, _, _, _, _, e, _ => by cases e
  | j :: js, x :: xs, _, lo, lo', σ, .cons h hs, rl, e, k => ⟨_, _, rfl, gNs_ok hs (rl.set j h) (show gNms js xs (lo.set j (some x)) = some lo' from e) k⟩
theorem gNms_len : ∀ {js : List Nat} {xs : List Vl} {lo lo' : Lo}, gNms js xs lo = some lo' → xs.length = js.length
  | [], [], _, _, _ => rfl
  | [], _ :: _, _, _, e => by cases e
  | _ :: _, [], _, _, e => by cases e
  | j :: js, x :: xs, lo, lo', e => by
    rw [List.length_cons, List.length_cons, gNms_len (show gNms js xs (lo.set j (some x)) = some lo' from e)]
theorem cg_tup {es : List Expr} {k : Nat} {js : List Nat} (h : PG X (.Tuple es k pos) (gTup X.K js.length (gNs js))) (hK : X.K = T.K := by rfl) : PG X (.Tuple es k pos) (tGt T W (gTp js)) := pg_mono h fun z σ H Q h => by
  obtain ⟨ρ, s, lo, v, r, rl, hv, p⟩ := h
  unfold gTp at p
  split at p
  · rename_i xs
    split at p
    · rename_i lo' e
      obtain ⟨a, vs, rfl, h1, h2⟩ := hv.tupE
      exact ⟨a, vs, rfl, by rw [hK]; exact h1, by rw [← h2.length]; exact gNms_len e, gNs_ok h2 rl e fun σ' rl' => p ρ H σ' .refl r rl'⟩
    · exact p.elim
  · exact p.elim
end
/-! ### comprehensions -/
def wipeL (lo : Lo) : List Nat → Lo
  | [] => lo
  | v :: vs => (wipeL lo vs).set v none
abbrev GL := Vl → Lo → Option Lo
def glN (j : Nat) : GL := fun v lo => some (lo.set j (some v))
def glT (js : List Nat) : GL := fun v lo => match v with
  | .tup xs => gNms js xs lo
  | _ => none
def tTrue : TM := fun _ => ret true
/-- one turn: kept or not -/
def lcStep (t : TM) (e : EM) (d : Nat) (lo : Lo) (s : Sto) : Option Sto := match t lo s with
  | .ok false s1 => some s1
  | .ok true s1 => match e lo s1 with
    | .ok y s2 => match s2[d]? with
      | some (.lst acc) => if acc.length < LIM then some (s2.set d (.lst (acc ++ [y]))) else none
      | _ => none
    | _ => none
  | _ => none
def lcN (nx : NX) (g : GL) (t : TM) (e : EM) (d : Nat) (lo : Lo) : Nat → Nat → Sto → Option Sto
  | 0, _, _ => none
  | n + 1, i, s => match nx i s with
    | none => none
    | some none => some s
    | some (some v) => match g v lo with
      | none => none
      | some lo' => match lcStep t e d lo' s with
        | none => none
        | some s' => lcN nx g t e d lo n (i + 1) s'
def lcX (g : GL) (t : TM) (e : EM) (d : Nat) (lo : Lo) : List Vl → Sto → Option Sto
  | [], s => some s
  | v :: vs, s => match g v lo with
    | none => none
    | some lo' => match lcStep t e d lo' s with
      | none => none
      | some s' => lcX g t e d lo vs s'
def eLc (n : Nat) (m : IM) (g : GL) (t : TM) (e : EM) (vs : List Nat) : EM := fun lo => bnd (m lo) fun nx s => match lcN nx g t e s.length (wipeL lo vs) n 0 (s ++ [.lst []]) with
  | some s' => .ok (.ref s.length) s'
  | none => .fail
def eLcX (m : AM) (g : GL) (t : TM) (e : EM) (vs : List Nat) : EM := fun lo => bnd (m lo) fun xs s => match lcX g t e s.length (wipeL lo vs) xs (s ++ [.lst []]) with
  | some s' => .ok (.ref s.length) s'
  | none => .fail
theorem lcX_eq (g : GL) (t : TM) (e : EM) (d : Nat) (lo : Lo) (all : List Vl) : ∀ (n i : Nat) (s : Sto), all.length - i < n → lcN (nxFix all) g t e d lo n i s = lcX g t e d lo (all.drop i) s := by
  intro n
  induction n with
  | zero => intro i s h; omega
  | succ n ih =>
    intro i s h
    unfold lcN
    simp only [nxFix]
    cases h1 : all[i]? with
    | none =>
      have : all.length ≤ i := List.getElem?_eq_none_iff.mp h1
      rw [List.drop_eq_nil_of_le this]
      rfl
    | some v =>
      obtain ⟨hi, hv⟩ := List.getElem?_eq_some_iff.mp h1
      rw [List.drop_eq_getElem_cons hi, hv]
      simp only [lcX]
      cases g v lo with
      | none => rfl
      | some lo' =>
        simp only
        cases lcStep t e d lo' s with
        | none => rfl
        | some s' => exact ih (i + 1) s' (by omega)
theorem wipe_get (σ : St) (i : Nat) : ∀ vs : List Nat, (wipe σ vs)[i]? = if i ∈ vs ∧ i < σ.length then some none else σ[i]?
  | [] => by simp [wipe]
  | v :: vs => by
    unfold wipe
    rw [List.getElem?_set, wipe_get σ i vs, wipe_length]
    by_cases h : v = i
    · subst h
      by_cases h2 : v < σ.length
      · rw [if_pos rfl, if_pos h2, if_pos ⟨List.mem_cons_self .., h2⟩]
      · rw [if_pos rfl, if_neg h2, if_neg (fun z => h2 z.2)]
        rw [List.getElem?_eq_none (by omega)]
    · rw [if_neg h]
      by_cases h3 : i ∈ vs ∧ i < σ.length
      · rw [if_pos h3, if_pos ⟨List.mem_cons_of_mem _ h3.1, h3.2⟩]
      · rw [if_neg h3, if_neg]
        rintro ⟨a, b⟩
        rcases List.mem_cons.mp a with q | q
        · exact h q.symm
        · exact h3 ⟨q, b⟩
theorem wipe_set {σ : St} {vs : List Nat} {j : Nat} {x : Option V} (hj : j ∈ vs) : wipe (σ.set j x) vs = wipe σ vs := by
  apply List.ext_getElem?
  intro i
  rw [wipe_get, wipe_get, List.length_set]
  by_cases h : i ∈ vs ∧ i < σ.length
  · rw [if_pos h, if_pos h]
  · rw [if_neg h, if_neg h]
    by_cases e : j = i
    · subst e
      have : ¬ j < σ.length := fun z => h ⟨hj, z⟩
      rw [List.getElem?_eq_none (by rw [List.length_set]; omega), List.getElem?_eq_none (by omega)]
    · rw [List.getElem?_set_ne e]
theorem wipe_wipe (σ : St) (vs : List Nat) : wipe (wipe σ vs) vs = wipe σ vs := by
  apply List.ext_getElem?
  intro i
  rw [wipe_get, wipe_get, wipe_length]
  split <;> rfl
section
variable {X : Cx} {T : Tb} {W : WX} {pos : Pos}
abbrev WF : WX := fun _ _ _ _ => False
theorem RL.wipe {ρ : List Addr} {H : Hp} {lo : Lo} {σ : St} (hx : T.xs = []) (rl : RL T ρ H lo σ) : ∀ vs : List Nat, RL T ρ H (wipeL lo vs) (wipe σ vs)
  | [] => rl
  | v :: vs => by
    have ih := RL.wipe hx rl vs
    unfold wipeL L2.wipe
    refine ⟨by rw [List.length_set, List.length_set]; exact ih.len, fun i x h => ?_, fun p hp => by rw [hx] at hp; simp at hp⟩
    by_cases e : v = i
    · subst e
      by_cases hv : v < (wipeL lo vs).length
      · rw [List.getElem?_set_self hv] at h; cases h
      · rw [List.getElem?_eq_none (by rw [List.length_set]; omega)] at h; cases h
    · rw [List.getElem?_set_ne e] at h ⊢
      exact ih.at_ i x h
/-- how a comprehension's target stores: the reading gt and the pure gl agree, and stay within the own slots -/
def TgOk (T : Tb) (gt : TG) (gl : GL) (vs : List Nat) : Prop := ∀ (ρ : List Addr) (H : Hp) (lo lo' : Lo) (σ : St) (v : Vl) (z : V) (Q : St → Hp → Prop), RL T ρ H lo (wipe σ vs) → RV T ρ H v z → gl v lo = some lo' →
  (∀ σ', RL T ρ H lo' σ' → L2.wipe σ' vs = L2.wipe σ vs → Q σ' H) → gt z (L2.wipe σ vs) H Q
theorem tg_name {j : Nat} {vs : List Nat} (hj : j ∈ vs) : TgOk T (gName j) (glN j) vs := fun ρ H lo lo' σ v z Q rl hv e k => by
  cases e
  exact k _ (rl.set j hv) (by rw [wipe_set hj, wipe_wipe])
theorem gNs_w {ρ : List Addr} {H : Hp} {Q : St → Hp → Prop} {ws : List Nat} {σ0 : St} : ∀ {js : List Nat} {xs : List Vl} {vs : List V} {lo lo' : Lo} {σ : St}, (∀ j ∈ js, j ∈ ws) → RVs T ρ H xs vs → RL T ρ H lo σ → L2.wipe σ ws = σ0 → gNms js xs lo = some lo' → (∀ σ', RL T ρ H lo' σ' → L2.wipe σ' ws = σ0 → Q σ' H) → gNs js vs σ H Q
  | [], [], _, _, _, _, _, .nil, rl, hw, e, k => by
    cases e
    exact ⟨rfl, k _ rl hw⟩
  | [], _ :: _, _, _, _, _, _, _, _, _, e, _ => by cases e
  | _ :: _, [], _, _, _, _, _, _, _, _, e, _ => by cases e
  | j :: js, x :: xs, _, lo, lo', σ, hj, .cons h hs, rl, hw, e, k => ⟨_, _, rfl, gNs_w (fun i hi => hj i (List.mem_cons_of_mem _ hi)) hs (rl.set j h) (by rw [wipe_set (hj j (List.mem_cons_self ..))]; exact hw) (show gNms js xs (lo.set j (some x)) = some lo' from e) k⟩
theorem tg_tup {js vs : List Nat} {K : PySem.W.Frag} (hj : ∀ j ∈ js, j ∈ vs) (hK : K = T.K) : TgOk T (gTup K js.length (gNs js)) (glT js) vs := fun ρ H lo lo' σ v z Q rl hv e k => by
  unfold glT at e
  split at e
  · rename_i xs
    obtain ⟨a, us, rfl, h1, h2⟩ := hv.tupE
    exact ⟨a, us, rfl, by rw [hK]; exact h1, by rw [← h2.length]; exact gNms_len e, gNs_w hj h2 rl (wipe_wipe σ vs) e k⟩
  · cases e
theorem lc_le {n : Nat} {m : IM} {gl : GL} {gt : TG} {mt : TM} {me : EM} {vs : List Nat} {σ : St} {H : Hp} {Q : VK} (hx : T.xs = []) (hg : TgOk T gt gl vs) (h : tE T W (eLc n m gl mt me vs) σ H Q) : tLc (tI T W m) gt (tT T WF mt) (tE T WF me) vs σ H Q :=
  tG_bnd (R := fun ρ H nx J => ItOk T J nx ρ H) h fun ρ0 s0 lo0 nx J H0 r0 rl0 ok0 p0 => by
    intro D hD
    have xD : Ext T ρ0 H0 (ρ0 ++ [D]) (upd H0 D (.lst [])) := r0.newExt hD
    have rD : Rel T (ρ0 ++ [D]) (upd H0 D (.lst [])) (s0 ++ [.lst []]) := r0.new hD ⟨[], upd_same, .nil⟩
    have aD : (ρ0 ++ [D])[s0.length]? = some D := by rw [← r0.len, List.getElem?_append_right (Nat.le_refl _)]; simp
    cases e0 : lcN nx gl mt me s0.length (wipeL lo0 vs) n 0 (s0 ++ [.lst []]) with
    | none => rw [e0] at p0; exact p0.elim
    | some s9 =>
      rw [e0] at p0
      refine ⟨fun i k H => ∃ ρ s, Ext T (ρ0 ++ [D]) (upd H0 D (.lst [])) ρ H ∧ Rel T ρ H s ∧ lcN nx gl mt me s0.length (wipeL lo0 vs) k i s = some s9, ⟨n, _, _, .refl, rD, e0⟩, ?_⟩
      rintro i k H1 ⟨ρ, s, x, r, e⟩
      have hd := x.pre _ _ aD
      cases k with
      | zero => cases e
      | succ k =>
        unfold lcN at e
        have q := ok0 ρ H1 s i (xD.trans x) r
        cases e1 : nx i s with
        | none => simp only [e1] at e; cases e
        | some o =>
          simp only [e1] at e q
          cases o with
          | none =>
            cases e
            exact .inl ⟨q, p0 ρ H1 (.ref D) (xD.trans x) r (.ref hd)⟩
          | some v =>
            obtain ⟨go, yl⟩ := q
            cases e2 : gl v (wipeL lo0 vs) with
            | none => simp only [e2] at e; cases e
            | some lo' =>
              simp only [e2] at e
              cases e3 : lcStep mt me s0.length lo' s with
              | none => simp only [e3] at e; cases e
              | some s' =>
                simp only [e3] at e
                refine .inr ⟨go, fun H => ∃ ρ, Ext T (ρ0 ++ [D]) (upd H0 D (.lst [])) ρ H ∧ Rel T ρ H s', fun H' ⟨ρ', x', r'⟩ => ⟨k, Nat.lt_succ_self k, ρ', s', x', r', e⟩, fun z H2 y => ?_⟩
                obtain ⟨x1, r2, hv⟩ := yl z H2 y
                have x2 := x.trans x1
                refine hg ρ H2 (wipeL lo0 vs) lo' σ v z _ (RL.wipe hx (rl0.mono (xD.trans x2)) vs) hv e2 fun σ' rl' hw => ⟨hw, ?_⟩
                unfold lcStep at e3
                refine ⟨ρ, s, lo', r2, rl', ?_⟩
                cases e4 : mt lo' s with
                | fail => simp only [e4] at e3; cases e3
                | exc z s1 => simp only [e4] at e3; cases e3
                | ok c s1 =>
                  intro ρ3 H3 c' x3 r3 ec
                  cases ec
                  cases c with
                  | false =>
                    simp only [e4] at e3
                    cases e3
                    exact ⟨ρ3, x2.trans x3, r3⟩
                  | true =>
                    simp only [e4] at e3
                    refine ⟨ρ3, s1, lo', r3, rl'.mono x3, ?_⟩
                    cases e5 : me lo' s1 with
                    | fail => simp only [e5] at e3; cases e3
                    | exc z s2 => simp only [e5] at e3; cases e3
                    | ok w s2 =>
                      simp only [e5] at e3
                      intro ρ4 H4 zw x4 r4 hw4
                      split at e3
                      · rename_i acc hacc
                        split at e3
                        · rename_i hl
                          cases e3
                          have hd4 := (x1.trans (x3.trans x4)).pre _ _ hd
                          obtain ⟨us, g1, g2⟩ := r4.lst hacc hd4
                          refine ⟨us, g1, by rw [← g2.length, lim_eq]; exact hl, ρ4, (x2.trans (x3.trans x4)).trans (r4.setExt hd4 g1), r4.set hd4 ⟨_, upd_same, (g2.append (.cons hw4 .nil)).mono (r4.setExt hd4 g1)⟩⟩
                        · cases e3
                      · cases e3
/-- the tests of a comprehension -/
theorem cts_nil : PTs X [] (tT T WF tTrue) := ⟨fun pins s σ H Q I h => pts_nil.run pins s σ H Q I (by
  obtain ⟨ρ, st, lo, r, rl, p⟩ := h
  exact p ρ H true .refl r rfl)⟩
theorem cts_one {c : Expr} {mt : TM} (h : PT X c (tT T WF mt)) : PTs X [c] (tT T WF mt) := pts_one h
theorem lcx_le {ma : AM} {gl : GL} {gt : TG} {mt : TM} {me : EM} {vs : List Nat} {σ : St} {H : Hp} {Q : VK} (hx : T.xs = []) (hg : TgOk T gt gl vs) (h : tE T W (eLcX ma gl mt me vs) σ H Q) : tLc (tI T W (iFix ma)) gt (tT T WF mt) (tE T WF me) vs σ H Q := by
  obtain ⟨ρ, s, lo, r, rl, p⟩ := h
  unfold eLcX bnd at p
  cases e : ma lo s with
  | ok xs s' =>
    refine lc_le (n := xs.length + 1) hx hg ⟨ρ, s, lo, r, rl, ?_⟩
    have : eLc (xs.length + 1) (iFix ma) gl mt me vs lo s = (match lcX gl mt me s'.length (wipeL lo vs) xs (s' ++ [.lst []]) with | some s2 => .ok (.ref s'.length) s2 | none => .fail) := by
      unfold eLc iFix bnd
      simp only [e, ret]
      rw [lcX_eq gl mt me s'.length (wipeL lo vs) xs (xs.length + 1) 0 _ (by omega), List.drop_zero]
    rw [this]
    simp only [e] at p
    exact p
  | exc z s' =>
    refine lc_le (n := 1) hx hg ⟨ρ, s, lo, r, rl, ?_⟩
    have : eLc 1 (iFix ma) gl mt me vs lo s = .exc z s' := by
      unfold eLc iFix bnd
      simp only [e]
    rw [this]
    simp only [e] at p
    exact p
  | fail => simp only [e] at p; exact p.elim
end
end Sm

/-! S8: comprehensions as expressions; defs and their calls; attributes -/
namespace Sm
open PySem PySem.Spec PyProof.Rows L2
section
variable {X : Cx} {T : Tb} {W : WX} {elt tg iter : Expr} {ifs : List Expr} {scope : Scope} {own : List (Str × Nat)} {pos spos py : Pos} {m : IM} {ma : AM} {gt : TG} {gl : GL} {mt : TM} {me : EM}
theorem ce_lc (n : Nat) (hc : X.calm = true) (hN : X.N.Nodup) (hi : PI X tg iter (tI T W m)) (ok : BlkOk X.N X.env.scope scope own) (ho : TgOk T gt gl (own.map (·.2)))
    (hg : ∀ s H C cl fp, PG (X.blk s H scope (compEnvC scope cl C X.env) fp) tg gt) (ht : ∀ s H C cl fp, PTs (X.blk s H scope (compEnvC scope cl C X.env) fp) ifs (tT T WF mt))
    (he : ∀ s H C cl fp, PE (X.blk s H scope (compEnvC scope cl C X.env) fp) elt (tE T WF me)) (hs : ∀ x, foldedSetIterable iter X.env x = pure x := by intro _; rfl) (hx : T.xs = [] := by rfl) :
    PE X (.ListComp elt [⟨tg, iter, ifs, 0⟩] scope pos) (tE T W (eLc n m gl mt me (own.map (·.2)))) := pe_mono (pe_lc hc hN hi ok hg ht he hs) fun _ _ _ h => lc_le hx ho h
theorem ce_lcX (hc : X.calm = true) (hN : X.N.Nodup) (hi : PI X tg iter (tI T W (iFix ma))) (ok : BlkOk X.N X.env.scope scope own) (ho : TgOk T gt gl (own.map (·.2)))
    (hg : ∀ s H C cl fp, PG (X.blk s H scope (compEnvC scope cl C X.env) fp) tg gt) (ht : ∀ s H C cl fp, PTs (X.blk s H scope (compEnvC scope cl C X.env) fp) ifs (tT T WF mt))
    (he : ∀ s H C cl fp, PE (X.blk s H scope (compEnvC scope cl C X.env) fp) elt (tE T WF me)) (hs : ∀ x, foldedSetIterable iter X.env x = pure x := by intro _; rfl) (hx : T.xs = [] := by rfl) :
    PE X (.ListComp elt [⟨tg, iter, ifs, 0⟩] scope pos) (tE T W (eLcX ma gl mt me (own.map (·.2)))) := pe_mono (pe_lc hc hN hi ok hg ht he hs) fun _ _ _ h => lcx_le hx ho h
/-- y = [..] on one line -/
theorem cs_setLc (n : Nat) {i : Nat} {y : Str} (hc : X.calm = true) (hN : X.N.Nodup) (hy : X.N[i]? = some y) (hyl : X.env.scope.names.lookup y = some .local)
    (hsw : swapsWith (.ListComp elt [⟨tg, iter, ifs, 0⟩] scope pos) (some (.Name y py)) spos.line X.env = pure true) (hi : PI X tg iter (tI T W m)) (ok : BlkOk X.N X.env.scope scope own) (ho : TgOk T gt gl (own.map (·.2)))
    (hg : ∀ s H C cl fp, PG (X.blk s H scope (compEnvC scope cl C X.env) fp) tg gt) (ht : ∀ s H C cl fp, PTs (X.blk s H scope (compEnvC scope cl C X.env) fp) ifs (tT T WF mt))
    (he : ∀ s H C cl fp, PE (X.blk s H scope (compEnvC scope cl C X.env) fp) elt (tE T WF me)) (hs : ∀ x, foldedSetIterable iter X.env x = pure x := by intro _; rfl) (hx : T.xs = [] := by rfl) :
    PS X (.Assign [.Name y py] (.ListComp elt [⟨tg, iter, ifs, 0⟩] scope pos) spos) (tS T W (sSet i (eLc n m gl mt me (own.map (·.2))))) := ps_mono (ps_setLc hc hN hy hyl hsw hi ok hg ht he hs) fun _ _ _ h => lc_le hx ho (tasg_le h)
theorem cs_setLcX {i : Nat} {y : Str} (hc : X.calm = true) (hN : X.N.Nodup) (hy : X.N[i]? = some y) (hyl : X.env.scope.names.lookup y = some .local)
    (hsw : swapsWith (.ListComp elt [⟨tg, iter, ifs, 0⟩] scope pos) (some (.Name y py)) spos.line X.env = pure true) (hi : PI X tg iter (tI T W (iFix ma))) (ok : BlkOk X.N X.env.scope scope own) (ho : TgOk T gt gl (own.map (·.2)))
    (hg : ∀ s H C cl fp, PG (X.blk s H scope (compEnvC scope cl C X.env) fp) tg gt) (ht : ∀ s H C cl fp, PTs (X.blk s H scope (compEnvC scope cl C X.env) fp) ifs (tT T WF mt))
    (he : ∀ s H C cl fp, PE (X.blk s H scope (compEnvC scope cl C X.env) fp) elt (tE T WF me)) (hs : ∀ x, foldedSetIterable iter X.env x = pure x := by intro _; rfl) (hx : T.xs = [] := by rfl) :
    PS X (.Assign [.Name y py] (.ListComp elt [⟨tg, iter, ifs, 0⟩] scope pos) spos) (tS T W (sSet i (eLcX ma gl mt me (own.map (·.2))))) := ps_mono (ps_setLc hc hN hy hyl hsw hi ok hg ht he hs) fun _ _ _ h => lcx_le hx ho (tasg_le h)
end

/-! ### defs -/
/-- a def's promise where no repr runs around -/
structure FnG (P : Program) (w : World) (K : PySem.W.Frag) (mg : Str → Option Value) (base : Heap) (k : Nat) (f : Addr) (fd : FuncData) (ps : List Str) (sp : Sp) : Prop where
  len : ∀ vs H Q E, sp vs H Q E → vs.length = ps.length
  run : ∀ (A : Around) (outer : List Env) (s : Shared) (H : Hp) (args : Args) (us : List Value) (vs : List V) (Q : VK) (E : XK), Room k A → A.guards = some [] → Env0 P w K mg base A outer s H → BindsTo s fd args (ps.zip us) → Vals vs us → sp vs H Q E →
    codeAny (model P w) A (.call (.ref f) args) (CR (L2N.CX P w) outer P w H s Q E) s
theorem FnG.mono {P : Program} {w : World} {K : PySem.W.Frag} {mg : Str → Option Value} {base : Heap} {j k : Nat} {f : Addr} {fd : FuncData} {ps : List Str} {sp : Sp} (F : FnG P w K mg base j f fd ps sp) (h : j ≤ k) : FnG P w K mg base k f fd ps sp :=
  ⟨F.len, fun A outer s H args us vs Q E hr => F.run A outer s H args us vs Q E (hr.mono h)⟩
/-- a def by its body -/
theorem fnG_of {P : Program} {w : World} {K : PySem.W.Frag} {mg : Str → Option Value} {base : Heap} {k : Nat} {x qual : Str} {st : Stmt} {f : Addr} {fd : FuncData} {N ps : List Str} {sp : Sp} (F : Fun K x qual st f fd) (S : FnScope N ps (defScope st)) (len : ∀ vs H Q E, sp vs H Q E → vs.length = ps.length)
    (hbody : ∀ (cdv : Value) (A : Around) (outer : List Env) (s : Shared) (H : Hp) (vs : List V) (Q : VK) (E : XK), Room k (A.deeper (envOfC qual (defScope st) s.heap.objs.size f cdv)) → A.guards = some [] → sp vs H Q E →
      ∃ t, PSs (cxOf (L2N.CX P w) P w K mg base N qual (defScope st) f cdv A outer s H E) (defBody st) t ∧ t { nx := fun _ H' => Q .non H', rt := Q } (L2.start N vs) H) : FnG P w K mg base (k + 1) f fd ps sp := by
  obtain ⟨oc, od, kV, doc, pm, an, cdv, ct, osl, rfl, lk, hcd⟩ := F.ex
  refine ⟨len, fun A outer s H args us vs Q E hr hg e0 hb r hsp => ?_⟩
  have inK : K.In s.heap := e0.mod.kin.keeps fun b o e => (e0.bs b o e).1
  have nl : s.heap.NoLimit := e0.mod.nolimit.keeps fun b o e => (e0.bs b o e).1
  have kinds : ∀ y ∈ ps.zip us, (defScope st).names.lookup y.1 = some .local ∨ ((defScope st).names.lookup y.1 = some .cell ∧ ((cellsFrom (s.heap.objs.size + 1) (defScope st).names []).lookup y.1).isSome = true) := by
    rintro ⟨n, v⟩ hy
    exact (S.par n (List.of_mem_zip hy).1).imp id fun q => ⟨q, PySem.W.cellsFrom_some _ _ _ (.inl q)⟩
  refine codeAny_call_function hr.depth (inK _ _ lk) rfl S.co S.gen rfl (PySem.W.codeRec_of inK hcd) (hb _ _ _ _ (wpAny_newFunctionEnv_cells S.kind kinds fun env he s1 y => ?_))
  subst he
  refine ⟨nl.keeps y.toInCall.keep, codeAny_func ?_⟩
  obtain ⟨t, ht, hq⟩ := hbody cdv A outer s H vs Q E (hr.deeper _) hg hsp
  refine wpAny_mono (ht.run [] s1 (L2.start N vs) H _ (inv_start S hr.hd e0 (len _ _ _ _ hsp) r y) hq) (fun fl s' hs => ?_) fun e s' hs => hs
  cases fl with
  | ret u => obtain ⟨v, σ', H', J, rv, q⟩ := hs; exact ⟨v, H', J.os, J.bare, J.base, J.hok, rv, q⟩
  | next => obtain ⟨σ', H', J, q⟩ := hs; exact ⟨V.non, H', J.os, J.bare, J.base, J.hok, rfl, q⟩
  | brk => obtain ⟨_, _, _, q⟩ := hs; exact q.elim
  | cont => obtain ⟨_, _, _, q⟩ := hs; exact q.elim
/-- the promise of a pure function -/
def SpM (T : Tb) (n : Nat) (m : List Vl → M Vl) : Sp := fun vs H Q E => ∃ (ρ : List Addr) (s : Sto) (as : List Vl), Rel T ρ H s ∧ RVs T ρ H as vs ∧ as.length = n ∧ Po (RV T) T E ρ H (m as s) Q
/-- a body as a function; n: how many names -/
def fnM (n : Nat) (b : SM) : List Vl → M Vl := fun as s => match b (as.map some ++ List.replicate (n - as.length) none) s with
  | .nx _ s' => .ok .non s'
  | .rt v s' => .ok v s'
  | .exc e _ s' => .exc e s'
  | _ => .fail
theorem rl_start {T : Tb} {ρ : List Addr} {H : Hp} {as : List Vl} {vs : List V} {N : List Str} (hx : T.xs = []) (h : RVs T ρ H as vs) : RL T ρ H (as.map some ++ List.replicate (N.length - as.length) none) (L2.start N vs) := by
  refine ⟨?_, fun i x e => ?_, fun p hp => by rw [hx] at hp; simp at hp⟩
  · unfold L2.start
    simp only [List.length_append, List.length_map, List.length_replicate, h.length]
  · by_cases hi : i < as.length
    · rw [List.getElem?_append_left (by simpa using hi), List.getElem?_map] at e
      cases q : as[i]? with
      | none => rw [q] at e; cases e
      | some y =>
        rw [q] at e
        cases e
        obtain ⟨z, h1, h2⟩ := h.get q
        refine ⟨z, ?_, h2⟩
        unfold L2.start
        rw [List.getElem?_append_left (by rw [List.length_map, ← h.length]; exact hi), List.getElem?_map, h1]; rfl
    · rw [List.getElem?_append_right (by simpa using hi), List.getElem?_replicate] at e
      split at e <;> cases e
theorem fn_body {T : Tb} {N : List Str} {n : Nat} {b : SM} {vs : List V} {H : Hp} {Q : VK} {E : XK} (hx : T.xs = []) (h : SpM T n (fnM N.length b) vs H Q E) : tS T (fun c d _ H' => E c d H') b { nx := fun _ H' => Q .non H', rt := Q } (L2.start N vs) H := by
  obtain ⟨ρ, s, as, r, hv, hl, p⟩ := h
  refine ⟨ρ, s, _, r, rl_start hx hv, ?_⟩
  unfold fnM at p
  cases e : b (as.map some ++ List.replicate (N.length - as.length) none) s with
  | nx lo s' => rw [e] at p; exact fun ρ' H' σ' x r' _ => p ρ' H' .non x r' .non
  | rt v s' => rw [e] at p; exact p
  | exc z lo s' => rw [e] at p; exact fun ρ' H' σ' C x r' _ hC => p ρ' H' C x r' hC
  | bk lo s' => rw [e] at p; exact p.elim
  | ct lo s' => rw [e] at p; exact p.elim
  | fail => rw [e] at p; exact p.elim
/-- a def of the text computes the pure function of its body -/
theorem fn_sim {P : Program} {w : World} {K : PySem.W.Frag} {mg : Str → Option Value} {base : Heap} {k n : Nat} {x qual : Str} {st : Stmt} {f : Addr} {fd : FuncData} {N ps : List Str} {T : Tb} {b : SM} (F : Fun K x qual st f fd) (S : FnScope N ps (defScope st)) (hn : n = ps.length)
    (body : ∀ (cdv : Value) (A : Around) (outer : List Env) (s : Shared) (H : Hp) (E : XK), Room k (A.deeper (envOfC qual (defScope st) s.heap.objs.size f cdv)) → A.guards = some [] →
      PSs (cxOf (L2N.CX P w) P w K mg base N qual (defScope st) f cdv A outer s H E) (defBody st) (tS T (fun c d _ H' => E c d H') b)) (hx : T.xs = [] := by rfl) : FnG P w K mg base (k + 1) f fd ps (SpM T n (fnM N.length b)) :=
  fnG_of F S (fun vs H Q E ⟨ρ, s, as, r, hv, hl, p⟩ => by rw [← hv.length, hl, hn]) fun cdv A outer s H vs Q E hr hg h => ⟨_, body cdv A outer s H E hr hg, fn_body hx h⟩

/-! ### calls of defs -/
section
variable {X : Cx} {T : Tb} {W : WX} {k n : Nat} {f : Addr} {fd : FuncData} {ps : List Str} {mf : List Vl → M Vl} {x : Str} {p pos apos : Pos} {e o : Expr} {es : List Expr} {ma : AM} {mo : EM} {ds : List Value} {dvs : List V} {das : List Vl}
def eCall (mf : List Vl → M Vl) (a : AM) : EM := fun lo => bnd (a lo) mf
/-- with defaults das behind the arguments -/
def eCallD (mf : List Vl → M Vl) (das : List Vl) (a : AM) : EM := fun lo => bnd (a lo) fun as => mf (as ++ das)
theorem run_G {sp : Sp} {pins : List (Addr × Obj)} {σ : L2.St} {H : Hp} {s : Shared} {Q : VK} {us : List Value} {vs : List V} (F : FnG X.prog X.w X.K X.mg X.base k f fd ps sp) (hr : Room k X.A) (hg : X.A.guards = some []) (hb : Binds X.K fd ps ds) (hd : Vals dvs ds) (tk : L2N.Takes X W)
    (I : Inv X pins σ H s) (r : Vals vs us) (h : sp (vs ++ dvs) H Q fun c d H' => W c d σ H') : wpAny (model X.prog X.w) X.A (call (.ref f) us) (EP X pins σ Q) X.xe s := by
  have r2 : Vals (vs ++ dvs) (us ++ ds) := r.append hd
  refine wpAny_call (codeAny_mono (F.run X.A X.stack s H ⟨us, []⟩ (us ++ ds) (vs ++ dvs) Q _ hr hg I.env0 (hb s us I.kIn (by rw [← r2.length]; exact F.len _ _ _ _ h)) r2 h) fun z s' hq => ?_)
  cases z with
  | error y => exact tk y s' (L2N.XE.of_call I (fun _ _ _ q => q) hq)
  | ok fl =>
    cases fl with
    | ret u => exact I.after hq
    | next => exact hq.elim
    | brk => exact hq.elim
    | cont => exact hq.elim
theorem spM_of {ρ : List Addr} {s : Sto} {as : List Vl} {vs : List V} {H : Hp} {Q : VK} {E : XK} (r : Rel T ρ H s) (hv : RVs T ρ H as vs) (hl : as.length = n) (p : Po (RV T) T E ρ H (mf as s) Q) : SpM T n mf vs H Q E := ⟨ρ, s, as, r, hv, hl, p⟩
/-- the number of arguments is checked in the pure function -/
def arg (n : Nat) (mf : List Vl → M Vl) : List Vl → M Vl := fun as s => if as.length = n then mf as s else .fail
theorem ce_call (F : FnG X.prog X.w X.K X.mg X.base k f fd ps (SpM T n mf)) (hr : Room k X.A) (hgd : X.A.guards = some []) (hg : Gl X x) (hm : X.mg x = some (.ref f)) (hk : PySem.W.keepIn X.K (.ref f) = true) (hb : Binds X.K fd ps []) (tk : L2N.Takes X W) (ha : PA X (e :: es) (tA T W ma))
    (hdb : (x == ("__debug__" : Str)) = false := by decide) (he : starEach (e :: es) X.env = (false, eval e X.env) :: starEach es X.env := by rfl) (hpl : (backTo pos (starEach es X.env)).any (·.1) = false := by rfl) :
    PE X (.Call (.Name x p) (e :: es) [] pos) (tE T W (eCall (arg n mf) ma)) := by
  refine ⟨fun pins s σ H Q I h => wpAny_Call_Name_kw (ld_glob I hg hm ?_ hdb)⟩
  have h : tA T W ma σ H fun vs H1 => SpM T n mf (vs ++ []) H1 Q fun c d H' => W c d σ H' := tG_bnd (R := RVs T) h fun ρ s lo xs zs H1 r rl hx q => by
    unfold arg at q
    split at q
    · rename_i hl
      rw [List.append_nil]
      exact spM_of r hx hl q
    · exact q.elim
  refine PySem.W.callWith_K (h₀ := X.base) I.ok.mod.kin hk (thn (ha.run pos pins s σ H _ I h) fun us s1 ⟨vs, H1, I1, r, q⟩ => ⟨I1.kIn, ?_⟩) he hpl
  exact run_G F hr hgd hb .nil tk I1 r q
theorem ce_call0 (F : FnG X.prog X.w X.K X.mg X.base k f fd ps (SpM T 0 mf)) (hr : Room k X.A) (hgd : X.A.guards = some []) (hg : Gl X x) (hm : X.mg x = some (.ref f)) (hk : PySem.W.keepIn X.K (.ref f) = true) (hb : Binds X.K fd ps []) (tk : L2N.Takes X W)
    (hdb : (x == ("__debug__" : Str)) = false := by decide) : PE X (.Call (.Name x p) [] [] pos) (tE T W (eCall mf aNil)) := by
  refine ⟨fun pins s σ H Q I h => wpAny_Call_Name_kw (ld_glob I hg hm ?_ hdb)⟩
  obtain ⟨ρ, st, lo, r, rl, q⟩ := h
  exact PySem.W.callWith_K0 I.kIn hk (run_G (us := []) (vs := []) F hr hgd hb .nil tk I .nil (spM_of (as := []) r .nil rfl q))
end
end Sm

/-! S9: the end of a law: from the pure function of the law to the row -/
namespace Sm
open PySem PySem.Spec PyProof.Rows L2
/-- nothing is tracked but the script -/
def H0 (K : PySem.W.Frag) (a : Addr) (ob : Obj) (ns : List Int) : Hp := fun b => if b = a ∧ (K.lookup a).isNone = true then some (.frz ob (.lst (ns.map V.int))) else none
theorem H0_some {K : PySem.W.Frag} {a b : Addr} {ob : Obj} {ns : List Int} {u : HO} (h : H0 K a ob ns b = some u) : b = a ∧ K.lookup a = none ∧ u = .frz ob (.lst (ns.map V.int)) := by
  unfold H0 at h
  split at h
  · rename_i q
    cases h
    refine ⟨q.1, ?_, rfl⟩
    cases e : K.lookup a with
    | none => rfl
    | some o => rw [e] at q; exact absurd q.2 (by simp)
  · cases h
theorem law_G {P : Program} {w : World} {T : Tb} {mg mb : Str → Option Value} {k : Nat} {fa a : Addr} {fd : FuncData} {x : Str} {m : List Vl → M Vl} {s₁ : Shared} {vs : List Value} {ns : List Int} {st : Sto}
    (KX : T.K.In s₁.heap) (hns : s₁.heap.Ns mainGlobals mg) (hb : s₁.heap.Ns builtinsNs mb) (hbb : ∀ x : Str, x ≠ "__name__" → mb x = bootBuiltins x) (hlim : s₁.heap.NoLimit) (hg : s₁.gens = #[])
    (ha : s₁.heap.get? a = some { cls := .type "list", data := .seq vs.toArray }) (hi : IntsAre vs ns) (hl : ns.length ≤ sizeLine) (hr : Room k callerA)
    (F : ∀ base : Heap, T.K.In base → base.Ns mainGlobals mg → FnG P w T.K mg base k fa fd [x] (SpM T 1 m)) (hbind : ∀ (s : Shared) (u : Value), BindsTo s fd ⟨[u], []⟩ [(x, u)])
    (hm : m [.scr ns] [] = .ok (.bl true) st) :
    codeAny (model P w) callerA (.call (.ref fa) ⟨[.ref a], []⟩) (fun r s' => r = .ok (.ret (.bool true)) ∧ OldK s₁.heap s'.heap ∧ s'.os = s₁.os ∧ AllBare s'.gens) s₁ := by
  have rv := vals_ints hi
  let ob : Obj := { cls := .type "list", data := .seq vs.toArray }
  let H := H0 T.K a ob ns
  have out : ∀ {b : Addr} {o : Obj}, s₁.heap.get? b = some o → b ≠ a → (hidT s₁.heap H).get? b = some o := fun {b o} e n => hidT_get e (by
    cases q : H b with
    | none => rfl
    | some u => exact absurd (H0_some q).1 n)
  have nd : ∀ {b : Addr} {m : Str → Option Value}, s₁.heap.Ns b m → (hidT s₁.heap H).Ns b m := fun {b m} ⟨o, es, ep, e, d, r⟩ => ⟨o, es, ep, out e (fun z => by
    subst z
    rw [ha] at e
    cases e
    have d : Data.seq vs.toArray _ = Data.dict es ep := d
    cases d), d, r⟩
  have inB : T.K.In (hidT s₁.heap H) := fun b o e => hidT_get (KX b o e) (by
    cases q : H b with
    | none => rfl
    | some u =>
      obtain ⟨rfl, h2, _⟩ := H0_some q
      rw [h2] at e
      cases e)
  have md : Mod T.K mg (hidT s₁.heap H) := ⟨inB, nd hns, ⟨mb, nd hb, hbb⟩, let ⟨mc, h1, h2⟩ := hlim; ⟨mc, nd h1, h2⟩⟩
  have hok : HOk P w H s₁.heap := fun b u q => by
    obtain ⟨rfl, h2, rfl⟩ := H0_some q
    exact ⟨ha, by rw [List.length_map]; exact hl, vs, _, rv, ha⟩
  have e0 : Env0 P w T.K mg (hidT s₁.heap H) callerA [] s₁ H := ⟨rfl, md, fun b o e => of_hidT e, Nat.le_of_eq (hidT_size _ _), trivial, fun b hb => absurd hb (List.not_mem_nil), hok, .of_eq hg⟩
  have rs : RV T [] H (.scr ns) (.ref a) := by
    cases q : T.K.lookup a with
    | none => exact .scr (o := ob) (by show H0 T.K a ob ns a = _; unfold H0; rw [if_pos ⟨rfl, by rw [q]; rfl⟩])
    | some o =>
      have e := KX a o q
      rw [ha] at e
      cases e
      exact .scrK fun H' => .inr ⟨_, vs.toArray, _, q, rfl, rfl, rfl, by rw [List.size_toArray, ← rv.length, List.length_map]; exact hl, by simpa using rv⟩
  have sp : SpM T 1 m [.ref a] H (fun v _ => v = .bl true) fun _ _ _ => False := ⟨[], [], [.scr ns], ⟨rfl, List.nodup_nil, fun i a o h _ => by simp at h⟩, .cons rs .nil, rfl, by
    rw [hm]
    exact fun ρ' H' z _ _ hz => hz.blE⟩
  refine codeAny_mono ((F _ inB (nd hns)).run callerA [] s₁ H ⟨[.ref a], []⟩ [.ref a] [.ref a] _ _ hr rfl e0 (hbind s₁ (.ref a)) (.cons rfl .nil) sp) fun r s' h => ?_
  cases r with
  | error e =>
    obtain ⟨_, _, _, _, _, _, _, _, _, _, _, _, z⟩ := h
    exact z.elim
  | ok fl =>
    cases fl with
    | next => exact h.elim
    | brk => exact h.elim
    | cont => exact h.elim
    | ret u =>
      obtain ⟨v, H', os, bare, un, hok', r', q⟩ := h
      have q : v = .bl true := q
      subst q
      obtain rfl : u = Value.bool true := r'
      refine ⟨rfl, OldK.of_keep fun b o e => ?_, os, bare⟩
      cases q : H b with
      | none => exact un.keep b o e q (fun z => absurd z (List.not_mem_nil)) (List.not_mem_nil)
      | some u =>
        obtain ⟨rfl, h2, rfl⟩ := H0_some q
        have z2 := un.frzs b _ _ q
        obtain ⟨e2, _⟩ := hok' b _ z2
        rw [ha] at e
        cases e
        exact e2
/-- the goal that the head leaves, from the law's pure function -/
theorem walk_G {l : PySem.W.OpenLaw} {n k : Nat} {q : Program} {loose : List Str} {XP : (Str → Option Value) → Heap → Prop} {YP : World → Heap → Prop} {d : DefRec} {K : Params → PySem.W.Frag} {x : Str} {m : List Vl → M Vl}
    (hn : l.most = some n) (hn2 : n ≤ sizeLine) (hdf : d.params.defaults = []) (hr : Room k callerA) (hY : ∀ (w : World) (h : Heap), YP w h → (K w.params).In h)
    (F : ∀ (w : World) (mg : Str → Option Value) (fa : Addr) (h : Heap), (K w.params).In h → h.Ns mainGlobals mg → mg d.name = some (.ref fa) → ∃ (T : Tb) (fd : FuncData), T.K = K w.params ∧ (∀ (s : Shared) (u : Value), BindsTo s fd ⟨[u], []⟩ [(x, u)]) ∧
        ∀ base : Heap, T.K.In base → base.Ns mainGlobals mg → FnG l.prog w T.K mg base k fa fd [x] (SpM T 1 m))
    (hm : ∀ ns : List Int, ns.length ≤ n → ∃ st, m [.scr ns] [] = .ok (.bl true) st) :
    PySem.W.WalkO q loose XP YP l.row.toRowW d [] (fun f vs => PySem.call f vs) := by
  refine Att.attach_call hn hdf fun w s₀ s₁ mg mb fa o pm cd doc a vs ns G Y ho hd hcd hmg hobj hints hlen hg => ?_
  obtain ⟨T, fd, eT, hb, hF⟩ := F w mg fa _ (hY w _ Y) G.T.g hmg
  obtain ⟨st, e⟩ := hm ns hlen
  exact law_G (by rw [eT]; exact hY w _ Y) G.T.g G.T.b G.T.builtins G.T.nolimit hg hobj hints (Nat.le_trans hlen hn2) hr hF hb e
end Sm

/-! S10: objects: fields, methods, making -/
namespace Sm
open PySem PySem.Spec PyProof.Rows L2
def putS (f : Str) (v : Vl) : List (Str × Vl) → List (Str × Vl)
  | [] => [(f, v)]
  | (g, x) :: r => if g = f then (g, v) :: r else (g, x) :: putS f v r
def getS (fs : List (Str × Vl)) (f : Str) : Option Vl := match fs with
  | [] => none
  | (g, x) :: r => if g = f then some x else getS r f
section
variable {T : Tb} {ρ : List Addr} {H : Hp}
theorem lookup_step {α : Type} (f g : Str) (x : α) (r : List (Str × α)) : List.lookup f ((g, x) :: r) = if g = f then some x else List.lookup f r := by
  by_cases h : g = f
  · subst h
    rw [if_pos rfl]
    simp [List.lookup]
  · rw [if_neg h]
    have : (f == g) = false := by
      cases e : (f == g) with
      | false => rfl
      | true => exact absurd (eq_of_beq e).symm h
    simp [List.lookup, this]
theorem getS_ok {f : Str} : ∀ {fs : List (Str × Vl)} {vs : List (Str × V)}, vs.map (·.1) = fs.map (·.1) → RVs T ρ H (fs.map (·.2)) (vs.map (·.2)) →
    (getS fs f = none → vs.lookup f = none) ∧ ∀ v, getS fs f = some v → ∃ z, vs.lookup f = some z ∧ RV T ρ H v z
  | [], [], _, _ => ⟨fun _ => rfl, fun v e => by simp [getS] at e⟩
  | [], _ :: _, e, _ => by simp at e
  | _ :: _, [], e, _ => by simp at e
  | (g, x) :: r, (g', z) :: t, e, h => by
    simp only [List.map_cons, List.cons.injEq] at e
    rw [List.map_cons, List.map_cons] at h
    obtain ⟨e1, e2⟩ := e
    subst e1
    cases h with
    | cons h1 h2 =>
      have ih := getS_ok (f := f) e2 h2
      rw [lookup_step]
      unfold getS
      by_cases hk : g' = f
      · rw [if_pos hk, if_pos hk]
        refine ⟨(fun q => nomatch q), fun v q => ?_⟩
        cases q
        exact ⟨z, rfl, h1⟩
      · rw [if_neg hk, if_neg hk]
        exact ih
theorem putS_ok {f : Str} {v : Vl} {z : V} (hv : RV T ρ H v z) : ∀ {fs : List (Str × Vl)} {vs : List (Str × V)}, vs.map (·.1) = fs.map (·.1) → RVs T ρ H (fs.map (·.2)) (vs.map (·.2)) →
    (putF f z vs).map (·.1) = (putS f v fs).map (·.1) ∧ RVs T ρ H ((putS f v fs).map (·.2)) ((putF f z vs).map (·.2))
  | [], [], _, _ => ⟨rfl, .cons hv .nil⟩
  | [], _ :: _, e, _ => by simp at e
  | _ :: _, [], e, _ => by simp at e
  | (g, x) :: r, (g', y) :: t, e, h => by
    simp only [List.map_cons, List.cons.injEq] at e
    rw [List.map_cons, List.map_cons] at h
    obtain ⟨e1, e2⟩ := e
    subst e1
    cases h with
    | cons h1 h2 =>
      unfold putF putS
      by_cases hk : g' = f
      · rw [if_pos hk, if_pos hk]
        exact ⟨by simp [e2], .cons hv h2⟩
      · rw [if_neg hk, if_neg hk]
        obtain ⟨a, b⟩ := putS_ok hv e2 h2
        exact ⟨by simp [a], .cons h1 b⟩
theorem Rel.ins {s : Sto} {i c : Nat} {fs : List (Str × Vl)} {a : Addr} (r : Rel T ρ H s) (h : s[i]? = some (.ins c fs)) (ha : ρ[i]? = some a) :
    ∃ (C dx : Addr) (vs : List (Str × V)), T.cl[c]? = some C ∧ H a = some (.ins C dx vs) ∧ vs.map (·.1) = fs.map (·.1) ∧ RVs T ρ H (fs.map (·.2)) (vs.map (·.2)) := r.ob i a _ ha h
end
/-- e.f, of an object of one of the classes cs -/
def eFld (cs : List Nat) (f : Str) (o : EM) : EM := fun lo => bnd (o lo) fun x s => match x with
  | .ref j => match s[j]? with
    | some (.ins c fs) => if c ∈ cs then match getS fs f with
        | some v => .ok v s
        | none => .fail
      else .fail
    | _ => .fail
  | _ => .fail
/-- e.f = v -/
def setFld (cs : List Nat) (f : Str) (x v : Vl) (s : Sto) : Option Sto := match x with
  | .ref j => match s[j]? with
    | some (.ins c fs) => if c ∈ cs ∧ fs.length < 1000 then some (s.set j (.ins c (putS f v fs))) else none
    | _ => none
  | _ => none
def sFldM (cs : List Nat) (f : Str) (o e : EM) : SM := bndS e fun lo v s => bndS o (fun lo x s => match setFld cs f x v s with
  | some s' => .nx lo s'
  | none => .fail) lo s
/-- the classes cs have no attribute f of their own -/
def FldOk (T : Tb) (cs : List Nat) (f : Str) : Prop := ∀ c ∈ cs, ∀ C, T.cl[c]? = some C → Cls T.K C ∧ NoAttr T.K C f
/-- o.m(..): the method by the object's class -/
abbrev MTab := Nat → Option (List Vl → M Vl)
def eMeth (m : Str) (tab : MTab) (o : EM) (a : AM) : EM := fun lo => bnd (o lo) fun x s => match x with
  | .ref j => match s[j]? with
    | some (.ins c fs) => match tab c, getS fs m with
      | some mf, none => bnd (a lo) (fun as => mf (.ref j :: as)) s
      | _, _ => .fail
    | _ => .fail
  | _ => .fail
section
variable {X : Cx} {T : Tb} {W : WX} {o e value : Expr} {es : List Expr} {f : Str} {pos pos' apos : Pos} {mo me : EM} {ma : AM} {cs : List Nat}
theorem ce_fld (ok : FldOk T cs f) (he : PE X e (tE T W me)) (hb : attributeBase e f X.env (eval e X.env) = eval e X.env := by rfl) (hK : X.K = T.K := by rfl) : PE X (.Attribute e f pos) (tE T W (eFld cs f me)) :=
  pe_mono (pe_fld he hb) fun σ H Q h => tG_bnd (R := RV T) h fun ρ s lo x z H1 r rl hx p => by
    cases hx with
    | ref ha =>
      simp only at p
      split at p
      · rename_i c fs hj
        split at p
        · rename_i hc
          split at p
          · rename_i v hv
            obtain ⟨C, dx, vs, h1, h2, h3, h4⟩ := r.ins hj ha
            obtain ⟨w, h5, h6⟩ := (getS_ok (f := f) h3 h4).2 v hv
            obtain ⟨k1, k2⟩ := ok c hc C h1
            rw [hK]
            exact ⟨_, C, dx, vs, w, rfl, h2, k1, k2, h5, p ρ H1 w .refl r h6⟩
          · exact p.elim
        · exact p.elim
      · exact p.elim
    | _ => exact p.elim
theorem cs_fld (ok : FldOk T cs f) (ho : PE X o (tE T W mo)) (hv : PE X value (tE T W me)) (hs : swapsWith value (some (.Attribute o f pos')) pos.line X.env = pure false := by rfl) (hK : X.K = T.K := by rfl) :
    PS X (.Assign [.Attribute o f pos'] value pos) (tS T W (sFldM cs f mo me)) := ps_mono (ps_fld ho hv hs) fun D σ H h =>
  tS_bnd (R := RV T) h fun ρ s lo v z H1 r rl hv p => poS_bnd (R := RV T) r rl p fun ρ' s' x y H' ext r' rl' hx p' => by
    unfold setFld at p'
    cases hx with
    | ref ha =>
      simp only at p'
      split at p'
      · rename_i sf e
        split at e
        · rename_i c fs hj
          split at e
          · rename_i hc
            cases e
            obtain ⟨C, dx, vs, h1, h2, h3, h4⟩ := r'.ins hj ha
            obtain ⟨k1, k2⟩ := ok c hc.1 C h1
            obtain ⟨g1, g2⟩ := putS_ok (f := f) (hv.mono ext) h3 h4
            have hlen : vs.length = fs.length := by have := congrArg List.length h3; simpa using this
            rw [hK]
            refine ⟨_, C, dx, vs, rfl, h2, k1, k2, by rw [hlen]; exact hc.2, ?_⟩
            exact p' ρ' _ σ (r'.setExt ha h2) (r'.set ha ⟨C, dx, _, h1, upd_same, g1, g2.mono (r'.setExt ha h2)⟩) (rl'.mono (r'.setExt ha h2))
          · cases e
        · cases e
      · exact p'.elim
    | _ => exact p'.elim
/-- the methods m of the classes of tab -/
def MethOk (X : Cx) (T : Tb) (m : Str) (k n : Nat) (tab : MTab) : Prop := ∀ c mf, tab c = some mf → ∀ C, T.cl[c]? = some C → ∃ (f : Addr) (fd : FuncData) (ps : List Str), Cls T.K C ∧ Meth T.K C m f ∧ FnG X.prog X.w X.K X.mg X.base k f fd ps (SpM T (n + 1) mf) ∧ Binds X.K fd ps []
def tabA (n : Nat) (tab : MTab) : MTab := fun c => (tab c).map (arg (n + 1))
theorem ce_meth {m : Str} {k n : Nat} {tab : MTab} {pl : Sem Bool} (ok : MethOk X T m k n tab) (hr : Room k X.A) (hgd : X.A.guards = some []) (tk : L2N.Takes X W) (ho : PE X o (tE T W mo)) (ha : PA X (e :: es) (tA T W ma))
    (hst : starEach (e :: es) X.env = (false, eval e X.env) :: starEach es X.env := by rfl) (hpl : (backTo pos (starEach es X.env)).any (·.1) = false := by rfl)
    (ht : eval (.Call (.Attribute o m apos) (e :: es) [] pos) X.env = (do let ov ← eval o X.env; standAt apos.atName; let (f, first) ← holding [ov] (getMethod ov m pl); callWith pos f first (backTo pos (starEach (e :: es) X.env)) (backToKw pos (keywordEach [] X.env))) := by rfl)
    (hK : X.K = T.K := by rfl) : PE X (.Call (.Attribute o m apos) (e :: es) [] pos) (tE T W (eMeth m (tabA n tab) mo ma)) := by
  refine ⟨fun pins s σ H Q I h => ?_⟩
  have h : tE T W mo σ H fun x H1 => ∃ (a C dx f : Addr) (fs : List (Str × V)) (mf : List Vl → M Vl) (fd : FuncData) (ps : List Str), x = .ref a ∧ H1 a = some (.ins C dx fs) ∧ Cls T.K C ∧ Meth T.K C m f ∧ fs.lookup m = none ∧ FnG X.prog X.w X.K X.mg X.base k f fd ps (SpM T (n + 1) mf) ∧ Binds X.K fd ps [] ∧
      tA T W ma σ H1 fun vs H2 => SpM T (n + 1) mf (.ref a :: vs ++ []) H2 Q fun c d H' => W c d σ H' := tG_bnd (R := RV T) h fun ρ s lo x z H1 r rl hx p => by
    cases hx with
    | ref hρ =>
      rename_i j a
      simp only at p
      split at p
      · rename_i c fs hj
        split at p
        · rename_i mf hm hg
          unfold tabA at hm
          obtain ⟨mf0, hm0, rfl⟩ := Option.map_eq_some_iff.mp hm
          obtain ⟨C, dx, vs, h1, h2, h3, h4⟩ := r.ins hj hρ
          obtain ⟨f, fd, ps, k1, k2, k3, k4⟩ := ok c mf0 hm0 C h1
          refine ⟨a, C, dx, f, vs, mf0, fd, ps, rfl, h2, k1, k2, (getS_ok (f := m) h3 h4).1 hg, k3, k4, po_bnd (R := RVs T) (m := ma) r rl p fun ρ' s' as zs H' ext r' rl' has p' => ?_⟩
          unfold arg at p'
          split at p'
          · rename_i hl
            rw [List.append_nil]
            exact spM_of r' (.cons (.ref (ext.pre _ _ hρ)) has) hl p'
          · exact p'.elim
        · exact p.elim
      · exact p.elim
    | _ => exact p.elim
  refine PySem.W.methodCall_KW (pl := pl) (thn (ho.run pins s σ H _ I h) fun u s1 ⟨x, H1, I1, rx, a, C, dx, f, fs, mf, fd, ps, ex, ea, cl, mt, l, F, hb, q⟩ => ?_) ht
  subst ex
  obtain rfl : u = Value.ref a := rx
  rw [← hK] at cl mt
  refine getmeth_ok I1 ea cl mt l ?_
  refine PySem.W.callWith_K (first := [.ref a]) (h₀ := X.base) I.ok.mod.kin mt.kp (thn (ha.run pos pins s1 σ H1 _ I1 q) fun us s2 ⟨vs, H2, I2, r, q2⟩ => ⟨I2.kIn, ?_⟩) hst hpl
  exact run_G (us := .ref a :: us) (vs := .ref a :: vs) F hr hgd hb .nil tk I2 (.cons rfl r) q2
theorem ce_meth0 {m : Str} {k : Nat} {tab : MTab} {pl : Sem Bool} (ok : MethOk X T m k 0 tab) (hr : Room k X.A) (hgd : X.A.guards = some []) (tk : L2N.Takes X W) (ho : PE X o (tE T W mo))
    (ht : eval (.Call (.Attribute o m apos) [] [] pos) X.env = (do let ov ← eval o X.env; standAt apos.atName; let (f, first) ← holding [ov] (getMethod ov m pl); callWith pos f first (backTo pos (starEach [] X.env)) (backToKw pos (keywordEach [] X.env))) := by rfl)
    (hK : X.K = T.K := by rfl) : PE X (.Call (.Attribute o m apos) [] [] pos) (tE T W (eMeth m (tabA 0 tab) mo aNil)) := by
  refine ⟨fun pins s σ H Q I h => ?_⟩
  have h : tE T W mo σ H fun x H1 => ∃ (a C dx f : Addr) (fs : List (Str × V)) (mf : List Vl → M Vl) (fd : FuncData) (ps : List Str), x = .ref a ∧ H1 a = some (.ins C dx fs) ∧ Cls T.K C ∧ Meth T.K C m f ∧ fs.lookup m = none ∧ FnG X.prog X.w X.K X.mg X.base k f fd ps (SpM T (0 + 1) mf) ∧ Binds X.K fd ps [] ∧
      SpM T (0 + 1) mf [.ref a] H1 Q fun c d H' => W c d σ H' := tG_bnd (R := RV T) h fun ρ s lo x z H1 r rl hx p => by
    cases hx with
    | ref hρ =>
      rename_i j a
      simp only at p
      split at p
      · rename_i c fs hj
        split at p
        · rename_i mf hm hg
          unfold tabA at hm
          obtain ⟨mf0, hm0, rfl⟩ := Option.map_eq_some_iff.mp hm
          obtain ⟨C, dx, vs, h1, h2, h3, h4⟩ := r.ins hj hρ
          obtain ⟨f, fd, ps, k1, k2, k3, k4⟩ := ok c mf0 hm0 C h1
          exact ⟨a, C, dx, f, vs, mf0, fd, ps, rfl, h2, k1, k2, (getS_ok (f := m) h3 h4).1 hg, k3, k4, spM_of r (.cons (.ref hρ) .nil) rfl p⟩
        · exact p.elim
      · exact p.elim
    | _ => exact p.elim
  refine PySem.W.methodCall_KW (pl := pl) (thn (ho.run pins s σ H _ I h) fun u s1 ⟨x, H1, I1, rx, a, C, dx, f, fs, mf, fd, ps, ex, ea, cl, mt, l, F, hb, q⟩ => ?_) ht
  subst ex
  obtain rfl : u = Value.ref a := rx
  rw [← hK] at cl mt
  refine getmeth_ok I1 ea cl mt l ?_
  exact PySem.W.callWith_K0 (first := [.ref a]) I1.kIn mt.kp (run_G (us := [.ref a]) (vs := [.ref a]) F hr hgd hb .nil tk I1 (.cons rfl .nil) (by rw [List.append_nil]; exact q))
end
/-! ### making -/
/-- C(..): a new object of class c, then __init__ -/
def eMake (c : Nat) (mi : List Vl → M Vl) (a : AM) : EM := fun lo => bnd (a lo) fun as s => match mi (.ref s.length :: as) (s ++ [.ins c []]) with
  | .ok .non s' => .ok (.ref s.length) s'
  | .ok _ _ => .fail
  | .exc e s' => .exc e s'
  | .fail => .fail
theorem under_guards {A : Around} {C : Addr} {us : List Value} (h : A.guards = some []) : (A.under (.builtin "type.__call__" ⟨.ref C :: us, []⟩)).guards = some [] := by
  simp [Around.under, Code.guards, Code.isGuard, guardIds, pushGuards, h]
section
variable {X : Cx} {T : Tb} {W : WX} {e : Expr} {es : List Expr} {p pos : Pos} {ma : AM} {C f : Addr} {fd : FuncData} {ps : List Str} {k n c : Nat} {mi : List Vl → M Vl} {x : Str}
theorem run_mk {pins : List (Addr × Obj)} {σ : L2.St} {H : Hp} {s : Shared} {Q : VK} {us : List Value} {vs : List V} (M : Mk X.K C f) (F : FnG X.prog X.w X.K X.mg X.base k f fd ps (SpM T (n + 1) mi)) (hr : Room (k + 1) X.A) (hgd : X.A.guards = some []) (hb : Binds X.K fd ps []) (tk : L2N.Takes X W) (hc : T.cl[c]? = some C)
    (I : Inv X pins σ H s) (r : Vals vs us)
    (h : ∃ (ρ : List Addr) (st : Sto) (as : List Vl), Rel T ρ H st ∧ RVs T ρ H as vs ∧ as.length = n ∧ Po (RV T) T (fun c d H' => W c d σ H') ρ H (match mi (.ref st.length :: as) (st ++ [.ins c []]) with
      | .ok .non s' => .ok (.ref st.length) s'
      | .ok _ _ => .fail
      | .exc e s' => .exc e s'
      | .fail => (.fail : Res Vl)) Q) : wpAny (model X.prog X.w) X.A (call (.ref C) us) (EP X pins σ Q) X.xe s := by
  obtain ⟨ρ, st, as, rel, has, hl, p⟩ := h
  have f1 : H (s.heap.objs.size + 1) = none := I.hok.fresh (Nat.le_succ _)
  have f0 : H s.heap.objs.size = none := I.hok.fresh (Nat.le_refl _)
  have ne : s.heap.objs.size + 1 ≠ s.heap.objs.size := Nat.succ_ne_self _
  have I2 := Inv.made (C := C) I
  have r2 : Vals (V.ref (s.heap.objs.size + 1) :: vs) (Value.ref (s.heap.objs.size + 1) :: us) := .cons rfl r
  -- the new object in the pure store
  have relD : Rel T ρ (upd H s.heap.objs.size (.own (s.heap.objs.size + 1))) st := rel.laid f0
  have f1' : upd H s.heap.objs.size (.own (s.heap.objs.size + 1)) (s.heap.objs.size + 1) = none := by rw [upd_ne ne]; exact f1
  have ext : Ext T ρ H (ρ ++ [s.heap.objs.size + 1]) (upd (upd H s.heap.objs.size (.own (s.heap.objs.size + 1))) (s.heap.objs.size + 1) (.ins C s.heap.objs.size [])) := (ext_upd f0).trans (relD.newExt f1')
  have relN : Rel T (ρ ++ [s.heap.objs.size + 1]) (upd (upd H s.heap.objs.size (.own (s.heap.objs.size + 1))) (s.heap.objs.size + 1) (.ins C s.heap.objs.size [])) (st ++ [.ins c []]) := relD.new f1' ⟨C, _, [], hc, upd_same, rfl, .nil⟩
  have sp : SpM T (n + 1) mi (V.ref (s.heap.objs.size + 1) :: vs) (upd (upd H s.heap.objs.size (.own (s.heap.objs.size + 1))) (s.heap.objs.size + 1) (.ins C s.heap.objs.size [])) (fun v H2 => v = .non ∧ Q (.ref (s.heap.objs.size + 1)) H2) fun c d H' => W c d σ H' := by
    refine ⟨_, _, .ref st.length :: as, relN, .cons rel.newRef (has.mono ext), by rw [List.length_cons, hl], ?_⟩
    cases e : mi (.ref st.length :: as) (st ++ [.ins c []]) with
    | fail => rw [e] at p; exact p
    | exc z s' => rw [e] at p; exact fun ρ' H' D x' => p ρ' H' D (ext.trans x')
    | ok v s' =>
      rw [e] at p
      intro ρ' H' z x' r' hz
      cases v <;> try exact p.elim
      exact ⟨hz.nonE, p ρ' H' _ (ext.trans x') r' (.ref (x'.pre _ _ (by rw [← rel.len, List.getElem?_append_right (Nat.le_refl _)]; simp)))⟩
  refine wpAny_call (make_map (f := f) I.kIn M.makes M.init (beq_iff_eq.mp M.fn) (codeAny_mono (F.run _ X.stack _ _ ⟨Value.ref (s.heap.objs.size + 1) :: us, []⟩ _ _ _ _ (hr.make C us []) (under_guards hgd) (I2.env0.make C us []) (by
    have := hb _ (Value.ref (s.heap.objs.size + 1) :: us) I2.kIn (by rw [List.append_nil, ← r2.length]; exact F.len _ _ _ _ sp)
    rw [List.append_nil] at this
    exact this) r2 sp) fun z s' hq => ?_))
  cases z with
  | error y => exact tk y s' (L2N.XE.of_call I2 (fun _ _ _ q => q) hq)
  | ok fl =>
    cases fl with
    | ret u =>
      obtain ⟨v, H', I3, rv, ev, q3⟩ := I2.after hq
      subst ev
      exact ⟨rv, ⟨V.ref (s.heap.objs.size + 1), H', I3, rfl, q3⟩⟩
    | next => exact hq.elim
    | brk => exact hq.elim
    | cont => exact hq.elim
def argI (n : Nat) (mf : List Vl → M Vl) : List Vl → M Vl := fun as s => if as.length = n + 1 then mf as s else .fail
theorem ce_make (M : Mk X.K C f) (F : FnG X.prog X.w X.K X.mg X.base k f fd ps (SpM T (n + 1) mi)) (hr : Room (k + 1) X.A) (hgd : X.A.guards = some []) (hg : Gl X x) (hm : X.mg x = some (.ref C)) (hb : Binds X.K fd ps []) (tk : L2N.Takes X W) (hc : T.cl[c]? = some C) (ha : PA X (e :: es) (tA T W ma))
    (hdb : (x == ("__debug__" : Str)) = false := by decide) (he : starEach (e :: es) X.env = (false, eval e X.env) :: starEach es X.env := by rfl) (hpl : (backTo pos (starEach es X.env)).any (·.1) = false := by rfl) :
    PE X (.Call (.Name x p) (e :: es) [] pos) (tE T W (eMake c (argI n mi) ma)) := by
  refine ⟨fun pins s σ H Q I h => wpAny_Call_Name_kw (ld_glob I hg hm ?_ hdb)⟩
  have h : tA T W ma σ H fun vs H1 => ∃ (ρ : List Addr) (st : Sto) (as : List Vl), Rel T ρ H1 st ∧ RVs T ρ H1 as vs ∧ as.length = n ∧ Po (RV T) T (fun c d H' => W c d σ H') ρ H1 (match mi (.ref st.length :: as) (st ++ [.ins c []]) with
      | .ok .non s' => .ok (.ref st.length) s'
      | .ok _ _ => .fail
      | .exc e s' => .exc e s'
      | .fail => (.fail : Res Vl)) Q := tG_bnd (R := RVs T) h fun ρ s lo xs zs H1 r rl hx q => by
    unfold argI at q
    split at q
    · rename_i q1
      split at q1
      · rename_i hl
        refine ⟨ρ, s, xs, r, hx, by simpa using hl, ?_⟩
        rw [q1]
        exact q
      · cases q1
    · exact q.elim
    · rename_i q1
      split at q1
      · rename_i hl
        refine ⟨ρ, s, xs, r, hx, by simpa using hl, ?_⟩
        rw [q1]
        exact q
      · cases q1
    · exact q.elim
  refine PySem.W.callWith_K (h₀ := X.base) I.ok.mod.kin M.kp (thn (ha.run pos pins s σ H _ I h) fun us s1 ⟨vs, H1, I1, r, q⟩ => ⟨I1.kIn, ?_⟩) he hpl
  exact run_mk M F hr hgd hb tk hc I1 r q
theorem ce_make0 (M : Mk X.K C f) (F : FnG X.prog X.w X.K X.mg X.base k f fd ps (SpM T (0 + 1) mi)) (hr : Room (k + 1) X.A) (hgd : X.A.guards = some []) (hg : Gl X x) (hm : X.mg x = some (.ref C)) (hb : Binds X.K fd ps []) (tk : L2N.Takes X W) (hc : T.cl[c]? = some C)
    (hdb : (x == ("__debug__" : Str)) = false := by decide) : PE X (.Call (.Name x p) [] [] pos) (tE T W (eMake c mi aNil)) := by
  refine ⟨fun pins s σ H Q I h => wpAny_Call_Name_kw (ld_glob I hg hm ?_ hdb)⟩
  obtain ⟨ρ, st, lo, r, rl, q⟩ := h
  exact PySem.W.callWith_K0 I.kIn M.kp (run_mk (us := []) (vs := []) M F hr hgd hb tk hc I .nil ⟨ρ, st, [], r, .nil, rfl, q⟩)
end
end Sm

/-! S11: sets of ints: set(list), sorted(set) -/
namespace L2
open PySem PySem.Spec PyProof.Rows
abbrev set0 (w : World) : Obj := { cls := .type "set", dict := none, data := .set #[] 0 (.fresh 0 0 (!w.params.followText "set-order")) }
section
variable {P : Program} {w : World} {A : Around} {E : Value → Shared → Prop} {s : Shared}
/-- set(l), l a list of ints -/
theorem call_set_lst {l : Addr} {items : Array Value} (ns : List Int) {Q : Value → Shared → Prop} (hh : A.handled = none) (hl : s.heap.IsList l items) (hit : IntsAre items.toList ns) (hb : ns.length + 1 < scanBound)
    (h : ∀ (h' : Heap) (tk c : Nat), SetR w h' s.heap.objs.size (fun j => decide (j ∈ ns)) c → (∀ b o, s.heap.get? b = some o → h'.get? b = some o) → Q (.ref s.heap.objs.size) { s with heap := h', toks := tk }) :
    wpAny (model P w) A (call (.type "set") [.ref l]) Q E s := by
  have hz : items.size = ns.length := by rw [← Array.length_toList]; exact hit.length
  obtain ⟨c, tl, hmro⟩ := F.called_set.mro
  have hmade := F.called_set.made
  have hsub := F.called_set.sub
  have h1 := F.called_set.notType
  have h2 := F.called_set.canCreate
  have hct := F.typeCall_set_1 (.ref l)
  refine wpAny_call (codeAny_of_tree (show wpAny _ _ (callAny (.type "set") _) _ _ _ from wpAny_pure ⟨Code.quiet_builtin _ (by decide +kernel), codeAny_builtin F.entry_type_call ?_⟩))
  rw [Around.under_plain (weight_type_call_type "set" [.ref l] []) rfl]
  repeat (any_goals (first | assumption | wp_step))
  refine codeAny_mono (code_set_led1 (.ref l) (E := E) (Q₁ := fun obj s₁ => obj = .ref s.heap.objs.size ∧ s₁ = { s with heap := s.heap.push (set0 w) }) ⟨rfl, rfl⟩) fun r s₁ hr => ?_
  cases r with
  | error e => exact hr
  | ok fl =>
    cases fl with
    | ret obj =>
      obtain ⟨rfl, rfl⟩ := hr
      have hS : (s.heap.push (set0 w)).get? s.heap.objs.size = some (set0 w) := Heap.get?_push_size _ rfl
      have hT : Shared.TypeIs { s with heap := s.heap.push (set0 w) } (.ref s.heap.objs.size) "set" := ⟨_, hS, rfl⟩
      have hli := F.called_set.init.lookup
      have hbi := F.called_set.init.bind (.ref s.heap.objs.size)
      repeat (any_goals (first | assumption | wp_step))
      refine codeAny_mono (codeAny_call_builtin (R := wants (fun r s₂ => r = .none ∧ ∃ h' tk c, s₂ = { s with heap := h', toks := tk } ∧ SetR w h' s.heap.objs.size (fun j => decide (j ∈ ns)) c ∧ ∀ b o, s.heap.get? b = some o → h'.get? b = some o) E) F.called_set.init.plain F.entry_set_init (check_set_init_1 hT ?_)) fun r₂ s₂ hr₂ => ?_
      · obtain ⟨⟨oc, od, oda, osl⟩, ho, hc, nl, hd⟩ := hl
        obtain rfl : oc = _ := hc
        obtain rfl : oda = _ := hd
        have hS2 := F.sub_list_set
        have hF2 := F.sub_list_frozenset
        have hne : (Value.type "list" == Value.type "dict") = false := by decide
        have ho' := Heap.get?_push_of_some (set0 w) ho
        have hl1 : (s.heap.push (set0 w)).IsList l items := ⟨_, ho', rfl, nl, rfl⟩
        unfold Builtin.«set.__init__» noKeywords Builtin.Frozenset.updateFrom
        generalize hPI : pyIter = PI
        wp_walk
        subst hPI
        refine wpAny_pyIter_list hl1 (wpAny_bind (wpAny_runValue ?_))
        have lS : l < s.heap.objs.size := Heap.lt_size ho
        have eS : (s.heap.push (set0 w)).objs.size = s.heap.objs.size + 1 := Heap.size_push ..
        refine set_update_ints ((Walks.list (A := A.in1.in1.in1) (by simp [hh]) (s.heap.push (set0 w)).objs.size l (by rw [eS]; exact Nat.ne_of_lt (Nat.lt_succ_of_lt lS)) items).toS) s.heap.objs.size (by rw [eS]; simp only [List.mem_cons, List.not_mem_nil, or_false, not_or]; exact ⟨Nat.ne_of_lt (Nat.lt_succ_self _), Nat.ne_of_gt lS⟩) ns hz hb (fun i v hv => ?_) (items.size - 0) 0 _ (by omega) (Nat.zero_le _)
          ⟨⟨_, Heap.get?_push_size _ rfl, rfl, rfl⟩, (hl1.push _)⟩ ⟨0, Nat.le_refl 0, setR_new_at (Heap.get?_push_of_some _ hS)⟩ fun s' c' hm hc' hS' => ?_
        · have hi : i < ns.length := by rw [← hz]; exact (Array.getElem?_eq_some_iff.mp hv).1
          obtain ⟨t, e⟩ := PyProof.Rows.IntsAre.int_at hit i v (by rw [Array.getElem?_toList]; exact hv)
          exact ⟨ns[i], t, List.getElem?_eq_getElem hi, by rw [e, List.getD_eq_getElem?_getD, List.getElem?_eq_getElem hi] <;> rfl⟩
        · obtain ⟨h', g2, d', tk', os'⟩ := s'
          obtain rfl : g2 = s.gens := hm.gens
          obtain rfl : d' = s.drawn := hm.drawn
          obtain rfl : os' = s.os := hm.os
          refine wpAny_pure (show wpAny _ _ (ret Value.none) _ _ _ from wpAny_pure ⟨rfl, h', tk', c', rfl, hS', fun b o e => ?_⟩)
          have lb : b < s.heap.objs.size := Heap.lt_size e
          exact hm.heap b o (by rw [eS]; simp only [List.mem_cons, List.not_mem_nil, or_false, not_or]; exact ⟨Nat.ne_of_lt lb, Nat.ne_of_lt (Nat.lt_succ_of_lt lb)⟩) (Heap.get?_push_of_some _ (Heap.get?_push_of_some _ e))
      · cases r₂ with
        | error e => exact hr₂
        | ok fl₂ =>
          cases fl₂ with
          | ret r =>
            obtain ⟨rfl, h', tk, c', rfl, hS', hk'⟩ := hr₂
            repeat (any_goals (first | assumption | wp_step))
            exact h _ _ _ hS' hk'
          | _ => exact hr₂.elim
    | _ => exact hr.elim
end
theorem nodup_len {α : Type} [DecidableEq α] : ∀ (a b : List α), a.Nodup → b.Nodup → (∀ x, x ∈ a ↔ x ∈ b) → a.length = b.length := fun a b ha hb h => by
  exact ((List.perm_ext_iff_of_nodup ha hb).mpr h).length_eq
theorem SetR.size {w : World} {h : Heap} {a : Addr} {S : Int → Bool} {n : Nat} (R : SetR w h a S n) {xs : List Int} (nd : xs.Nodup) (hS : ∀ k, S k = true ↔ k ∈ xs) : n = xs.length := by
  obtain ⟨o, es, ep, t, h1, h2, h3, h4, h5, h6, h7, h8, h9, _⟩ := R
  rw [← h9, ← Array.length_toList, ← List.length_map (f := keyOf) (as := es.toList)]
  exact nodup_len _ _ h5 nd fun x => (h6 x).symm.trans (hS x)
end L2
namespace Sm
open PySem PySem.Spec PyProof.Rows L2
/-- the unlike ones of a list, each at its last place -/
def ddup : List Int → List Int
  | [] => []
  | x :: xs => if x ∈ xs then ddup xs else x :: ddup xs
theorem mem_ddup {x : Int} : ∀ {xs : List Int}, x ∈ ddup xs ↔ x ∈ xs
  | [] => Iff.rfl
  | y :: ys => by
    unfold ddup
    split
    · rename_i h
      rw [mem_ddup, List.mem_cons]
      exact ⟨.inr, fun q => q.elim (fun z => by rw [z]; exact h) id⟩
    · rw [List.mem_cons, List.mem_cons, mem_ddup]
theorem ddup_nodup : ∀ xs : List Int, (ddup xs).Nodup
  | [] => List.nodup_nil
  | y :: ys => by
    unfold ddup
    split
    · exact ddup_nodup ys
    · rename_i h
      exact List.nodup_cons.mpr ⟨fun z => h (mem_ddup.mp z), ddup_nodup ys⟩
def oSet : OC
  | [x], s => match lstOf x s with
    | some xs => match mapO asInt xs with
      | some ns => if ns.length < 4000 then some (.ref s.length, s ++ [.set (ddup ns)]) else none
      | none => none
    | none => none
  | _, _ => none
/-- sorted of a list or of a set of ints -/
def oSortS : OC
  | [.ref j], s => match s[j]? with
    | some (.lst xs) => (mapO asInt xs).map fun ns => (.ref s.length, s ++ [.lst ((srt ns).map Vl.int)])
    | some (.set xs) => if xs.length < 64 then some (.ref s.length, s ++ [.lst ((srt xs).map Vl.int)]) else none
    | _ => none
  | _, _ => none
section
variable {X : Cx} {T : Tb}
theorem c_set (hc : X.calm = true := by rfl) (hw : X.w = T.w := by rfl) : CallR X (.type "set") (rC T oSet) := fun pins s σ H xs us Q I rs q => by
  obtain ⟨ρ, st, as, v, s', r, ha, e, k⟩ := q
  unfold oSet at e
  split at e
  · split at e
    · rename_i x ys hx
      split at e
      · rename_i ns hn
        split at e
        · rename_i hl
          cases e
          obtain ⟨z, rfl, hz⟩ := ha.one
          obtain ⟨p, vs, rfl, h1, h2⟩ := lstOf_ok r hz hx
          have ev := asInts_ok h2 hn
          subst ev
          obtain ⟨its, rv, pl, hsz⟩ := I.list (SqL.of h1)
          cases rs with
          | cons r1 r2 =>
            cases r2
            obtain rfl := r1
            refine call_set_lst ns (I.ok.hd hc) pl.isList (by simpa using rv.ints) (by unfold scanBound; omega) fun h' tk c R hk => ?_
            have hp : H s.heap.objs.size = none := I.hok.fresh (Nat.le_refl _)
            have hsize : c = (ddup ns).length := R.size (ddup_nodup ns) fun j => by rw [mem_ddup]; exact decide_eq_true_iff
            subst hsize
            have I' := I.laid (a := s.heap.objs.size) (t' := tk) hk (Nat.le_refl _) (setO_new (P := X.prog) (H := upd H s.heap.objs.size (SetO X.w s.heap.objs.size (fun j => decide (j ∈ ns)) (ddup ns).length)) R)
            refine ⟨.ref s.heap.objs.size, _, I', rfl, ?_⟩
            rw [hw]
            exact k.new r hp ⟨ddup_nodup ns, _, fun j => by rw [mem_ddup]; exact decide_eq_true_iff, upd_same⟩
        · cases e
      · cases e
    · cases e
  · cases e
theorem lt_le {l : List Int} (h : l.Pairwise (· < ·)) : l.Pairwise (· ≤ ·) := h.imp fun q => Int.le_of_lt q
theorem lt_nodup {l : List Int} (h : l.Pairwise (· < ·)) : l.Nodup := h.imp fun q => Int.ne_of_lt q
theorem c_sortS (hc : X.calm = true := by rfl) (hw : X.w = T.w := by rfl) : CallR X (.builtin "sorted") (rC T oSortS) := fun pins s σ H xs us Q I rs q => by
  obtain ⟨ρ, st, as, v, s', r, ha, e, k⟩ := q
  unfold oSortS at e
  split at e
  · rename_i s0 j
    split at e
    · rename_i ys hy
      exact c_sorted pins s σ H xs us Q I rs ⟨ρ, _, [.ref j], v, s', r, ha, by simp only [oSorted, lstOf, hy]; exact e, k⟩
    · rename_i ys hy
      split at e
      · rename_i hl
        cases e
        obtain ⟨z, rfl, hz⟩ := ha.one
        obtain ⟨p, rfl, hp⟩ := hz.refE
        obtain ⟨nd, S, hS, hH⟩ := r.ob _ _ _ hp hy
        refine cr_sortedSet hc pins s σ H _ us Q I rs ⟨p, S, _, rfl, by rw [hw]; exact hH, hl, fun ns q h1 h2 h3 hq => ?_⟩
        have : ns = srt ys := srt_eq ((List.perm_ext_iff_of_nodup (lt_nodup h1) nd).mpr fun a => (h2 a).trans (hS a)) (lt_le h1)
        rw [this]
        exact k.lst r (RVs.ints _) hq
      · cases e
    · cases e
  · cases e
end
end Sm

/-! S12: dicts: displays, their values walked and listed -/
namespace Sm
open PySem PySem.Spec PyProof.Rows L2
def eDict0 : EM := fun _ s => .ok (.ref s.length) (s ++ [.dic []])
/-- the pairs of a display -/
def dpM : List (EM × EM) → Lo → M (List (Vl × Vl))
  | [], _ => ret []
  | (k, v) :: r, lo => bnd (k lo) fun x => bnd (v lo) fun y => bnd (dpM r lo) fun ps => ret ((x, y) :: ps)
def keyP (p : Vl × Vl) : Option (Key × Vl) := match keyOf p.1 with
  | some k => some (k, p.2)
  | none => none
def mergeP (kvs more : List (Key × Vl)) : List (Key × Vl) := more.foldl (fun acc kv => put acc kv.1 kv.2) kvs
def eDict (ps : List (EM × EM)) : EM := fun lo s => match dpM ps lo (s ++ [.dic []]) with
  | .ok prs s' => match s'[s.length]?, mapO keyP prs with
    | some (.dic []), some kvs => if kvs.length ≤ 15 then .ok (.ref s.length) (s'.set s.length (.dic (mergeP [] kvs))) else .fail
    | _, _ => .fail
  | .exc e s' => .exc e s'
  | .fail => .fail
def RP (T : Tb) : List Addr → Hp → List (Vl × Vl) → List (V × V) → Prop := fun ρ H ps qs => RVs T ρ H (ps.map (·.1)) (qs.map (·.1)) ∧ RVs T ρ H (ps.map (·.2)) (qs.map (·.2))
section
variable {X : Cx} {T : Tb} {W : WX} {pos : Pos}
theorem ce_dict0 : PE X (.Dict [] [] pos) (tE T W eDict0) := pe_mono pe_dnewK fun σ H Q h => by
  obtain ⟨ρ, s, lo, r, rl, p⟩ := h
  exact fun q hq => p (ρ ++ [q]) _ _ (r.newExt hq) (r.new (b := .dic []) hq ⟨[], upd_same, rfl, .nil⟩) r.newRef
theorem pairs_le {σ : L2.St} : ∀ {ps : List (EM × EM)} {H : Hp} {Q : List (V × V) → Hp → Prop}, tG (RP T) T W (dpM ps) σ H Q → tPairs (ps.map fun p => (tE T W p.1, tE T W p.2)) σ H Q
  | [], H, Q, h => by
    obtain ⟨ρ, s, lo, r, rl, p⟩ := h
    exact p ρ H [] .refl r ⟨.nil, .nil⟩
  | (k, v) :: ps, H, Q, h => tG_bnd (R := RV T) h fun ρ s lo x z H1 r rl hx p => po_bnd (R := RV T) (m := v) r rl p fun ρ1 s1 y z1 H2 e1 r1 rl1 hy p1 =>
      pairs_le (po_bnd (R := RP T) (m := dpM ps) r1 rl1 p1 fun ρ2 s2 prs qs H3 e2 r2 rl2 hp p2 => p2 ρ2 H3 _ .refl r2 ⟨.cons (hx.mono (e1.trans e2)) hp.1, .cons (hy.mono e2) hp.2⟩)
theorem keyP_ok {ρ : List Addr} {H : Hp} : ∀ {ps : List (Vl × Vl)} {qs : List (V × V)} {kvs : List (Key × Vl)}, RP T ρ H ps qs → mapO keyP ps = some kvs → ∃ vs : List (Key × V), qs = vs.map (fun kv => (kV kv.1, kv.2)) ∧ vs.map (·.1) = kvs.map (·.1) ∧ RVs T ρ H (kvs.map (·.2)) (vs.map (·.2))
  | [], [], _, _, e => by
    simp only [mapO] at e
    cases e
    exact ⟨[], rfl, rfl, .nil⟩
  | [], _ :: _, _, h, _ => by cases h.1
  | _ :: _, [], _, h, _ => by cases h.1
  | (a, b) :: ps, (x, y) :: qs, kvs, h, e => by
    obtain ⟨h1, h2⟩ := h
    rw [List.map_cons, List.map_cons] at h1 h2
    cases h1 with
    | cons a1 a2 =>
      cases h2 with
      | cons b1 b2 =>
        simp only [mapO] at e
        split at e
        · rename_i kv kvs' e1 e2
          cases e
          unfold keyP at e1
          split at e1
          · rename_i k hk
            cases e1
            obtain ⟨vs, rfl, g2, g3⟩ := keyP_ok ⟨a2, b2⟩ e2
            refine ⟨(k, y) :: vs, ?_, by simp [g2], .cons b1 g3⟩
            have := keyOf_ok a1 hk
            simp only at this
            rw [this]; rfl
          · cases e1
        · cases e
theorem putK_nodup {kvs : List (Key × V)} {k : Key} {v : V} (h : (kvs.map (·.1)).Nodup) : ((putK kvs k v).map (·.1)).Nodup := by
  unfold putK
  split
  · have : (kvs.map fun kv => if kv.1 = k then (kv.1, v) else kv).map (·.1) = kvs.map (·.1) := by
      rw [List.map_map]
      apply List.map_congr_left
      intro p _
      simp only [Function.comp]
      split <;> rfl
    rw [this]; exact h
  · rename_i hn
    rw [List.map_append, List.nodup_append]
    refine ⟨h, by simp, fun a ha b hb => ?_⟩
    simp at hb
    subst hb
    intro e
    subst e
    obtain ⟨p, hp, e⟩ := List.mem_map.mp ha
    exact hn (List.any_eq_true.mpr ⟨p, hp, by simp [e]⟩)
theorem merge_ok {ρ : List Addr} {H : Hp} : ∀ {more : List (Key × Vl)} {ms : List (Key × V)} {kvs : List (Key × Vl)} {vs : List (Key × V)}, ms.map (·.1) = more.map (·.1) → RVs T ρ H (more.map (·.2)) (ms.map (·.2)) → (vs.map (·.1)).Nodup → vs.map (·.1) = kvs.map (·.1) → RVs T ρ H (kvs.map (·.2)) (vs.map (·.2)) →
    (mergeK vs ms).map (·.1) = (mergeP kvs more).map (·.1) ∧ RVs T ρ H ((mergeP kvs more).map (·.2)) ((mergeK vs ms).map (·.2))
  | [], [], _, _, _, _, _, e, h => ⟨e, h⟩
  | [], _ :: _, _, _, e, _, _, _, _ => by simp at e
  | _ :: _, [], _, _, e, _, _, _, _ => by simp at e
  | (k, v) :: more, (k', z) :: ms, kvs, vs, e, h, nd, e2, h2 => by
    simp only [List.map_cons, List.cons.injEq] at e
    rw [List.map_cons, List.map_cons] at h
    obtain ⟨e1, e3⟩ := e
    subst e1
    cases h with
    | cons a b =>
      obtain ⟨g1, g2⟩ := put_ok (k := k') a nd e2 h2
      exact merge_ok (more := more) (ms := ms) (kvs := put kvs k' v) (vs := putK vs k' z) e3 b (putK_nodup nd) g1 g2
theorem ce_dict {keys : List (Option Expr)} {values : List Expr} {ps : List (EM × EM)} (h : PPs X pos keys values (ps.map fun p => (tE T W p.1, tE T W p.2))) (hall : keys.all (·.isSome) = true := by rfl) (hl : keys.length = values.length := by rfl) (h0 : keys ≠ [] := by exact fun z => nomatch z)
    (h15 : keys.length ≤ 15 := by decide) : PE X (.Dict keys values pos) (tE T W (eDict ps)) := pe_mono (pe_disp h hall hl h0 h15) fun σ H Q h => by
  obtain ⟨ρ, s, lo, r, rl, p⟩ := h
  intro q hq
  have xD : Ext T ρ H (ρ ++ [q]) (upd H q (.dK [])) := r.newExt hq
  have aD : (ρ ++ [q])[s.length]? = some q := by rw [← r.len, List.getElem?_append_right (Nat.le_refl _)]; simp
  refine pairs_le ⟨ρ ++ [q], s ++ [.dic []], lo, r.new (b := .dic []) hq ⟨[], upd_same, rfl, .nil⟩, rl.mono xD, ?_⟩
  unfold eDict at p
  cases e : dpM ps lo (s ++ [.dic []]) with
  | fail => rw [e] at p; exact p
  | exc z s' => rw [e] at p; exact fun ρ' H' C x => p ρ' H' C (xD.trans x)
  | ok prs s' =>
    rw [e] at p
    intro ρ' H' qs x r' hp
    simp only at p
    split at p
    · rename_i kvs hd hk
      split at p
      · rename_i hn
        have aD' := x.pre _ _ aD
        obtain ⟨vs0, g1, g2, _⟩ := r'.dic hd aD'
        have : vs0 = [] := by simpa using g2
        subst this
        obtain ⟨vs, rfl, k2, k3⟩ := keyP_ok hp hk
        refine ⟨g1, vs, rfl, ?_, ?_⟩
        · have : vs.length = kvs.length := by have := congrArg List.length k2; simpa using this
          rw [this]; exact hn
        · obtain ⟨m1, m2⟩ := merge_ok (kvs := []) (vs := []) k2 k3 (by simp) rfl .nil
          exact p ρ' _ _ ((xD.trans x).trans (r'.setExt aD' g1)) (r'.set aD' ⟨_, upd_same, m1, m2.mono (r'.setExt aD' g1)⟩) (.ref aD')
      · exact p.elim
    · exact p.elim
/-! ### the values of a dict, walked in a comprehension: it is locked meanwhile -/
def nxVals (j : Nat) : NX := fun i s => match s[j]? with
  | some (.fdic kvs) => match kvs[i]? with
    | some kv => some (some kv.2)
    | none => some none
  | _ => none
def iVal (e : EM) : IM := fun lo => bnd (e lo) fun x => match x with
  | .ref j => fun s => match s[j]? with
    | some (.fdic _) => .ok (nxVals j) s
    | _ => .fail
  | _ => failM
/-- c run while the dict of e is locked -/
def eLock (e c : EM) : EM := fun lo s => match e lo s with
  | .ok (.ref j) _ => match s[j]? with
    | some (.dic kvs) => match c lo (s.set j (.fdic kvs)) with
      | .ok v s' => match s'[j]? with
        | some (.fdic _) => .ok v (s'.set j (.dic kvs))
        | _ => .fail
      | _ => .fail
    | _ => .fail
  | _ => .fail
theorem RVs.vals_at {ρ : List Addr} {H : Hp} {kvs : List (Key × Vl)} {vs : List (Key × V)} {i : Nat} {kv : Key × Vl} (e : vs.map (·.1) = kvs.map (·.1)) (h : RVs T ρ H (kvs.map (·.2)) (vs.map (·.2))) (hi : kvs[i]? = some kv) : ∃ z, vs[i]? = some (kv.1, z) ∧ RV T ρ H kv.2 z := by
  obtain ⟨z, h1, h2⟩ := h.get (i := i) (x := kv.2) (by rw [List.getElem?_map, hi]; rfl)
  rw [List.getElem?_map] at h1
  cases q : vs[i]? with
  | none => rw [q] at h1; cases h1
  | some p =>
    rw [q] at h1
    have h1 : p.2 = z := Option.some.inj h1
    have e' : (vs.map (·.1))[i]? = (kvs.map (·.1))[i]? := by rw [e]
    rw [List.getElem?_map, List.getElem?_map, q, hi] at e'
    have e' : p.1 = kv.1 := Option.some.inj e'
    refine ⟨z, ?_, h2⟩
    rw [← h1, ← e']
theorem ci_vals {tg e : Expr} {me : EM} {apos cpos : Pos} (he : PE X e (tE T W me)) (hbase : attributeBase e "values" X.env (eval e X.env) = eval e X.env := by rfl) (hline : (apos.endLine == cpos.line) = true := by rfl) : PI X tg (.Call (.Attribute e "values" apos) [] [] cpos) (tI T W (iVal me)) :=
  pi_mono (pi_values he hbase hline) fun σ H R h => by
    obtain ⟨ρ, s, lo, r, rl, q⟩ := h
    refine po_bnd (R := RV T) (m := me) r rl q fun ρ1 s1 x z H1 ext1 r1 rl1 hx p1 => ?_
    cases hx with
    | ref ha =>
      rename_i j a
      simp only at p1
      split at p1
      · rename_i kvs hj
        obtain ⟨o, vs, h1, h2, h3⟩ := r1.ob _ _ _ ha hj
        refine ⟨a, o, vs, rfl, h1, p1 ρ1 H1 _ .refl r1 ?_⟩
        intro ρ2 H2 s2 i e2 r2
        have ha2 := e2.pre _ _ ha
        have hfz := e2.frd _ _ _ h1
        unfold nxVals
        cases e : s2[j]? with
        | none => trivial
        | some ob =>
          cases ob with
          | fdic kvs2 =>
            obtain ⟨o', vs', g1, g2, g3⟩ := r2.ob _ _ _ ha2 e
            rw [hfz] at g1
            cases g1
            simp only
            have hlen : vs.length = kvs2.length := by have := congrArg List.length g2; simpa using this
            cases e3 : kvs2[i]? with
            | none => exact ⟨hfz, by rw [hlen]; exact List.getElem?_eq_none_iff.mp e3⟩
            | some kv =>
              obtain ⟨w, hw, rw'⟩ := RVs.vals_at g2 g3 e3
              refine ⟨⟨hfz, by rw [hlen]; exact (List.getElem?_eq_some_iff.mp e3).1⟩, fun x H3 y => ?_⟩
              obtain ⟨rfl, k, y⟩ := y
              rw [hw] at y
              cases y
              exact ⟨.refl, r2, rw'⟩
          | _ => trivial
      · exact p1.elim
    | _ => exact p1.elim
theorem lock_le {e c : EM} {t : TE} {σ : L2.St} {H : Hp} {Q : VK} (hc : ∀ H Q, tE T W c σ H Q → t σ H Q) (h : tE T W (eLock e c) σ H Q) : tLockE t σ H Q := by
  obtain ⟨ρ, s, lo, r, rl, p⟩ := h
  unfold eLock at p
  split at p
  · rename_i j s1 e1
    split at p
    · rename_i kvs hj
      split at p
      · rename_i v s' e2
        split at p
        · rename_i kvs' hj'
          obtain ⟨a, ha, _⟩ := r.at hj
          obtain ⟨vs, h1, h2, h3⟩ := r.dic hj ha
          refine ⟨a, .dK vs, h1, trivial, fun od => hc _ _ ?_⟩
          have x1 : Ext T ρ H ρ (upd H a (.frz od (.dK vs))) := r.setExt ha h1
          refine ⟨ρ, s.set j (.fdic kvs), lo, r.set ha ⟨od, vs, upd_same, h2, h3.mono x1⟩, rl.mono x1, ?_⟩
          rw [e2]
          intro ρ' H' z x' r' hz
          have hfz : H' a = some (.frz od (.dK vs)) := x'.frd _ _ _ upd_same
          refine ⟨hfz, ?_⟩
          have ha' := x'.pre _ _ ha
          have e0 : Ext0 T ρ' H' ρ' (upd H' a (.dK vs)) := ext0_set hfz fun z => z
          have e1 : Ext0 T ρ H ρ' (upd H' a (.dK vs)) := ⟨fun i b q => x'.pre i b q, fun b us q => e0.tup _ _ (x'.tup _ _ (x1.tup _ _ q)), fun b o u q => e0.frz _ _ _ (x'.frz _ _ _ (x1.frz _ _ _ q)), fun b u q => e0.xd _ _ (x'.xd _ _ (x1.xd _ _ q))⟩
          refine p ρ' _ z ⟨e1, fun b o u q => ?_⟩ (r'.set ha' ⟨vs, upd_same, h2, h3.mono0 e1⟩) (hz.mono0 e0)
          have nb : b ≠ a := fun z => by subst z; rw [h1] at q; cases q
          rw [upd_ne nb]
          exact x'.frd _ _ _ (x1.frd _ _ _ q)
        · exact p.elim
      · exact p.elim
    · exact p.elim
  · exact p.elim
theorem ce_lock {e : EM} {c : EM} {ex : Expr} (h : PE X ex (tE T W c)) : PE X ex (tE T W (eLock e c)) := pe_mono (pe_lock h) fun σ H Q q => lock_le (fun _ _ z => z) q
/-- list(d.values()) -/
def eListVals (e : EM) : EM := fun lo => bnd (e lo) fun x s => match x with
  | .ref j => match s[j]? with
    | some (.dic kvs) => .ok (.ref s.length) (s ++ [.lst (kvs.map (·.2))])
    | _ => .fail
  | _ => .fail
theorem vals_kv {kvs : List (Key × V)} {us : List (Key × Value)} {acc : Array Value} (r : KV kvs us) (h : ItemsOf (fun i v => ∃ k, us[i]? = some (k, v)) acc us.length) : Vals (kvs.map (·.2)) acc.toList := by
  refine vals_of_at (by rw [List.length_map]; exact (Paired.length r).trans (h.1.symm.trans Array.length_toList.symm)) fun j x u h1 h2 => ?_
  obtain ⟨k, hk⟩ := h.2 j u (by rw [← Array.getElem?_toList]; exact h2)
  rw [List.getElem?_map] at h1
  cases q : kvs[j]? with
  | none => rw [q] at h1; cases h1
  | some p =>
    rw [q] at h1
    cases h1
    obtain ⟨u', e1, e2⟩ := kv_get r (k := p.1) (v := p.2) q
    rw [hk] at e1
    cases e1
    exact e2
theorem ce_listVals {e : Expr} {me : EM} {p pos apos cpos : Pos} (hc : X.calm = true) (hg : Gl X "list") (hm : X.mg "list" = none) (he : PE X e (tE T W me)) (hbase : attributeBase e "values" X.env (eval e X.env) = eval e X.env := by rfl) (hline : (apos.endLine == cpos.line) = true := by rfl)
    (hs : starEach [Expr.Call (.Attribute e "values" apos) [] [] cpos] X.env = (false, eval (Expr.Call (.Attribute e "values" apos) [] [] cpos) X.env) :: starEach [] X.env := by rfl) (hpl : (backTo pos (starEach [] X.env)).any (·.1) = false := by rfl) :
    PE X (.Call (.Name "list" p) [.Call (.Attribute e "values" apos) [] [] cpos] [] pos) (tE T W (eListVals me)) := by
  refine ⟨fun pins s σ H Q I h => wpAny_Call_Name_kw (ld_blt I hg hm (show bootBuiltins "list" = some (.type "list") by decide +kernel) (callWith_type1 ?_ hs hpl))⟩
  have h : tE T W me σ H fun x H1 => ∃ (d : Addr) (vs : List (Key × V)), x = .ref d ∧ H1 d = some (.dK vs) ∧ ∀ q, H1 q = none → Q (.ref q) (upd H1 q (.lst (vs.map (·.2)))) := tG_bnd (R := RV T) h fun ρ s lo x z H1 r rl hx p => by
    cases hx with
    | ref ha =>
      simp only at p
      split at p
      · rename_i kvs hj
        obtain ⟨vs, h1, h2, h3⟩ := r.dic hj ha
        exact ⟨_, vs, rfl, h1, fun q hq => Aft.lst p r h3 hq⟩
      · exact p.elim
    | _ => exact p.elim
  rw [hs]
  refine Calls.spliced_cons (wpAny_Call_method (T := "dict") (id := "dict.values") hbase rfl hline F.plainAttrs_dict F.slot_dict_values F.type_dict_values (thn (he.run pins s σ H _ I h) fun u s1 ⟨x, H1, I1, rx, d, vs, ex, hd, q⟩ => ?_))
  subst ex
  obtain rfl : u = Value.ref d := rx
  obtain ⟨z, lo, us, rk, hD⟩ := dk_of I1.hok hd
  obtain ⟨ep, hat⟩ := hD.dictAt
  refine ⟨hat.dictOf.typeIs, hat.dictOf.mapOf.noDict, ?_⟩
  show wpAny _ _ (callWith cpos (.builtin "dict.values") [.ref d] [] []) _ X.xe s1
  refine method_meetsIn F.slot_dict_values F.entry_dict_values rfl (PySem.evalArgs_none ⟨rfl, hat.dictOf.typeIs, F.args_dict_values_1 _, _, meets_dict_values (mixKind X.prog X.w) d lo, ⟨us, hat.dictOf⟩, Calls.spliced_nil ?_⟩)
  have I2 : Inv X pins σ H1 { s1 with heap := s1.heap.push { cls := .type "dict_values", data := .fields #[.ref d] } } := I1.kept (t' := s1.toks) fun b ob q => Heap.get?_push_of_some _ q
  refine PySem.W.kdl_call (PySem.W.kdl_values (knd := mixKind X.prog X.w) (r := s1.heap.objs.size) (d := d) (kvs := us) (ep := ep)) (I.ok.hd hc) ⟨⟨_, Heap.get?_push_size _ rfl, rfl, rfl⟩, hat.push _⟩ (by rw [← Paired.length rk]; exact z) fun h' tk acc c hk hS hacc => ?_
  have hf := I2.hok.fresh (Nat.le_refl _)
  refine ⟨.ref _, _, I2.laid (o := .lst (vs.map (·.2))) (t' := tk) hk (Nat.le_refl _) ⟨by rw [List.length_map]; exact z, acc.toList, c, vals_kv rk hacc, by rw [Array.toArray_toList]; exact hS⟩, rfl, q _ hf⟩
end
end Sm

/-! S18: walls (code that the pure program never reaches), recursion -/
namespace Sm
open PySem L2
section
variable {X : Cx} {T : Tb} {W : WX}
def eFail : EM := fun _ => failM
def sFail : SM := fun _ _ => .fail
theorem tG_fail {α β : Type} {R : List Addr → Hp → α → β → Prop} {σ : St} {H : Hp} {Q : β → Hp → Prop} (h : tG R T W (fun _ => failM) σ H Q) : False := by
  obtain ⟨ρ, s, lo, _, _, p⟩ := h
  exact p
theorem ce_fail {e : Expr} : PE X e (tE T W eFail) := ⟨fun pins s σ H Q I h => (tG_fail h).elim⟩
theorem cs_fail {st : Stmt} : PS X st (tS T W sFail) := ⟨fun pins s σ H D I h => by
  obtain ⟨ρ, s, lo, _, _, p⟩ := h
  exact p.elim⟩
end
def mFail : List Vl → M Vl := fun _ => failM
theorem fnG_fail {P : Program} {w : World} {K : PySem.W.Frag} {mg : Str → Option Value} {base : Heap} {k n : Nat} {f : Addr} {fd : FuncData} {ps : List Str} {T : Tb} : FnG P w K mg base k f fd ps (SpM T n mFail) :=
  ⟨fun vs H Q E ⟨_, _, _, _, _, _, p⟩ => p.elim, fun A outer s H args us vs Q E _ _ _ _ _ ⟨_, _, _, _, _, _, p⟩ => p.elim⟩
end Sm

/-! S19: making objects of classes without an __init__ -/
namespace Sm
open PySem L2 PySem.W
structure MkB (K : PySem.W.Frag) (C : Addr) : Prop where
  makes : PySem.W.makesIn K C = true
  init : PySem.W.findIn K (.ref C) "__init__" = some (some (.builtin "object.__init__"))
  top : PySem.W.mroIn K C (.type "object") = some true
  kp : PySem.W.keepIn K (.ref C) = true
/-- object.__init__ of a new object -/
theorem oiK {K : PySem.W.Frag} {P : Program} {w : World} {A : Around} {C y : Addr} {o : Obj} {R : Result → Shared → Prop} {s : Shared} (B : MkB K C) (X : K.In s.heap) (ho : s.heap.get? y = some o) (hc : o.cls = .ref C) (q : R (.ok (.ret (.ref y))) s) :
    codeAny (model P w) A (.call (.builtin "object.__init__") ⟨[.ref y], []⟩) (PySem.W.InitBack y R) s := by
  have t1 : Looks (model P w) s.heap (typeOf (.ref y)) (.ref C) := NwA.type_at ho hc
  have t2 : Looks (model P w) s.heap (isInstance (.ref y) (.type "object")) true := t1.andThen (looks_mroIn X B.top)
  refine codeAny_call_builtin oi_plain entry_oi (@check_slot (model P w) _ _ _ "object.__init__" "object" "__init__" (.ref y) [] [] _ oi_kind oi_split t2 (NwA.oi_args_any (.ref y) [] []) ?_)
  obtain ⟨hh, g, d, t, os⟩ := s
  rw [oi_run]
  exact wpAny_pure (And.intro rfl q)
def eMakeB (c : Nat) : EM := fun _ s => .ok (.ref s.length) (s ++ [.ins c []])
theorem ce_makeB {X : Cx} {T : Tb} {W : WX} {p pos : Pos} {C : Addr} {c : Nat} {x : Str} (B : MkB X.K C) (hg : Gl X x) (hm : X.mg x = some (.ref C)) (hc : T.cl[c]? = some C)
    (hdb : (x == ("__debug__" : Str)) = false := by decide) : PE X (.Call (.Name x p) [] [] pos) (tE T W (eMakeB c)) := by
  refine ⟨fun pins s σ H Q I h => wpAny_Call_Name_kw (ld_glob I hg hm ?_ hdb)⟩
  obtain ⟨ρ, st, lo, rel, rl, q⟩ := h
  refine PySem.W.callWith_K0 I.kIn B.kp ?_
  have f1 : H (s.heap.objs.size + 1) = none := I.hok.fresh (Nat.le_succ _)
  have f0 : H s.heap.objs.size = none := I.hok.fresh (Nat.le_refl _)
  have ne : s.heap.objs.size + 1 ≠ s.heap.objs.size := Nat.succ_ne_self _
  have I2 := Inv.made (C := C) I
  have relD : Rel T ρ (upd H s.heap.objs.size (.own (s.heap.objs.size + 1))) st := rel.laid f0
  have f1' : upd H s.heap.objs.size (.own (s.heap.objs.size + 1)) (s.heap.objs.size + 1) = none := by rw [upd_ne ne]; exact f1
  have ext : Ext T ρ H (ρ ++ [s.heap.objs.size + 1]) (upd (upd H s.heap.objs.size (.own (s.heap.objs.size + 1))) (s.heap.objs.size + 1) (.ins C s.heap.objs.size [])) := (ext_upd f0).trans (relD.newExt f1')
  have relN : Rel T (ρ ++ [s.heap.objs.size + 1]) (upd (upd H s.heap.objs.size (.own (s.heap.objs.size + 1))) (s.heap.objs.size + 1) (.ins C s.heap.objs.size [])) (st ++ [.ins c []]) := relD.new f1' ⟨C, _, [], hc, upd_same, rfl, .nil⟩
  have hQ := q _ _ (V.ref (s.heap.objs.size + 1)) ext relN rel.newRef
  refine wpAny_call (make_map0 I.kIn B.makes B.init (fun self => Looks.of_pure (oi_bind self)) (oiK (o := PySem.W.instObj C s.heap.objs.size) B I2.kIn ?_ rfl ?_))
  · exact Heap.get?_push_size (h := s.heap.push PySem.W.emptyDict) (o := PySem.W.instObj C s.heap.objs.size) rfl |> fun e => by
      have l : (s.heap.push PySem.W.emptyDict).objs.size = s.heap.objs.size + 1 := by simp [Heap.push]
      rw [l] at e
      exact e
  · exact ⟨V.ref (s.heap.objs.size + 1), _, I2, rfl, hQ⟩
end Sm

/-! S22: defs with a star parameter, objects made by such an __init__; objects that are called -/
namespace Sm
open PySem PySem.Spec PyProof.Rows L2
/-- a def's promise at any number of arguments -/
def FnV (P : Program) (w : World) (K : PySem.W.Frag) (mg : Str → Option Value) (base : Heap) (k : Nat) (f : Addr) (sp : Sp) : Prop :=
  ∀ (A : Around) (outer : List Env) (s : Shared) (H : Hp) (us : List Value) (vs : List V) (Q : VK) (E : XK), Room k A → A.guards = some [] → Env0 P w K mg base A outer s H → Vals vs us → sp vs H Q E →
    codeAny (model P w) A (.call (.ref f) ⟨us, []⟩) (CR (L2N.CX P w) outer P w H s Q E) s
theorem FnV.mono {P : Program} {w : World} {K : PySem.W.Frag} {mg : Str → Option Value} {base : Heap} {j k : Nat} {f : Addr} {sp : Sp} (F : FnV P w K mg base j f sp) (h : j ≤ k) : FnV P w K mg base k f sp := fun A outer s H us vs Q E hr => F A outer s H us vs Q E (hr.mono h)
def SpV (T : Tb) (m : List Vl → M Vl) : Sp := fun vs H Q E => ∃ (ρ : List Addr) (s : Sto) (as : List Vl), Rel T ρ H s ∧ RVs T ρ H as vs ∧ Po (RV T) T E ρ H (m as s) Q
/-- n parameters, the rest a tuple -/
def starM (n : Nat) (mf : List Vl → M Vl) : List Vl → M Vl := fun as s => if n ≤ as.length ∧ as.length ≤ LIM then mf (as.take n ++ [.tup (as.drop n)]) s else .fail
/-- how a def with a star parameter binds -/
def BindV (fd : FuncData) (ps : List Str) (pv : Str) : Prop := ∀ us rest : List Value, us.length = ps.length → bindArgs fd ⟨us ++ rest, []⟩ = (newTuple rest >>= fun t => pure (ps.zip us ++ [(pv, t)]))
theorem cxUpN {P : Program} {w : World} : StX.CXUp (L2N.CX P w) := by
  rintro out s H s2 H2 E e s' un kp ho ⟨a, B, H', cls, d, ea, fl, hok, ub, na, os, ag, he⟩
  have fr : ∀ b o, s.heap.get? b = some o → H b = none → H2 b = none := fun b o q n => un.free b o q n (by simp)
  refine ⟨a, B, H', cls, d, ea, fl, hok, ⟨fun b o q n hb => ub.keep b o (kp b o q) (fr b o q n) hb, fun b o q hb => ub.slot b o (kp b o q) hb, fun b o q n => ub.free b o (kp b o q) (fr b o q n), fun b o q hb => ub.there b o (kp b o q) hb, fun b xs q => ub.tups b xs (un.tups b xs q), fun b o xs q => ub.frzs b o xs (un.frzs b o xs q), fun b ps q => ?_⟩, na, os.trans ho, ag, he⟩
  obtain ⟨m1, e1⟩ := un.tbls b ps q
  obtain ⟨m2, e2⟩ := ub.tbls b _ e1
  exact ⟨m1 ++ m2, by rw [e2, Array.append_assoc]⟩
theorem Fun.bindV {K : PySem.W.Frag} {x qual : Str} {st : Stmt} {f : Addr} {fd : FuncData} {ps : List Str} {pv : Str} (F : Fun K x qual st f fd)
    (h : ∀ (kV doc pm : Value) (an : Option Addr) (cdv ct : Value) (us rest : List Value), us.length = ps.length → bindArgs (PySem.W.fnOf x qual (defArgs st) (defBody st) (defScope st) .none kV doc pm an cdv ct) ⟨us ++ rest, []⟩ = (newTuple rest >>= fun t => pure (ps.zip us ++ [(pv, t)]))) : BindV fd ps pv := by
  obtain ⟨oc, od, kV, doc, pm, an, cdv, ct, osl, rfl, lk, hcd⟩ := F.ex
  exact h kV doc pm an cdv ct
theorem fn_simV {P : Program} {w : World} {K : PySem.W.Frag} {mg : Str → Option Value} {base : Heap} {k n : Nat} {x qual : Str} {st : Stmt} {f : Addr} {fd : FuncData} {N ps : List Str} {pv : Str} {T : Tb} {b : SM} (F : Fun K x qual st f fd) (S : FnScope N (ps ++ [pv]) (defScope st)) (hn : n = ps.length) (hb : BindV fd ps pv)
    (body : ∀ (cdv : Value) (A : Around) (outer : List Env) (s : Shared) (H : Hp) (E : XK), Room k (A.deeper (envOfC qual (defScope st) s.heap.objs.size f cdv)) → A.guards = some [] →
      PSs (cxOf (L2N.CX P w) P w K mg base N qual (defScope st) f cdv A outer s H E) (defBody st) (tS T (fun c d _ H' => E c d H') b)) (hx : T.xs = [] := by rfl) : FnV P w K mg base (k + 1) f (SpV T (starM n (fnM N.length b))) := by
  obtain ⟨oc, od, kV, doc, pm, an, cdv, ct, osl, rfl, lk, hcd⟩ := F.ex
  intro A outer s H us vs Q E hr hg e0 r ⟨ρ, sto, as, rel, has, p⟩
  unfold starM at p
  split at p
  · rename_i hl
    have hvl : as.length = vs.length := has.length
    have hsp : vs.take n ++ vs.drop n = vs := List.take_append_drop n vs
    have r' : Vals (vs.take n ++ vs.drop n) us := by rw [hsp]; exact r
    obtain ⟨u1, u2, eu, r1, r2⟩ := StX.vals_split r'
    subst eu
    have hlw : (vs.take n).length = ps.length := by rw [List.length_take]; omega
    have hl1 : u1.length = ps.length := by rw [← r1.length]; exact hlw
    have hz : (vs.drop n).length ≤ sizeLine := by rw [List.length_drop, lim_eq]; omega
    have hl2 : u2.length ≤ sizeLine := by rw [← r2.length]; exact hz
    have hnn : H s.heap.objs.size = Option.none := e0.hok.fresh (Nat.le_refl _)
    refine StX.run_bnd lk hcd S hr e0 (G := fun xs H2 => ∃ p, H p = Option.none ∧ xs = vs.take n ++ [V.ref p] ∧ H2 = upd H p (.tup (vs.drop n))) (fun A' Ex Q' h => ?_) fun s2 H2 xs ⟨a, hp, ex, eH⟩ hr' => ?_
    · rw [hb u1 u2 hl1]
      refine wpAny_bind (wpAny_newTuple (wpAny_pure ?_) hl2)
      have new : ObjOk P w (upd H s.heap.objs.size (.tup (vs.drop n))) (s.heap.push ({ cls := .type "tuple", data := .seq u2.toArray } : Obj)) s.heap.objs.size (.tup (vs.drop n)) := ⟨hz, u2, r2, ⟨_, Heap.get?_push_size _ rfl, rfl, _, rfl⟩⟩
      have un := StX.un_laid (fs := frs outer) (s := s) (o := ({ cls := .type "tuple", data := .seq u2.toArray } : Obj)) (u := .tup (vs.drop n)) hnn
      have z := h _ _ (vs.take n ++ [V.ref s.heap.objs.size]) (u1 ++ [Value.ref s.heap.objs.size]) (StX.env0_laid e0 new) un rfl (fun e s' => cxUpN outer s H _ _ E e s' un (fun b o q => Heap.get?_push_of_some _ q) rfl) (r1.append (.cons rfl .nil))
        (by rw [List.length_append, List.length_append, hlw] <;> rfl) ⟨_, hnn, rfl, rfl⟩
      rw [List.zip_append hl1.symm] at z
      exact z
    · subst ex eH
      refine ⟨_, body cdv A outer s2 _ E hr' hg, fn_body (n := n + 1) hx ?_⟩
      have ext : Ext T ρ H ρ (upd H a (.tup (vs.drop n))) := ext_upd hp
      exact ⟨ρ, sto, as.take n ++ [.tup (as.drop n)], rel.laid hp, ((has.take n).mono ext).append (.cons (.tup (.inl (.inl upd_same)) ((has.drop n).mono ext)) .nil), by simp; omega, p.mono ext⟩
  · exact p.elim
section
variable {X : Cx} {T : Tb} {W : WX} {e : Expr} {es : List Expr} {p pos : Pos} {ma : AM} {C f : Addr} {k c : Nat} {mi : List Vl → M Vl} {x : Str}
theorem run_mkV {pins : List (Addr × Obj)} {σ : L2.St} {H : Hp} {s : Shared} {Q : VK} {us : List Value} {vs : List V} (M : Mk X.K C f) (F : FnV X.prog X.w X.K X.mg X.base k f (SpV T mi)) (hr : Room (k + 1) X.A) (hgd : X.A.guards = some []) (tk : L2N.Takes X W) (hc : T.cl[c]? = some C)
    (I : Inv X pins σ H s) (r : Vals vs us)
    (h : ∃ (ρ : List Addr) (st : Sto) (as : List Vl), Rel T ρ H st ∧ RVs T ρ H as vs ∧ Po (RV T) T (fun c d H' => W c d σ H') ρ H (match mi (.ref st.length :: as) (st ++ [.ins c []]) with
      | .ok .non s' => .ok (.ref st.length) s'
      | .ok _ _ => .fail
      | .exc e s' => .exc e s'
      | .fail => (.fail : Res Vl)) Q) : wpAny (model X.prog X.w) X.A (call (.ref C) us) (EP X pins σ Q) X.xe s := by
  obtain ⟨ρ, st, as, rel, has, p⟩ := h
  have f1 : H (s.heap.objs.size + 1) = none := I.hok.fresh (Nat.le_succ _)
  have f0 : H s.heap.objs.size = none := I.hok.fresh (Nat.le_refl _)
  have ne : s.heap.objs.size + 1 ≠ s.heap.objs.size := Nat.succ_ne_self _
  have I2 := Inv.made (C := C) I
  have r2 : Vals (V.ref (s.heap.objs.size + 1) :: vs) (Value.ref (s.heap.objs.size + 1) :: us) := .cons rfl r
  have relD : Rel T ρ (upd H s.heap.objs.size (.own (s.heap.objs.size + 1))) st := rel.laid f0
  have f1' : upd H s.heap.objs.size (.own (s.heap.objs.size + 1)) (s.heap.objs.size + 1) = none := by rw [upd_ne ne]; exact f1
  have ext : Ext T ρ H (ρ ++ [s.heap.objs.size + 1]) (upd (upd H s.heap.objs.size (.own (s.heap.objs.size + 1))) (s.heap.objs.size + 1) (.ins C s.heap.objs.size [])) := (ext_upd f0).trans (relD.newExt f1')
  have relN : Rel T (ρ ++ [s.heap.objs.size + 1]) (upd (upd H s.heap.objs.size (.own (s.heap.objs.size + 1))) (s.heap.objs.size + 1) (.ins C s.heap.objs.size [])) (st ++ [.ins c []]) := relD.new f1' ⟨C, _, [], hc, upd_same, rfl, .nil⟩
  have sp : SpV T mi (V.ref (s.heap.objs.size + 1) :: vs) (upd (upd H s.heap.objs.size (.own (s.heap.objs.size + 1))) (s.heap.objs.size + 1) (.ins C s.heap.objs.size [])) (fun v H2 => v = .non ∧ Q (.ref (s.heap.objs.size + 1)) H2) fun c d H' => W c d σ H' := by
    refine ⟨_, _, .ref st.length :: as, relN, .cons rel.newRef (has.mono ext), ?_⟩
    cases e : mi (.ref st.length :: as) (st ++ [.ins c []]) with
    | fail => rw [e] at p; exact p
    | exc z s' => rw [e] at p; exact fun ρ' H' D x' => p ρ' H' D (ext.trans x')
    | ok v s' =>
      rw [e] at p
      intro ρ' H' z x' r' hz
      cases v <;> try exact p.elim
      exact ⟨hz.nonE, p ρ' H' _ (ext.trans x') r' (.ref (x'.pre _ _ (by rw [← rel.len, List.getElem?_append_right (Nat.le_refl _)]; simp)))⟩
  refine wpAny_call (make_map (f := f) I.kIn M.makes M.init (beq_iff_eq.mp M.fn) (codeAny_mono (F _ X.stack _ _ (Value.ref (s.heap.objs.size + 1) :: us) _ _ _ (hr.make C us []) (under_guards hgd) (I2.env0.make C us []) r2 sp) fun z s' hq => ?_))
  cases z with
  | error y => exact tk y s' (L2N.XE.of_call I2 (fun _ _ _ q => q) hq)
  | ok fl =>
    cases fl with
    | ret u =>
      obtain ⟨v, H', I3, rv, ev, q3⟩ := I2.after hq
      subst ev
      exact ⟨rv, ⟨V.ref (s.heap.objs.size + 1), H', I3, rfl, q3⟩⟩
    | next => exact hq.elim
    | brk => exact hq.elim
    | cont => exact hq.elim
theorem ce_makeV (M : Mk X.K C f) (F : FnV X.prog X.w X.K X.mg X.base k f (SpV T mi)) (hr : Room (k + 1) X.A) (hgd : X.A.guards = some []) (hg : Gl X x) (hm : X.mg x = some (.ref C)) (tk : L2N.Takes X W) (hc : T.cl[c]? = some C) (ha : PA X (e :: es) (tA T W ma))
    (hdb : (x == ("__debug__" : Str)) = false := by decide) (he : starEach (e :: es) X.env = (false, eval e X.env) :: starEach es X.env := by rfl) (hpl : (backTo pos (starEach es X.env)).any (·.1) = false := by rfl) :
    PE X (.Call (.Name x p) (e :: es) [] pos) (tE T W (eMake c mi ma)) := by
  refine ⟨fun pins s σ H Q I h => wpAny_Call_Name_kw (ld_glob I hg hm ?_ hdb)⟩
  have h : tA T W ma σ H fun vs H1 => ∃ (ρ : List Addr) (st : Sto) (as : List Vl), Rel T ρ H1 st ∧ RVs T ρ H1 as vs ∧ Po (RV T) T (fun c d H' => W c d σ H') ρ H1 (match mi (.ref st.length :: as) (st ++ [.ins c []]) with
      | .ok .non s' => .ok (.ref st.length) s'
      | .ok _ _ => .fail
      | .exc e s' => .exc e s'
      | .fail => (.fail : Res Vl)) Q := tG_bnd (R := RVs T) h fun ρ s lo xs zs H1 r rl hx q => ⟨ρ, s, xs, r, hx, q⟩
  refine PySem.W.callWith_K (h₀ := X.base) I.ok.mod.kin M.kp (thn (ha.run pos pins s σ H _ I h) fun us s1 ⟨vs, H1, I1, r, q⟩ => ⟨I1.kIn, ?_⟩) he hpl
  exact run_mkV M F hr hgd tk hc I1 r q
theorem ce_makeV0 (M : Mk X.K C f) (F : FnV X.prog X.w X.K X.mg X.base k f (SpV T mi)) (hr : Room (k + 1) X.A) (hgd : X.A.guards = some []) (hg : Gl X x) (hm : X.mg x = some (.ref C)) (tk : L2N.Takes X W) (hc : T.cl[c]? = some C)
    (hdb : (x == ("__debug__" : Str)) = false := by decide) : PE X (.Call (.Name x p) [] [] pos) (tE T W (eMake c mi aNil)) := by
  refine ⟨fun pins s σ H Q I h => wpAny_Call_Name_kw (ld_glob I hg hm ?_ hdb)⟩
  obtain ⟨ρ, st, lo, r, rl, q⟩ := h
  exact PySem.W.callWith_K0 I.kIn M.kp (run_mkV (us := []) (vs := []) M F hr hgd tk hc I .nil ⟨ρ, st, [], r, .nil, q⟩)
end
/-! ### objects that are called -/
def eCallO (tab : MTab) (o : EM) (a : AM) : EM := fun lo => bnd (o lo) fun x s => match x with
  | .ref j => bnd (a lo) (fun as s => match s[j]? with
    | some (.ins c fs) => match tab c with
      | some mf => mf (.ref j :: as) s
      | none => .fail
    | _ => .fail) s
  | _ => .fail
def CallOk (X : Cx) (T : Tb) (k n : Nat) (tab : MTab) : Prop := ∀ c mf, tab c = some mf → ∀ C, T.cl[c]? = some C → ∃ (f : Addr) (fd : FuncData) (ps : List Str), StX.CallO T.K C f ∧ FnG X.prog X.w X.K X.mg X.base k f fd ps (SpM T (n + 1) mf) ∧ Binds X.K fd ps []
section
variable {X : Cx} {T : Tb} {W : WX} {k n : Nat} {f : Addr} {fd : FuncData} {ps : List Str} {mf : List Vl → M Vl} {pos : Pos} {e o : Expr} {es : List Expr} {ma : AM} {mo : EM} {ds : List Value} {dvs : List V}
theorem code_G {sp : Sp} {pins : List (Addr × Obj)} {σ : L2.St} {H : Hp} {s : Shared} {Q : VK} {us : List Value} {vs : List V} (F : FnG X.prog X.w X.K X.mg X.base k f fd ps sp) (hr : Room k X.A) (hg : X.A.guards = some []) (hb : Binds X.K fd ps ds) (hd : Vals dvs ds) (tk : L2N.Takes X W)
    (I : Inv X pins σ H s) (r : Vals vs us) (h : sp (vs ++ dvs) H Q fun c d H' => W c d σ H') :
    codeAny (model X.prog X.w) X.A (.call (.ref f) ⟨us, []⟩) (fun r s' => match r with | .ok (.ret v) => EP X pins σ Q v s' | .ok _ => False | .error e => X.xe e s') s := by
  have r2 : Vals (vs ++ dvs) (us ++ ds) := r.append hd
  refine codeAny_mono (F.run X.A X.stack s H ⟨us, []⟩ (us ++ ds) (vs ++ dvs) Q _ hr hg I.env0 (hb s us I.kIn (by rw [← r2.length]; exact F.len _ _ _ _ h)) r2 h) fun z s' hq => ?_
  cases z with
  | error y => exact tk y s' (L2N.XE.of_call I (fun _ _ _ q => q) hq)
  | ok fl =>
    cases fl with
    | ret u => exact I.after hq
    | next => exact hq.elim
    | brk => exact hq.elim
    | cont => exact hq.elim
theorem ce_callO {tab : MTab} (ok : CallOk X T k n tab) (hr : Room k X.A) (hgd : X.A.guards = some []) (tk : L2N.Takes X W) (ho : PE X o (tE T W mo)) (ha : PA X (e :: es) (tA T W ma))
    (ht : eval (.Call o (e :: es) [] pos) X.env = (do callWith pos (← eval o X.env) [] (backTo pos (starEach (e :: es) X.env)) (backToKw pos (keywordEach [] X.env))) := by rfl)
    (he : starEach (e :: es) X.env = (false, eval e X.env) :: starEach es X.env := by rfl) (hpl : (backTo pos (starEach es X.env)).any (·.1) = false := by rfl) (hK : X.K = T.K := by rfl) :
    PE X (.Call o (e :: es) [] pos) (tE T W (eCallO (tabA n tab) mo ma)) := by
  refine ⟨fun pins s σ H Q I h => ?_⟩
  have h : tE T W mo σ H fun x H1 => ∃ a, x = V.ref a ∧ tA T W ma σ H1 fun vs H2 => ∃ (C dx f : Addr) (fs : List (Str × V)) (mf : List Vl → M Vl) (fd : FuncData) (ps : List Str), H2 a = some (.ins C dx fs) ∧ StX.CallO T.K C f ∧ FnG X.prog X.w X.K X.mg X.base k f fd ps (SpM T (n + 1) mf) ∧ Binds X.K fd ps [] ∧
      SpM T (n + 1) mf (.ref a :: vs ++ []) H2 Q fun c d H' => W c d σ H' := tG_bnd (R := RV T) h fun ρ s lo x z H1 r rl hx p => by
    cases hx with
    | ref hρ =>
      rename_i j a
      refine ⟨a, rfl, po_bnd (R := RVs T) (m := ma) r rl p fun ρ' s' as zs H' ext r' rl' has p' => ?_⟩
      split at p'
      · rename_i c fs hj
        split at p'
        · rename_i mf hm
          unfold tabA at hm
          obtain ⟨mf0, hm0, rfl⟩ := Option.map_eq_some_iff.mp hm
          obtain ⟨C, dx, vs, h1, h2, h3, h4⟩ := r'.ins hj (ext.pre _ _ hρ)
          obtain ⟨f, fd, ps, k2, k3, k4⟩ := ok c mf0 hm0 C h1
          refine ⟨C, dx, f, vs, mf0, fd, ps, h2, k2, k3, k4, ?_⟩
          unfold arg at p'
          split at p'
          · rename_i hl
            rw [List.append_nil]
            exact spM_of r' (.cons (.ref (ext.pre _ _ hρ)) has) hl p'
          · exact p'.elim
        · exact p'.elim
      · exact p'.elim
    | _ => exact p.elim
  refine Call_ (thn (ho.run pins s σ H _ I h) fun u s1 ⟨y, H1, I1, ry, a, ey, q⟩ => ?_) ht
  subst ey
  obtain rfl : u = Value.ref a := ry
  refine StX.callO_with (thn (ha.run pos pins s1 σ H1 _ I1 q) fun us s2 ⟨vs, H2, I2, r, C, dx, f, fs, mf, fd, ps, hi, co, F, hb, q2⟩ => ?_) he hpl
  obtain ⟨ox, od, J, hd⟩ := StX.insC_at (C := C) I2 (.inr ⟨dx, fs, hi⟩)
  rw [← hK] at co
  exact ⟨⟨C, ox, od, J, hd⟩, wpAny_call (PySem.W.kco_code I2.kIn J hd co.at_ co.fn co.fi (code_G (us := .ref a :: us) (vs := .ref a :: vs) F hr hgd hb .nil tk I2 (.cons rfl r) q2))⟩
end
end Sm

/-! S20: str.join, dict(d), sorted(d) -/
namespace Sm
open PySem L2
section
variable {X : Cx} {T : Tb}
/-- x.join(list of strs) -/
def oJoin : OMt
  | .str a, [x], s => match lstOf x s with
    | some xs => match mapO asStr xs with
      | some ys => if (ys.map (·.length)).sum + ys.length * a.length ≤ LIM then some (.str (Txt.join a ys), s) else none
      | none => none
    | none => none
  | _, _, _ => none
theorem m_join : MtR X "str.join" (rMt T oJoin) := MtR.imp mt_join fun x xs H Q q => by
  obtain ⟨ρ, st, a, as, w, s', r, ha, hs, e, k⟩ := q
  unfold oJoin at e
  split at e
  · split at e
    · rename_i ys hx
      split at e
      · rename_i zs hz
        split at e
        · rename_i hl
          cases e
          obtain ⟨z, rfl, hz'⟩ := hs.one
          obtain ⟨p, vs, rfl, h1, h2⟩ := lstOf_ok r hz' hx
          have ev := asStrs_ok h2 hz
          subst ev
          cases ha
          exact ⟨_, p, zs, rfl, rfl, .inl (SqL.of h1), hl, k.here r (.str _)⟩
        · cases e
      · cases e
    · cases e
  · cases e
/-- dict(d) -/
def oDict : OC
  | [.ref j], s => match s[j]? with
    | some (.dic kvs) => some (.ref s.length, s ++ [.dic kvs])
    | _ => none
  | _, _ => none
theorem c_dict : CallR X (.type "dict") (rC T oDict) := CallR.imp call_dictD fun xs H Q q => by
  obtain ⟨ρ, st, as, w, s', r, ha, e, k⟩ := q
  unfold oDict at e
  split at e
  · split at e
    · rename_i kvs hx
      cases e
      obtain ⟨z, rfl, hz⟩ := ha.one
      obtain ⟨p, rfl, hp⟩ := hz.refE
      obtain ⟨vs, h1, h2, h3⟩ := r.dic hx hp
      exact ⟨p, vs, rfl, .inl h1, fun q hq => k.new r hq ⟨vs, upd_same, h2, h3.mono (r.newExt hq)⟩⟩
    · cases e
  · cases e
end
end Sm

/-! S21: texts in order; sorted of lists, sets and dicts -/
namespace Sm
open PySem L2 PySem.Spec
theorem lt_irr : ∀ a : List Nat, ltCps a a = false
  | [] => rfl
  | x :: a => by simp [ltCps, lt_irr a]
theorem lt_anti : ∀ a b : List Nat, ltCps a b = false → ltCps b a = false → a = b
  | [], [], _, _ => rfl
  | [], _ :: _, h, _ => by simp [ltCps] at h
  | _ :: _, [], _, h => by simp [ltCps] at h
  | x :: a, y :: b, h1, h2 => by
    simp [ltCps] at h1 h2
    have e : x = y := Nat.le_antisymm h2.1 h1.1
    subst e
    rw [lt_anti a b (h1.2 rfl) (h2.2 rfl)]
theorem lt_asym : ∀ a b : List Nat, ltCps a b = true → ltCps b a = false
  | [], [], h => by simp [ltCps] at h
  | [], _ :: _, _ => by simp [ltCps]
  | _ :: _, [], h => by simp [ltCps] at h
  | x :: a, y :: b, h => by
    simp [ltCps] at h ⊢
    rcases h with h | ⟨rfl, h⟩
    · exact ⟨by omega, fun e => by omega⟩
    · exact ⟨Nat.le_refl _, fun _ => lt_asym a b h⟩
/-- a ≤ b is: not b < a -/
theorem le_trans3 : ∀ a b c : List Nat, ltCps b a = false → ltCps c b = false → ltCps c a = false
  | [], _, [], _, _ => rfl
  | [], [], _ :: _, _, _ => by simp [ltCps]
  | [], _ :: _, _ :: _, _, _ => by simp [ltCps]
  | _ :: _, [], _, h, _ => by simp [ltCps] at h
  | _ :: _, _ :: _, [], _, h => by simp [ltCps] at h
  | x :: a, y :: b, z :: c, h1, h2 => by
    simp [ltCps] at h1 h2 ⊢
    refine ⟨by omega, fun e => ?_⟩
    have e1 : y = x := by omega
    have e2 : z = y := by omega
    exact le_trans3 a b c (h1.2 e1) (h2.2 e2)
abbrev leS (a b : Str) : Prop := ltCps b.cps.toList a.cps.toList = false
theorem leS_total (a b : Str) : leS a b ∨ leS b a := by
  cases h : ltCps b.cps.toList a.cps.toList with
  | false => exact .inl h
  | true => exact .inr (lt_asym _ _ h)
def insT (x : Str) : List Str → List Str
  | [] => [x]
  | y :: ys => if ltCps y.cps.toList x.cps.toList then y :: insT x ys else x :: y :: ys
def srtT : List Str → List Str
  | [] => []
  | x :: xs => insT x (srtT xs)
theorem insT_perm (x : Str) : ∀ ys : List Str, (insT x ys).Perm (x :: ys)
  | [] => .refl _
  | y :: ys => by
    unfold insT
    split
    · exact (List.Perm.cons y (insT_perm x ys)).trans (List.Perm.swap x y ys)
    · exact .refl _
theorem srtT_perm : ∀ xs : List Str, (srtT xs).Perm xs
  | [] => .refl _
  | x :: xs => (insT_perm x (srtT xs)).trans (List.Perm.cons x (srtT_perm xs))
theorem insT_sorted (x : Str) : ∀ ys : List Str, ys.Pairwise leS → (insT x ys).Pairwise leS
  | [], _ => List.pairwise_singleton _ _
  | y :: ys, h => by
    have h' := List.pairwise_cons.mp h
    unfold insT
    split
    · rename_i q
      refine List.pairwise_cons.mpr ⟨fun z hz => ?_, insT_sorted x ys h'.2⟩
      rcases List.mem_cons.mp ((insT_perm x ys).mem_iff.mp hz) with rfl | hz
      · exact lt_asym _ _ q
      · exact h'.1 z hz
    · rename_i q
      have q : leS x y := by simpa using q
      refine List.pairwise_cons.mpr ⟨fun z hz => ?_, h⟩
      rcases List.mem_cons.mp hz with rfl | hz
      · exact q
      · exact le_trans3 _ _ _ q (h'.1 z hz)
theorem srtT_sorted : ∀ xs : List Str, (srtT xs).Pairwise leS
  | [] => List.Pairwise.nil
  | x :: xs => insT_sorted x _ (srtT_sorted xs)
theorem rising_pw : ∀ (p : Str) (l : List Str), PyProof.Rows.risingS p l = true → (p :: l).Pairwise leS
  | p, [], _ => List.pairwise_singleton _ _
  | p, x :: r, h => by
    simp [PyProof.Rows.risingS] at h
    have ih := rising_pw x r h.2
    refine List.pairwise_cons.mpr ⟨fun z hz => ?_, ih⟩
    rcases List.mem_cons.mp hz with rfl | hz
    · exact h.1
    · exact le_trans3 _ _ _ h.1 ((List.pairwise_cons.mp ih).1 z hz)
theorem sortedS_pw : ∀ {l : List Str}, PyProof.Rows.sortedS l = true → l.Pairwise leS
  | [], _ => List.Pairwise.nil
  | x :: r, h => rising_pw x r h
theorem str_ext {a b : Str} (h : a.cps.toList = b.cps.toList) : a = b := by
  cases a; cases b
  simp at h
  rw [h]
theorem same_sorted : ∀ {a b : List Str}, a.Perm b → a.Pairwise leS → b.Pairwise leS → a = b
  | [], b, p, _, _ => by rw [List.nil_perm.mp p]
  | x :: a, [], p, _, _ => by have := p.length_eq; simp at this
  | x :: a, y :: b, p, ha, hb => by
    have ha' := List.pairwise_cons.mp ha
    have hb' := List.pairwise_cons.mp hb
    have e : x = y := by
      have h1 : leS x y := by
        rcases List.mem_cons.mp (p.mem_iff.mpr (List.mem_cons_self ..)) with q | q
        · rw [q]; exact lt_irr _
        · exact ha'.1 y q
      have h2 : leS y x := by
        rcases List.mem_cons.mp (p.mem_iff.mp (List.mem_cons_self ..)) with q | q
        · rw [q]; exact lt_irr _
        · exact hb'.1 x q
      exact str_ext (lt_anti _ _ h2 h1)
    subst e
    rw [same_sorted (List.Perm.cons_inv p) ha'.2 hb'.2]
theorem srtT_eq {xs ys : List Str} (p : ys.Perm xs) (h : PyProof.Rows.sortedS ys = true) : ys = srtT xs := same_sorted (p.trans (srtT_perm xs).symm) (sortedS_pw h) (srtT_sorted xs)
/-- all keys texts -/
def strKeys : List (Key × Vl) → Option (List Str)
  | [] => some []
  | (.inr x, _) :: r => (strKeys r).map (x :: ·)
  | _ => none
theorem strKeys_ok : ∀ {kvs : List (Key × Vl)} {ks : List Str}, strKeys kvs = some ks → kvs.map (·.1) = ks.map Sum.inr
  | [], ks, h => by cases h; rfl
  | (.inl _, _) :: _, ks, h => by cases h
  | (.inr x, _) :: r, ks, h => by
    unfold strKeys at h
    cases e : strKeys r with
    | none => rw [e] at h; cases h
    | some l =>
      rw [e] at h
      cases h
      simp [strKeys_ok e]
/-- sorted of ints (list, set), of texts (list, keys of a dict) -/
def oSort : OC
  | [.ref j], s => match s[j]? with
    | some (.lst xs) => match mapO asInt xs with
      | some ns => some (.ref s.length, s ++ [.lst ((srt ns).map Vl.int)])
      | none => match mapO asStr xs with
        | some zs => if zs.length < 64 then some (.ref s.length, s ++ [.lst ((srtT zs).map Vl.str)]) else none
        | none => none
    | some (.set xs) => if xs.length < 64 then some (.ref s.length, s ++ [.lst ((srt xs).map Vl.int)]) else none
    | some (.dic kvs) => match strKeys kvs with
      | some ks => if ks.length < 64 then some (.ref s.length, s ++ [.lst ((srtT ks).map Vl.str)]) else none
      | none => none
    | _ => none
  | _, _ => none
theorem RVs.strs {T : Tb} {ρ : List Addr} {H : Hp} : ∀ zs : List Str, RVs T ρ H (zs.map Vl.str) (zs.map V.str)
  | [] => .nil
  | z :: zs => .cons (.str z) (RVs.strs zs)
section
variable {X : Cx} {T : Tb}
theorem c_sort (hc : X.calm = true := by rfl) (hw : X.w = T.w := by rfl) : CallR X (.builtin "sorted") (rC T oSort) := fun pins s σ H xs us Q I rs q => by
  obtain ⟨ρ, st, as, v, s', r, ha, e, k⟩ := q
  have base : oSortS as st = some (v, s') → _ := fun e' => c_sortS (T := T) hc hw pins s σ H xs us Q I rs ⟨ρ, st, as, v, s', r, ha, e', k⟩
  unfold oSort at e
  split at e
  · rename_i j
    split at e
    · rename_i ys hx
      split at e
      · rename_i ns hn
        exact base (by simp only [oSortS, hx, hn, Option.map]; exact e)
      · split at e
        · rename_i zs hz
          split at e
          · rename_i hl
            cases e
            obtain ⟨z, rfl, hz'⟩ := ha.one
            obtain ⟨p, rfl, hp⟩ := hz'.refE
            obtain ⟨vs, h1, h2⟩ := r.lst hx hp
            have ev := asStrs_ok h2 hz
            subst ev
            exact cr_sortedS pins s σ H _ us Q I rs ⟨p, zs, rfl, SqL.of h1, hl, fun ys q hp' hs hq => by
              rw [srtT_eq hp' hs]
              exact k.lst r (RVs.strs _) hq⟩
          · cases e
        · cases e
    · rename_i ys hx
      split at e
      · rename_i hl
        exact base (by simp only [oSortS, hx, if_pos hl]; exact e)
      · cases e
    · rename_i kvs hx
      split at e
      · rename_i ks hk
        split at e
        · rename_i hl
          cases e
          obtain ⟨z, rfl, hz'⟩ := ha.one
          obtain ⟨p, rfl, hp⟩ := hz'.refE
          obtain ⟨vs, h1, h2, h3⟩ := r.dic hx hp
          exact call_sortedD hc pins s σ H _ us Q I rs ⟨p, vs, ks, rfl, .inl h1, h2.trans (strKeys_ok hk), hl, fun ys q hp' hs hq => by
            rw [srtT_eq hp' hs]
            exact k.lst r (RVs.strs _) hq⟩
        · cases e
      · cases e
    · cases e
  · cases e
end
end Sm

/-! S25: targets within targets, op=, chains of comparisons, isinstance, get, setdefault, dict(pairs), len of own objects -/
namespace Sm
open PySem L2
/-! ### targets -/
def gAll : List GM → List Vl → Lo → Sto → Option (Lo × Sto)
  | [], [], lo, s => some (lo, s)
  | g :: gs, v :: vs, lo, s => match g v lo s with
    | .ok lo' s' => gAll gs vs lo' s'
    | _ => none
  | _, _, _, _ => none
def gTs (gs : List GM) : GM := fun v lo s => match v with
  | .tup xs => match gAll gs xs lo s with
    | some (lo', s') => .ok lo' s'
    | none => .fail
  | _ => .fail
def tGts (T : Tb) (gs : List GM) : TGs := fun zs σ H Q => ∃ (ρ : List Addr) (s : Sto) (lo : Lo) (vs : List Vl) (lo' : Lo) (s' : Sto), Rel T ρ H s ∧ RL T ρ H lo σ ∧ RVs T ρ H vs zs ∧ gAll gs vs lo s = some (lo', s') ∧ PoN T ρ H lo' s' Q
theorem pgs_mono {X : Cx} {es : List Expr} {t t' : TGs} (h : PGs X es t) (k : ∀ v σ H Q, t' v σ H Q → t v σ H Q) : PGs X es t' := ⟨fun pins s σ H v u Q I r q => h.run pins s σ H v u Q I r (k v σ H Q q)⟩
theorem gAll_len : ∀ {gs : List GM} {vs : List Vl} {lo : Lo} {s : Sto} {r : Lo × Sto}, gAll gs vs lo s = some r → vs.length = gs.length
  | [], [], _, _, _, _ => rfl
  | [], _ :: _, _, _, _, h => by cases h
  | _ :: _, [], _, _, _, h => by cases h
  | g :: gs, v :: vs, lo, s, r, h => by
    unfold gAll at h
    split at h
    · rw [List.length_cons, List.length_cons, gAll_len h]
    · cases h
section
variable {X : Cx} {T : Tb} {W : WX} {e : Expr} {es : List Expr} {g : GM} {gs : List GM} {pos : Pos} {kk : Nat}
theorem cgs_nil : PGs X [] (tGts T []) := pgs_mono pgs_nil fun zs σ H Q h => by
  obtain ⟨ρ, s, lo, vs, lo', s', r, rl, hv, e, p⟩ := h
  cases vs with
  | cons => cases e
  | nil =>
    cases e
    cases hv
    exact ⟨rfl, p ρ H σ .refl r rl⟩
theorem cgs_cons (h1 : PG X e (tGt T W g)) (h2 : PGs X es (tGts T gs)) (hs : (assignEach (e :: es) X.env).map (·.2) = assign e X.env :: (assignEach es X.env).map (·.2) := by rfl) : PGs X (e :: es) (tGts T (g :: gs)) :=
  pgs_mono (pgs_cons h1 h2 hs) fun zs σ H Q h => by
    obtain ⟨ρ, s, lo, vs, lo', s', r, rl, hv, e, p⟩ := h
    cases hv with
    | nil => cases e
    | cons h1 h2 =>
      rename_i x z xs zs
      refine ⟨z, zs, rfl, ρ, s, lo, x, r, rl, h1, ?_⟩
      unfold gAll at e
      split at e
      · rename_i lo1 s1 hg
        rw [hg]
        exact fun ρ' H' σ' ext r' rl' => ⟨ρ', s1, lo1, xs, lo', s', r', rl', h2.mono ext, e, p.mono ext⟩
      · cases e
theorem cg_tups (h : PGs X es (tGts T gs)) (hc : X.calm = true := by rfl) (hn : (assignEach es X.env).length = gs.length := by rfl) (hst : (assignEach es X.env).findIdx? (·.1) = none := by rfl) (hK : X.K = T.K := by rfl) : PG X (.Tuple es kk pos) (tGt T W (gTs gs)) :=
  pg_mono (pg_tup hc h hn hst) fun z σ H Q h => by
    obtain ⟨ρ, s, lo, v, r, rl, hv, p⟩ := h
    unfold gTs at p
    cases v <;> try exact p.elim
    rename_i xs
    obtain ⟨a, vs, rfl, h1, h2⟩ := hv.tupE
    simp only at p
    split at p
    · rename_i lo' s' hg
      refine ⟨a, vs, rfl, by rw [hK]; exact h1, by rw [← h2.length]; exact gAll_len hg, ρ, s, lo, xs, lo', s', r, rl, h2, hg, ?_⟩
      exact fun ρ' H' σ' ext r' rl' => p ρ' H' σ' ext r' rl'
    · exact p.elim
end
/-! ### x op= e -/
def sAug (i : Nat) (f : O2) (e : EM) : SM := fun lo s => match lo[i]? with
  | some (some x) => bndS e (fun lo v s => match f x v s with
    | some (z, s') => .nx (lo.set i (some z)) s'
    | none => .fail) lo s
  | _ => .fail
def opIAdd : O2 := fun a b s => match a, b with
  | .int i, .int j => some (.int (i + j), s)
  | .str i, .str j => if i.length + j.length ≤ LIM then some (.str (i ++ j), s) else none
  | _, _ => none
def opISub : O2 := fun a b s => match a, b with
  | .int i, .int j => some (.int (i - j), s)
  | _, _ => none
section
variable {X : Cx} {T : Tb} {W : WX} {e : Expr} {me : EM} {f : O2} {op : Operator} {pos pos' : Pos}
theorem io_add : OpR X (inplaceOp .Add) (rO T opIAdd) := by
  intro pins s σ H x y v u Q I rx ry q
  obtain ⟨ρ, st, a, b, w, s', r, ha, hb, e, k⟩ := q
  unfold opIAdd at e
  split at e
  · cases e
    rw [ha.intE] at rx
    rw [hb.intE] at ry
    exact iop_add pins s σ H _ _ v u Q I rx ry ⟨_, _, rfl, rfl, k.here r (.int _)⟩
  · split at e
    · rename_i hl
      cases e
      rw [ha.strE] at rx
      rw [hb.strE] at ry
      exact iop_add_str pins s σ H _ _ v u Q I rx ry ⟨_, _, rfl, rfl, by rw [lim_eq]; exact hl, k.here r (.str _)⟩
    · cases e
  · cases e
theorem io_sub : OpR X (inplaceOp .Sub) (rO T opISub) := by
  intro pins s σ H x y v u Q I rx ry q
  obtain ⟨ρ, st, a, b, w, s', r, ha, hb, e, k⟩ := q
  unfold opISub at e
  split at e
  · cases e
    rw [ha.intE] at rx
    rw [hb.intE] at ry
    exact iop_sub pins s σ H _ _ v u Q I rx ry ⟨_, _, rfl, rfl, k.here r (.int _)⟩
  · cases e
theorem cs_aug {i : Nat} {x : Str} (hN : X.N.Nodup) (hi : X.N[i]? = some x) (hx : Loc X.env.scope x) (ho : OpR X (inplaceOp op) (rO T f)) (he : PE X e (tE T W me))
    (hf : X.fn x = true ∨ X.env.scope.names.lookup x = some .local := by first | exact .inl rfl | exact .inr rfl | assumption) : PS X (.AugAssign (.Name x pos') op e pos) (tS T W (sAug i f me)) :=
  ps_mono (ps_aug hN hi hx he ho hf) fun D σ H h => by
    obtain ⟨ρ, s, lo, r, rl, p⟩ := h
    unfold sAug at p
    split at p
    · rename_i x hx
      obtain ⟨z, hz, hv⟩ := rl.at_ i x hx
      refine ⟨z, hz, poS_bnd (R := RV T) r rl p fun ρ' s' a b H' ext r' rl' hb p' => ?_⟩
      split at p'
      · rename_i w s2 hw
        exact ⟨ρ', s', x, a, w, s2, r', hv.mono ext, hb, hw, fun ρ2 H2 u e2 r2 hu => p' ρ2 H2 _ e2 r2 ((rl'.mono e2).set i hu)⟩
      · exact p'.elim
    · exact p.elim
end
/-- o.f op= e -/
def sFldA (cs : List Nat) (f : Str) (op : O2) (o e : EM) : SM := bndS o fun lo x s => match x with
  | .ref j => match s[j]? with
    | some (.ins c fs) => if c ∈ cs then match getS fs f with
        | some v => bndS e (fun lo y s => match op v y s with
          | some (z, s') => match setFld cs f (.ref j) z s' with
            | some s2 => match s'[j]? with
              | some (.ins c' _) => if c' = c then .nx lo s2 else .fail
              | _ => .fail
            | none => .fail
          | none => .fail) lo s
        | none => .fail
      else .fail
    | _ => .fail
  | _ => .fail
section
variable {X : Cx} {T : Tb} {W : WX} {o value : Expr} {mo me : EM} {op : O2} {oper : Operator} {cs : List Nat} {f : Str} {pos tpos : Pos}
theorem cs_fldA (ok : FldOk T cs f) (hop : OpR X (inplaceOp oper) (rO T op)) (ho : PE X o (tE T W mo)) (hv : PE X value (tE T W me)) (hK : X.K = T.K := by rfl) :
    PS X (.AugAssign (.Attribute o f tpos) oper value pos) (tS T W (sFldA cs f op mo me)) := ps_mono (ps_fldaug ho hv hop) fun D σ H h =>
  tS_bnd (R := RV T) h fun ρ s lo x z H' r rl hx p => by
    cases x <;> try exact p.elim
    rename_i j
    simp only at p
    obtain ⟨a, rfl, ha⟩ := hx.refE
    split at p
    · rename_i c fs hj
      split at p
      · rename_i hc
        split at p
        · rename_i v hv
          obtain ⟨C, dx, vs, h1, h2, h3, h4⟩ := r.ins hj ha
          obtain ⟨w, hw, hvw⟩ := (getS_ok (f := f) h3 h4).2 v hv
          refine ⟨a, C, dx, vs, w, rfl, h2, by rw [hK]; exact (ok c hc C h1).1, by rw [hK]; exact (ok c hc C h1).2, hw, poS_bnd (R := RV T) r rl p fun ρ1 s1 y u H1 ext1 r1 rl1 hy p1 => ?_⟩
          split at p1
          · rename_i q s2 hq
            split at p1
            · rename_i s3 h3'
              split at p1
              · rename_i c' fs' hj'
                split at p1
                · rename_i ec
                  subst ec
                  refine ⟨ρ1, s1, v, y, q, s2, r1, hvw.mono ext1, hy, hq, fun ρ2 H2 t e2 r2 ht => ?_⟩
                  have ha2 := e2.pre _ _ (ext1.pre _ _ ha)
                  obtain ⟨C', dx', vs', k1, k2, k3, k4⟩ := r2.ins hj' ha2
                  obtain rfl : C' = C := Option.some.inj (k1.symm.trans h1)
                  unfold setFld at h3'
                  simp only [hj'] at h3'
                  split at h3'
                  · rename_i hcl
                    cases h3'
                    have hlen : vs'.length = fs'.length := by have := congrArg List.length k3; simpa using this
                    refine ⟨dx', vs', k2, by rw [hlen]; exact hcl.2, ?_⟩
                    obtain ⟨q1, q2⟩ := putS_ok (f := f) ht k3 k4
                    exact p1 ρ2 _ σ (e2.trans (r2.setExt ha2 k2)) (r2.set ha2 ⟨C', dx', _, k1, upd_same, q1, q2.mono (r2.setExt ha2 k2)⟩) ((rl1.mono e2).mono (r2.setExt ha2 k2))
                  · cases h3'
                · exact p1.elim
              · exact p1.elim
            · exact p1.elim
          · exact p1.elim
        · exact p.elim
      · exact p.elim
    · exact p.elim
end
/-! ### a op b op' c -/
def eChain (f f' : O2) (a b c : EM) : EM := fun lo => bnd (a lo) fun x => bnd (b lo) fun y => bnd (lift (f x y)) fun z => match z with
  | .bl true => bnd (c lo) fun w => lift (f' y w)
  | .bl false => ret (.bl false)
  | _ => failM
section
variable {X : Cx} {T : Tb} {W : WX} {a b c : Expr} {ma mb mc : EM} {f f' : O2} {op op' : CmpOp} {pos : Pos}
theorem chain_le {σ : L2.St} {H : Hp} {Q : VK} (h : tE T W (eChain f f' ma mb mc) σ H Q) : tChain (rO T f) (rO T f') (tE T W ma) (tE T W mb) (tE T W mc) σ H Q :=
  tG_bnd (f := fun lo x => bnd (mb lo) fun y => bnd (lift (f x y)) fun z => match z with | .bl true => bnd (mc lo) fun w => lift (f' y w) | .bl false => ret (.bl false) | _ => failM) h fun ρ s lo x z H1 r rl hx p =>
    po_bnd (m := mb) r rl p fun ρ1 s1 y z' H2 ext1 r1 rl1 hy p1 => by
      unfold bnd lift at p1
      cases e : f x y s1 with
      | none => rw [e] at p1; exact p1.elim
      | some q =>
        obtain ⟨v, s2⟩ := q
        rw [e] at p1
        refine ⟨ρ1, s1, x, y, v, s2, r1, hx.mono ext1, hy, e, fun ρ3 H3 t e3 r3 ht => ?_⟩
        cases v <;> try exact p1.elim
        rename_i k
        refine ⟨k, ht.blE, ?_⟩
        cases k with
        | false =>
          simp only [Bool.false_eq_true, if_false]
          exact p1 ρ3 H3 _ e3 r3 (.bl false)
        | true =>
          simp only [if_true]
          refine po_bnd (m := mc) r3 (rl1.mono e3) (p1.mono e3) fun ρ4 s4 u t' H4 ext4 r4 rl4 hu p4 => ?_
          obtain ⟨v', s5, e5, k5⟩ := po_lift p4
          exact ⟨ρ4, s4, y, u, v', s5, r4, (hy.mono e3).mono ext4, hu, e5, k5⟩
theorem ce_chain (ho : OpR X (compareOp op) (rO T f)) (ho' : OpR X (compareOp op') (rO T f')) (ha : PE X a (tE T W ma)) (hb : PE X b (tE T W mb)) (hc : PE X c (tE T W mc)) (hm : lastMarks [op, op'] [b, c] = false := by with_unfolding_all rfl) :
    PE X (.Compare a [op, op'] [b, c] pos) (tE T W (eChain f f' ma mb mc)) := pe_mono (pe_chain ho ho' ha hb hc hm) fun _ _ _ h => chain_le h
theorem ct_chain (ho : OpR X (compareOp op) (rO T f)) (ho' : OpR X (compareOp op') (rO T f')) (ha : PE X a (tE T W ma)) (hb : PE X b (tE T W mb)) (hc : PE X c (tE T W mc)) (hm : lastMarks [op, op'] [b, c] = false := by with_unfolding_all rfl) :
    PT X (.Compare a [op, op'] [b, c] pos) (tT T W (tVal (eChain f f' ma mb mc))) := pt_mono (pt_chain ho ho' ha hb hc hm) fun _ _ _ h => chain_le (tval_le h)
end
/-! ### isinstance(x, T) -/
def tyN (x : Vl) (s : Sto) : Option String := match x with
  | .non => some "NoneType"
  | .bl _ => some "bool"
  | .int _ => some "int"
  | .str _ => some "str"
  | .tup _ => some "tuple"
  | .ref j => match s[j]? with
    | some (.lst _) => some "list"
    | some (.dic _) => some "dict"
    | some (.dit _) => some "dict"
    | _ => none
  | _ => none
def isB (t n : String) : Option Bool :=
  if n = "int" then (if t = "int" ∨ t = "bool" then some true else some false)
  else if n = "bool" ∨ n = "str" ∨ n = "tuple" ∨ n = "list" ∨ n = "dict" then some (decide (t = n)) else none
def oIsi : OC
  | [x, .ty n], s => match tyN x s with
    | some t => match isB t n with
      | some b => some (.bl b, s)
      | none => none
    | none => none
  | _, _ => none
theorem isB_ok {t n : String} {b : Bool} (ht : t ∈ ["NoneType", "bool", "int", "str", "tuple", "list", "dict"]) (h : isB t n = some b) : kitB t n = some b := by
  have hn : n ∈ ["int", "bool", "str", "tuple", "list", "dict"] := by
    unfold isB at h
    split at h
    · rename_i q; subst q; simp
    · split at h
      · rename_i q; simp only [List.mem_cons, List.not_mem_nil, or_false]; exact .inr q
      · cases h
  have all : ∀ t ∈ ["NoneType", "bool", "int", "str", "tuple", "list", "dict"], ∀ n ∈ ["int", "bool", "str", "tuple", "list", "dict"], kitB t n = isB t n := by decide +kernel
  rw [all t ht n hn]; exact h
section
variable {X : Cx} {T : Tb} {W : WX}
theorem tyN_ok {ρ : List Addr} {H : Hp} {s : Sto} {x : Vl} {z : V} {t : String} (r : Rel T ρ H s) (hz : RV T ρ H x z) (h : tyN x s = some t) : TyX T.K H z (.type t) ∧ t ∈ ["NoneType", "bool", "int", "str", "tuple", "list", "dict"] := by
  unfold tyN at h
  cases x with
  | non => cases h; rw [hz.nonE]; exact ⟨.base .non, by simp⟩
  | bl b => cases h; rw [hz.blE]; exact ⟨.base (.bl b), by simp⟩
  | int i => cases h; rw [hz.intE]; exact ⟨.base (.int i), by simp⟩
  | str y => cases h; rw [hz.strE]; exact ⟨.base (.str y), by simp⟩
  | tup xs =>
    cases h
    obtain ⟨a, vs, rfl, h1, h2⟩ := hz.tupE
    refine ⟨?_, by simp⟩
    rcases h1 with (h1 | ⟨o, h1⟩) | h1
    · exact .base (.tup h1)
    · exact .fTuple h1
    · obtain ⟨o, items, n, k1, k2, k3⟩ := h1
      exact .kTuple k1 k2
  | ref j =>
    obtain ⟨a, rfl, ha⟩ := hz.refE
    simp only at h
    split at h
    · rename_i xs hj
      cases h
      obtain ⟨vs, h1, _⟩ := r.lst hj ha
      exact ⟨.base (.lst h1), by simp⟩
    · rename_i xs hj
      cases h
      obtain ⟨vs, h1, _⟩ := r.dic hj ha
      exact ⟨.base (.dK h1), by simp⟩
    · rename_i xs hj
      cases h
      obtain ⟨vs, h1, _⟩ := r.ob j a _ ha hj
      exact ⟨.base (.dT h1), by simp⟩
    · cases h
  | scr ns => cases h
  | ty n => cases h
  | fn i => cases h
theorem c_isi (hK : X.K = T.K := by rfl) : CallR X (.builtin "isinstance") (rC T oIsi) := CallR.imp call_isi fun xs H Q q => by
  obtain ⟨ρ, st, as, w, s', r, ha, e, k⟩ := q
  unfold oIsi at e
  split at e
  · split at e
    · rename_i x n _ t ht
      split at e
      · rename_i b hb
        cases e
        obtain ⟨z, y, rfl, hz, hy⟩ := ha.two
        cases hy
        obtain ⟨h1, h2⟩ := tyN_ok r hz ht
        exact ⟨z, _, _, _, b, rfl, .ty n, by rw [hK]; exact h1, kit_ty (isB_ok h2 hb), k.here r (.bl b)⟩
      · cases e
    · cases e
  · cases e
theorem ce_ty {x : Str} {n : String} {pos : Pos} (hg : Gl X x) (hm : X.mg x = none) (hv : bootBuiltins x = some (.type n)) (hn : x ≠ "__name__" := by decide) (hdb : (x == ("__debug__" : Str)) = false := by decide) : PE X (.Name x pos) (tE T W (eC (.ty n))) :=
  ce_of (z := .ty n) (pe_bltn hg hm hv rfl hn hdb) fun _ _ => .ty n
end
/-! ### d.get(k), d.get(k, x), d.setdefault(k, x) -/
def isDic (j : Nat) (s : Sto) : Bool := match s[j]? with
  | some (.dic _) => true
  | _ => false
def eDGet1 (d k : EM) : EM := fun lo => bnd (d lo) fun x s => match x with
  | .ref j => if isDic j s then bnd (k lo) (fun y s => match s[j]?, keyOf y with
    | some (.dic kvs), some key => .ok ((look kvs key).getD .non) s
    | _, _ => .fail) s else .fail
  | _ => .fail
def eDGet2 (d k v : EM) : EM := fun lo => bnd (d lo) fun x s => match x with
  | .ref j => if isDic j s then bnd (k lo) (fun y => bnd (v lo) fun z s => match s[j]?, keyOf y with
    | some (.dic kvs), some key => .ok ((look kvs key).getD z) s
    | _, _ => .fail) s else .fail
  | _ => .fail
def eDSet (d k v : EM) : EM := fun lo => bnd (d lo) fun x s => match x with
  | .ref j => if isDic j s then bnd (k lo) (fun y => bnd (v lo) fun z s => match s[j]?, keyOf y with
    | some (.dic kvs), some key => if kvs.length < LIM then (match look kvs key with
      | some w => .ok w s
      | none => .ok z (s.set j (.dic (put kvs key z)))) else .fail
    | _, _ => .fail) s else .fail
  | _ => .fail
theorem put_none {κ : Type} [DecidableEq κ] {k : κ} {v : Vl} : ∀ {kvs : List (κ × Vl)}, look kvs k = none → put kvs k v = kvs ++ [(k, v)]
  | [], _ => rfl
  | p :: r, h => by
    unfold look at h
    split at h
    · cases h
    · rename_i q
      unfold put
      rw [if_neg q, put_none h]
      rfl
theorem putK_none {κ : Type} [DecidableEq κ] {k : κ} {z : V} {vs : List (κ × V)} (h : valV vs k = none) : putK vs k z = vs ++ [(k, z)] := by
  unfold putK
  rw [if_neg]
  rw [valV_any, h]
  exact Bool.noConfusion
theorem RVs.snoc {T : Tb} {ρ : List Addr} {H : Hp} {xs : List Vl} {vs : List V} {x : Vl} {v : V} (h : RVs T ρ H xs vs) (hx : RV T ρ H x v) : RVs T ρ H (xs ++ [x]) (vs ++ [v]) := h.append (.cons hx .nil)
section
variable {X : Cx} {T : Tb} {W : WX} {o e f : Expr} {apos cpos : Pos} {md mk mv : EM}
theorem isDic_ok {ρ : List Addr} {H : Hp} {s : Sto} {j : Nat} {a : Addr} (r : Rel T ρ H s) (ha : ρ[j]? = some a) (h : isDic j s = true) : IsD H a := by
  unfold isDic at h
  split at h
  · rename_i kvs hj
    obtain ⟨vs, h1, _⟩ := r.dic hj ha
    exact .inl ⟨vs, .inl h1⟩
  · cases h
theorem ce_dget1 (hu : X.A.units + 1 < cLine) (ho : PE X o (tE T W md)) (he : PE X e (tE T W mk)) (m : M1 X o "get" apos e cpos) : PE X (.Call (.Attribute o "get" apos) [e] [] cpos) (tE T W (eDGet1 md mk)) :=
  pe_mono (pe_dget1 hu ho he m) fun σ H Q h => tG_bnd (R := RV T) h fun ρ s lo x z H1 r rl hx p => by
    cases x <;> try exact p.elim
    rename_i j
    obtain ⟨a, rfl, ha⟩ := hx.refE
    simp only at p
    split at p
    · rename_i hd
      refine ⟨a, rfl, isDic_ok r ha hd, po_bnd (R := RV T) (m := mk) r rl p fun ρ' s' y w H' ext r' rl' hy p' => ?_⟩
      split at p'
      · rename_i kvs key hj hk
        obtain ⟨vs, h1, h2, h3⟩ := r'.dic hj (ext.pre _ _ ha)
        have ey := keyOf_ok hy hk
        subst ey
        refine ⟨_, DGet.k h1, ?_⟩
        obtain ⟨q1, q2⟩ := look_ok (k := key) h2 h3
        cases q : look kvs key with
        | none => rw [q1 q]; rw [q] at p'; exact p' ρ' H' _ .refl r' .non
        | some v => obtain ⟨z, hz, hv⟩ := q2 v q; rw [hz]; rw [q] at p'; exact p' ρ' H' _ .refl r' hv
      · exact p'.elim
    · exact p.elim
theorem ce_dget2 (hu : X.A.units + 1 < cLine) (ho : PE X o (tE T W md)) (he : PE X e (tE T W mk)) (hf : PE X f (tE T W mv)) (m : M2 X o "get" apos e f cpos) : PE X (.Call (.Attribute o "get" apos) [e, f] [] cpos) (tE T W (eDGet2 md mk mv)) :=
  pe_mono (pe_dget2 hu ho he hf m) fun σ H Q h => tG_bnd (R := RV T) h fun ρ s lo x z H1 r rl hx p => by
    cases x <;> try exact p.elim
    rename_i j
    obtain ⟨a, rfl, ha⟩ := hx.refE
    simp only at p
    split at p
    · rename_i hd
      refine ⟨a, rfl, isDic_ok r ha hd, po_bnd (R := RV T) (m := mk) r rl p fun ρ' s' y w H' ext r' rl' hy p' => po_bnd (R := RV T) (m := mv) r' rl' p' fun ρ2 s2 dv w2 H2 ext2 r2 rl2 hd2 p2 => ?_⟩
      split at p2
      · rename_i kvs key hj hk
        obtain ⟨vs, h1, h2, h3⟩ := r2.dic hj (ext2.pre _ _ (ext.pre _ _ ha))
        have ey := keyOf_ok (hy.mono ext2) hk
        subst ey
        refine ⟨_, DGet.k h1, ?_⟩
        obtain ⟨q1, q2⟩ := look_ok (k := key) h2 h3
        cases q : look kvs key with
        | none => rw [q1 q]; rw [q] at p2; exact p2 ρ2 H2 _ .refl r2 hd2
        | some v => obtain ⟨z, hz, hv⟩ := q2 v q; rw [hz]; rw [q] at p2; exact p2 ρ2 H2 _ .refl r2 hv
      · exact p2.elim
    · exact p.elim
theorem ce_dsetd (ho : PE X o (tE T W md)) (he : PE X e (tE T W mk)) (hf : PE X f (tE T W mv)) (m : M2 X o "setdefault" apos e f cpos) : PE X (.Call (.Attribute o "setdefault" apos) [e, f] [] cpos) (tE T W (eDSet md mk mv)) :=
  ⟨fun pins s σ H Q I h => (pe_dsetd ho he hf m).run pins s σ H Q I (tG_bnd (R := RV T) h fun ρ s lo x z H1 r rl hx p => by
    cases x <;> try exact p.elim
    rename_i j
    obtain ⟨a, rfl, ha⟩ := hx.refE
    simp only at p
    split at p
    · rename_i hd
      refine ⟨a, rfl, isDic_ok r ha hd, po_bnd (R := RV T) (m := mk) r rl p fun ρ' s' y w H' ext r' rl' hy p' => po_bnd (R := RV T) (m := mv) r' rl' p' fun ρ2 s2 dv w2 H2 ext2 r2 rl2 hd2 p2 => ?_⟩
      split at p2
      · rename_i kvs key hj hk
        have ha2 := ext2.pre _ _ (ext.pre _ _ ha)
        obtain ⟨vs, h1, h2, h3⟩ := r2.dic hj ha2
        have ey := keyOf_ok (hy.mono ext2) hk
        obtain ⟨q1, q2⟩ := look_ok (k := key) h2 h3
        have hlen : vs.length = kvs.length := by have := congrArg List.length h2; simpa using this
        split at p2
        · rename_i hl
          refine ⟨vs, key, h1, ey, by rw [hlen, lim_eq]; exact hl, fun v' hv' => ?_, fun hn => ?_⟩
          · cases q : look kvs key with
            | none => rw [q1 q] at hv'; cases hv'
            | some v =>
              obtain ⟨z, hz, hv⟩ := q2 v q
              rw [hz] at hv'
              cases hv'
              rw [q] at p2
              exact p2 ρ2 H2 _ .refl r2 hv
          · cases q : look kvs key with
            | some v => obtain ⟨z, hz, hv⟩ := q2 v q; rw [hz] at hn; cases hn
            | none =>
              rw [q] at p2
              refine p2 ρ2 _ _ (r2.setExt ha2 h1) (r2.set ha2 ⟨putK vs key w2, upd_same, ?_, ?_⟩) (hd2.mono (r2.setExt ha2 h1))
              · rw [putK_none hn, put_none q]; simp [h2]
              · rw [putK_none hn, put_none q]
                simp only [List.map_append, List.map_cons, List.map_nil]
                exact (h3.snoc hd2).mono (r2.setExt ha2 h1)
        · exact p2.elim
      · exact p2.elim
    · exact p.elim)⟩
end
end Sm

/-! S26: len of own objects, dict(list of pairs), min and max of a list of ints -/
namespace Sm
open PySem L2 PySem.W
section
variable {prog : Program} {w : World} {A : Around} {E : Value → Shared → Prop} {s : Shared} {K : Frag} {x C f : Addr} {ox : Obj} {od : Option Obj}
theorem len_own {Q : Value → Shared → Prop} (X : K.In s.heap) (I : InstAt s.heap x ox C od) (hs : findIn K (.ref C) "__len__" = some (some (.ref f))) (hf : isFn K (.ref f) = true)
    (h : wpAny (model prog w) A.in1 (call (.ref f) [.ref x]) (fun v s' => ∃ n t, v = .int n t ∧ 0 ≤ n ∧ n < 2 ^ 62 ∧ ∀ t' k, Q (.int n t') { s' with toks := k }) E s) :
    wpAny (model prog w) A (call (.builtin "len") [.ref x]) Q E s := by
  refine Calls.call_function_entry kind_len plain_len entry_len (args_len1 _) ?_
  unfold Builtin.«len»
  refine wpAny_bind (m := oneArg "len" _) (wpAny_pure (wpAny_bind (m := callSpecial? (.ref x) (Str.ofString "__len__")) ?_))
  refine special_fn X I hs (beq_iff_eq.mp hf) (wpAny_mono h (fun r s' hr => ?_) fun _ _ y => y)
  obtain ⟨n, t, rfl, h0, h1, hq⟩ := hr
  refine wpAny_bind (wpAny_holding (wpAny_pure (wpAny_bind (wpAny_letGo ?_))))
  have a1 : ¬ n < 0 := by omega
  have a2 : ¬ n ≥ 2 ^ 63 := by omega
  simp only [a1, a2, if_false]
  exact wpAny_bind (wpAny_mkInt (wpAny_pure ⟨_, rfl, hq _ _⟩))
end
structure LenO (K : PySem.W.Frag) (C f : Addr) : Prop where
  at_ : PySem.W.findIn K (.ref C) "__len__" = some (some (.ref f))
  fn : PySem.W.isFn K (.ref f) = true
def eLenO (tab : MTab) (o : EM) : EM := fun lo => bnd (o lo) fun x s => match x with
  | .ref j => match s[j]? with
    | some (.ins c fs) => match tab c with
      | some mf => match mf [.ref j] s with
        | .ok (.int n) s' => if 0 ≤ n ∧ n < 2 ^ 62 then .ok (.int n) s' else .fail
        | .exc e s' => .exc e s'
        | _ => .fail
      | none => .fail
    | _ => .fail
  | _ => .fail
def LenOk (X : Cx) (T : Tb) (k : Nat) (tab : MTab) : Prop := ∀ c mf, tab c = some mf → ∀ C, T.cl[c]? = some C → ∃ (f : Addr) (fd : FuncData) (ps : List Str), LenO T.K C f ∧ FnG X.prog X.w X.K X.mg X.base k f fd ps (SpM T 1 mf) ∧ Binds X.K fd ps []
section
variable {X : Cx} {T : Tb} {W : WX} {k : Nat} {p pos : Pos} {o : Expr} {mo : EM}
theorem ce_lenO {tab : MTab} (ok : LenOk X T k tab) (hr : Room (k + 1) X.A) (hgd : X.A.guards = some []) (tk : L2N.Takes X W) (hg : Gl X "len") (hm : X.mg "len" = none) (ho : PE X o (tE T W mo))
    (he : starEach [o] X.env = (false, eval o X.env) :: starEach [] X.env := by rfl) (hpl : (backTo pos (starEach [] X.env)).any (·.1) = false := by rfl) (hK : X.K = T.K := by rfl) :
    PE X (.Call (.Name "len" p) [o] [] pos) (tE T W (eLenO tab mo)) := by
  have key : ∀ (pins : List (Addr × Obj)) (s : Shared) (σ : L2.St) (H : Hp) (xs : List V) (us : List Value) (Q : VK), Inv X pins σ H s → Vals xs us →
      (∃ (ρ : List Addr) (st : Sto) (x : Vl) (z : V), xs = [z] ∧ Rel T ρ H st ∧ RV T ρ H x z ∧ Po (RV T) T (fun c d H' => W c d σ H') ρ H ((match x with
        | .ref j => match st[j]? with
          | some (.ins c fs) => match tab c with
            | some mf => match mf [.ref j] st with
              | .ok (.int n) s' => if 0 ≤ n ∧ n < 2 ^ 62 then .ok (.int n) s' else .fail
              | .exc e s' => .exc e s'
              | _ => .fail
            | none => .fail
          | _ => .fail
        | _ => .fail : Res Vl)) Q) → wpAny (model X.prog X.w) X.A (call (.builtin "len") us) (EP X pins σ Q) X.xe s := by
    rintro pins s σ H xs us Q I rs ⟨ρ, st, x, z, rfl, r, hx, p⟩
    obtain ⟨u, rfl, ru⟩ := vals1 rs
    cases x <;> try exact p.elim
    rename_i j
    obtain ⟨a, rfl, ha⟩ := hx.refE
    obtain rfl : u = Value.ref a := ru
    simp only at p
    split at p
    · rename_i c fs hj
      split at p
      · rename_i mf hmf
        obtain ⟨C, dx, vs, h1, h2, h3, h4⟩ := r.ins hj ha
        obtain ⟨f, fd, ps, lo, F, hb⟩ := ok c mf hmf C h1
        obtain ⟨ox, od, J, hd⟩ := StX.insC_at (C := C) I (.inr ⟨dx, vs, h2⟩)
        rw [← hK] at lo
        have sp : SpM T 1 mf [V.ref a] H (fun v H' => ∃ n, v = .int n ∧ 0 ≤ n ∧ n < 2 ^ 62 ∧ Q (.int n) H') fun c d H' => W c d σ H' := by
          refine spM_of r (.cons hx .nil) rfl ?_
          cases e : mf [.ref j] st with
          | fail => rw [e] at p; exact p.elim
          | exc x s' => rw [e] at p; exact p
          | ok v s' =>
            rw [e] at p
            cases v <;> try exact p.elim
            rename_i n
            simp only at p
            split at p
            · rename_i hn
              intro ρ' H' z ext r' hz
              exact ⟨n, hz.intE, hn.1, hn.2, p ρ' H' _ ext r' (.int n)⟩
            · exact p.elim
        refine len_own I.kIn J lo.at_ lo.fn (wpAny_call (codeAny_mono (F.run X.A.in1 X.stack s H ⟨[.ref a], []⟩ [.ref a] [.ref a] _ _ hr.in1 hgd I.env0.in1 (hb s [.ref a] I.kIn (F.len _ _ _ _ sp)) (.cons rfl .nil) sp) fun z s' hq => ?_))
        cases z with
        | error y => exact tk y s' (L2N.XE.of_call I (fun _ _ _ q => q) hq)
        | ok fl =>
          cases fl with
          | ret u =>
            obtain ⟨v, H', I3, rv, n, rfl, h0, h1', q⟩ := I.after hq
            obtain ⟨t, rfl⟩ := rv
            exact ⟨n, t, rfl, h0, h1', fun t' k' => ⟨.int n, H', I3.tok k', ⟨t', rfl⟩, q⟩⟩
          | next => exact hq.elim
          | brk => exact hq.elim
          | cont => exact hq.elim
      · exact p.elim
    · exact p.elim
  have ha : PA X [o] (tA T W (aCons mo aNil)) := ca_cons ho ca_nil he
  refine ⟨fun pins s σ H Q I h => wpAny_Call_Name_kw (ld_blt (u := .builtin "len") I hg hm (by decide +kernel) ?_ (by decide) (by decide))⟩
  refine PyProof.Rows.callWith_builtin1 (thn (ha.run pos pins s σ H (fun vs H1 => ∃ (ρ : List Addr) (st : Sto) (x : Vl) (z : V), vs = [z] ∧ Rel T ρ H1 st ∧ RV T ρ H1 x z ∧ Po (RV T) T (fun c d H' => W c d σ H') ρ H1 ((match x with
        | .ref j => match st[j]? with
          | some (.ins c fs) => match tab c with
            | some mf => match mf [.ref j] st with
              | .ok (.int n) s' => if 0 ≤ n ∧ n < 2 ^ 62 then .ok (.int n) s' else .fail
              | .exc e s' => .exc e s'
              | _ => .fail
            | none => .fail
          | _ => .fail
        | _ => .fail : Res Vl)) Q) I ?_) fun us s1 ⟨vs, H1, I1, r1, q1⟩ => key pins s1 σ H1 vs us Q I1 r1 q1) he hpl
  obtain ⟨ρ, st, lo, r, rl, q⟩ := h
  refine ⟨ρ, st, lo, r, rl, ?_⟩
  have q : Po (RV T) T _ ρ H (bnd (mo lo) _ st) Q := q
  unfold aCons bnd
  unfold bnd at q
  cases e : mo lo st with
  | fail => rw [e] at q; exact q
  | exc x s' => rw [e] at q; exact q
  | ok v s' =>
    rw [e] at q
    intro ρ' H' zs ext r' hzs
    obtain ⟨z, rfl, hz⟩ := hzs.one
    exact ⟨ρ', s', v, z, rfl, r', hz, q.mono ext⟩
end
/-! ### dict(list of pairs), min, max -/
def asPr : Vl → Option (Key × Vl)
  | .tup [k, v] => match keyOf k with
    | some key => some (key, v)
    | none => none
  | _ => none
def oDictP : OC
  | [x], s => match lstOf x s with
    | some xs => match mapO asPr xs with
      | some kvs => some (.ref s.length, s ++ [.dic (mergeP [] kvs)])
      | none => none
    | none => none
  | _, _ => none
section
variable {X : Cx} {T : Tb}
theorem asPr_ok {ρ : List Addr} {H : Hp} : ∀ {xs : List Vl} {vs : List V} {kvs : List (Key × Vl)}, RVs T ρ H xs vs → mapO asPr xs = some kvs → ∃ (ps : List Addr) (ms : List (Key × V)), vs = ps.map V.ref ∧ Paired (fun p kv => SqT T.K H p [kV kv.1, kv.2]) ps ms ∧ ms.map (·.1) = kvs.map (·.1) ∧ RVs T ρ H (kvs.map (·.2)) (ms.map (·.2))
  | _, _, _, .nil, h => by
    cases h
    exact ⟨[], [], rfl, .nil, rfl, .nil⟩
  | _, _, kvs, .cons (x := x) (v := v) (xs := xs) (vs := vs) h1 h2, h => by
    unfold mapO at h
    cases e : asPr x with
    | none => simp only [e] at h; cases h
    | some kv =>
      simp only [e] at h
      cases e2 : mapO asPr xs with
      | none => simp only [e2] at h; cases h
      | some ks =>
        simp only [e2] at h
        cases h
        obtain ⟨ps, ms, rfl, q1, q2, q3⟩ := asPr_ok h2 e2
        unfold asPr at e
        split at e
        · rename_i a b
          split at e
          · rename_i key hk
            cases e
            obtain ⟨p, us, rfl, s1, s2⟩ := h1.tupE
            obtain ⟨u1, u2, rfl, r1, r2⟩ := s2.two
            have ek := keyOf_ok r1 hk
            subst ek
            exact ⟨p :: ps, (key, u2) :: ms, rfl, .cons s1 q1, by simp [q2], .cons r2 q3⟩
          · cases e
        · cases e
theorem c_dictP (hc : X.calm = true := by rfl) (hK : X.K = T.K := by rfl) : CallR X (.type "dict") (rC T oDictP) := CallR.imp (call_dictP hc) fun xs H Q q => by
  obtain ⟨ρ, st, as, w, s', r, ha, e, k⟩ := q
  unfold oDictP at e
  split at e
  · split at e
    · rename_i ys hx
      split at e
      · rename_i kvs hz
        cases e
        obtain ⟨z, rfl, hz'⟩ := ha.one
        obtain ⟨p, vs, rfl, h1, h2⟩ := lstOf_ok r hz' hx
        obtain ⟨ps, ms, rfl, q1, q2, q3⟩ := asPr_ok h2 hz
        refine ⟨p, ps, ms, rfl, SqL.of h1, by rw [hK]; exact q1, fun q hq => ?_⟩
        obtain ⟨m1, m2⟩ := merge_ok (kvs := []) (vs := []) q2 q3 (by simp) rfl .nil
        exact k.new r hq ⟨_, upd_same, m1, m2.mono (r.newExt hq)⟩
      · cases e
    · cases e
  · cases e
end
end Sm

/-! S27: enumerate(tuple); min and max of a list of ints -/
namespace Sm
open PySem L2 PyProof.Rows
open AutoSeq1 (wpAny_loadPart')
section
variable {prog : Program} {w : World} {A : Around} {E : Value → Shared → Prop} {s : Shared}
theorem meets_enumT (l : Addr) (its : Array Value) (n : Nat) (dct : Option Addr) (sl : Array (Option Value)) :
    Meets (Builtin.«enumerate.__new__» ⟨[.type "enumerate", .ref l], []⟩) (fun _ R s => s.heap.get? l = some { cls := .type "tuple", dict := dct, data := .seq its n, slots := sl } ∧
      R (.ok (.ret (.ref (s.heap.push { cls := .type "tuple_iterator", data := .fields #[.ref l, .int 0 0] }).objs.size)))
        { s with heap := (s.heap.push { cls := .type "tuple_iterator", data := .fields #[.ref l, .int 0 0] }).push { cls := .type "enumerate", data := .fields #[.none, .bool false, .ref s.heap.objs.size, rawInt 0, .none, .none] } }) :=
  .of_wp fun prog w A R s h => by
    obtain ⟨hp, g, d, tk, os⟩ := s
    obtain ⟨hl, hR⟩ := h
    have hsub := sub_enumerate
    have hT : Heap.IsTuple (Shared.heap ⟨hp, g, d, tk, os⟩) l its := ⟨_, hl, rfl, n, rfl⟩
    wp_walk using wpAny_loadPart' hl
    refine wpAny_stack_any fun st => wpAny_pure ?_
    split
    · rename_i c _ _ _ _ _
      cases (c == Value.type "enumerate") <;> (wp_walk using wpAny_loadPart' hl, wpAny_pyIter_tuple hT; exact ⟨_, rfl, hR⟩)
    · wp_walk using wpAny_loadPart' hl, wpAny_pyIter_tuple hT
      exact ⟨_, rfl, hR⟩
theorem call_enumT {l : Addr} {its : Array Value} {Q : Value → Shared → Prop} (hL : s.heap.IsTuple l its)
    (h : ∀ h', IsEnum h' (s.heap.objs.size + 1) s.heap.objs.size 0 .none → h'.IsTupleIter s.heap.objs.size l 0 → (∀ b o, s.heap.get? b = some o → h'.get? b = some o) → Q (.ref (s.heap.objs.size + 1)) { s with heap := h' }) :
    wpAny (model prog w) A (call (.type "enumerate") [.ref l]) Q E s := by
  obtain ⟨⟨c, dct, dt, sl⟩, hl, hc, n, hd⟩ := hL
  replace hc : c = .type "tuple" := hc
  replace hd : dt = .seq its n := hd
  subst hc hd
  refine callType_new F.called_enumerate (by decide) (F.typeCall_enumerate_1 _) (F.newCall_enumerate_1 _) (fun obj => F.args_object_init_2 obj _) F.entry_enumerate_new (meets_enumT l its n dct sl) ⟨hl, ?_⟩
  have hz : (s.heap.push { cls := .type "tuple_iterator", data := .fields #[.ref l, .int 0 0] }).objs.size = s.heap.objs.size + 1 := Heap.size_push ..
  show _ ∧ _
  rw [hz]
  have he : IsEnum ((s.heap.push { cls := .type "tuple_iterator", data := .fields #[.ref l, .int 0 0] }).push { cls := .type "enumerate", data := .fields #[.none, .bool false, .ref s.heap.objs.size, rawInt 0, .none, .none] }) (s.heap.objs.size + 1) s.heap.objs.size 0 .none := by
    have q := Heap.get?_push_size (s.heap.push { cls := .type "tuple_iterator", data := .fields #[.ref l, .int 0 0] }) (o := { cls := .type "enumerate", data := .fields #[.none, .bool false, .ref s.heap.objs.size, rawInt 0, .none, .none] }) rfl
    rw [hz] at q
    exact q
  exact ⟨⟨_, he, rfl⟩, h _ he ⟨_, Heap.get?_push_of_some _ (Heap.get?_push_size _ rfl), rfl, rfl⟩ fun b o x => Heap.get?_push_of_some _ (Heap.get?_push_of_some _ x)⟩
end
def IteT (K : PySem.W.Frag) (a : Addr) (n : Nat) : It where
  go := fun i H => ∃ (xs : List V) (x : V), SqT K H a xs ∧ xs[i]? = some x ∧ xs.length = n
  yld := fun i H v H' => ∃ T x, v = .ref T ∧ H T = none ∧ H' = upd H T (.tup [.int (i : Nat), x]) ∧ ∀ xs, SqT K H a xs → xs[i]? = some x
  stop := fun i H => ∃ xs : List V, SqT K H a xs ∧ xs.length = n ∧ n ≤ i
theorem IsTup.tuple {h : Heap} {a : Addr} {its : Array Value} (x : IsTup h a its) : h.IsTuple a its := x
theorem turn_enumT {P : Program} {w : World} {K : PySem.W.Frag} {elts : List Expr} {kk : Nat} {tpos : Pos} (a e it : Addr) (n : Nat) :
    Turn P w K (.Tuple elts kk tpos) (IteT K a n) [e, it] e (fun i h => (∃ old, IsEnum h e it ((i : Nat) : Int) old) ∧ h.IsTupleIter it a i ∧ e ≠ it ∧ i ≤ n) where
  mem := List.mem_cons_self ..
  obj := fun i h st b hb => by
    obtain ⟨⟨old, he⟩, ⟨o, ho, hc, hd⟩, _⟩ := st
    rcases List.mem_cons.mp hb with rfl | hb
    · exact ⟨_, he, fun v q => nomatch q⟩
    · obtain rfl : b = it := by simpa using hb
      exact ⟨o, ho, fun v q => by rw [hd] at q; cases q⟩
  keep := fun i h h' st k => by
    obtain ⟨⟨old, he⟩, hi, hne, hn⟩ := st
    exact ⟨⟨old, k e (List.mem_cons_self ..) _ he⟩, hi.at fun o q => k it (List.mem_cons_of_mem _ (List.mem_cons_self ..)) o q, hne, hn⟩
  item := by
    intro X hP hw hK hc i pins s σ H E I hf st hg
    subst hP hw hK
    obtain ⟨⟨old, he⟩, hit, hne, hn⟩ := st
    obtain ⟨xs, x, hq, hx, hxn⟩ := hg
    obtain ⟨its, rv, p, hz⟩ := I.tuple hq
    obtain ⟨u, hu, ru⟩ := rv.get hx
    have lte : e < s.heap.objs.size := Heap.lt_size he
    have lti : it < s.heap.objs.size := by obtain ⟨_, q, _⟩ := hit; exact Heap.lt_size q
    have hai : a ≠ it := by
      rintro rfl
      obtain ⟨o1, q1, c1, _⟩ := hit
      obtain ⟨o2, q2, c2, _⟩ := p
      rw [q1] at q2; cases q2; rw [c1] at c2; exact absurd c2 (by decide)
    have hae : e ≠ a := by
      rintro rfl
      obtain ⟨o2, q2, c2, _⟩ := p
      have q1 : s.heap.get? e = some _ := he
      rw [q1] at q2; cases q2; exact absurd (show Value.type "enumerate" = Value.type "tuple" from c2) (by decide)
    have iu : its.toArray[i]? = some u := by simpa using hu
    have ilt : i < its.toArray.size := (Array.getElem?_eq_some_iff.mp iu).1
    refine wpAny_pyNext_enum_itemD (Draws.tuple (A := X.A.in1) (I.ok.hd hc) it a hai its.toArray) he ⟨hit, p⟩ ilt hne (by simp [hne, hae]) fun y h' tk hy ho st' hT hsz hk => ?_
    have hy : its.toArray[i]? = some y := hy
    obtain rfl : u = y := Option.some.inj (iu.symm.trans hy)
    refine ⟨_, rfl, wpAny_letOwnedTupleGo_enum (s := { s with heap := h', toks := tk + 1 }) ho fun h2 he2 sb => ?_⟩
    have hT2 : h2.get? s.heap.objs.size = some { cls := .type "tuple", data := .seq #[.int i tk, u] } := (sb.2 _ (Nat.ne_of_gt lte)).trans hT
    have new : ObjOk X.prog X.w (upd H s.heap.objs.size (.tup [.int (i : Nat), x])) h2 s.heap.objs.size (.tup [.int (i : Nat), x]) :=
      ⟨Nat.le_trans (show 2 ≤ 16 by decide) (by rw [sizeLine_eq]; decide), [.int i tk, u], .cons ⟨_, rfl⟩ (.cons ru .nil), ⟨_, hT2, rfl, _, rfl⟩⟩
    have kp : ∀ b ob, b ∉ [e, it] → s.heap.get? b = some ob → h2.get? b = some ob := fun b ob hb q => by
      simp only [List.mem_cons, List.not_mem_nil, or_false, not_or] at hb
      exact (sb.2 b hb.1).trans (hk b ob hb.1 hb.2 q)
    have I1 := I.turnedNew (ch := [e, it]) (t' := tk + 1) kp hf (Nat.le_refl _) new
    have e1 : ((i + 1 : Nat) : Int) = (i : Int) + 1 := by omega
    refine ⟨.ref s.heap.objs.size, _, I1, rfl, ⟨_, x, rfl, I.hok.fresh (Nat.le_refl _), rfl, fun ys hy => by rw [I.tuple_inj hy hq]; exact hx⟩, ⟨⟨u, by rw [e1]; exact he2⟩, st'.1.at fun o q => (sb.2 it (Ne.symm hne)).trans q, hne, by have := (List.getElem?_eq_some_iff.mp hx).1; omega⟩, fun b hb => ?_⟩
    have hb' : b < s.heap.objs.size := by
      simp only [List.mem_cons, List.not_mem_nil, or_false] at hb
      rcases hb with rfl | rfl
      · exact lte
      · exact lti
    rw [upd_ne (Nat.ne_of_lt hb')]
    exact (hf b hb).1
  done := by
    intro X hP hw hK hc i pins s σ H E I hf st hg
    subst hP hw hK
    obtain ⟨⟨old, he⟩, hit, hne, hn⟩ := st
    obtain ⟨xs, hq, hxn, hx⟩ := hg
    obtain ⟨its, rv, p, hz⟩ := I.tuple hq
    have hai : a ≠ it := by
      rintro rfl
      obtain ⟨o1, q1, c1, _⟩ := hit
      obtain ⟨o2, q2, c2, _⟩ := p
      rw [q1] at q2; cases q2; rw [c1] at c2; exact absurd c2 (by decide)
    obtain ⟨f0, f1, f2, f3, f4, f5⟩ := hf it (List.mem_cons_of_mem _ (List.mem_cons_self ..))
    have hl := rv.length
    have ei : i = its.toArray.size := by simp; omega
    refine wpAny_pyNext_enum_endD (Draws.tuple (A := X.A.in1) (I.ok.hd hc) it a hai its.toArray) he ⟨ei ▸ hit, p⟩ fun h' eb => ⟨rfl, ?_⟩
    exact I.turned (t' := s.toks) (fun b o hb q => eb b o hb q) f0 f1 f3 f4 f5
  self := fun A i s Q E st h => by
    obtain ⟨⟨_, he⟩, _⟩ := st
    exact wpAny_pyIter_enum he h
def iEnumT (K : PySem.W.Frag) (ta : TA) : TI := fun σ H R => ta σ H fun vs H1 => ∃ a xs, vs = [.ref a] ∧ SqT K H1 a xs ∧ R (IteT K a xs.length) H1
theorem pi_enumT {X : Cx} {e : Expr} {ta : TA} {p pos tpos : Pos} {elts : List Expr} {kk : Nat} (hg : Gl X "enumerate") (hm : X.mg "enumerate" = none) (ha : PA X [e] ta) (hs : starEach [e] X.env = [(false, eval e X.env)] := by rfl) :
    PI X (.Tuple elts kk tpos) (.Call (.Name "enumerate" p) [e] [] pos) (iEnumT X.K ta) := by
  refine ⟨fun pins s σ H R I h => Call_ (ld_blt I hg hm boot_enumerate (PyProof.Rows.callWith_type1 (thn (ha.run pos pins s σ H _ I h) fun us s1 ⟨vs, H1, I1, r1, q1⟩ => ?_) hs rfl))⟩
  obtain ⟨a, xs, rfl, hq, q⟩ := q1
  cases r1 with
  | cons r rr =>
    cases rr
    cases r
    obtain ⟨its, rv, p', hz⟩ := I1.tuple hq
    refine call_enumT p' fun h' he hit hk => wpAny_pyIter_enum he ?_
    have I2 : Inv X pins σ H1 { s1 with heap := h' } := I1.kept (t' := s1.toks) hk
    refine ⟨s1.heap.objs.size + 1, _, _, _, H1, rfl, I2, turn_enumT a (s1.heap.objs.size + 1) s1.heap.objs.size xs.length, ⟨⟨.none, he⟩, hit, Nat.succ_ne_self _, Nat.zero_le _⟩, fun b hb => ?_, q⟩
    have hle : s1.heap.objs.size ≤ b := by
      simp only [List.mem_cons, List.not_mem_nil, or_false] at hb
      rcases hb with rfl | rfl
      · exact Nat.le_succ _
      · exact Nat.le_refl _
    exact I1.fpOk hle (I1.hok.fresh hle)
/-! ### its reading -/
def enmL (xs : List Vl) : List Vl := xs.zipIdx.map fun p => .tup [.int (p.2 : Nat), p.1]
theorem enmL_get {xs : List Vl} {i : Nat} : (enmL xs)[i]? = (xs[i]?).map fun v => .tup [.int (i : Nat), v] := by
  unfold enmL
  rw [List.getElem?_map, List.getElem?_zipIdx]
  cases xs[i]? <;> simp
def aEnm (e : AM) : AM := fun lo => bnd (e lo) fun as => match as with
  | [.tup xs] => ret (enmL xs)
  | _ => failM
section
variable {X : Cx} {T : Tb} {W : WX} {p pos : Pos}
theorem ci_enmT {e : Expr} {ma : AM} {elts : List Expr} {kk : Nat} {tpos : Pos} (hg : Gl X "enumerate") (hm : X.mg "enumerate" = none) (ha : PA X [e] (tA T W ma)) (hs : starEach [e] X.env = [(false, eval e X.env)] := by rfl) (hK : X.K = T.K := by rfl) :
    PI X (.Tuple elts kk tpos) (.Call (.Name "enumerate" p) [e] [] pos) (tI T W (iFix (aEnm ma))) := pi_mono (pi_enumT hg hm ha hs) fun σ H R h => by
  obtain ⟨ρ, s, lo, r, rl, q⟩ := h
  refine po_bnd (R := RVs T) (m := ma) (f := fun as => bnd (match as with | [.tup xs] => ret (enmL xs) | _ => failM) fun xs => ret (nxFix xs)) (R' := fun ρ H nx J => ItOk T J nx ρ H) (Q := R) r rl ?_ fun ρ1 s1 as zs H1 ext1 r1 rl1 hx p1 => ?_
  · unfold iFix aEnm at q
    unfold bnd at q ⊢
    cases e : ma lo s <;> rw [e] at q <;> exact q
  · split at p1
    · rename_i xs
      obtain ⟨z, rfl, hz⟩ := hx.one
      obtain ⟨a, vs, rfl, h1, h2⟩ := hz.tupE
      rw [← hK] at h1
      refine ⟨a, vs, rfl, h1, p1 ρ1 H1 _ .refl r1 ?_⟩
      intro ρ2 H2 s2 i e2 r2
      have h1' := e2.tup _ _ (hK ▸ h1)
      have h2' := h2.mono e2
      rw [← hK] at h1'
      simp only [nxFix, enmL_get]
      cases e : xs[i]? with
      | none =>
        have : xs.length ≤ i := List.getElem?_eq_none_iff.mp e
        exact ⟨vs, h1', rfl, by rw [← h2'.length]; exact this⟩
      | some v =>
        obtain ⟨u, hu, ru⟩ := h2'.get e
        refine ⟨⟨vs, u, h1', hu, rfl⟩, fun x H3 y => ?_⟩
        obtain ⟨t, w, rfl, ht, rfl, y⟩ := y
        have := y vs h1'
        rw [hu] at this
        cases this
        exact ⟨ext_upd ht, r2.laid ht, .tup (SqT.of upd_same) (.cons (.int _) (.cons (ru.mono (ext_upd ht)) .nil))⟩
    · exact p1.elim
end
/-! ### min, max of a list of ints -/
def maxL : List Int → Int
  | [] => 0
  | [x] => x
  | x :: xs => max x (maxL xs)
def minL : List Int → Int
  | [] => 0
  | [x] => x
  | x :: xs => min x (minL xs)
theorem maxL_ok : ∀ {xs : List Int}, 0 < xs.length → maxL xs ∈ xs ∧ ∀ y ∈ xs, y ≤ maxL xs
  | [x], _ => by simp [maxL]
  | x :: y :: xs, _ => by
    have ih := maxL_ok (xs := y :: xs) (by simp)
    have e : maxL (x :: y :: xs) = max x (maxL (y :: xs)) := rfl
    rw [e]
    refine ⟨?_, fun z hz => ?_⟩
    · rcases Int.le_total x (maxL (y :: xs)) with q | q
      · rw [Int.max_eq_right q]; exact List.mem_cons_of_mem _ ih.1
      · rw [Int.max_eq_left q]; exact List.mem_cons_self ..
    · rcases List.mem_cons.mp hz with rfl | hz
      · omega
      · have := ih.2 z hz; omega
theorem minL_ok : ∀ {xs : List Int}, 0 < xs.length → minL xs ∈ xs ∧ ∀ y ∈ xs, minL xs ≤ y
  | [x], _ => by simp [minL]
  | x :: y :: xs, _ => by
    have ih := minL_ok (xs := y :: xs) (by simp)
    have e : minL (x :: y :: xs) = min x (minL (y :: xs)) := rfl
    rw [e]
    refine ⟨?_, fun z hz => ?_⟩
    · rcases Int.le_total x (minL (y :: xs)) with q | q
      · rw [Int.min_eq_left q]; exact List.mem_cons_self ..
      · rw [Int.min_eq_right q]; exact List.mem_cons_of_mem _ ih.1
    · rcases List.mem_cons.mp hz with rfl | hz
      · omega
      · have := ih.2 z hz; omega
def oMaxL : OC
  | [x], s => match lstOf x s with
    | some xs => match mapO asInt xs with
      | some ns => if 0 < ns.length then some (.int (maxL ns), s) else none
      | none => none
    | none => none
  | _, _ => none
def oMinL : OC
  | [x], s => match lstOf x s with
    | some xs => match mapO asInt xs with
      | some ns => if 0 < ns.length then some (.int (minL ns), s) else none
      | none => none
    | none => none
  | _, _ => none
section
variable {X : Cx} {T : Tb}
theorem c_maxL (hc : X.calm = true := by rfl) : CallR X (.builtin "max") (rC T oMaxL) := CallR.imp (cr_max hc) fun xs H Q q => by
  obtain ⟨ρ, st, as, w, s', r, ha, e, k⟩ := q
  unfold oMaxL at e
  split at e
  · split at e
    · rename_i ys hx
      split at e
      · rename_i ns hz
        split at e
        · rename_i hl
          cases e
          obtain ⟨z, rfl, hz'⟩ := ha.one
          obtain ⟨p, vs, rfl, h1, h2⟩ := lstOf_ok r hz' hx
          have ev := asInts_ok h2 hz
          subst ev
          refine ⟨p, ns, rfl, SqL.of h1, hl, fun m hm hy => ?_⟩
          obtain ⟨m1, m2⟩ := maxL_ok hl
          have : m = maxL ns := Int.le_antisymm (m2 m hm) (hy _ m1)
          rw [this]
          exact k.here r (.int _)
        · cases e
      · cases e
    · cases e
  · cases e
theorem c_minL (hc : X.calm = true := by rfl) : CallR X (.builtin "min") (rC T oMinL) := CallR.imp (cr_min hc) fun xs H Q q => by
  obtain ⟨ρ, st, as, w, s', r, ha, e, k⟩ := q
  unfold oMinL at e
  split at e
  · split at e
    · rename_i ys hx
      split at e
      · rename_i ns hz
        split at e
        · rename_i hl
          cases e
          obtain ⟨z, rfl, hz'⟩ := ha.one
          obtain ⟨p, vs, rfl, h1, h2⟩ := lstOf_ok r hz' hx
          have ev := asInts_ok h2 hz
          subst ev
          refine ⟨p, ns, rfl, SqL.of h1, hl, fun m hm hy => ?_⟩
          obtain ⟨m1, m2⟩ := minL_ok hl
          have : m = minL ns := Int.le_antisymm (hy _ m1) (m2 m hm)
          rw [this]
          exact k.here r (.int _)
        · cases e
      · cases e
    · cases e
  · cases e
end
end Sm

/-! S28: defs with defaults -/
namespace Sm
open PySem PySem.Spec PyProof.Rows L2
/-- a def with defaults by its body -/
theorem fnG_ofD {P : Program} {w : World} {K : PySem.W.Frag} {mg : Str → Option Value} {base : Heap} {k : Nat} {x qual : Str} {st : Stmt} {f : Addr} {fd : FuncData} {N ps : List Str} {sp : Sp} {dvs : List V} {kws : List (Str × V)} (F : FunD K x qual (defArgs st) (defBody st) (defScope st) dvs kws f fd) (S : FnScope N ps (defScope st)) (len : ∀ vs H Q E, sp vs H Q E → vs.length = ps.length)
    (hbody : ∀ (cdv : Value) (A : Around) (outer : List Env) (s : Shared) (H : Hp) (vs : List V) (Q : VK) (E : XK), Room k (A.deeper (envOfC qual (defScope st) s.heap.objs.size f cdv)) → A.guards = some [] → sp vs H Q E →
      ∃ t, PSs (cxOf (L2N.CX P w) P w K mg base N qual (defScope st) f cdv A outer s H E) (defBody st) t ∧ t { nx := fun _ H' => Q .non H', rt := Q } (L2.start N vs) H) : FnG P w K mg base (k + 1) f fd ps sp := by
  obtain ⟨oc, od, dV, kV, doc, pm, an, cdv, ct, osl, rfl, lk, hcd, _, _⟩ := F.ex
  refine ⟨len, fun A outer s H args us vs Q E hr hg e0 hb r hsp => ?_⟩
  have inK : K.In s.heap := e0.mod.kin.keeps fun b o e => (e0.bs b o e).1
  have nl : s.heap.NoLimit := e0.mod.nolimit.keeps fun b o e => (e0.bs b o e).1
  have kinds : ∀ y ∈ ps.zip us, (defScope st).names.lookup y.1 = some .local ∨ ((defScope st).names.lookup y.1 = some .cell ∧ ((cellsFrom (s.heap.objs.size + 1) (defScope st).names []).lookup y.1).isSome = true) := by
    rintro ⟨n, v⟩ hy
    exact (S.par n (List.of_mem_zip hy).1).imp id fun q => ⟨q, PySem.W.cellsFrom_some _ _ _ (.inl q)⟩
  refine codeAny_call_function hr.depth (inK _ _ lk) rfl S.co S.gen rfl (PySem.W.codeRec_of inK hcd) (hb _ _ _ _ (wpAny_newFunctionEnv_cells S.kind kinds fun env he s1 y => ?_))
  subst he
  refine ⟨nl.keeps y.toInCall.keep, codeAny_func ?_⟩
  obtain ⟨t, ht, hq⟩ := hbody cdv A outer s H vs Q E (hr.deeper _) hg hsp
  refine wpAny_mono (ht.run [] s1 (L2.start N vs) H _ (inv_start S hr.hd e0 (len _ _ _ _ hsp) r y) hq) (fun fl s' hs => ?_) fun e s' hs => hs
  cases fl with
  | ret u => obtain ⟨v, σ', H', J, rv, q⟩ := hs; exact ⟨v, H', J.os, J.bare, J.base, J.hok, rv, q⟩
  | next => obtain ⟨σ', H', J, q⟩ := hs; exact ⟨V.non, H', J.os, J.bare, J.base, J.hok, rfl, q⟩
  | brk => obtain ⟨_, _, _, q⟩ := hs; exact q.elim
  | cont => obtain ⟨_, _, _, q⟩ := hs; exact q.elim
theorem fn_simD {P : Program} {w : World} {K : PySem.W.Frag} {mg : Str → Option Value} {base : Heap} {k n : Nat} {x qual : Str} {st : Stmt} {f : Addr} {fd : FuncData} {N ps : List Str} {T : Tb} {b : SM} {dvs : List V} {kws : List (Str × V)} (F : FunD K x qual (defArgs st) (defBody st) (defScope st) dvs kws f fd) (S : FnScope N ps (defScope st)) (hn : n = ps.length)
    (body : ∀ (cdv : Value) (A : Around) (outer : List Env) (s : Shared) (H : Hp) (E : XK), Room k (A.deeper (envOfC qual (defScope st) s.heap.objs.size f cdv)) → A.guards = some [] →
      PSs (cxOf (L2N.CX P w) P w K mg base N qual (defScope st) f cdv A outer s H E) (defBody st) (tS T (fun c d _ H' => E c d H') b)) (hx : T.xs = [] := by rfl) : FnG P w K mg base (k + 1) f fd ps (SpM T n (fnM N.length b)) :=
  fnG_ofD F S (fun vs H Q E ⟨ρ, s, as, r, hv, hl, p⟩ => by rw [← hv.length, hl, hn]) fun cdv A outer s H vs Q E hr hg h => ⟨_, body cdv A outer s H E hr hg, fn_body hx h⟩
/-- how it binds where the last parameters are not given -/
structure BindD (K : PySem.W.Frag) (fd : FuncData) (ps : List Str) (das : List Vl) : Prop where
  ex : ∃ (ds : List Value) (dvs : List V), Vals dvs ds ∧ Binds K fd ps ds ∧ ∀ (T : Tb) (ρ : List Addr) (H : Hp), T.K = K → RVs T ρ H das dvs
theorem bindD_of {K : PySem.W.Frag} {fd : FuncData} {ps : List Str} {das : List Vl} {dvs : List V} (h : ∃ ds, Vals dvs ds ∧ Binds K fd ps ds) (hv : ∀ (T : Tb) (ρ : List Addr) (H : Hp), T.K = K → RVs T ρ H das dvs) : BindD K fd ps das := by
  obtain ⟨ds, h1, h2⟩ := h
  exact ⟨ds, dvs, h1, h2, hv⟩
def dflM (n : Nat) (das : List Vl) (mf : List Vl → M Vl) : List Vl → M Vl := fun as s => if as.length + das.length = n then mf (as ++ das) s else .fail
theorem fnV_dfl {P : Program} {w : World} {mg : Str → Option Value} {base : Heap} {k n : Nat} {f : Addr} {fd : FuncData} {ps : List Str} {T : Tb} {mf : List Vl → M Vl} {das : List Vl} (F : FnG P w T.K mg base k f fd ps (SpM T n mf)) (hb : BindD T.K fd ps das) : FnV P w T.K mg base k f (SpV T (dflM n das mf)) := by
  intro A outer s H us vs Q E hr hg e0 r ⟨ρ, sto, as, rel, has, p⟩
  unfold dflM at p
  split at p
  · rename_i hl
    obtain ⟨ds, dvs, rd, hb, hv⟩ := hb.ex
    have inK : T.K.In s.heap := e0.mod.kin.keeps fun b o e => (e0.bs b o e).1
    have hv := hv T ρ H rfl
    have sp : SpM T n mf (vs ++ dvs) H Q E := ⟨ρ, sto, as ++ das, rel, has.append hv, by rw [List.length_append]; exact hl, p⟩
    have r2 : Vals (vs ++ dvs) (us ++ ds) := r.append rd
    exact F.run A outer s H ⟨us, []⟩ (us ++ ds) (vs ++ dvs) Q E hr hg e0 (hb s us inK (by rw [← r2.length]; exact F.len _ _ _ _ sp)) r2 sp
  · exact p.elim
section
variable {X : Cx} {T : Tb} {W : WX} {k : Nat} {f : Addr} {mf : List Vl → M Vl} {x : Str} {p pos : Pos} {e : Expr} {es : List Expr} {ma : AM}
theorem run_V {pins : List (Addr × Obj)} {σ : L2.St} {H : Hp} {s : Shared} {Q : VK} {us : List Value} {vs : List V} {sp : Sp} (F : FnV X.prog X.w X.K X.mg X.base k f sp) (hr : Room k X.A) (hg : X.A.guards = some []) (tk : L2N.Takes X W)
    (I : Inv X pins σ H s) (r : Vals vs us) (h : sp vs H Q fun c d H' => W c d σ H') : wpAny (model X.prog X.w) X.A (call (.ref f) us) (EP X pins σ Q) X.xe s := by
  refine wpAny_call (codeAny_mono (F X.A X.stack s H us vs Q _ hr hg I.env0 r h) fun z s' hq => ?_)
  cases z with
  | error y => exact tk y s' (L2N.XE.of_call I (fun _ _ _ q => q) hq)
  | ok fl =>
    cases fl with
    | ret u => exact I.after hq
    | next => exact hq.elim
    | brk => exact hq.elim
    | cont => exact hq.elim
theorem ce_callV (F : FnV X.prog X.w X.K X.mg X.base k f (SpV T mf)) (hr : Room k X.A) (hgd : X.A.guards = some []) (hg : Gl X x) (hm : X.mg x = some (.ref f)) (hk : PySem.W.keepIn X.K (.ref f) = true) (tk : L2N.Takes X W) (ha : PA X (e :: es) (tA T W ma))
    (hdb : (x == ("__debug__" : Str)) = false := by decide) (he : starEach (e :: es) X.env = (false, eval e X.env) :: starEach es X.env := by rfl) (hpl : (backTo pos (starEach es X.env)).any (·.1) = false := by rfl) :
    PE X (.Call (.Name x p) (e :: es) [] pos) (tE T W (eCall mf ma)) := by
  refine ⟨fun pins s σ H Q I h => wpAny_Call_Name_kw (ld_glob I hg hm ?_ hdb)⟩
  have h : tA T W ma σ H fun vs H1 => SpV T mf vs H1 Q fun c d H' => W c d σ H' := tG_bnd (R := RVs T) h fun ρ s lo xs zs H1 r rl hx q => ⟨ρ, s, xs, r, hx, q⟩
  exact PySem.W.callWith_K (h₀ := X.base) I.ok.mod.kin hk (thn (ha.run pos pins s σ H _ I h) fun us s1 ⟨vs, H1, I1, r, q⟩ => ⟨I1.kIn, run_V F hr hgd tk I1 r q⟩) he hpl
end
/-- a written empty tuple -/
theorem empty_rv {T : Tb} {ρ : List Addr} {H : Hp} {a : Addr} {od : Option Addr} {n : Nat} {sl : Array (Option Value)} (h : T.K.lookup a = some ⟨.type "tuple", od, .seq #[] n, sl⟩) : RV T ρ H (.tup []) (.ref a) :=
  .tup (.inr ⟨_, _, _, h, rfl, rfl, Nat.zero_le _, .nil⟩) .nil
end Sm

/-! S31: a list unpacked into targets -/
namespace Sm
open PySem L2
def gUl (gs : List GM) : GM := fun v lo s => match v with
  | .ref j => match s[j]? with
    | some (.lst xs) => match gAll gs xs lo s with
      | some (lo', s') => .ok lo' s'
      | none => .fail
    | _ => .fail
  | _ => .fail
section
variable {X : Cx} {T : Tb} {W : WX} {es : List Expr} {gs : List GM} {pos : Pos} {kk : Nat}
theorem cg_unl (h : PGs X es (tGts T gs)) (hc : X.calm = true := by rfl) (hn : (assignEach es X.env).length = gs.length := by rfl) (hst : (assignEach es X.env).findIdx? (·.1) = none := by rfl) : PG X (.Tuple es kk pos) (tGt T W (gUl gs)) :=
  pg_mono (pg_unl hc h hn hst) fun z σ H Q h => by
    obtain ⟨ρ, s, lo, v, r, rl, hv, p⟩ := h
    unfold gUl at p
    cases v <;> try exact p.elim
    rename_i j
    obtain ⟨a, rfl, ha⟩ := hv.refE
    simp only at p
    split at p
    · rename_i xs hj
      obtain ⟨vs, h1, h2⟩ := r.lst hj ha
      split at p
      · rename_i lo' s' hg
        refine ⟨a, vs, rfl, SqL.of h1, by rw [← h2.length]; exact gAll_len hg, ρ, s, lo, xs, lo', s', r, rl, h2, hg, ?_⟩
        exact fun ρ' H' σ' ext r' rl' => p ρ' H' σ' ext r' rl'
      · exact p.elim
    · exact p.elim
end
end Sm

/-! S34: f-strings, x or y of lists, split() -/
namespace Sm
open PySem L2
/-- {x}: a text or an int -/
def fmtM (x : Vl) : M Vl := fun s => match x with
  | .str y => if y.length ≤ LIM then .ok (.str y) s else .fail
  | .int i => if i.natAbs.log2 < 1920 then .ok (.str (Str.ofString (toString i))) s else .fail
  | _ => .fail
def eFmt (m : EM) : EM := fun lo => bnd (m lo) fmtM
/-- the parts of a text one behind the other -/
def jnd : List EM → Str → EM
  | [], acc => fun _ => ret (.str acc)
  | m :: ms, acc => fun lo => bnd (m lo) fun x s => match x with
    | .str y => if (acc ++ y).length ≤ LIM then jnd ms (acc ++ y) lo s else .fail
    | _ => .fail
def eJnd (ms : List EM) : EM := jnd ms Str.empty
/-- x or y, x a list -/
def eOrL (a b : EM) : EM := fun lo => bnd (a lo) fun x s => match lstOf x s with
  | some xs => if xs.isEmpty = true then b lo s else .ok x s
  | none => .fail
/-- x.split() -/
def oSplit0 : OMt
  | .str a, [], s => if a.length + 2 ≤ LIM then some (.ref s.length, s ++ [.lst ((Txt.words a).map Vl.str)]) else none
  | _, _, _ => none
/-- str(x): texts, ints, tuples -/
def oStrD : OC
  | [.str y], s => some (.str y, s)
  | [.int i], s => if i.natAbs.log2 < 1920 then some (.str (Str.ofString (toString i)), s) else none
  | [.tup xs], s => match toD 40 s (.tup xs) with
    | some d => if d.showable && decide (d.shown.length ≤ LIM) then some (.str d.shown, s) else none
    | none => none
  | _, _ => none
section
variable {X : Cx} {T : Tb} {W : WX} {a b e : Expr} {ma mb m : EM} {pos : Pos} {rest es : List Expr} {ms : List EM}
theorem ce_fmt (h : PE X e (tE T W m)) : PE X (.FormattedValue e (-1) none pos) (tE T W (eFmt m)) :=
  pe_mono (pe_fmt h) fun σ H Q h => tG_bnd h fun ρ s lo x z H1 r rl hx p => by
    unfold fmtM at p
    cases hx with
    | str y =>
      by_cases q : y.length ≤ LIM
      · simp only [if_pos q] at p
        exact .inl ⟨y, rfl, by rw [lim_eq]; exact q, p ρ H1 _ .refl r (.str y)⟩
      · simp only [if_neg q] at p
        exact p.elim
    | int i =>
      by_cases q : i.natAbs.log2 < 1920
      · simp only [if_pos q] at p
        exact .inr ⟨i, rfl, q, p ρ H1 _ .refl r (.str _)⟩
      · simp only [if_neg q] at p
        exact p.elim
    | _ => exact p.elim
theorem cj_nil : PJ X [] (([] : List EM).map (tE T W)) := .nil
theorem cj_cons (h : PE X e (tE T W m)) (r : PJ X es (ms.map (tE T W))) : PJ X (e :: es) ((m :: ms).map (tE T W)) := .cons h r
theorem jnd_le : ∀ (ms : List EM) (acc : Str) (σ : L2.St) (H : Hp) (Q : VK), tE T W (jnd ms acc) σ H Q → tJs (ms.map (tE T W)) acc σ H fun out H1 => Q (.str out) H1
  | [], acc, σ, H, Q, h => by
    obtain ⟨ρ, s, lo, r, rl, p⟩ := h
    exact po_ret (R := RV T) p r (.str acc)
  | m :: ms, acc, σ, H, Q, h => tG_bnd (f := fun lo x s => match x with | .str y => if (acc ++ y).length ≤ LIM then jnd ms (acc ++ y) lo s else .fail | _ => .fail) h fun ρ s lo x z H1 r rl hx p => by
    cases hx with
    | str y =>
      by_cases q : (acc ++ y).length ≤ LIM
      · simp only [if_pos q] at p
        exact ⟨y, rfl, by rw [lim_eq]; exact q, jnd_le ms (acc ++ y) σ H1 Q ⟨ρ, s, lo, r, rl, p⟩⟩
      · simp only [if_neg q] at p
        exact p.elim
    | _ => exact p.elim
theorem ce_jnd {v1 v2 : Expr} (h : PJ X (v1 :: v2 :: rest) (ms.map (tE T W))) : PE X (.JoinedStr (v1 :: v2 :: rest) pos) (tE T W (eJnd ms)) :=
  pe_mono (pe_joined h) fun σ H Q h => jnd_le ms _ σ H Q h
theorem ce_jnd1 (h : PE X e (tE T W m)) : PE X (.JoinedStr [e] pos) (tE T W m) := pe_joined1 h
theorem ce_orL (ha : PE X a (tE T W ma)) (hb : PE X (.BoolOp .Or (b :: rest) pos) (tE T W mb)) (hK : X.K = T.K := by rfl) : PE X (.BoolOp .Or (a :: b :: rest) pos) (tE T W (eOrL ma mb)) :=
  pe_mono (pe_orT ha hb) fun _ _ _ h => tG_bnd (f := fun lo x s => match lstOf x s with | some xs => if xs.isEmpty = true then mb lo s else .ok x s | none => .fail) h fun ρ s lo x z H1 r rl hx p => by
    cases e : lstOf x s with
    | none => rw [e] at p; exact p.elim
    | some xs =>
      rw [e] at p
      obtain ⟨q, vs, rfl, h1, h2⟩ := lstOf_ok r hx e
      refine ⟨!vs.isEmpty, .inl ⟨vs, by rw [hK]; exact SqL.of h1, rfl⟩, ?_⟩
      have hl := h2.length
      cases xs with
      | nil =>
        cases vs with
        | nil => exact ⟨ρ, s, lo, r, rl, p⟩
        | cons => simp at hl
      | cons y ys =>
        cases vs with
        | nil => simp at hl
        | cons u us =>
          exact p ρ H1 _ .refl r hx
theorem m_split0 : MtR X "str.split" (rMt T oSplit0) := MtR.imp mt_words fun x xs H Q q => by
  obtain ⟨ρ, st, a, as, w, s', r, ha, hs, e, k⟩ := q
  unfold oSplit0 at e
  split at e
  · split at e
    · rename_i hl
      cases e
      cases ha
      cases hs
      refine ⟨_, rfl, rfl, by rw [lim_eq]; exact hl, fun p hp => ?_⟩
      exact k.lst r (RVs.strs _) hp
    · cases e
  · cases e
theorem c_strD (hg : X.A.guards = some []) (hu : X.A.units + 64 < cLine) (hK : X.K = T.K := by rfl) : CallR X (.type "str") (rC T oStrD) := fun pins s σ H xs us Q I rs q => by
  obtain ⟨ρ, st, as, w, s', r, ha, e, k⟩ := q
  unfold oStrD at e
  split at e
  · cases e
    obtain ⟨z, rfl, hz⟩ := ha.one
    cases hz
    exact SkE.call_str_str pins s σ H _ us Q I rs ⟨_, rfl, k.here r (.str _)⟩
  · split at e
    · rename_i hl
      cases e
      obtain ⟨z, rfl, hz⟩ := ha.one
      cases hz
      exact call_str_int pins s σ H _ us Q I rs ⟨_, rfl, hl, k.here r (.str _)⟩
    · cases e
  · rename_i xs0
    split at e
    · rename_i d hd
      split at e
      · rename_i hb
        cases e
        obtain ⟨hs, hl⟩ := Bool.and_eq_true_iff.mp hb
        have hl := of_decide_eq_true hl
        obtain ⟨z, rfl, hz⟩ := ha.one
        obtain ⟨p1, p2⟩ := toD_dp r 40 _ z d hz hd
        have nd := dp_noDict d z p1
        have fin := k.here r (.str d.shown)
        cases rs with
        | cons r1 r2 =>
          cases r2
          rename_i u
          rw [← hK] at p1
          obtain ⟨bs, rd⟩ := Dp.reads I d z u p1 r1
          cases hz with
          | tup g1 g2 =>
            obtain rfl := r1
            exact str_of_reads rd hs (fun z => by rw [nd] at z; cases z) hg (by omega) (fun _ _ e => e) (fun h' u tk hk => ⟨.str _, H, I.kept (t' := tk) hk, ⟨_, rfl⟩, fin⟩) (by rw [lim_eq]; exact hl)
      · cases e
    · cases e
  · cases e
end
end Sm

/-! S42: own exceptions with one field: raise C(e) -/
namespace Sm
section
open PySem PySem.W PySem.Calls PyProof.Rows PySem.HandSPX Builtin Builtin.ObjectAttr
variable {prog : Program} {w : World} {A : Around} {R : Result → Shared → Prop} {hp : Heap} {g : Array GenState} {d : Drawn} {t : Nat} {os : OsState}
/-- the first field of an exception of any base -/
theorem ox_store {K : W.Frag} {nm : Str} {tk : Tok} {v : Value} {e C : Addr} {fv : Array Value} {cd : ClassData} (kin : K.In hp) (he : hp.get? e = some { cls := .ref C, data := .fields fv }) (hcd : W.clsIn K C = some cd) (hob : cd.mro.contains (.type "object") = true)
    (pass : ∀ z : Value, refuseLoop z "__setattr__" cd.mro = pure ()) (hdict : cd.hasDict = true) (hnone : W.findIn K (.ref C) nm = some none)
    (fin : ∀ h' tk' dx, (∀ b o, b ≠ e → hp.get? b = some o → h'.get? b = some o) → hp.objs.size ≤ dx → dx ≠ e → h'.get? e = some { cls := .ref C, dict := some dx, data := .fields fv } → h'.Ns1 dx (fun y => if y = nm then some v else none) → R (.ok (.ret .none)) ⟨h', g, d, tk', os⟩) :
    codeAny (model prog w) A (.call (.builtin "object.__setattr__") ⟨[.ref e, .str nm tk, v], []⟩) R ⟨hp, g, d, t, os⟩ := by
  have inst : W.InstAt hp e { cls := .ref C, data := .fields fv } C none := ⟨he, rfl, rfl, trivial⟩
  have sf := F.store_object
  have nemp : cd.mro.isEmpty = false := by
    cases q : cd.mro with
    | nil => rw [q] at hob; simp at hob
    | cons _ _ => rfl
  have apart : e ≠ hp.objs.size := Nat.ne_of_lt (Heap.lt_size he)
  have isob : W.Looks (model prog w) hp (isInstance (.ref e) (.type "object")) true := inst.type.andThen (W.looks_mroIn kin (by unfold W.mroIn; rw [hcd, Option.bind_some, if_neg (by rw [nemp]; decide), hob]))
  refine codeAny_call_builtin sf.slot.plain sf.entry (@W.check_slot (model prog w) _ _ ⟨hp, g, d, t, os⟩ "object.__setattr__" "object" "__setattr__" (.ref e) [.str nm tk, v] [] _ sf.kind sf.split isob (sf.args (.ref e) (.str nm tk) v) ?_)
  have lm : W.Looks (model prog w) hp (mroOf (.ref C)) cd.mro := (W.looks_clsIn kin hcd).andThen .now
  have lt : W.Looks (model prog w) hp (storeTaker? none) none := .now
  have lc : W.Looks (model prog w) hp (classData C) cd := W.looks_clsIn kin hcd
  rw [W.osa_eq, refuse_eq]
  refine wpAny_bind (wpAny_bind (inst.type.at (wpAny_bind (lm.at ?_))))
  rw [pass]
  refine wpAny_pure (wpAny_bind (inst.type.at (wpAny_bind ((W.looks_findIn kin hnone).at (wpAny_bind (lt.at ?_))))))
  show wpAny _ _ (storeInOwnDict (.ref e) (.ref C) (.str nm tk) nm v false) _ _ _
  obtain ⟨nm', bs, mro, ns, qn, hd, sn, sb, ab, col, del⟩ := cd
  dsimp only at hdict
  subst hdict
  unfold storeInOwnDict ownDictForStores
  repeat (first | with_reducible refine store_in_new ?_ ?_ | with_reducible refine wpAny_loadPart_at he ?_ | with_reducible refine lc.at ?_ | wp_step)
  · exact ⟨_, #[], _, (Heap.get?_update_ne _ _ _ _ apart.symm).trans (Heap.get?_push_at rfl rfl), rfl, fun z hz => absurd hz (by simp), fun _ => rfl⟩
  · intro h' tk' hn' hs
    have he1 : (hp.push { cls := .type "dict", data := .dict #[] }).get? e = some { cls := .ref C, data := .fields fv } := Heap.get?_push_of_some _ he
    refine fin h' tk' hp.objs.size (fun b o hb ho => ?_) (Nat.le_refl _) apart.symm ?_ hn'
    · exact (hs.2 b (Nat.ne_of_lt (Heap.lt_size ho))).trans ((Heap.get?_update_ne _ _ _ _ hb).trans (Heap.get?_push_of_some _ ho))
    · exact (hs.2 e apart).trans (Heap.get?_update_self _ he1 rfl)
/-- what the written part says of the class x at C and of its __init__ at fI: def __init__(self, par): self.fld = par -/
structure OxT (K : W.Frag) (mg : Str → Option Value) (x fld : Str) (C fI : Addr) : Prop where
  gC : mg x = some (.ref C)
  cls : ∃ (B newId initId : String) (bmB : List Value) (nm q : Str) (N : Addr) (bs bm : List Value) (sn : List Str) (sub : List Value) (ab : Bool) (col : Option Bool) (dd : Option Addr) (k0 k1 k2 k3 k5 : Option Value), ExcBaseFacts B newId initId bmB ∧
    K.lookup C = some (excClassObj nm q C N bs bm true sn sub ab col dd k0 k1 k2 k3 k5 newId) ∧ (∀ Y : String, bm.contains (.type Y) = bmB.contains (.type Y)) ∧ (∀ v : Value, refuseLoop v "__setattr__" (.ref C :: bm) = pure ()) ∧ bm.contains (.type "object") = true
  sa : W.findIn K (.ref C) "__setattr__" = some (some (.builtin "object.__setattr__"))
  ga : W.findIn K (.ref C) "__getattribute__" = some (some (.builtin "BaseException.__getattribute__"))
  gg : W.findIn K (.ref C) "__getattr__" = some none
  noN : W.findIn K (.ref C) fld = some none
  iC : W.findIn K (.ref C) "__init__" = some (some (.ref fI))
  tI : W.typeIn K (.ref fI) = some (.type "function")
  kC : W.keepIn K (.ref C) = true
  exC : W.subIn K (.ref C) (.type "BaseException") = some true
  tyC : W.typeIn K (.ref C) = some (.type "type")
  hdC : W.hasDictIn K C = true
  fn : ∃ (qual par : Str) (st : Stmt) (fd : FuncData) (q1 q2 q3 q4 : Pos), L2.Fun K "__init__" qual st fI fd ∧ L2.Binds K fd ["self", par] [] ∧ L2.defBody st = [.Assign [.Attribute (.Name "self" q1) fld q2] (.Name par q3) q4] ∧
    (L2.defScope st).names.lookup (Str.ofString "self") = some NameKind.local ∧ (L2.defScope st).names.lookup par = some NameKind.local ∧ par ≠ "self" ∧ (par == ("__debug__" : Str)) = false ∧ (L2.defScope st).isCoroutine = false ∧ (L2.defScope st).isGenerator = false ∧ (L2.defScope st).kind = .function
end
section
open PySem PySem.W PySem.Calls PySem.Spec PyProof.Rows PySem.HandSPX L2
variable {prog : Program} {w : World} {A : Around} {E : Value → Shared → Prop} {R : Result → Shared → Prop} {s : Shared} {K : W.Frag} {mg : Str → Option Value} {C fI : Addr} {x fld : Str}
/-- what __init__ leaves of a fresh exception at e -/
structure OxEnd (fld : Str) (h h' : Heap) (e C dx t1 : Addr) (v : Value) : Prop where
  keep : ∀ b o, b ≠ e → h.get? b = some o → h'.get? b = some o
  obj : h'.get? e = some { cls := .ref C, dict := some dx, data := .fields #[.ref t1, .none, .none, .none, .bool false, .none] }
  big : h.objs.size ≤ dx
  ne : dx ≠ e
  ns : h'.Ns1 dx (fun y => if y = fld then some v else none)
theorem ld_loc {M : Model} {s : Shared} {name : Str} {scope : Scope} {L a : Addr} {cd : Value} {m : Str → Option Value} {y : Str} {pos : Pos} {v : Value} {Q : Value → Shared → Prop} {A : Around} {E : Value → Shared → Prop} (hn : s.heap.Ns L m) (hv : m y = some v)
    (hk : scope.kind = .function) (hl : scope.names.lookup y = some .local) (hd : (y == ("__debug__" : Str)) = false) (h : Q v s) : wpAny M A (eval (.Name y pos) (envOfC name scope L a cd)) Q E s := wpAny_Name (wpAny_loadName_local hk hl hn hv h) hd
theorem ox_init (T : OxT K mg x fld C fI) {e t0 : Addr} {v : Value} (X : K.In s.heap) (hlim : s.heap.NoLimit) (he : s.heap.get? e = some (excO C t0)) (hroom : A.depth < recursionLimit)
    (hq : ∀ h' tk dx, OxEnd fld s.heap h' e C dx t0 v → R (.ok (.ret .none)) { s with heap := h', toks := tk }) : codeAny (model prog w) A (.call (.ref fI) ⟨[.ref e, v], []⟩) R s := by
  obtain ⟨qual, par, st, fd, q1, q2, q3, q4, F, hb, hbody, ls, lp, ps, pd, c1, c2, c3⟩ := T.fn
  obtain ⟨B, newId, initId, bmB, nm, q, N, bs, bm, sn, sub, ab, col, dd, k0, k1, k2, k3, k5, _, hC, _, pass, hob⟩ := T.cls
  have hcl : clsIn K C = some { name := nm, bases := bs, mro := .ref C :: bm, ns := N, qualname := q, hasDict := true, slotNames := sn, subclasses := sub, abstract := ab, collection := col, hasDel := false } := by unfold clsIn; rw [hC] <;> rfl
  obtain ⟨oc, od, kV, doc, pm, an, cdv, ct, osl, rfl, lk, hcd⟩ := F.ex
  refine Att.call_fn (binds := [("self", .ref e), (par, v)]) X hlim lk hcd hroom (hb s [.ref e, v] X rfl) (by simp [ls, lp]) (fun s1 IC => ?_) c1 c2 c3
  obtain ⟨h1, tk1, rfl⟩ := IC.toInCall.same
  have k := IC.toInCall.keep
  have hn := IC.toInCall.ns
  have X1 : K.In h1 := X.keeps k
  have he1 := k _ _ he
  have g1 : bindL (envOfC qual (defScope st) s.heap.objs.size fI cdv).kindOf [("self", .ref e), (par, v)] (fun _ => none) "self" = some (.ref e) := bindL_get (P := ["self", par]) (vs := [.ref e, v]) (i := 0) (by simp [ps.symm]) rfl rfl ls
  have g2 : bindL (envOfC qual (defScope st) s.heap.objs.size fI cdv).kindOf [("self", .ref e), (par, v)] (fun _ => none) par = some v := bindL_get (P := ["self", par]) (vs := [.ref e, v]) (i := 1) (by simp [ps.symm]) rfl rfl lp
  rw [hbody]
  refine wpAny_execs_cons (plainObj_wpAny_Assign_Attribute ?_)
  refine ld_loc hn g2 c3 lp pd (ld_loc hn g1 c3 ls (by decide) ?_)
  refine set_plain X1 (ox := excO C t0) (od := none) ⟨he1, rfl, rfl, trivial⟩ T.sa ?_
  refine ox_store X1 he1 hcl (by show (Value.ref C :: bm).contains _ = true; rw [List.contains_cons, hob, Bool.or_true]) pass rfl T.noN (fun h3 tk3 dx k3 dn dne hx3 hn3 => ?_)
  show wpAny _ _ (execs _ _) _ _ _
  have z : s.heap.objs.size < h1.objs.size := hn.lt
  exact wpAny_execs_nil (hq h3 tk3 dx ⟨fun b o hb e => k3 b o hb (k b o e), hx3, Nat.le_of_lt (Nat.lt_of_lt_of_le z dn), dne, hn3⟩)
/-- a made exception -/
structure OxMade (fld : Str) (h h' : Heap) (e C d : Addr) (v : Value) : Prop where
  keep : ∀ b o, h.get? b = some o → h'.get? b = some o
  new : h.objs.size ≤ e
  obj : ∃ oe vs, h'.get? e = some oe ∧ oe.cls = .ref C ∧ oe.dict = some d ∧ oe.data = .fields vs ∧ vs[1]? = some .none ∧ vs[2]? = some .none
  big : h.objs.size ≤ d
  ne : d ≠ e
  ns : h'.Ns1 d (fun y => if y = fld then some v else none)
theorem ox_made (T : OxT K mg x fld C fI) {v : Value} (X : K.In s.heap) (hlim : s.heap.NoLimit) (hroom : A.depth + 1 < recursionLimit)
    (hq : ∀ h' tk e d, OxMade fld s.heap h' e C d v → R (.ok (.ret (.ref e))) { s with heap := h', toks := tk }) : codeAny (model prog w) A (.call (.ref C) ⟨[v], []⟩) R s := by
  obtain ⟨B, newId, initId, bmB, nm, q, N, bs, bm, sn, sub, ab, col, dd, k0, k1, k2, k3, k5, EF, hC, cont, pass, hob⟩ := T.cls
  obtain ⟨hp, g, dr, tk, os⟩ := s
  have k : ∀ b o, hp.get? b = some o → ((hp.push (kdv_tup [v])).push (excO C hp.objs.size)).get? b = some o := fun b o e => Heap.get?_push_of_some _ (Heap.get?_push_of_some _ e)
  have hget : ((hp.push (kdv_tup [v])).push (excO C hp.objs.size)).get? (hp.objs.size + 1) = some (excO C hp.objs.size) := by heap_get
  refine call_own EF cont (X _ _ hC) (looks_findIn X T.iC) (fun self => bind_fn X self T.tI) (by rw [sizeLine_eq]; exact (by decide : 1 ≤ 16777216)) ?_
  refine ox_init (s := ⟨(hp.push (kdv_tup [v])).push (excO C hp.objs.size), g, dr, tk, os⟩) T (X.keeps k) (hlim.keeps k) hget ?_ fun h' tk' dx ⟨k', hx, dn, dne, hns⟩ => ?_
  · show A.depth + 1 < recursionLimit
    exact hroom
  · have old : ∀ b o, hp.get? b = some o → h'.get? b = some o := fun b o e => k' b o (Nat.ne_of_lt (Nat.lt_succ_of_lt (Heap.lt_size e))) (k b o e)
    have z : hp.objs.size + 1 + 1 ≤ dx := by
      first
        | (simpa only [Heap.size_push] using dn)
        | exact dn
    exact ⟨rfl, hq h' tk' (hp.objs.size + 1) dx ⟨old, Nat.le_succ _, ⟨_, _, hx, rfl, rfl, rfl, rfl, rfl⟩, Nat.le_trans (Nat.le_trans (Nat.le_succ _) (Nat.le_succ _)) z, dne, hns⟩⟩
end
section
open PySem PySem.Spec PyProof.Rows L2
variable {X : Cx} {T : Tb} {W : WX} {C fI : Addr} {x fld : Str} {a : Expr} {me : EM} {p pos pos2 : Pos} {k c : Nat}
theorem relO_one {fld : Str} {v : V} {u : Value} (r : RelV v u) (f : Str) : RelO (List.lookup f [(fld, v)]) (if f = fld then some u else none) := by
  by_cases h : f = fld
  · subst h
    rw [if_pos rfl]
    have q : List.lookup f [(f, v)] = some v := by simp [List.lookup]
    rw [q]
    exact r
  · rw [if_neg h]
    have qw : (f == fld) = false := by simpa using h
    have q2 : List.lookup f [(fld, v)] = none := by simp [List.lookup, qw]
    rw [q2]
    trivial
def tMkX (C : Addr) (fld : Str) (ta : TA) : L2.St → Hp → XK → Prop := fun σ H Q => ta σ H fun vs H1 => ∃ v, vs = [v] ∧ ∀ d, H1 d = none → Q (.ref C) (some d) (upd H1 d (.xd [(fld, v)]))
theorem pmk_x {ta : TA} (O : OxT X.K X.mg x fld C fI) (hr : Room k X.A) (ha : PA X [a] ta) (hg : Gl X x) (hdb : (x == ("__debug__" : Str)) = false := by decide)
    (he : starEach (a :: []) X.env = (false, eval a X.env) :: starEach [] X.env := by rfl) (hpl : (backTo pos (starEach [] X.env)).any (·.1) = false := by rfl) :
    L2N.PMk X (.Call (.Name x p) [a] [] pos) (tMkX C fld ta) := by
  intro pins s σ H Q I h
  refine wpAny_Call_Name_kw (ld_glob I hg O.gC ?_ hdb)
  refine PySem.W.callWith_K (h₀ := X.base) I.ok.mod.kin O.kC (thn (ha.run pos pins s σ H _ I h) fun us s1 hh => ?_) he hpl
  obtain ⟨vs, H1, I1, r1, v, ev, q1⟩ := hh
  subst ev
  refine ⟨I1.kIn, ?_⟩
  cases r1 with
  | cons rv rn =>
    rename_i v' us'
    cases rn
    show wpAny _ _ (call (.ref C) [v']) _ _ _
    have hlim := I1.nolimit
    obtain ⟨hp, g, dr, tk, os⟩ := s1
    refine wpAny_call (ox_made O I1.kIn hlim (by have := hr.dp; omega) fun h' tk' e d M => ?_)
    show L2N.MkP X pins σ Q (.ref e) ⟨h', g, dr, tk', os⟩
    obtain ⟨oe, fv, hoe, hc, hd, hdat, h1, h2⟩ := M.obj
    have hns := M.ns
    obtain ⟨G', g1, g2⟩ := restrict h' fun b => decide (b ≠ e)
    have gk : ∀ b, b ≠ e → G'.get? b = h'.get? b := fun b hb => g1 b (decide_eq_true hb)
    have ge : G'.get? e = none := g2 e (by simp)
    have old : ∀ b o, hp.get? b = some o → G'.get? b = some o := fun b o q => (gk b (Nat.ne_of_lt (Nat.lt_of_lt_of_le (Heap.lt_size q) M.new))).trans (M.keep b o q)
    have ob : ObjOk X.prog X.w (upd H1 d (.xd [(fld, v)])) G' d (.xd [(fld, v)]) := ⟨_, hns.at (fun o q => (gk d M.ne).trans q), fun f => relO_one rv f⟩
    have J : Inv X pins σ (upd H1 d (.xd [(fld, v)])) ⟨G', g, dr, tk', os⟩ := I1.laid (t' := tk') old M.big ob
    refine ⟨e, oe, fv, ⟨G', g, dr, tk', os⟩, _, .ref C, some d, rfl, J, fun b o q => ?_, ge, hoe, ⟨hc, hd, fun vs e => by rw [hdat] at e; cases e; exact h2⟩, hdat, h1, ?_, rfl, I1.bare, raises_own O.exC O.tyC, q1 d (I1.hok.fresh M.big)⟩
    · by_cases hb : b = e
      · have q' : G'.get? b = some o := q
        rw [hb, ge] at q'; cases q'
      · exact (gk b hb).symm.trans q
    · rw [upd_ne (Ne.symm M.ne)]
      exact I1.hok.fresh M.new
/-- raise C(e): the class's index, the field -/
def sRaise (c : Nat) (fld : Str) (e : EM) : SM := bndS e fun lo v s => .exc ⟨c, some [(fld, v)]⟩ lo s
theorem cs_raise (hc : X.calm = true) (O : OxT X.K X.mg x fld C fI) (hcl : T.cl[c]? = some C) (hr : Room k X.A) (tk : L2N.Takes X W) (hg : Gl X x) (ha : PE X a (tE T W me)) (hdb : (x == ("__debug__" : Str)) = false := by decide)
    (he : starEach (a :: []) X.env = (false, eval a X.env) :: starEach [] X.env := by rfl) (hpl : (backTo pos (starEach [] X.env)).any (·.1) = false := by rfl) :
    PS X (.Raise (some (.Call (.Name x p) [a] [] pos)) none pos2) (tS T W (sRaise c fld me)) := ps_mono (L2N.ps_raise hc tk (pmk_x (ta := tA T W (aCons me aNil)) O hr (ca_cons ha ca_nil he) hg hdb he hpl)) fun D σ H h => by
  obtain ⟨ρ, s, lo, r, rl, q⟩ := h
  refine ⟨ρ, s, lo, r, rl, ?_⟩
  unfold sRaise bndS at q
  show Po (RVs T) T _ ρ H (aCons me aNil lo s) _
  unfold aCons aNil bnd
  cases e : me lo s with
  | ok v s1 =>
    rw [e] at q
    simp only [ret, bnd]
    intro ρ' H' vs x r' hv
    cases hv with
    | @cons _ z _ _ h1 h2 =>
      cases h2
      refine ⟨_, rfl, fun d hd => ?_⟩
      have x2 : Ext T ρ' H' ρ' (upd H' d (.xd [(fld, z)])) := ext_upd hd
      exact q ρ' (upd H' d (.xd [(fld, z)])) σ C (x.trans x2) (r'.laid hd) ((rl.mono x).mono x2) hcl d _ upd_same rfl (.cons (h1.mono x2) .nil)
  | exc z s1 =>
    rw [e] at q
    exact fun ρ' H' D x r' hD => q ρ' H' σ D x r' (rl.mono x) hD
  | fail => rw [e] at q; exact q
end
end Sm

/-! S43: try .. except C as n; what runs in such a suite -/
namespace Sm
open PySem PySem.Spec PyProof.Rows L2 L2H
/-- the same table, with other handled exceptions -/
abbrev Tb.on (T : Tb) (l : List XI) : Tb := ⟨T.K, T.w, T.cl, T.fns, l⟩
section
variable {T : Tb} {l : List XI} {ρ ρ' : List Addr} {H H' : Hp} {s : Sto} {lo : Lo} {σ : L2.St}
mutual
theorem RV.on : ∀ {x : Vl} {v : V}, RV T ρ H x v → RV (T.on l) ρ H x v
  | _, _, .non => .non
  | _, _, .bl b => .bl b
  | _, _, .int i => .int i
  | _, _, .str x => .str x
  | _, _, .tup h hs => .tup h (RVs.on hs)
  | _, _, .ref h => .ref h
  | _, _, .scr h => .scr h
  | _, _, .scrK h => .scrK h
  | _, _, .ty n => .ty n
  | _, _, .fn h => .fn h
theorem RVs.on : ∀ {xs : List Vl} {vs : List V}, RVs T ρ H xs vs → RVs (T.on l) ρ H xs vs
  | _, _, .nil => .nil
  | _, _, .cons h hs => .cons (RV.on h) (RVs.on hs)
end
theorem RO.on {o : Ob} {a : Addr} (h : RO T ρ H o a) : RO (T.on l) ρ H o a := by
  cases o with
  | lst xs => obtain ⟨vs, h, r⟩ := h; exact ⟨vs, h, r.on⟩
  | dic xs => obtain ⟨vs, h, n, r⟩ := h; exact ⟨vs, h, n, r.on⟩
  | dit xs => obtain ⟨vs, h, n, r⟩ := h; exact ⟨vs, h, n, r.on⟩
  | fdic xs => obtain ⟨o, vs, h, n, r⟩ := h; exact ⟨o, vs, h, n, r.on⟩
  | set xs => obtain ⟨n, S, q, h⟩ := h; exact ⟨n, S, q, h⟩
  | ins c xs => obtain ⟨C, dx, vs, hc, h, n, r⟩ := h; exact ⟨C, dx, vs, hc, h, n, r.on⟩
theorem Rel.on (r : Rel T ρ H s) : Rel (T.on l) ρ H s := ⟨r.len, r.nd, fun i a o h1 h2 => (r.ob i a o h1 h2).on⟩
theorem Ext.on (e : Ext T ρ H ρ' H') : Ext (T.on l) ρ H ρ' H' := ⟨⟨e.pre, e.tup, e.frz, e.xd⟩, e.frd⟩
theorem RL.enter {i : Nat} {a d : Addr} {ns : List Str} {xs : List Vl} {vs : List (Str × V)} (rl : RL T ρ H lo σ) (hd : H d = some (.xd vs)) (hn : vs.map (·.1) = ns) (hv : RVs T ρ H xs (vs.map (·.2))) :
    RL (T.on [⟨i, a, d, ns, xs⟩]) ρ H (lo.set i none) (σ.set i (some (.ref a))) := by
  refine ⟨by rw [List.length_set, List.length_set]; exact rl.len, fun j x h => ?_, fun p hp h => ?_⟩
  · by_cases e : i = j
    · subst e
      by_cases hi : i < lo.length
      · rw [List.getElem?_set_self hi] at h; cases h
      · rw [List.getElem?_eq_none (by rw [List.length_set]; omega)] at h; cases h
    · rw [List.getElem?_set_ne e] at h ⊢
      obtain ⟨v, h1, h2⟩ := rl.at_ j x h
      exact ⟨v, h1, h2.on⟩
  · simp at hp
    subst hp
    have hi : i < lo.length := by
      have := (List.getElem?_eq_some_iff.mp h).1
      rw [List.length_set] at this
      exact this
    exact ⟨List.getElem?_set_self (by rw [← rl.len]; exact hi), vs, hd, hn, hv.on⟩
theorem RL.leave {i : Nat} (hx : T.xs = []) (rl : RL (T.on l) ρ H lo σ) : RL T ρ H (lo.set i none) (σ.set i none) := by
  refine ⟨by rw [List.length_set, List.length_set]; exact rl.len, fun j x h => ?_, fun p hp => by rw [hx] at hp; simp at hp⟩
  by_cases e : i = j
  · subst e
    by_cases hi : i < lo.length
    · rw [List.getElem?_set_self hi] at h; cases h
    · rw [List.getElem?_eq_none (by rw [List.length_set]; omega)] at h; cases h
  · rw [List.getElem?_set_ne e] at h ⊢
    obtain ⟨v, h1, h2⟩ := rl.at_ j x h
    exact ⟨v, h1, h2.on (l := T.xs)⟩
end
/-- try: b; except C as n: su; n's slot is i -/
def sTryAs (hit : Nat → Option Bool) (i : Nat) (b : SM) (su : Ex → SM) : SM := fun lo s => match b lo s with
  | .exc e lo' s' => match hit e.c with
    | some true => match e.fs with
      | some _ => match su e (lo'.set i none) s' with
        | .nx lo2 s2 => .nx (lo2.set i none) s2
        | .rt v s2 => .rt v s2
        | .bk lo2 s2 => .bk (lo2.set i none) s2
        | .ct lo2 s2 => .ct (lo2.set i none) s2
        | _ => .fail
      | none => .fail
    | some false => .exc e lo' s'
    | none => .fail
  | r => r
section
variable {X : Cx} {T : Tb} {W : WX} {x n : Str} {Cc : Addr} {i : Nat} {body suite : List Stmt} {b0 : Stmt} {np pos pos' : Pos} {mb : SM} {su : Ex → SM} {hit : Nat → Option Bool}
def tSuite (T : Tb) (i : Nat) (hit : Nat → Option Bool) (su : Ex → SM) : Addr → Value → Option Addr → TS := fun a cls d D σ H => ∃ (e : Ex) (C dd : Addr) (fs : List (Str × Vl)), cls = .ref C ∧ d = some dd ∧ e.fs = some fs ∧ T.cl[e.c]? = some C ∧ hit e.c = some true ∧
  tS (T.on [⟨i, a, dd, fs.map (·.1), fs.map (·.2)⟩]) WF (su e) D σ H
theorem cs_tryAs (hN : X.N.Nodup) (hi : X.N[i]? = some n) (hln : X.env.kindOf n = some .local) (hc : Names X x (.ref Cc)) (tk : L2N.Takes X W)
    (hit1 : ∀ c C, hit c = some true → T.cl[c]? = some C → PySem.W.exmOne X.K (.ref C) (.ref Cc) = some true) (hit0 : ∀ c C, hit c = some false → T.cl[c]? = some C → PySem.W.exmOne X.K (.ref C) (.ref Cc) = some false)
    (hb : ∀ (W : WX) (pn : List (Addr × Obj)) (xe : Value → Shared → Prop), L2N.Takes (X.tr pn xe) W → PassesOwn (model X.prog X.w) X.A X.env xe → PSs (X.tr pn xe) body (tS T W mb))
    (hsu : ∀ (a : Addr) (oe : Obj) (e : Ex) (C d : Addr) (fs : List (Str × Vl)) (pn : List (Addr × Obj)), e.fs = some fs → T.cl[e.c]? = some C → hit e.c = some true → L2N.Zn (.ref C) (some d) oe → (∃ vs, oe.data = .fields vs) →
      PSs (X.suite a ((a, oe) :: pn)) (b0 :: suite) (tS (T.on [⟨i, a, d, fs.map (·.1), fs.map (·.2)⟩]) WF (su e)))
    (hs : X.stack = X.env :: X.outer := by rfl) (hf : X.env.frame = some X.env.locals := by rfl) (hx : T.xs = [] := by rfl) :
    PS X (.Try body [.ExceptHandler (some (.Name x np)) (some n) (b0 :: suite) pos'] [] [] pos) (tS T W (sTryAs hit i mb su)) := by
  refine ps_mono (L2N.ps_try_as (tb := fun W => tS T W mb) (ts := tSuite T i hit su) hs hf hN hi hln hc tk hb (fun a oe cls d pn hz hf => ⟨fun pins s σ H D I h => ?_⟩)) fun D σ H h => ?_
  · obtain ⟨e, C, dd, fs, rfl, rfl, h1, h2, h3, h4⟩ := h
    exact (hsu a oe e C dd fs pn h1 h2 h3 hz hf).run pins s σ H D I h4
  · obtain ⟨ρ, s, lo, r, rl, p⟩ := h
    refine ⟨ρ, s, lo, r, rl, ?_⟩
    unfold sTryAs at p
    cases q : mb lo s with
    | nx lo' s' => rw [q] at p; exact p
    | rt v s' => rw [q] at p; exact p
    | bk lo' s' => rw [q] at p; exact p
    | ct lo' s' => rw [q] at p; exact p
    | fail => rw [q] at p; exact p
    | exc e lo' s' =>
      rw [q] at p
      simp only at p
      show PoXS T _ ρ H e lo' s'
      intro ρ' H' σ' C x r' rl' hC
      cases hh : hit e.c with
      | none => rw [hh] at p; exact p.elim
      | some b =>
        rw [hh] at p
        cases b with
        | false =>
          have w := p ρ' H' σ' C x r' rl' hC
          cases hfs : e.fs with
          | none =>
            rw [hfs] at w
            exact ⟨false, hit0 _ _ hh hC, fun z => Bool.noConfusion z, fun _ => w⟩
          | some fs =>
            rw [hfs] at w
            exact fun d vs h1 h2 h3 => ⟨false, hit0 _ _ hh hC, fun z => Bool.noConfusion z, fun _ => w d vs h1 h2 h3⟩
        | true =>
          cases hfs : e.fs with
          | none => rw [hfs] at p; exact p.elim
          | some fs =>
            rw [hfs] at p
            simp only at p
            intro d vs h1 h2 h3
            refine ⟨true, hit1 _ _ hh hC, fun _ a ha => ⟨e, C, d, fs, rfl, rfl, hfs, hC, hh, ρ', s', lo'.set i none, r'.on, rl'.enter h1 h2 h3, ?_⟩, fun z => Bool.noConfusion z⟩
            cases q2 : su e (lo'.set i none) s' with
            | nx lo2 s2 =>
              rw [q2] at p
              exact fun ρ2 H2 σ2 x2 r2 rl2 => p ρ2 H2 _ (x.trans (x2.on (l := T.xs))) (r2.on (l := T.xs)) (rl2.leave hx)
            | rt v s2 =>
              rw [q2] at p
              exact fun ρ2 H2 z x2 r2 hz => p ρ2 H2 z (x.trans (x2.on (l := T.xs))) (r2.on (l := T.xs)) (hz.on (l := T.xs))
            | bk lo2 s2 =>
              rw [q2] at p
              exact fun ρ2 H2 σ2 x2 r2 rl2 => p ρ2 H2 _ (x.trans (x2.on (l := T.xs))) (r2.on (l := T.xs)) (rl2.leave hx)
            | ct lo2 s2 =>
              rw [q2] at p
              exact fun ρ2 H2 σ2 x2 r2 rl2 => p ρ2 H2 _ (x.trans (x2.on (l := T.xs))) (r2.on (l := T.xs)) (rl2.leave hx)
            | exc e2 lo2 s2 => rw [q2] at p; exact p.elim
            | fail => rw [q2] at p; exact p.elim
/-- n.f in the suite: the field of the handled exception -/
def eXf (i : Nat) (e : Ex) (f : Str) : EM := fun lo s => match lo[i]?, e.fs with
  | some none, some fs => match getS fs f with
    | some v => .ok v s
    | none => .fail
  | _, _ => .fail
theorem ce_xf {a C d : Addr} {oe : Obj} {e : Ex} {fs : List (Str × Vl)} {pn : List (Addr × Obj)} {f : Str} (hfs : e.fs = some fs) (hz : Zc (.ref C) (some d) oe) (hf : ∃ vs, oe.data = .fields vs) (xc : XfC X.K C) (hno : PySem.W.findIn X.K (.ref C) f = some none)
    (hN : X.N[i]? = some n) (hv : Vis X.env.scope n) (hd : (n == ("__debug__" : Str)) = false := by decide) (hcd : (n == ("__classdict__" : Str)) = false := by decide) (hb : attributeBase (.Name n np) f X.env (eval (.Name n np) X.env) = eval (.Name n np) X.env := by rfl) :
    PE (X.suite a ((a, oe) :: pn)) (.Attribute (.Name n np) f pos) (tE (T.on [⟨i, a, d, fs.map (·.1), fs.map (·.2)⟩]) W (eXf i e f)) :=
  pe_mono (pe_xf (pn := pn) xc hno hz hf (pe_var (i := i) (x := n) hN hv hd hcd) hb) fun σ H Q h => by
    obtain ⟨ρ, s, lo, r, rl, p⟩ := h
    have p : Po (RV _) _ _ ρ H (eXf i e f lo s) Q := p
    unfold eXf at p
    rw [hfs] at p
    split at p
    · rename_i q1 q2
      cases q2
      obtain ⟨h1, vs, h2, h3, h4⟩ := rl.xc _ (List.mem_singleton.mpr rfl) q1
      split at p
      · rename_i v hv
        obtain ⟨w, h5, h6⟩ := (getS_ok (f := f) h3 h4).2 v hv
        exact ⟨_, h1, rfl, rfl, d, vs, w, rfl, h2, h5, p ρ H w .refl r h6⟩
      · exact p.elim
    · exact p.elim
end
end Sm

/-! S44: defs and methods called while an exception is handled -/
namespace Sm
open PySem PySem.Spec PyProof.Rows L2 L2H
theorem fn_simH {P : Program} {w : World} {K : PySem.W.Frag} {mg : Str → Option Value} {base : Heap} {k n : Nat} {x qual : Str} {st : Stmt} {f : Addr} {fd : FuncData} {N ps : List Str} {T : Tb} {b : SM} (F : Fun K x qual st f fd) (S : FnScope N ps (defScope st)) (hn : n = ps.length)
    (body : ∀ (cdv : Value) (A : Around) (outer : List Env) (s : Shared) (H : Hp) (E : XK) (p : Addr × Obj), Hot1 A p → RoomH k (A.deeper (envOfC qual (defScope st) s.heap.objs.size f cdv)) →
      PSs (cxH (L2N.CX P w) P w K mg base N qual (defScope st) f cdv A outer s H E p) (defBody st) (tS T (fun c d _ H' => E c d H') b)) (hx : T.xs = [] := by rfl) : FnH P w K mg base (L2N.CX P w) (k + 1) f fd ps (SpM T n (fnM N.length b)) := by
  obtain ⟨oc, od, kV, doc, pm, an, cdv, ct, osl, rfl, lk, hcd⟩ := F.ex
  exact fn_ofH lk hcd S (fun vs H Q E ⟨ρ, s, as, r, hv, hl, p⟩ => by rw [← hv.length, hl, hn]) fun A outer s H vs Q E p hot hr h => ⟨_, body cdv A outer s H E p hot hr, fn_body hx h⟩
/-- the methods m of the classes of tab, where an exception is handled -/
def MethOkH (X : Cx) (T : Tb) (m : Str) (k n : Nat) (tab : MTab) : Prop := ∀ c mf, tab c = some mf → ∀ C, T.cl[c]? = some C → ∃ (f : Addr) (fd : FuncData) (ps : List Str), Cls T.K C ∧ Meth T.K C m f ∧ FnH X.prog X.w X.K X.mg X.base (L2N.CX X.prog X.w) k f fd ps (SpM T (n + 1) mf) ∧ Binds X.K fd ps []
section
variable {X : Cx} {T : Tb} {l : List XI} {W : WX} {o : Expr} {apos pos : Pos} {mo : EM} {E : XK} {ρ : List Addr} {H : Hp} {Q : VK}
theorem po_off {r : Res Vl} (p : Po (RV (T.on l)) (T.on l) E ρ H r Q) : Po (RV T) T E ρ H r Q := by
  cases r with
  | ok a s => exact fun ρ' H' b e r' hb => p ρ' H' b e.on r'.on hb.on
  | exc z s =>
    intro ρ' H' C e r' hC
    have q := p ρ' H' C e.on r'.on hC
    cases hf : z.fs with
    | none => rw [hf] at q; exact q
    | some fs => rw [hf] at q; exact fun d vs h1 h2 h3 => q d vs h1 h2 h3.on
  | fail => exact p
theorem hot_suite {a : Addr} {oe : Obj} {cls : Value} {d : Option Addr} {pn : List (Addr × Obj)} (hz : L2N.Zn cls d oe) (hf : ∃ vs, oe.data = .fields vs) : HotC (X.suite a ((a, oe) :: pn)) := by
  obtain ⟨vs, hd⟩ := hf
  exact ⟨(a, oe), ⟨rfl, vs, hd, hz.2.2 vs hd⟩, List.mem_cons_self ..⟩
theorem ce_methH0 {m : Str} {k : Nat} {tab : MTab} {pl : Sem Bool} (ok : MethOkH X T m k 0 tab) (hr : RoomH k X.A) (hot : HotC X) (tk : L2N.Takes X W) (ho : PE X o (tE (T.on l) W mo))
    (ht : eval (.Call (.Attribute o m apos) [] [] pos) X.env = (do let ov ← eval o X.env; standAt apos.atName; let (f, first) ← holding [ov] (getMethod ov m pl); callWith pos f first (backTo pos (starEach [] X.env)) (backToKw pos (keywordEach [] X.env))) := by rfl)
    (hK : X.K = T.K := by rfl) : PE X (.Call (.Attribute o m apos) [] [] pos) (tE (T.on l) W (eMeth m (tabA 0 tab) mo aNil)) := by
  refine ⟨fun pins s σ H Q I h => ?_⟩
  have h : tE (T.on l) W mo σ H fun x H1 => ∃ (a C dx f : Addr) (fs : List (Str × V)) (mf : List Vl → M Vl) (fd : FuncData) (ps : List Str), x = .ref a ∧ H1 a = some (.ins C dx fs) ∧ Cls T.K C ∧ Meth T.K C m f ∧ fs.lookup m = none ∧ FnH X.prog X.w X.K X.mg X.base (L2N.CX X.prog X.w) k f fd ps (SpM T (0 + 1) mf) ∧ Binds X.K fd ps [] ∧
      SpM T (0 + 1) mf [.ref a] H1 Q fun c d H' => W c d σ H' := tG_bnd (R := RV (T.on l)) h fun ρ s lo x z H1 r rl hx p => by
    cases hx with
    | ref hρ =>
      rename_i j a
      simp only at p
      split at p
      · rename_i c fs hj
        split at p
        · rename_i mf hm hg
          unfold tabA at hm
          obtain ⟨mf0, hm0, rfl⟩ := Option.map_eq_some_iff.mp hm
          obtain ⟨C, dx, vs, h1, h2, h3, h4⟩ := r.ins hj hρ
          obtain ⟨f, fd, ps, k1, k2, k3, k4⟩ := ok c mf0 hm0 C h1
          exact ⟨a, C, dx, f, vs, mf0, fd, ps, rfl, h2, k1, k2, (getS_ok (f := m) h3 h4).1 hg, k3, k4, spM_of (r.on (l := T.xs)) (.cons (.ref hρ) .nil) rfl (po_off p)⟩
        · exact p.elim
      · exact p.elim
    | _ => exact p.elim
  refine PySem.W.methodCall_KW (pl := pl) (thn (ho.run pins s σ H _ I h) fun u s1 ⟨x, H1, I1, rx, a, C, dx, f, fs, mf, fd, ps, ex, ea, cl, mt, l, F, hb, q⟩ => ?_) ht
  subst ex
  obtain rfl : u = Value.ref a := rx
  rw [← hK] at cl mt
  refine getmeth_ok I1 ea cl mt l ?_
  exact PySem.W.callWith_K0 (first := [.ref a]) I1.kIn mt.kp (run_fnH (E := fun σ c d H' => W c d σ H') (us := [.ref a]) (vs := [.ref a]) F hr hot hb (L2N.passAt tk σ) I1 (.cons rfl .nil) q)
end
end Sm

/-! S45: super().__init__(..) at the begin of a def -/
namespace Sm
open PySem PySem.Spec PyProof.Rows L2
/-- the context of a def that closes over __class__ -/
def cxS (CX : CXT) (P : Program) (w : World) (K : PySem.W.Frag) (mg : Str → Option Value) (base : Heap) (N : List Str) (qual : Str) (scope : Scope) (f : Addr) (cd : Value) (cc : Addr) (A : Around) (outer : List Env) (s : Shared) (H : Hp) (E : XK) : Cx where
  prog := P
  w := w
  K := K
  mg := mg
  base := base
  A := A.deeper (PySem.W.ksEnv qual scope s.heap.objs.size f cd cc)
  N := N
  s_0 := s
  H_0 := H
  env := PySem.W.ksEnv qual scope s.heap.objs.size f cd cc
  outer := outer
  stack := PySem.W.ksEnv qual scope s.heap.objs.size f cd cc :: outer
  ex := []
  calm := true
  fn := fun y => y != "__class__"
  pn := []
  xe := fun e s' => wpAny (model P w) (A.deeper (PySem.W.ksEnv qual scope s.heap.objs.size f cd cc)) (leaving (PySem.W.ksEnv qual scope s.heap.objs.size f cd cc) e) (fun _ s'' => CX outer H s E e s'') (fun e' s'' => CX outer H s E e' s'') s'
structure FnScopeS (N P : List Str) (sc : Scope) : Prop where
  kind : sc.kind = .function
  co : sc.isCoroutine = false
  gen : sc.isGenerator = false
  nd : N.Nodup
  pre : N.take P.length = P
  par : ∀ x ∈ P, sc.names.lookup x = some .local
  nocell : ∀ y ∈ sc.names, y.2 ≠ .cell
  free : ∀ y ∈ sc.names, y.2 = .free → y.1 = "__class__"
  sup : sc.names.lookup (Str.ofString "super") = some NameKind.globalImplicit
  cls : sc.names.lookup (Str.ofString "__class__") = some NameKind.free
theorem inv_startS {CX : CXT} {P : Program} {w : World} {K : PySem.W.Frag} {mg : Str → Option Value} {base : Heap} {N ps : List Str} {qual : Str} {scope : Scope} {f cc D : Addr} {cd : Value} {A : Around} {outer : List Env} {s : Shared} {h1 : Heap} {tk : Nat} {H : Hp} {E : XK} {us : List Value} {vs : List V} {cl : Value} {cld : Option Addr} {csl : Array (Option Value)}
    (S : FnScopeS N ps scope) (hcell : K.lookup cc = some ⟨cl, cld, .cell (some (.ref D)), csl⟩) (hd : A.handled = none) (e0 : Env0 P w K mg base A outer s H) (hl : vs.length = ps.length) (r : Vals vs us) (hns : h1.Ns s.heap.objs.size (fun x => (ps.zip us).reverse.lookup x)) (hk : ∀ b o, s.heap.get? b = some o → h1.get? b = some o) :
    Inv (cxS CX P w K mg base N qual scope f cd cc A outer s H E) [] (L2.start N vs) H { s with heap := h1, toks := tk } := by
  have hpl : ps.length ≤ N.length := by have := congrArg List.length S.pre; rw [List.length_take] at this; omega
  have noA : ∀ b : Addr, b ∉ (cxS CX P w K mg base N qual scope f cd cc A outer s H E).ex := fun b z => absurd (show b ∈ ([] : List Addr) from z) (by simp)
  have one : ∀ {y : Str} {c : Addr}, List.lookup y [(Str.ofString "__class__", cc)] = some c → y = "__class__" ∧ c = cc := fun {y c} h => by
    by_cases e : y = "__class__"
    · subst e
      simp [List.lookup] at h
      exact ⟨rfl, h.symm⟩
    · have : (y == Str.ofString "__class__") = false := by simpa using e
      simp [List.lookup, this] at h
  have inb := e0.mod.kin _ _ hcell
  have ccs := (e0.bs _ _ inb).1
  refine ⟨⟨e0.mod, S.kind, rfl, rfl, Nat.le_refl _, fun y z c q1 q2 => ((one q1).1).trans ((one q2).1).symm, fun y hy => ?_, fun y c q1 q2 => ?_, fun _ => hd, Around.frames_deeper e0.frames, .inr ⟨rfl, rfl⟩, fun b z => absurd z (noA b), e0.bs, e0.bsz, fun b _ _ => noA b, fun b z => absurd z (noA b), e0.funs, e0.frf⟩,
    rfl, e0.bare, Un.kept hk, ⟨_, hns, fun i y v q1 q2 q3 => ?_⟩, fun y c q => (by obtain ⟨_, rfl⟩ := one q; exact ⟨some (.ref D), _, hk _ _ ccs, rfl⟩), e0.hok.fresh (Nat.le_refl _), fun y c q => by rw [(one q).2]; exact (e0.bs _ _ inb).2, fun p hp => absurd (show p ∈ ([] : List (Addr × Obj)) from hp) (by simp), e0.hok.kept hk, ?_⟩
  · have hy : scope.names.lookup y = some .cell ∨ scope.names.lookup y = some .free := hy
    rcases hy with hy | hy
    · exact absurd rfl (S.nocell _ (PySem.mem_of_lookup hy))
    · have e := S.free _ (PySem.mem_of_lookup hy) rfl
      exact ⟨cc, by show List.lookup y [(Str.ofString "__class__", cc)] = some cc; rw [show y = Str.ofString "__class__" from e]; simp [List.lookup]⟩
  · have e := (one q2).1
    have q1 : (y != "__class__") = true := q1
    rw [e] at q1
    simp at q1
  · have hi : i < vs.length := by
      unfold L2.start at q2
      by_cases hi : i < vs.length
      · exact hi
      · rw [List.getElem?_append_right (by simpa using hi), List.getElem?_replicate] at q2
        split at q2 <;> cases q2
    have ha : vs[i]? = some v := by
      unfold L2.start at q2
      rw [List.getElem?_append_left (by simpa using hi), List.getElem?_map] at q2
      cases e : vs[i]? with
      | none => rw [e] at q2; cases q2
      | some a => rw [e] at q2; cases q2; rfl
    obtain ⟨u, hu, rv⟩ := r.get ha
    have hp : ps[i]? = some y := by
      rw [← S.pre, List.getElem?_take_of_lt (by omega)]; exact q1
    have ndP : ps.Nodup := by rw [← S.pre]; exact S.nd.sublist (List.take_sublist _ _)
    exact ⟨u, rv, .inl ⟨S.par y (List.mem_of_getElem? hp), NdefX.zip_look ndP hp hu⟩⟩
  · unfold L2.start
    show _ = N.length
    rw [List.length_append, List.length_map, List.length_replicate]
    omega
/-- super().__init__(..): the next __init__ behind D in the class's order; self in slot 0 -/
def eSup (tab : MTab) (a : AM) : EM := fun (lo : Lo) (s : Sto) => match (lo[0]? : Option (Option Vl)) with
  | some (some (.ref j)) => match s[j]? with
    | some (.ins c _) => match tab c with
      | some mf => bnd (a lo) (fun as => mf (.ref j :: as)) s
      | none => .fail
    | _ => .fail
  | _ => .fail
/-- the __init__ behind D of the classes of tab -/
def SupOk (P : Program) (w : World) (K : PySem.W.Frag) (mg : Str → Option Value) (base : Heap) (T : Tb) (D : Addr) (k n : Nat) (tab : MTab) : Prop := ∀ c mf, tab c = some mf → ∀ C, T.cl[c]? = some C → ∃ (f : Addr) (fd : FuncData) (ps : List Str),
  PySem.W.mroIn K C (.ref D) = some true ∧ PySem.W.ks_superIn K C D "__init__" = some (some (.ref f)) ∧ PySem.W.typeIn K (.ref f) = some (.type "function") ∧ PySem.W.fnIn K f = true ∧ FnG P w K mg base k f fd ps (SpM T (n + 1) mf) ∧ Binds K fd ps []
/-- what the written part says of such a def -/
structure FunS (K : PySem.W.Frag) (mg : Str → Option Value) (qual file : Str) (st : Stmt) (f : Addr) (fd : FuncData) (D cc cda : Addr) : Prop where
  ex : ∃ (oc : Value) (od : Option Addr) (kV doc pm : Value) (an : Option Addr) (ct : Value) (osl : Array (Option Value)),
    fd = PySem.W.ksFn "__init__" qual (defArgs st) (defBody st) (defScope st) .none kV doc pm an (.ref cda) ct cc ∧ K.lookup f = some ⟨oc, od, .func fd, osl⟩ ∧ PySem.W.codeIn K (.ref cda) qual = true
  kp : PySem.W.keepIn K (.ref f) = true
  code : ∃ (ccl : Value) (cdd : Option Addr) (vs : Array Value) (ccs : Array (Option Value)) (tf : Tok), K.lookup cda = some ⟨ccl, cdd, .fields vs, ccs⟩ ∧ vs[2]? = some (.str file tf)
  cell : ∃ (cl : Value) (cld : Option Addr) (csl : Array (Option Value)), K.lookup cc = some ⟨cl, cld, .cell (some (.ref D)), csl⟩
  cls : ∃ cdD, PySem.W.clsIn K D = some cdD
  opq : PySem.W.nsIn K cStatics "thirdparty.any" = some none
  sup : mg "super" = none
section
variable {T : Tb} {W : WX} {σ : L2.St} {H : Hp} {D : Ends} {tab : MTab} {ma : AM} {mr : SM} {P : Program} {w : World} {K : PySem.W.Frag} {mg : Str → Option Value} {base : Heap} {k n : Nat} {Dc : Addr}
theorem sup_le (ok : SupOk P w K mg base T Dc k n tab) (h : tS T W (sSeq (sExpr (eSup (tabA n tab) ma)) mr) D σ H) : ∃ (a C dx f : Addr) (fs : List (Str × V)) (mf : List Vl → M Vl) (fd : FuncData) (ps : List Str), σ[0]? = some (some (.ref a)) ∧ H a = some (.ins C dx fs) ∧
    PySem.W.mroIn K C (.ref Dc) = some true ∧ PySem.W.ks_superIn K C Dc "__init__" = some (some (.ref f)) ∧ PySem.W.typeIn K (.ref f) = some (.type "function") ∧ PySem.W.fnIn K f = true ∧ FnG P w K mg base k f fd ps (SpM T (n + 1) mf) ∧ Binds K fd ps [] ∧
    tA T W ma σ H fun vs H2 => SpM T (n + 1) mf (.ref a :: vs ++ []) H2 (fun _ H3 => tS T W mr D σ H3) fun c d H' => W c d σ H' := by
  obtain ⟨ρ, s, lo, r, rl, p⟩ := h
  unfold sSeq sExpr bndS eSup at p
  cases h0 : lo[0]? with
  | none => simp only [h0] at p; exact p.elim
  | some o =>
    cases o with
    | none => simp only [h0] at p; exact p.elim
    | some v =>
      obtain ⟨z, hz, rv⟩ := rl.at_ 0 v h0
      cases rv with
      | ref hρ =>
        rename_i j a
        simp only [h0] at p
        cases hj : s[j]? with
        | none => simp only [hj] at p; exact p.elim
        | some ob =>
          cases ob with
          | ins c fs =>
            simp only [hj] at p
            obtain ⟨C, dx, vs, h1, h2, h3, h4⟩ := r.ins hj hρ
            cases ht : tabA n tab c with
            | none => simp only [ht] at p; exact p.elim
            | some mf =>
              simp only [ht] at p
              unfold tabA at ht
              obtain ⟨mf0, hm0, rfl⟩ := Option.map_eq_some_iff.mp ht
              obtain ⟨f, fd, ps, k1, k2, k3, k4, k5, k6⟩ := ok c mf0 hm0 C h1
              refine ⟨a, C, dx, f, vs, mf0, fd, ps, hz, h2, k1, k2, k3, k4, k5, k6, ρ, s, lo, r, rl, ?_⟩
              unfold bnd at p
              cases hm : ma lo s with
              | fail => rw [hm] at p; exact p.elim
              | exc e s1 =>
                rw [hm] at p
                exact fun ρ' H' C x r' hC => p ρ' H' σ C x r' (rl.mono x) hC
              | ok as s1 =>
                rw [hm] at p
                simp only at p
                intro ρ' H' us x r' hu
                unfold arg at p
                by_cases hl : (Vl.ref j :: as).length = n + 1
                · rw [if_pos hl] at p
                  rw [List.append_nil]
                  refine spM_of r' (.cons (.ref (x.pre _ _ hρ)) hu) hl ?_
                  cases hf : mf0 (.ref j :: as) s1 with
                  | fail => rw [hf] at p; exact p.elim
                  | exc e s2 =>
                    rw [hf] at p
                    exact fun ρ2 H2 C x2 r2 hC => p ρ2 H2 σ C (x.trans x2) r2 ((rl.mono x).mono x2) hC
                  | ok v s2 =>
                    rw [hf] at p
                    simp only at p
                    exact fun ρ2 H2 b x2 r2 _ => ⟨ρ2, s2, lo, r2, (rl.mono x).mono x2, p.mono (x.trans x2)⟩
                · rw [if_neg hl] at p
                  exact p.elim
          | _ => simp only [hj] at p; exact p.elim
      | _ => simp only [h0] at p; exact p.elim
/-- a def that begins with super().__init__(..) computes the pure function of its body -/
theorem fn_simS {qual file : Str} {st : Stmt} {f cc cda : Addr} {fd : FuncData} {N ps : List Str} {nn : Nat} {e : Expr} {es : List Expr} {rest : List Stmt} {p0 p1 ap pos pos' : Pos} {ar : Arg}
    (F : FunS K mg qual file st f fd Dc cc cda) (S : FnScopeS N ps (defScope st)) (hn : nn = ps.length) (h0 : N[0]? = some ar.arg) (hp0 : ar.arg ∈ ps) (hpar : ((defArgs st).posonlyargs ++ (defArgs st).args).head? = some ar) (hfile : ((P.main.file : Str) == file) = true) (htop : (P.main.scope.names.lookup (Str.ofString "super")).isSome = false)
    (hbody : defBody st = .Expr (.Call (.Attribute (.Call (.Name "super" p0) [] [] p1) "__init__" ap) (e :: es) [] pos) pos' :: rest) (ok : SupOk P w K mg base T Dc k n tab)
    (ha : ∀ (A : Around) (outer : List Env) (s : Shared) (H : Hp) (E : XK), Room k (A.deeper (PySem.W.ksEnv qual (defScope st) s.heap.objs.size f (.ref cda) cc)) → A.guards = some [] →
      PA (cxS (L2N.CX P w) P w K mg base N qual (defScope st) f (.ref cda) cc A outer s H E) (e :: es) (tA T (fun c d _ H' => E c d H') ma))
    (hr : ∀ (A : Around) (outer : List Env) (s : Shared) (H : Hp) (E : XK), Room k (A.deeper (PySem.W.ksEnv qual (defScope st) s.heap.objs.size f (.ref cda) cc)) → A.guards = some [] →
      PSs (cxS (L2N.CX P w) P w K mg base N qual (defScope st) f (.ref cda) cc A outer s H E) rest (tS T (fun c d _ H' => E c d H') mr))
    (hev : ∀ env : Env, ∃ pl, eval (.Call (.Attribute (.Call (.Name "super" p0) [] [] p1) "__init__" ap) (e :: es) [] pos) env = (do let ov ← attributeBase (.Call (.Name "super" p0) [] [] p1) "__init__" env (eval (.Call (.Name "super" p0) [] [] p1) env); standAt ap.atName; let (f, first) ← holding [ov] (getMethod ov "__init__" pl); callWith pos f first (backTo pos (starEach (e :: es) env)) []) := by intro _; exact ⟨_, rfl⟩)
    (hsw : ∀ env : Env, swapsWith (.Call (.Attribute (.Call (.Name "super" p0) [] [] p1) "__init__" ap) (e :: es) [] pos) none pos'.line env = pure false := by intro _; rfl)
    (hst : ∀ env, starEach (e :: es) env = (false, eval e env) :: starEach es env := by intro _; rfl) (hpl : ∀ env, (backTo pos (starEach es env)).any (·.1) = false := by intro _; rfl)
    (hx : T.xs = [] := by rfl) : FnG P w K mg base (k + 1) f fd ps (SpM T nn (fnM N.length (sSeq (sExpr (eSup (tabA n tab) ma)) mr))) := by
  obtain ⟨oc, od, kV, doc, pm, an, ct, osl, rfl, lk, hcd⟩ := F.ex
  obtain ⟨ccl, cdd, cvs, ccs, tf, hcode, hvs⟩ := F.code
  obtain ⟨cl, cld, csl, hcell⟩ := F.cell
  obtain ⟨cdD, hD⟩ := F.cls
  refine ⟨fun vs H Q E ⟨ρ, s, as, r, hv, hl, p⟩ => by rw [← hv.length, hl, hn], fun A outer s H args us vs Q E hroom hg e0 hb r hsp => ?_⟩
  have hvl : vs.length = ps.length := by
    obtain ⟨ρ, s', as, r, hv, hl, p⟩ := hsp
    rw [← hv.length, hl, hn]
  have KX : K.In s.heap := e0.mod.kin.keeps fun b o e => (e0.bs b o e).1
  have nl : s.heap.NoLimit := e0.mod.nolimit.keeps fun b o e => (e0.bs b o e).1
  refine ks_codeAny_call_defAt (fd := PySem.W.ksFn "__init__" qual (defArgs st) (defBody st) (defScope st) .none kV doc pm an (.ref cda) ct cc) (body := defBody st) (binds := ps.zip us) hroom.depth (KX _ _ lk) rfl nl (PySem.W.codeRec_of KX hcd) rfl hb S.nocell (fun y hy => S.par y.1 (List.of_mem_zip hy).1) (fun h1 hns hk => ?_) S.co S.gen S.kind
  have I : Inv (cxS (L2N.CX P w) P w K mg base N qual (defScope st) f (.ref cda) cc A outer s H E) [] (L2.start N vs) H { s with heap := h1, toks := s.toks + (ps.zip us).length } := inv_startS S hcell hroom.hd e0 hvl r hns hk
  show PySem.wpAt (model P w) (A.deeper (PySem.W.ksEnv qual (defScope st) s.heap.objs.size f (.ref cda) cc)) (.func (defBody st) (PySem.W.ksEnv qual (defScope st) s.heap.objs.size f (.ref cda) cc)) (execs (defBody st) (PySem.W.ksEnv qual (defScope st) s.heap.objs.size f (.ref cda) cc)) _ _ _
  have hroom' : Room k (A.deeper (PySem.W.ksEnv qual (defScope st) s.heap.objs.size f (.ref cda) cc)) := hroom.deeper _
  have tk : L2N.Takes (cxS (L2N.CX P w) P w K mg base N qual (defScope st) f (.ref cda) cc A outer s H E) (fun c d _ H' => E c d H') := L2N.takes_of (E := E) rfl rfl rfl rfl
  obtain ⟨a, C, dx, f2, fs, mf, fd2, ps2, z0, ea, hsub, hsup, hty, hfn, F2, hb2, q⟩ := sup_le ok (fn_body hx hsp)
  have HA := ha A outer s H E hroom' hg
  have HR := hr A outer s H E hroom' hg
  clear ha hr
  rw [hbody]
  obtain ⟨pl, hev⟩ := hev (PySem.W.ksEnv qual (defScope st) s.heap.objs.size f (.ref cda) cc)
  refine ks_wpAt_execs_cons (ks_wpAt_Expr_any (ks_wpAt_MethodCall (pl := pl) ?_ hev) (by simp [interactive, S.kind]) (hsw _))
  have X1 : K.In h1 := KX.keeps hk
  obtain ⟨oD, hD1, hD2⟩ : ∃ oD, h1.get? Dc = some oD ∧ oD.data = .cls cdD := by
    unfold PySem.W.clsIn at hD
    split at hD
    · rename_i c d cd' sl ho
      cases hD
      exact ⟨_, X1 _ _ ho, rfl⟩
    · cases hD
  obtain ⟨mb, b1, b2⟩ := I.mod.blt
  obtain ⟨m, hm, hloc⟩ := I.loc
  obtain ⟨u, ru, lu⟩ := hloc 0 ar.arg (.ref a) h0 z0 (.inl (S.par _ hp0))
  obtain rfl : u = Value.ref a := ru
  have hself : m ar.arg = some (.ref a) := by
    rcases lu with ⟨_, q⟩ | ⟨q, _⟩
    · exact q
    · have e : (defScope st).names.lookup ar.arg = some .local := S.par _ hp0
      have q : (defScope st).names.lookup ar.arg = some .cell ∨ (defScope st).names.lookup ar.arg = some .free := q
      rw [e] at q
      rcases q with q | q <;> cases q
  obtain ⟨mA, O, _⟩ := ins_get I.hok ea
  refine ks_wpAt_super_base (env := PySem.W.ksEnv qual (defScope st) s.heap.objs.size f (.ref cda) cc) S.sup S.cls (by decide) rfl (X1 _ _ lk) rfl hpar rfl (X1 _ _ hcode) rfl hvs hfile htop ?_
  refine PySem.W.ks_loadName_global S.kind S.sup (Calls.loadGlobal_builtin (I.mod.glob.keeps I.bk) F.sup (b1.keeps I.bk) ((b2 _ (by decide)).trans PyProof.Rows.Boot.«super») ⟨rfl, ?_⟩)
  refine wpAny_loadName_free S.kind S.cls (by show List.lookup _ [(Str.ofString "__class__", cc)] = some cc; simp [List.lookup]) ⟨_, X1 _ _ hcell, rfl⟩ ?_
  refine wpAny_loadName_local S.kind (S.par _ hp0) hm hself ?_
  refine ks_wpAny_isType_cls hD1 hD2 ⟨rfl, ?_⟩
  refine ks_wpAny_call_super hD1 hD2 O.obj rfl (fun c => by simp [PySem.W.instObj]) (PySem.W.looks_mroIn X1 hsub) (fun h2 es2 ek => ?_)
  have X2 : K.In h2 := X1.keeps ek
  cases hc : PySem.W.clsIn K C with
  | none => unfold PySem.W.ks_superIn at hsup; rw [hc] at hsup; cases hsup
  | some cd =>
    unfold PySem.W.ks_superIn at hsup
    rw [hc] at hsup
    obtain ⟨of, hof, hofc⟩ : ∃ of, h2.get? f2 = some of ∧ of.cls = .type "function" := by
      have ht' : (K.lookup f2).map (·.cls) = some (.type "function") := hty
      cases z : K.lookup f2 with
      | none => rw [z] at ht'; cases ht'
      | some of => rw [z] at ht'; exact ⟨of, X2 _ _ z, Option.some.inj ht'⟩
    have hxC : a ≠ C := by
      rintro rfl
      have e1 := ek _ _ O.obj
      unfold PySem.W.clsIn at hc
      split at hc
      · rename_i c d cd' sl ho
        have e2 := X2 _ _ ho
        rw [e1] at e2
        cases e2
      · cases hc
    refine ks_wpAny_getMethod_super es2 (PySem.W.looks_opaque X2 F.opq) (l₀ := cd.mro) ?_ rfl X2 hsup hof hofc hxC (by decide) ?_
    · exact fun A Q E s k q => wpAny_bind ((PySem.W.looks_clsIn X2 hc) A _ E s k (wpAny_pure q))
    · have k2 : ∀ b o, h1.get? b = some o → (h2.push (PySem.W.methodObj (.ref f2) (.ref a))).get? b = some o := fun b o z => Heap.get?_push_of_some _ (ek b o z)
      have sz : h1.objs.size ≤ h2.objs.size := Nat.le_of_lt (Heap.lt_size es2)
      have I2 := (I.kept (t' := s.toks + (ps.zip us).length + 1) k2).pins_of (pins' := [(h2.objs.size, PySem.W.methodObj (.ref f2) (.ref a))]) (fun p hp => by
        obtain rfl := List.mem_singleton.mp hp
        refine ⟨Heap.get?_push_at rfl rfl, I.hok.fresh sz, Nat.ne_of_gt (Nat.lt_of_lt_of_le I.lt sz), I.nofs sz, fun v => by simp [PySem.W.methodObj]⟩)
      refine PySem.W.callWith_of (P := PySem.W.MethP K h2.objs.size f2 (.ref a)) (by rw [hst]; show ((false || (backTo pos (starEach es _)).any (·.1)) || false) = false; rw [hpl]; rfl) (PySem.W.keeps_M hfn) ?_
      have HA' := HA.run pos _ _ (L2.start N vs) H _ I2 q
      rw [show (cxS (L2N.CX P w) P w K mg base N qual (defScope st) f (.ref cda) cc A outer s H E).env = PySem.W.ksEnv qual (defScope st) s.heap.objs.size f (.ref cda) cc from rfl] at HA'
      rw [hst] at HA' ⊢
      refine Calls.evalArgs_plain (thn HA' fun us3 s3 ⟨vs3, H3, I3, r3, q3⟩ => ?_)
      have pin := (I3.pin _ (List.mem_append_right _ (List.mem_singleton.mpr rfl))).1
      refine ⟨⟨pin, I3.kIn⟩, ?_⟩
      refine wpAny_call (PySem.W.method_call pin (codeAny_mono (code_G (us := .ref a :: us3) (vs := .ref a :: vs3) F2 hroom' hg hb2 .nil tk I3 (.cons rfl r3) q3) fun z s4 hz => ?_))
      cases z with
      | error y => exact hz
      | ok fl =>
        cases fl with
        | next => exact hz.elim
        | brk => exact hz.elim
        | cont => exact hz.elim
        | ret v =>
          obtain ⟨v', H4, I4, _, q4⟩ := hz
          refine wpAt_of_wpAny (wpAny_mono (HR.run [] s4 (L2.start N vs) H4 _ (I4.pins_of fun p hp => by simp at hp) q4) (fun fl s' hs => ?_) fun e s' hs => hs)
          cases fl with
          | ret u => obtain ⟨v, σ', H', J, rv, q⟩ := hs; exact ⟨v, H', J.os, J.bare, J.base, J.hok, rv, q⟩
          | next => obtain ⟨σ', H', J, q⟩ := hs; exact ⟨V.non, H', J.os, J.bare, J.base, J.hok, rfl, q⟩
          | brk => obtain ⟨_, _, _, q⟩ := hs; exact q.elim
          | cont => obtain ⟨_, _, _, q⟩ := hs; exact q.elim
end
end Sm

/-! S46: a written dict of defs, the call of a local that holds a def, keywords -/
namespace Sm
open PySem PySem.Spec PyProof.Rows L2
theorem takesN {X : Cx} : L2N.Takes X WF := fun _ _ ⟨_, _, _, _, _, _, _, _, _, _, _, _, _, _, _, _, w⟩ => w.elim
/-- D[e], D a written dict with the str keys of tbl -/
def eKix (tbl : List (Str × Vl)) (e : EM) : EM := fun lo => bnd (e lo) fun v s => match v with
  | .str z => match getS tbl z with
    | some u => .ok u s
    | none => .fail
  | _ => .fail
/-- f(..), f a local that holds a def -/
def eCallF (i : Nat) (tab : MTab) (a : AM) : EM := fun (lo : Lo) (s : Sto) => match (lo[i]? : Option (Option Vl)) with
  | some (some (.fn j)) => match tab j with
    | some mf => bnd (a lo) mf s
    | none => .fail
  | _ => .fail
def tabF (n : Nat) (tab : MTab) : MTab := fun c => (tab c).map (arg n)
/-- f(.., k = ..) -/
def eCallK (n : Nat) (das : List Vl) (m : Nat) (mf : List Vl → M Vl) (a k : AM) : EM := fun lo => bnd (a lo) fun as => bnd (k lo) fun zs s => if as.length = n ∧ zs.length = m then mf (as ++ das ++ zs) s else .fail
section
variable {X : Cx} {T : Tb} {W : WX} {k n i : Nat} {f : Addr} {fd : FuncData} {ps : List Str} {mf : List Vl → M Vl} {x : Str} {p pos : Pos} {e : Expr} {es : List Expr} {ma mk : AM} {me : EM}
theorem ce_kix {tbl : List (Str × Vl)} {a : Addr} (hg : Gl X x) (hm : X.mg x = some (.ref a)) (ok : ∀ z u, getS tbl z = some u → ∃ v, KDct X.K X.w a z v ∧ ∀ ρ H, RV T ρ H u v) (hb : PE X e (tE T W me)) (hdb : (x == ("__debug__" : Str)) = false := by decide) (hs : PlainIx e := by exact fun _ _ => rfl) :
    PE X (.Subscript (.Name x p) e pos) (tE T W (eKix tbl me)) := pe_mono (pe_ix ix_kdict (pe_glob (v := .ref a) hg hm rfl hdb) hb hs) fun σ H Q h => by
  show tE T W me σ H fun y H2 => rIxD X.K X.w (.ref a) y H2 Q
  refine tG_bnd (R := RV T) h fun ρ s lo v z H1 r rl hv q => ?_
  cases hv with
  | str y =>
    simp only at q
    cases hy : getS tbl y with
    | none => rw [hy] at q; exact q.elim
    | some u =>
      rw [hy] at q
      obtain ⟨v, k1, k2⟩ := ok y u hy
      exact ⟨a, y, v, rfl, rfl, k1, q ρ H1 v .refl r (k2 ρ H1)⟩
  | _ => exact q.elim
/-- the defs of the table -/
def FnsOk (X : Cx) (T : Tb) (k n : Nat) (tab : MTab) : Prop := ∀ j mf, tab j = some mf → ∀ f, T.fns[j]? = some f → ∃ (fd : FuncData) (ps : List Str), PySem.W.keepIn X.K (.ref f) = true ∧ FnG X.prog X.w X.K X.mg X.base k f fd ps (SpM T n mf) ∧ Binds X.K fd ps []
theorem ce_callF {tab : MTab} (ok : FnsOk X T k n tab) (hr : Room k X.A) (hgd : X.A.guards = some []) (tk : L2N.Takes X W) (hN : X.N[i]? = some x) (hv : Vis X.env.scope x) (ha : PA X (e :: es) (tA T W ma))
    (hdb : (x == ("__debug__" : Str)) = false := by decide) (hcd : (x == ("__classdict__" : Str)) = false := by decide)
    (he : starEach (e :: es) X.env = (false, eval e X.env) :: starEach es X.env := by rfl) (hpl : (backTo pos (starEach es X.env)).any (·.1) = false := by rfl) : PE X (.Call (.Name x p) (e :: es) [] pos) (tE T W (eCallF i (tabF n tab) ma)) := by
  refine ⟨fun pins s σ H Q I h => ?_⟩
  have h : ∃ (f : Addr) (mf : List Vl → M Vl) (fd : FuncData) (ps : List Str), σ[i]? = some (some (.ref f)) ∧ PySem.W.keepIn X.K (.ref f) = true ∧ FnG X.prog X.w X.K X.mg X.base k f fd ps (SpM T n mf) ∧ Binds X.K fd ps [] ∧ tA T W ma σ H fun vs H1 => SpM T n mf (vs ++ []) H1 Q fun c d H' => W c d σ H' := by
    obtain ⟨ρ, st, lo, r, rl, q⟩ := h
    have q : Po (RV T) T _ ρ H (eCallF i (tabF n tab) ma lo st) Q := q
    unfold eCallF at q
    cases h0 : lo[i]? with
    | none => rw [h0] at q; exact q.elim
    | some o =>
      cases o with
      | none => rw [h0] at q; exact q.elim
      | some v =>
        obtain ⟨z, hz, rv⟩ := rl.at_ i v h0
        rw [h0] at q
        cases rv with
        | @fn j f hj =>
          simp only at q
          cases ht : tabF n tab j with
          | none => rw [ht] at q; exact q.elim
          | some mf =>
            rw [ht] at q
            simp only at q
            unfold tabF at ht
            obtain ⟨mf0, hm0, rfl⟩ := Option.map_eq_some_iff.mp ht
            obtain ⟨fd, ps, k1, k2, k3⟩ := ok j mf0 hm0 f hj
            refine ⟨f, mf0, fd, ps, hz, k1, k2, k3, ?_⟩
            refine po_bnd (R := RVs T) (m := ma) r rl q fun ρ' s' as zs H' ext r' rl' has p' => ?_
            unfold arg at p'
            split at p'
            · rename_i hl
              rw [List.append_nil]
              exact spM_of r' has hl p'
            · exact p'.elim
        | _ => exact q.elim
  obtain ⟨f, mf, fd, ps, hs, hk, F, hb, ht⟩ := h
  refine wpAny_Call_Name_kw (thn ((pe_var (pos := p) hN hv hdb hcd).run pins s σ H (fun v H1 => v = .ref f ∧ H1 = H) I ⟨.ref f, hs, rfl, rfl⟩) fun u s1 ⟨v, H1, I1, r1, q1⟩ => ?_)
  obtain ⟨rfl, rfl⟩ := q1
  cases r1
  refine PySem.W.callWith_K (h₀ := X.base) I.ok.mod.kin hk (thn (ha.run pos pins s1 σ _ _ I1 ht) fun us s2 ⟨vs, H2, I2, r, q⟩ => ⟨I2.kIn, ?_⟩) he hpl
  exact run_G F hr hgd hb .nil tk I2 r q
/-- how a call with keywords binds: das between -/
structure BindKw (K : PySem.W.Frag) (fd : FuncData) (ps : List Str) (n : Nat) (ks : List Str) (das : List Vl) : Prop where
  ex : ∃ (its : List Value) (dvs : List V), KBn K fd ps n ks (fun us ws => us ++ its ++ ws) (fun vs zs => vs ++ dvs ++ zs) ∧ ∀ (T : Tb) (ρ : List Addr) (H : Hp), T.K = K → RVs T ρ H das dvs
theorem ce_callK {das : List Vl} {ks : List Str} {kws : List Keyword} {nn : Nat} (F : FnG X.prog X.w X.K X.mg X.base k f fd ps (SpM T nn mf)) (hb : BindKw X.K fd ps n ks das) (hr : Room k X.A) (hgd : X.A.guards = some []) (hg : Gl X x) (hm : X.mg x = some (.ref f)) (hk : PySem.W.keepIn X.K (.ref f) = true) (tk : L2N.Takes X W)
    (hnn : n + das.length + ks.length = nn) (ha : PA X (e :: es) (tA T W ma)) (hkw : PK X kws (tA T W mk)) (hall : (backToKw pos (keywordEach kws X.env)).all (·.1.isSome) = true := by rfl) (hks : (backToKw pos (keywordEach kws X.env)).filterMap (·.1) = ks := by rfl)
    (hdb : (x == ("__debug__" : Str)) = false := by decide) (he : starEach (e :: es) X.env = (false, eval e X.env) :: starEach es X.env := by rfl)
    (hpl : ((backTo pos (starEach (e :: es) X.env)).any (·.1) || (backToKw pos (keywordEach kws X.env)).any (·.1.isNone)) = false := by rfl) (hK : X.K = T.K := by rfl) :
    PE X (.Call (.Name x p) (e :: es) kws pos) (tE T W (eCallK n das ks.length mf ma mk)) := by
  obtain ⟨its, dvs, B, hv⟩ := hb.ex
  refine ⟨fun pins s σ H Q I h => wpAny_Call_Name_kw (ld_glob I hg hm ?_ hdb)⟩
  have h : tA T W ma σ H fun vs H1 => tA T W mk σ H1 fun zs H2 => vs.length = n ∧ zs.length = ks.length ∧ SpM T nn mf (vs ++ dvs ++ zs) H2 Q fun c d H' => W c d σ H' := tG_bnd (R := RVs T) h fun ρ s lo xs us H1 r rl hx q =>
    po_bnd (R := RVs T) (m := mk) r rl q fun ρ' s' ys ws H' ext r' rl' hy q' => by
      split at q'
      · rename_i hl
        refine ⟨by rw [← hx.length]; exact hl.1, by rw [← hy.length]; exact hl.2, spM_of r' (((hx.mono ext).append (hv T ρ' H' hK.symm)).append hy) ?_ q'⟩
        rw [List.length_append, List.length_append]
        omega
      · exact q'.elim
  refine PySem.W.callWith_KW (h₀ := X.base) I.ok.mod.kin hk hall (thn (ha.run pos pins s σ H _ I h) fun us s1 ⟨vs, H1, I1, r, q⟩ => ?_) hpl he
  refine thn (hkw.run pos pins s1 σ H1 _ I1 q) fun ws s2 ⟨zs, H2, I2, rz, l1, l2, q2⟩ => ⟨I2.kIn, ?_⟩
  rw [hks]
  have r2 := B.rel r rz
  refine wpAny_call (codeAny_mono (F.run X.A X.stack s2 H2 ⟨us, ks.zip ws⟩ _ (vs ++ dvs ++ zs) Q _ hr hgd I2.env0 (B.to s2 us ws I2.kIn (r.length.symm.trans l1) (rz.length.symm.trans l2)) r2 q2) fun z s' hq => ?_)
  cases z with
  | error y => exact tk y s' (L2N.XE.of_call I2 (fun _ _ _ q => q) hq)
  | ok fl =>
    cases fl with
    | ret u => exact I2.after hq
    | next => exact hq.elim
    | brk => exact hq.elim
    | cont => exact hq.elim
theorem ck_nil : PK X [] (tA T W aNil) := ⟨fun po pins s σ H Q I h => (pk_nil (X := X)).run po pins s σ H Q I (by
  obtain ⟨ρ, st, lo, r, rl, q⟩ := h
  exact q ρ H [] .refl r .nil)⟩
theorem ck_cons {nm : Option Str} {kpos : Pos} {kws : List Keyword} (ha : PE X e (tE T W me)) (hr : PK X kws (tA T W ma)) : PK X (⟨nm, e, kpos⟩ :: kws) (tA T W (aCons me ma)) := ⟨fun po pins s σ H Q I h => (pk_cons ha hr).run po pins s σ H Q I (tG_bnd (R := RV T) h fun ρ s lo x z H1 r rl hx p =>
    po_bnd (R := RVs T) (m := ma) r rl p fun ρ' s' xs zs H' ext r' rl' hxs p' => po_ret (R := RVs T) p' r' (.cons (hx.mono ext) hxs))⟩
end
/-! how binding facts are made -/
section
variable {K : PySem.W.Frag} {x qual : Str} {params : Arguments} {body : List Stmt} {scope : Scope} {dvs : List V} {kws : List (Str × V)} {f : Addr} {fd : FuncData} {ps ks : List Str} {n : Nat}
/-- all positional values and all keyword-only ones are given -/
theorem bindKw_all (F : FunD K x qual params body scope dvs kws f fd) (hd : dvs ≠ []) (hk : kws ≠ [])
    (h : ∀ (T D : Addr) (doc pm : Value) (an : Option Addr) (cdv ct : Value) (us its ws : List Value), us.length = n → its.length = dvs.length → ws.length = ks.length →
      ∃ k, bindArgs (PySem.W.fnOf x qual params body scope (.ref T) (.ref D) doc pm an cdv ct) ⟨us, ks.zip ws⟩ = seqItems? (.ref T) >>= k ∧ k (some its.toArray) = pure (ps.zip (us ++ ws))) : BindKw K fd ps n ks [] := by
  obtain ⟨its, mv, B⟩ := F.kbinds (ps := ps) n ks [] (fun us its mv ws => us ++ ws) hd hk (by simp) (fun a b c d => a.append d) fun T D doc pm an cdv ct us its mv ws h1 h2 h3 h4 => by
    have : mv = [] := List.eq_nil_of_length_eq_zero h3
    subst this
    exact h T D doc pm an cdv ct us its ws h1 h2 h4
  refine ⟨[], [], ⟨fun s us ws X h1 h2 => ?_, fun a b => ?_⟩, fun T ρ H e => .nil⟩
  · have := B.to s us ws X h1 h2
    rw [List.append_nil]
    exact this
  · rw [List.append_nil, List.append_nil]
    exact B.rel a b
end
theorem FnH_mono {P : Program} {w : World} {K : PySem.W.Frag} {mg : Str → Option Value} {base : Heap} {CX : CXT} {j k : Nat} {f : Addr} {fd : FuncData} {ps : List Str} {sp : Sp} (F : L2H.FnH P w K mg base CX j f fd ps sp) (h : j ≤ k) : L2H.FnH P w K mg base CX k f fd ps sp :=
  ⟨F.len, fun A outer s H args us vs Q E p hr => F.run A outer s H args us vs Q E p (hr.mono h)⟩
/-- y = [.. in d.values() ..] on one line -/
theorem cs_setLcK {X : Cx} {T : Tb} {W : WX} {elt tg iter : Expr} {ifs : List Expr} {scope : Scope} {own : List (Str × Nat)} {pos spos py : Pos} {m : IM} {gt : TG} {gl : GL} {mt : TM} {me e : EM} (n : Nat) {i : Nat} {y : Str} (hc : X.calm = true) (hN : X.N.Nodup) (hy : X.N[i]? = some y) (hyl : X.env.scope.names.lookup y = some .local)
    (hsw : swapsWith (.ListComp elt [⟨tg, iter, ifs, 0⟩] scope pos) (some (.Name y py)) spos.line X.env = pure true) (hi : PI X tg iter (tI T W m)) (ok : BlkOk X.N X.env.scope scope own) (ho : TgOk T gt gl (own.map (·.2)))
    (hg : ∀ s H C cl fp, PG (X.blk s H scope (compEnvC scope cl C X.env) fp) tg gt) (ht : ∀ s H C cl fp, PTs (X.blk s H scope (compEnvC scope cl C X.env) fp) ifs (tT T WF mt))
    (he : ∀ s H C cl fp, PE (X.blk s H scope (compEnvC scope cl C X.env) fp) elt (tE T WF me)) (hs : ∀ x, foldedSetIterable iter X.env x = pure x := by intro _; rfl) (hx : T.xs = [] := by rfl) :
    PS X (.Assign [.Name y py] (.ListComp elt [⟨tg, iter, ifs, 0⟩] scope pos) spos) (tS T W (sSet i (eLock e (eLc n m gl mt me (own.map (·.2)))))) :=
  ps_mono (ps_lock (ps_setLc hc hN hy hyl hsw hi ok hg ht he hs)) fun D σ H h => by
    obtain ⟨d, u, h1, h2, h3⟩ := lock_le (t := tLc (tI T W m) gt (tT T WF mt) (tE T WF me) (own.map (fun x => x.2))) (fun _ _ z => lc_le hx ho z) (tasg_le h)
    exact ⟨d, u, h1, h2, fun od => h3 od⟩
theorem getS_mem {tbl : List (Str × Vl)} {z : Str} {u : Vl} (h : getS tbl z = some u) : (z, u) ∈ tbl := by
  induction tbl with
  | nil => simp [getS] at h
  | cons p r ih =>
    obtain ⟨k, v⟩ := p
    simp only [getS] at h
    split at h
    · rename_i e
      cases h
      subst e
      exact List.mem_cons_self ..
    · exact List.mem_cons_of_mem _ (ih h)
end Sm

/-! S52: isinstance(n, ..), n the exception that an except suite handles -/
namespace Sm
open PySem PySem.Spec PyProof.Rows L2 L2H
/-- what an own exception class says, so that isinstance can be asked of its instances -/
structure IsC (K : PySem.W.Frag) (C : Addr) : Prop where
  ga : PySem.W.findIn K (.ref C) "__getattribute__" = some (some (.builtin "BaseException.__getattribute__"))
  gg : PySem.W.findIn K (.ref C) "__getattr__" = some none
  ex : PySem.W.subIn K (.ref C) (.type "BaseException") = some true
  hd : PySem.W.hasDictIn K C = true
  ca : PySem.W.findIn K (.ref C) "__class__" = some (some (.builtin "object.__class__"))
  gs : PySem.W.specialIn K (.builtin "object.__class__") "__get__" = some (some (.builtin "getset_descriptor.__get__"))
  tk : PySem.W.takesIn K (.builtin "object.__class__") = some true
  mr : PySem.W.mroIn K C (.type "object") = some true
theorem IsC.cl {K : PySem.W.Frag} {C : Addr} (h : IsC K C) : (PySem.W.clsIn K C).isSome = true := by
  obtain ⟨cd, hc, _⟩ := PySem.W.any_some h.hd
  rw [hc]; rfl
/-- isinstance(n, c): ans by the class of the handled exception -/
def eIsX (i : Nat) (e : Ex) (ans : Nat → Option Bool) : EM := fun lo s => match lo[i]?, ans e.c with
  | some none, some b => .ok (.bl b) s
  | _, _ => .fail
def rIsX (K : PySem.W.Frag) (a C d : Addr) : List V → Hp → VK → Prop := fun xs H Q => ∃ (c : V) (cv : Value) (b : Bool) (fs : List (Str × V)), xs = [.ref a, c] ∧ H d = some (.xd fs) ∧ ClsV c cv ∧ PySem.W.kitOne K (.ref C) cv = some b ∧ Q (.bl b) H
def rIsXT (K : PySem.W.Frag) (a C d : Addr) : List V → Hp → VK → Prop := fun xs H Q => ∃ (tp : Addr) (cs : List V) (us : List Value) (b : Bool) (fs : List (Str × V)), xs = [.ref a, .ref tp] ∧ H d = some (.xd fs) ∧ H tp = some (.tup cs) ∧ Paired ClsV cs us ∧ PySem.W.kitAny K (.ref C) us = some b ∧ Q (.bl b) H
section
variable {X : Cx} {a C d : Addr} {oe : Obj} {pn : List (Addr × Obj)}
theorem exc_inst {pins : List (Addr × Obj)} {s : Shared} {σ : L2.St} {H : Hp} {fs : List (Str × V)} (hz : Zc (.ref C) (some d) oe) (hf : ∃ vs, oe.data = .fields vs) (I : Inv (X.suite a ((a, oe) :: pn)) pins σ H s) (hd : H d = some (.xd fs)) : ∃ od, PySem.W.InstAt s.heap a oe C (some od) := by
  obtain ⟨ha, _⟩ := I.pin (a, oe) (List.mem_append_left _ List.mem_cons_self)
  obtain ⟨vs, hv⟩ := hf
  have hx : ObjOk X.prog X.w H s.heap d (.xd fs) := I.hok d _ hd
  obtain ⟨mA, hns, hr⟩ := hx
  obtain ⟨od, ho, hl⟩ := lookIn_ns hns
  exact ⟨od, ha, hz.1, by unfold PySem.W.notCls; rw [hv] <;> rfl, by rw [hz.2]; exact ho⟩
theorem call_isX (O : IsC X.K C) (hz : Zc (.ref C) (some d) oe) (hf : ∃ vs, oe.data = .fields vs) : CallR (X.suite a ((a, oe) :: pn)) (.builtin "isinstance") (rIsX X.K a C d) := by
  intro pins s σ H xs us Q I r h
  obtain ⟨c, cv, b, fs, rfl, hd, k, e, q⟩ := h
  obtain ⟨u1, u2, rfl, r1, r2⟩ := vals2 r
  obtain rfl : u1 = Value.ref a := r1
  have e2 := k.eq r2
  subst e2
  obtain ⟨od, J⟩ := exc_inst hz hf I hd
  exact PySem.W.kia_one (PySem.W.kitx_exc O.cl O.ga O.gg O.ex O.ca O.gs O.tk O.mr) I.kIn J e (fun z => nomatch z) fun tk => ⟨.bl b, H, I.tok tk, rfl, q⟩
theorem call_isXT (O : IsC X.K C) (hz : Zc (.ref C) (some d) oe) (hf : ∃ vs, oe.data = .fields vs) : CallR (X.suite a ((a, oe) :: pn)) (.builtin "isinstance") (rIsXT X.K a C d) := by
  intro pins s σ H xs us Q I r h
  obtain ⟨tp, cs, ws, b, fs, rfl, hd, hT, k, e, q⟩ := h
  obtain ⟨u1, u2, rfl, r1, r2⟩ := vals2 r
  obtain rfl : u1 = Value.ref a := r1
  cases (show u2 = Value.ref tp from r2)
  obtain ⟨od, J⟩ := exc_inst hz hf I hd
  obtain ⟨_, its, rv, o, h1, h2, n, h3⟩ := (show ObjOk X.prog X.w H s.heap tp (.tup cs) from I.hok tp _ hT)
  have e3 := ClsV.all k rv
  subst e3
  obtain ⟨oc, od, dt, sl⟩ := o
  simp only at h2 h3
  subst h2 h3
  exact PySem.W.kia_tup (PySem.W.kitx_exc O.cl O.ga O.gg O.ex O.ca O.gs O.tk O.mr) I.kIn J h1 e (fun z => nomatch z) fun tk => ⟨.bl b, H, I.tok tk, rfl, q⟩
end
section
variable {X : Cx} {T : Tb} {W : WX} {a C d : Addr} {oe : Obj} {e : Ex} {fs : List (Str × Vl)} {pn : List (Addr × Obj)} {n : Str} {i : Nat} {np pos cp : Pos} {ans : Nat → Option Bool} {ce : Expr} {es : List Expr}
/-- an expression that is a class -/
structure ClsE (X : Cx) (ce : Expr) (c : V) (cv : Value) : Prop where
  pe : PE X ce (tC c)
  cl : ClsV c cv
theorem clsE_own {x : Str} {D : Addr} {pos : Pos} (hg : Gl X x) (hm : X.mg x = some (.ref D)) (hd : (x == ("__debug__" : Str)) = false := by decide) : ClsE X (.Name x pos) (.ref D) (.ref D) := ⟨pe_glob hg hm rfl hd, .own D⟩
theorem clsE_ty {x : Str} {t : String} {pos : Pos} (hg : Gl X x) (hm : X.mg x = none) (hv : bootBuiltins x = some (.type t)) (hn : x ≠ "__name__" := by decide) (hd : (x == ("__debug__" : Str)) = false := by decide) : ClsE X (.Name x pos) (.ty t) (.type t) := ⟨pe_bltn hg hm hv rfl hn hd, .ty t⟩
structure ClsEs (X : Cx) (es : List Expr) (cs : List V) (us : List Value) : Prop where
  pa : PA X es (fun _ H Q => Q cs H)
  cl : Paired ClsV cs us
theorem clsEs_nil : ClsEs X [] [] [] := ⟨pa_nil, .nil⟩
theorem clsEs_cons {c : V} {cv : Value} {cs : List V} {us : List Value} (h : ClsE X ce c cv) (t : ClsEs X es cs us) (hs : starEach (ce :: es) X.env = (false, eval ce X.env) :: starEach es X.env := by rfl) : ClsEs X (ce :: es) (c :: cs) (cv :: us) :=
  ⟨pa_cons h.pe t.pa hs, .cons h.cl t.cl⟩
theorem xc_at {ρ : List Addr} {H : Hp} {lo : Lo} {σ : L2.St} (rl : RL (T.on [⟨i, a, d, fs.map (·.1), fs.map (·.2)⟩]) ρ H lo σ) (q : lo[i]? = some none) : σ[i]? = some (some (.ref a)) ∧ ∃ vs, H d = some (.xd vs) := by
  obtain ⟨h1, vs, h2, _, _⟩ := rl.xc _ (List.mem_singleton.mpr rfl) q
  exact ⟨h1, vs, h2⟩
theorem ce_isx {c : V} {cv : Value} (O : IsC X.K C) (hz : Zc (.ref C) (some d) oe) (hf : ∃ vs, oe.data = .fields vs) (hcl : ClsE (X.suite a ((a, oe) :: pn)) ce c cv) (hans : ∀ b, ans e.c = some b → PySem.W.kitOne X.K (.ref C) cv = some b)
    (hg : Gl X "isinstance") (hm : X.mg "isinstance" = none) (hN : X.N[i]? = some n) (hv : Vis X.env.scope n) (hd : (n == ("__debug__" : Str)) = false := by decide) (hcd : (n == ("__classdict__" : Str)) = false := by decide)
    (h1 : starEach [.Name n np, ce] X.env = (false, eval (.Name n np) X.env) :: starEach [ce] X.env := by rfl) (h2 : starEach [ce] X.env = (false, eval ce X.env) :: starEach [] X.env := by rfl) (hpl : (backTo pos (starEach [ce] X.env)).any (·.1) = false := by rfl) :
    PE (X.suite a ((a, oe) :: pn)) (.Call (.Name "isinstance" cp) [.Name n np, ce] [] pos) (tE (T.on [⟨i, a, d, fs.map (·.1), fs.map (·.2)⟩]) W (eIsX i e ans)) :=
  pe_mono (pe_callB (id := "isinstance") (call_isX O hz hf) hg hm (by decide +kernel) (pa_cons (pe_var (i := i) (x := n) hN hv hd hcd) (pa_cons hcl.pe pa_nil h2) h1) (by decide) (by decide) h1 hpl) fun σ H Q h => by
    obtain ⟨ρ, s, lo, r, rl, p⟩ := h
    have p : Po (RV _) _ _ ρ H (eIsX i e ans lo s) Q := p
    unfold eIsX at p
    split at p
    · rename_i b q1 q2
      obtain ⟨k1, vs, k2⟩ := xc_at rl q1
      exact ⟨_, k1, c, cv, b, vs, rfl, k2, hcl.cl, hans b q2, p ρ H _ .refl r (.bl b)⟩
    · exact p.elim
theorem ce_isxT {cs : List V} {us : List Value} {x1 : Nat} {tp : Pos} (O : IsC X.K C) (hz : Zc (.ref C) (some d) oe) (hf : ∃ vs, oe.data = .fields vs) (hcl : ClsEs (X.suite a ((a, oe) :: pn)) es cs us) (hans : ∀ b, ans e.c = some b → PySem.W.kitAny X.K (.ref C) us = some b) (hlen : cs.length ≤ 8)
    (hg : Gl X "isinstance") (hm : X.mg "isinstance" = none) (hN : X.N[i]? = some n) (hv : Vis X.env.scope n) (hd : (n == ("__debug__" : Str)) = false := by decide) (hcd : (n == ("__classdict__" : Str)) = false := by decide)
    (h1 : starEach [.Name n np, .Tuple es x1 tp] X.env = (false, eval (.Name n np) X.env) :: starEach [.Tuple es x1 tp] X.env := by rfl) (h2 : starEach [.Tuple es x1 tp] X.env = (false, eval (.Tuple es x1 tp) X.env) :: starEach [] X.env := by rfl) (hpl : (backTo pos (starEach [.Tuple es x1 tp] X.env)).any (·.1) = false := by rfl) :
    PE (X.suite a ((a, oe) :: pn)) (.Call (.Name "isinstance" cp) [.Name n np, .Tuple es x1 tp] [] pos) (tE (T.on [⟨i, a, d, fs.map (·.1), fs.map (·.2)⟩]) W (eIsX i e ans)) :=
  pe_mono (pe_callB (id := "isinstance") (call_isXT O hz hf) hg hm (by decide +kernel) (pa_cons (pe_var (i := i) (x := n) hN hv hd hcd) (pa_cons (pe_tup hcl.pa) pa_nil h2) h1) (by decide) (by decide) h1 hpl) fun σ H Q h => by
    obtain ⟨ρ, s, lo, r, rl, p⟩ := h
    have p : Po (RV _) _ _ ρ H (eIsX i e ans lo s) Q := p
    unfold eIsX at p
    split at p
    · rename_i b q1 q2
      obtain ⟨k1, vs, k2⟩ := xc_at rl q1
      refine ⟨_, k1, Nat.le_trans hlen (by decide), fun tp hp => ?_⟩
      have nd : d ≠ tp := fun z => by subst z; rw [k2] at hp; cases hp
      exact ⟨tp, cs, us, b, vs, rfl, by rw [upd_ne nd]; exact k2, upd_same, hcl.cl, hans b q2, p ρ _ _ (ext_upd hp) (r.laid hp) (.bl b)⟩
    · exact p.elim
end
end Sm

namespace K79
-- classes: GoneError=0 NoPlace=1 NoVersion=2 Fix=3 Keeps=4 Strongs=5
open PySem PySem.Spec PyProof.Rows L2 Sm
def top (i : Nat) : Stmt := PySem.Challenge.pw_maybegone_k79_programs_fixed.main.body.getD i (.Pass ⟨0, 0, 0, 0⟩)
abbrev st_inner_blocks : Stmt := top 6
abbrev st_listed : Stmt := top 7
abbrev st_statements_of : Stmt := top 8
abbrev st_places_with : Stmt := top 9
abbrev st_make_places : Stmt := top 10
abbrev st_weak_places : Stmt := top 11
abbrev st_Fix_places_of : Stmt := inClass (top 13) 0
abbrev st_Fix_changed : Stmt := inClass (top 13) 1
abbrev st_Keeps_changed : Stmt := inClass (top 14) 1
abbrev st_Strongs_changed : Stmt := inClass (top 15) 1
abbrev st_Fix_rebuilt : Stmt := inClass (top 13) 2
abbrev st_Keeps_places_of : Stmt := inClass (top 14) 0
abbrev st_Strongs_places_of : Stmt := inClass (top 15) 0
abbrev st_Fix_applied : Stmt := inClass (top 13) 3
abbrev st__law_deck : Stmt := top 17
abbrev st__law_draw : Stmt := top 18
abbrev st__law_one : Stmt := top 19
abbrev st__law_names : Stmt := top 20
abbrev st__law_words : Stmt := top 21
abbrev st__law_test : Stmt := top 22
abbrev st__law_plain : Stmt := top 23
abbrev st__law_body : Stmt := top 24
abbrev st__law_program : Stmt := top 25
abbrev st__law_count : Stmt := top 26
abbrev st__law_fixed : Stmt := top 27
abbrev st__law_refused : Stmt := top 28
abbrev st_law : Stmt := top 29
abbrev st_NoPlaceU_initU : Stmt := inClass (top 3) 0
/-! the pure functions -/
def hit_NoPlace : Nat → Option Bool := fun c => match c with
  | 1 => some true
  | _ => none
def ans_0 : Nat → Option Bool := fun c => match c with
  | 1 => some true
  | _ => none
def ans_1 : Nat → Option Bool := fun c => match c with
  | 1 => some false
  | _ => none
def b_inner_blocks : SM := (sSeq (sIf (tVal (eOp opEq (eOp opIx (eVar 0) (eC (.int 0))) (eC (.str "if")))) (sRet (eSl opSl (eVar 0) (some (eC (.int 2))) none)) sNil)
  (sRet (eIfM (tVal (eOp opEq (eOp opIx (eVar 0) (eC (.int 0))) (eC (.str "repeat")))) (eSl opSl (eVar 0) (some (eC (.int 2))) none) (eCB oTup aNil))))
def m_inner_blocks : List Vl → M Vl := fnM 1 b_inner_blocks
def b_listed (R : Nat → List Vl → M Vl) : SM := (sSeq (sSet 2 (eCB oLst aNil))
  (sSeq (sForX (aTup (eVar 0)) (gNm 3)
  (sSeq (sExpr (eBm .list oAppend (eVar 2) (aCons (eCB oTup (aCons (eVar 1) (aCons (eVar 3) aNil))) aNil)))
  (sForX (aTup (eCall (arg 1 m_inner_blocks) (aCons (eVar 3) aNil))) (gNm 4)
  (sExpr (eBm .list oExtend (eVar 2) (aCons (eCall (arg 2 (R 0)) (aCons (eVar 4) (aCons (eOp opAdd (eVar 1) (eC (.int 1))) aNil))) aNil))))))
  (sRet (eVar 2))))
def R0 : Nat → Nat → List Vl → M Vl
  | 0, _ => mFail
  | n + 1, 0 => fnM 5 (b_listed (R0 n))
  | _ + 1, _ => mFail
def m_listed : List Vl → M Vl := R0 12 0
def b_statements_of : SM := (sRet (eLc 100000 (iLst (eCall (arg 2 m_listed) (aCons (eOp opIx (eVar 0) (eC (.int 1))) (aCons (eC (.int 0)) aNil)))) (glT [1, 2]) tTrue (eVar 2) [1, 2]))
def m_statements_of : List Vl → M Vl := fnM 3 b_statements_of
def b_places_with : SM := (sRet (eCB oTuple (aCons (eLc 100000 (iEnm (aCons (eCall (arg 1 m_statements_of) (aCons (eVar 0) aNil)) aNil)) (glT [2, 3]) (tVal (eOp opEq (eOp opIx (eVar 3) (eC (.int 0))) (eVar 1))) (eVar 2) [2, 3]) aNil)))
def m_places_with : List Vl → M Vl := fnM 4 b_places_with
def b_make_places : SM := (sRet (eCall (arg 2 m_places_with) (aCons (eVar 0) (aCons (eC (.str "make")) aNil))))
def m_make_places : List Vl → M Vl := fnM 1 b_make_places
def b_weak_places : SM := (sRet (eCall (arg 2 m_places_with) (aCons (eVar 0) (aCons (eC (.str "weak")) aNil))))
def m_weak_places : List Vl → M Vl := fnM 1 b_weak_places
def b_Fix_places_of : SM := (sRet (eCB oTup aNil))
def m_Fix_places_of : List Vl → M Vl := fnM 2 b_Fix_places_of
def b_Fix_changed : SM := (sRet (eCB oTup (aCons (eVar 1) aNil)))
def m_Fix_changed : List Vl → M Vl := fnM 2 b_Fix_changed
def b_Keeps_changed : SM := (sRet (eIfM (tVal (eOp opEq (eOp opIx (eVar 1) (eC (.int 0))) (eC (.str "make")))) (eCB oTup (aCons (eVar 1) (aCons (eCB oTup (aCons (eC (.str "keep")) (aCons (eOp opIx (eVar 1) (eC (.int 1))) aNil))) aNil))) (eCB oTup (aCons (eVar 1) aNil))))
def m_Keeps_changed : List Vl → M Vl := fnM 2 b_Keeps_changed
def b_Strongs_changed : SM := (sRet (eIfM (tVal (eOp opEq (eOp opIx (eVar 1) (eC (.int 0))) (eC (.str "weak")))) (eCB oTup (aCons (eOp opAdd (eCB oTup (aCons (eC (.str "hold")) aNil)) (eSl opSl (eVar 1) (some (eC (.int 1))) none)) aNil)) (eCB oTup (aCons (eVar 1) aNil))))
def m_Strongs_changed : List Vl → M Vl := fnM 2 b_Strongs_changed
def tab_changed : MTab := fun c => match c with
  | 3 => some m_Fix_changed
  | 4 => some m_Keeps_changed
  | 5 => some m_Strongs_changed
  | _ => none
def tabR1_rebuilt (R : Nat → List Vl → M Vl) : MTab := fun c => match c with
  | 3 => some (R 0)
  | 4 => some (R 0)
  | 5 => some (R 0)
  | _ => none
def b_Fix_rebuilt (R : Nat → List Vl → M Vl) : SM := (sSeq (sSet 4 (eCB oLst aNil))
  (sSeq (sForX (aTup (eVar 1)) (gNm 5)
  (sSeq (sSet 6 (eVar 2))
  (sSeq (sAug 2 opIAdd (eC (.int 1)))
  (sSeq (sSet 7 (eCB oLst aNil))
  (sSeq (sForX (aTup (eCall (arg 1 m_inner_blocks) (aCons (eVar 5) aNil))) (gNm 8)
  (sSeq (sExpr (eBm .list oAppend (eVar 7) (aCons (eMeth "rebuilt" (tabA 3 (tabR1_rebuilt R)) (eVar 0) (aCons (eVar 8) (aCons (eVar 2) (aCons (eVar 3) aNil)))) aNil)))
  (sAug 2 opIAdd (eCB oLen (aCons (eCall (arg 2 m_listed) (aCons (eVar 8) (aCons (eC (.int 0)) aNil))) aNil)))))
  (sSeq (sIf (tVal (eOp opNe (eVar 7) (eCB oLst aNil))) (sSet 5 (eOp opAdd (eSl opSl (eVar 5) none (some (eC (.int 2)))) (eCB oTuple (aCons (eVar 7) aNil)))) sNil)
  (sExpr (eBm .list oExtend (eVar 4) (aCons (eIfM (tVal (eOp opIn (eVar 6) (eVar 3))) (eMeth "changed" (tabA 1 tab_changed) (eVar 0) (aCons (eVar 5) aNil)) (eCB oTup (aCons (eVar 5) aNil))) aNil)))))))))
  (sRet (eCB oTuple (aCons (eVar 4) aNil)))))
def R1 : Nat → Nat → List Vl → M Vl
  | 0, _ => mFail
  | n + 1, 0 => fnM 9 (b_Fix_rebuilt (R1 n))
  | _ + 1, _ => mFail
def m_Fix_rebuilt : List Vl → M Vl := R1 12 0
def tab_rebuilt : MTab := fun c => match c with
  | 3 => some m_Fix_rebuilt
  | 4 => some m_Fix_rebuilt
  | 5 => some m_Fix_rebuilt
  | _ => none
def b_Keeps_places_of : SM := (sRet (eCall (arg 1 m_make_places) (aCons (eVar 1) aNil)))
def m_Keeps_places_of : List Vl → M Vl := fnM 2 b_Keeps_places_of
def b_Strongs_places_of : SM := (sRet (eCall (arg 1 m_weak_places) (aCons (eVar 1) aNil)))
def m_Strongs_places_of : List Vl → M Vl := fnM 2 b_Strongs_places_of
def tab_places_of : MTab := fun c => match c with
  | 3 => some m_Fix_places_of
  | 4 => some m_Keeps_places_of
  | 5 => some m_Strongs_places_of
  | _ => none
def b_Fix_applied : SM := (sSeq (sSet 3 (eMeth "places_of" (tabA 1 tab_places_of) (eVar 0) (aCons (eVar 1) aNil)))
  (sSeq (sForX (aTup (eVar 2)) (gNm 4)
  (sIf (tVal (eOp opNotIn (eVar 4) (eVar 3))) (sRaise 1 "place" (eVar 4)) sNil))
  (sRet (eCB oTup (aCons (eOp opIx (eVar 1) (eC (.int 0))) (aCons (eMeth "rebuilt" (tabA 3 tab_rebuilt) (eVar 0) (aCons (eOp opIx (eVar 1) (eC (.int 1))) (aCons (eC (.int 0)) (aCons (eVar 2) aNil)))) aNil))))))
def m_Fix_applied : List Vl → M Vl := fnM 5 b_Fix_applied
def tab_applied : MTab := fun c => match c with
  | 3 => some m_Fix_applied
  | 4 => some m_Fix_applied
  | 5 => some m_Fix_applied
  | _ => none
def b__law_deck : SM := (sRet (eCB oLst (aCons (eLc 100000 (iLst (eSl opSl (eVar 0) none (some (eC (.int 63))))) (glN 1) tTrue (eCB oAbs (aCons (eVar 1) aNil)) [1]) (aCons (eC (.int 0)) aNil))))
def m__law_deck : List Vl → M Vl := fnM 2 b__law_deck
def b__law_draw : SM := (sSeq (sAsg (gSb opSet (eVar 0) (eC (.int 1))) (eOp opAdd (eOp opIx (eVar 0) (eC (.int 1))) (eC (.int 1))))
  (sSeq (sAsg (gTp [3, 4]) (eCB oTup (aCons (eC (.int 0)) (aCons (eOp1 opNeg (eC (.int 1))) aNil))))
  (sSeq (sIf (tVal (eOp opGt (eCB oLen (aCons (eOp opIx (eVar 0) (eC (.int 0))) aNil)) (eC (.int 0)))) (sSeq (sSet 4 (eOp opMod (eCB oInt (aCons (eOp opIx (eVar 0) (eC (.int 1))) aNil)) (eCB oLen (aCons (eOp opIx (eVar 0) (eC (.int 0))) aNil))))
  (sSet 3 (eOp opIx (eOp opIx (eVar 0) (eC (.int 0))) (eVar 4)))) sNil)
  (sSeq (sIf (tVal (eOp opGe (eVar 3) (eOp opPow (eC (.int 10)) (eC (.int 18))))) (sSeq (sAsg (gSb opSet (eOp opIx (eVar 0) (eC (.int 0))) (eVar 4)) (eOp opFdiv (eCB oInt (aCons (eVar 3) aNil)) (eVar 1)))
  (sRet (eOp opMod (eCB oInt (aCons (eVar 3) aNil)) (eVar 1)))) sNil)
  (sSeq (sSet 2 (eOp opAdd (eOp opAdd (eOp opMod (eCB oInt (aCons (eVar 3) aNil)) (eC (.int 2147483563))) (eOp opMul (eC (.int 8117)) (eOp opIx (eVar 0) (eC (.int 1))))) (eC (.int 3))))
  (sRet (eOp opMod (eCB oInt (aCons (eOp opMod (eCB oInt (aCons (eOp opPow (eVar 2) (eC (.int 5))) aNil)) (eC (.int 2147483629))) aNil)) (eVar 1))))))))
def m__law_draw : List Vl → M Vl := fnM 5 b__law_draw
def b__law_one : SM := (sRet (eOp opIx (eVar 1) (eCall (arg 2 m__law_draw) (aCons (eVar 0) (aCons (eCB oLen (aCons (eVar 1) aNil)) aNil)))))
def m__law_one : List Vl → M Vl := fnM 2 b__law_one
def b__law_names : SM := (sSeq (sSet 2 (eC (.str "abcdefghijklmnopqrstuvwxyz")))
  (sSeq (sSet 3 (eBm .str oJoin (eC (.str "")) (aCons (eLcX (aRng (aCons (eOp opAdd (eC (.int 1)) (eCall (arg 2 m__law_draw) (aCons (eVar 0) (aCons (eC (.int 3)) aNil)))) aNil)) (glN 5) tTrue (eCall (arg 2 m__law_one) (aCons (eVar 0) (aCons (eVar 2) aNil))) [5]) aNil)))
  (sSeq (sSet 4 (eBm .str oJoin (eC (.str "")) (aCons (eLcX (aRng (aCons (eCall (arg 2 m__law_draw) (aCons (eVar 0) (aCons (eC (.int 3)) aNil))) aNil)) (glN 5) tTrue (eCall (arg 2 m__law_one) (aCons (eVar 0) (aCons (eVar 2) aNil))) [5]) aNil)))
  (sRet (eLcX (aRng (aCons (eVar 1) aNil)) (glN 5) tTrue (eOp opAdd (eOp opAdd (eVar 3) (eCB oStr (aCons (eVar 5) aNil))) (eVar 4)) [5])))))
def m__law_names : List Vl → M Vl := fnM 6 b__law_names
def b__law_words : SM := (sSeq (sSet 2 (eC (.str "0123456789abcdefghijklmnopqrstuvwxyz")))
  (sSeq (sSet 3 (eBm .str oJoin (eC (.str "")) (aCons (eLcX (aRng (aCons (eCall (arg 2 m__law_draw) (aCons (eVar 0) (aCons (eC (.int 4)) aNil))) aNil)) (glN 5) tTrue (eCall (arg 2 m__law_one) (aCons (eVar 0) (aCons (eVar 2) aNil))) [5]) aNil)))
  (sSeq (sSet 4 (eBm .str oJoin (eC (.str "")) (aCons (eLcX (aRng (aCons (eCall (arg 2 m__law_draw) (aCons (eVar 0) (aCons (eC (.int 4)) aNil))) aNil)) (glN 5) tTrue (eCall (arg 2 m__law_one) (aCons (eVar 0) (aCons (eVar 2) aNil))) [5]) aNil)))
  (sRet (eLcX (aRng (aCons (eVar 1) aNil)) (glN 5) tTrue (eOp opAdd (eOp opAdd (eVar 3) (eOp opIx (eC (.str "qvxz")) (eVar 5))) (eVar 4)) [5])))))
def m__law_words : List Vl → M Vl := fnM 6 b__law_words
def b__law_test : SM := (sSeq (sPar 5 6 (aCons (eCall (arg 2 m__law_draw) (aCons (eVar 0) (aCons (eC (.int 9)) aNil))) (aCons (eCall (arg 2 m__law_one) (aCons (eVar 0) (aCons (eVar 2) aNil))) aNil)))
  (sSeq (sSet 3 (eCB oTup (aCons (eC (.str "full")) (aCons (eVar 6) (aCons (eCall (arg 2 m__law_one) (aCons (eVar 0) (aCons (eOp opIx (eVar 1) (eC (.int 1))) aNil))) aNil)))))
  (sSeq (sIf (tAndM (tVal (eOp opEq (eVar 5) (eC (.int 0)))) (tVal (eOp opGt (eOp opIx (eVar 1) (eC (.int 3))) (eC (.int 0))))) (sSet 3 (eCB oTup (aCons (eC (.str "given")) (aCons (eCall (arg 2 m__law_draw) (aCons (eVar 0) (aCons (eOp opIx (eVar 1) (eC (.int 3))) aNil))) aNil)))) (sIf (tVal (eOp opLt (eVar 5) (eC (.int 2)))) (sSet 3 (eCB oTup (aCons (eC (.str "set")) (aCons (eCall (arg 2 m__law_one) (aCons (eVar 0) (aCons (eOp opIx (eVar 1) (eC (.int 0))) aNil))) aNil)))) (sIf (tVal (eOp opEq (eVar 5) (eC (.int 2)))) (sSet 3 (eCB oTup (aCons (eC (.str "same")) (aCons (eVar 6) (aCons (eCall (arg 2 m__law_one) (aCons (eVar 0) (aCons (eVar 2) aNil))) aNil))))) (sIf (tVal (eOp opLt (eVar 5) (eC (.int 5)))) (sSet 3 (eCB oTup (aCons (eC (.str "wished")) (aCons (eCall (arg 2 m__law_one) (aCons (eVar 0) (aCons (eOp opIx (eVar 1) (eC (.int 2))) aNil))) aNil)))) sNil))))
  (sSeq (sForX (aRng (aCons (eCall (arg 2 m__law_one) (aCons (eVar 0) (aCons (eCB oLst (aCons (eC (.int 0)) (aCons (eC (.int 0)) (aCons (eC (.int 0)) (aCons (eC (.int 1)) (aCons (eC (.int 2)) (aCons (eC (.int 3)) aNil))))))) aNil))) aNil)) (gNm 4)
  (sSet 3 (eCB oTup (aCons (eC (.str "not")) (aCons (eVar 3) aNil)))))
  (sRet (eVar 3))))))
def m__law_test : List Vl → M Vl := fnM 7 b__law_test
def b__law_plain : SM := (sSeq (sAsg (gUl [(gNm 4), (gNm 5), (gNm 6)]) (eSl opSl (eVar 1) none (some (eC (.int 3)))))
  (sSeq (sSet 3 (eLc 100000 (iLst (eCB oSort (aCons (eVar 2) aNil))) (glN 12) (tVal (eOp opIx (eVar 2) (eVar 12))) (eVar 12) [12]))
  (sSeq (sPar3 7 8 9 (aCons (eCall (arg 2 m__law_draw) (aCons (eVar 0) (aCons (eC (.int 20)) aNil))) (aCons (eCall (arg 2 m__law_one) (aCons (eVar 0) (aCons (eVar 4) aNil))) (aCons (eCall (arg 2 m__law_one) (aCons (eVar 0) (aCons (eVar 5) aNil))) aNil))))
  (sSeq (sIf (tOrM (tVal (eOp opLt (eVar 7) (eC (.int 4)))) (tVal (eOp opEq (eVar 3) (eCB oLst aNil)))) (sSeq (sAsg (gSb opSet (eVar 2) (eVar 8)) (eC (.bl true)))
  (sRet (eCB oTup (aCons (eC (.str "make")) (aCons (eVar 8) aNil))))) sNil)
  (sSeq (sPar 10 11 (aCons (eCall (arg 2 m__law_one) (aCons (eVar 0) (aCons (eVar 3) aNil))) (aCons (eCall (arg 2 m__law_one) (aCons (eVar 0) (aCons (eIfM (tVal (eOp opGt (eCall (arg 2 m__law_draw) (aCons (eVar 0) (aCons (eC (.int 9)) aNil))) (eC (.int 0)))) (eVar 3) (eVar 4)) aNil))) aNil)))
  (sSeq (sIf (tVal (eOp opLt (eVar 7) (eC (.int 7)))) (sRet (eCB oTup (aCons (eC (.str "weak")) (aCons (eVar 10) (aCons (eVar 9) (aCons (eVar 11) aNil)))))) sNil)
  (sSeq (sIf (tVal (eOp opLt (eVar 7) (eC (.int 10)))) (sRet (eCB oTup (aCons (eC (.str "hold")) (aCons (eVar 10) (aCons (eVar 9) (aCons (eVar 11) aNil)))))) sNil)
  (sSeq (sIf (tVal (eOp opEq (eVar 7) (eC (.int 10)))) (sSeq (sAsg (gSb opSet (eVar 2) (eVar 8)) (eOp opEq (eCall (arg 2 m__law_draw) (aCons (eVar 0) (aCons (eC (.int 2)) aNil))) (eC (.int 0))))
  (sRet (eCB oTup (aCons (eC (.str "take")) (aCons (eVar 8) (aCons (eVar 10) (aCons (eVar 9) aNil))))))) sNil)
  (sSeq (sIf (tVal (eOp opLt (eVar 7) (eC (.int 14)))) (sSeq (sAsg (gSb opSet (eVar 2) (eVar 10)) (eC (.bl false)))
  (sRet (eCB oTup (aCons (eC (.str "drop")) (aCons (eVar 10) aNil))))) sNil)
  (sSeq (sIf (tVal (eOp opEq (eVar 7) (eC (.int 14)))) (sSeq (sAsg (gSb opSet (eVar 2) (eVar 8)) (eC (.bl true)))
  (sRet (eCB oTup (aCons (eC (.str "name")) (aCons (eVar 8) (aCons (eVar 10) aNil)))))) sNil)
  (sSeq (sIf (tVal (eOp opEq (eVar 7) (eC (.int 15)))) (sRet (eCB oTup (aCons (eC (.str "cut")) (aCons (eVar 10) (aCons (eVar 9) aNil))))) sNil)
  (sSeq (sIf (tVal (eOp opEq (eVar 7) (eC (.int 16)))) (sRet (eCB oTup (aCons (eC (.str "wish")) (aCons (eVar 10) (aCons (eCall (arg 2 m__law_one) (aCons (eVar 0) (aCons (eVar 6) aNil))) aNil))))) sNil)
  (sSeq (sIf (tVal (eOp opEq (eVar 7) (eC (.int 17)))) (sRet (eIfM (tVal (eOp opEq (eCall (arg 2 m__law_draw) (aCons (eVar 0) (aCons (eC (.int 4)) aNil))) (eC (.int 0)))) (eCB oTup (aCons (eC (.str "keep")) (aCons (eVar 10) aNil))) (eCB oTup (aCons (eC (.str "say")) (aCons (eCall (arg 2 m__law_one) (aCons (eVar 0) (aCons (eVar 6) aNil))) aNil))))) sNil)
  (sRet (eCB oTup (aCons (eC (.str "ask")) (aCons (eCall (arg 3 m__law_test) (aCons (eVar 0) (aCons (eVar 1) (aCons (eVar 3) aNil)))) aNil)))))))))))))))))
def m__law_plain : List Vl → M Vl := fnM 13 b__law_plain
def b__law_body (R : Nat → List Vl → M Vl) : SM := (sSeq (sSet 5 (eCB oLst aNil))
  (sSeq (sForX (aRng (aCons (eOp opAdd (eC (.int 1)) (eCall (arg 2 m__law_draw) (aCons (eVar 0) (aCons (eOp opIx (eVar 4) (eC (.int 0))) aNil)))) aNil)) (gNm 6)
  (sSeq (sSet 7 (eCall (arg 2 m__law_draw) (aCons (eVar 0) (aCons (eC (.int 12)) aNil))))
  (sIf (tAndM (tVal (eOp opGt (eOp opIx (eVar 3) (eC (.int 0))) (eC (.int 0)))) (tVal (eOp opGe (eOp opIx (eVar 3) (eC (.int 1))) (eOp opIx (eVar 4) (eC (.int 2)))))) (sSeq (sAsg (gTs [(gSb opSet (eVar 3) (eC (.int 0))), (gSb opSet (eVar 3) (eC (.int 1)))]) (eCB oTup (aCons (eOp opSub (eOp opIx (eVar 3) (eC (.int 0))) (eC (.int 1))) (aCons (eOp opSub (eOp opIx (eVar 3) (eC (.int 1))) (eOp opIx (eVar 4) (eC (.int 2)))) aNil))))
  (sSeq (sSet 8 (eOp opAdd (eLc 100000 (iLst (eCB oSort (aCons (eVar 2) aNil))) (glN 13) (tVal (eOp opIx (eVar 2) (eVar 13))) (eVar 13) [13]) (eSl opSl (eOp opIx (eVar 1) (eC (.int 0))) none (some (eC (.int 1))))))
  (sIf (tAndM (tVal (eOp opEq (eVar 7) (eC (.int 0)))) (tVal (eOp opGt (eOp opIx (eVar 4) (eC (.int 1))) (eC (.int 0))))) (sSeq (sPar 9 10 (aCons (eCall (arg 3 m__law_test) (aCons (eVar 0) (aCons (eVar 1) (aCons (eVar 8) aNil)))) (aCons (eCB oLst (aCons (eC (.int 3)) (aCons (eOp opSub (eOp opIx (eVar 4) (eC (.int 1))) (eC (.int 1))) (aCons (eOp opIx (eVar 4) (eC (.int 2))) aNil)))) aNil)))
  (sSeq (sPar 11 7 (aCons (eCall (arg 5 (R 0)) (aCons (eVar 0) (aCons (eVar 1) (aCons (eCB oDict (aCons (eVar 2) aNil)) (aCons (eVar 3) (aCons (eVar 10) aNil)))))) (aCons (eCall (arg 2 m__law_draw) (aCons (eVar 0) (aCons (eC (.int 2)) aNil))) aNil)))
  (sExpr (eBm .list oAppend (eVar 5) (aCons (eCB oTup (aCons (eC (.str "if")) (aCons (eVar 9) (aCons (eVar 11) (aCons (eIfM (tVal (eOp opEq (eVar 7) (eC (.int 0)))) (eCall (arg 5 (R 0)) (aCons (eVar 0) (aCons (eVar 1) (aCons (eCB oDict (aCons (eVar 2) aNil)) (aCons (eVar 3) (aCons (eVar 10) aNil)))))) (eCB oTup aNil)) aNil))))) aNil))))) (sIf (tAndM (tVal (eOp opEq (eVar 7) (eC (.int 1)))) (tVal (eOp opGt (eOp opIx (eVar 4) (eC (.int 1))) (eC (.int 0))))) (sSeq (sSet 12 (eCall (arg 2 m__law_one) (aCons (eVar 0) (aCons (eCB oLst (aCons (eC (.int 0)) (aCons (eC (.int 1)) (aCons (eC (.int 2)) (aCons (eC (.int 2)) (aCons (eC (.int 3)) (aCons (eC (.int 3)) aNil))))))) aNil))))
  (sSeq (sSet 10 (eCB oLst (aCons (eC (.int 4)) (aCons (eOp opSub (eOp opIx (eVar 4) (eC (.int 1))) (eC (.int 1))) (aCons (eOp opMul (eOp opIx (eVar 4) (eC (.int 2))) (eVar 12)) aNil)))))
  (sExpr (eBm .list oAppend (eVar 5) (aCons (eCB oTup (aCons (eC (.str "repeat")) (aCons (eVar 12) (aCons (eCall (arg 5 (R 0)) (aCons (eVar 0) (aCons (eVar 1) (aCons (eCB oDict (aCons (eVar 2) aNil)) (aCons (eVar 3) (aCons (eVar 10) aNil)))))) aNil)))) aNil))))) (sExpr (eBm .list oAppend (eVar 5) (aCons (eCall (arg 3 m__law_plain) (aCons (eVar 0) (aCons (eVar 1) (aCons (eVar 2) aNil)))) aNil))))))) sNil)))
  (sRet (eCB oTuple (aCons (eVar 5) aNil)))))
def R2 : Nat → Nat → List Vl → M Vl
  | 0, _ => mFail
  | n + 1, 0 => fnM 14 (b__law_body (R2 n))
  | _ + 1, _ => mFail
def m__law_body : List Vl → M Vl := R2 12 0
def b__law_program : SM := (sSeq (sPar 7 8 (aCons (eCall (arg 2 m__law_words) (aCons (eVar 0) (aCons (eC (.int 3)) aNil))) (aCons (eCall (arg 2 m__law_draw) (aCons (eVar 0) (aCons (eC (.int 4)) aNil))) aNil)))
  (sSeq (sSet 2 (eCall (arg 2 m__law_names) (aCons (eVar 0) (aCons (eOp opAdd (eC (.int 6)) (eCall (arg 2 m__law_draw) (aCons (eVar 0) (aCons (eC (.int 3)) aNil)))) aNil))))
  (sSeq (sPar 9 10 (aCons (eCB oLst (aCons (eSl opSl (eVar 2) (some (eC (.int 3))) none) (aCons (eSl opSl (eVar 2) none (some (eOp opAdd (eC (.int 1)) (eCall (arg 2 m__law_draw) (aCons (eVar 0) (aCons (eC (.int 3)) aNil)))))) (aCons (eVar 7) (aCons (eVar 8) aNil))))) (aCons (eCB oDictP (aCons (eLc 100000 (iLst (eSl opSl (eVar 2) (some (eC (.int 3))) (some (eC (.int 6))))) (glN 13) tTrue (eCB oTup (aCons (eVar 13) (aCons (eC (.bl true)) aNil))) [13]) aNil)) aNil)))
  (sSeq (sSet 3 (eLc 100000 (iLst (eSl opSl (eVar 2) (some (eC (.int 3))) (some (eC (.int 6))))) (glN 13) tTrue (eCB oTup (aCons (eC (.str "make")) (aCons (eVar 13) aNil))) [13]))
  (sSeq (sForX (aRng (aCons (eOp opAdd (eC (.int 3)) (eCall (arg 2 m__law_draw) (aCons (eVar 0) (aCons (eC (.int 3)) aNil)))) aNil)) (gNm 4)
  (sSeq (sPar 11 12 (aCons (eCall (arg 2 m__law_one) (aCons (eVar 0) (aCons (eSl opSl (eVar 2) (some (eC (.int 3))) (some (eC (.int 6)))) aNil))) (aCons (eCall (arg 2 m__law_one) (aCons (eVar 0) (aCons (eSl opSl (eVar 2) (some (eC (.int 3))) (some (eC (.int 6)))) aNil))) aNil)))
  (sExpr (eBm .list oAppend (eVar 3) (aCons (eCB oTup (aCons (eCall (arg 2 m__law_one) (aCons (eVar 0) (aCons (eCB oLst (aCons (eC (.str "weak")) (aCons (eC (.str "weak")) (aCons (eC (.str "hold")) aNil)))) aNil))) (aCons (eVar 11) (aCons (eCall (arg 2 m__law_one) (aCons (eVar 0) (aCons (eOp opIx (eVar 9) (eC (.int 1))) aNil))) (aCons (eVar 12) aNil))))) aNil)))))
  (sSeq (sSet 5 (eCB oLst (aCons (eOp opSub (eC (.int 29)) (eCB oLen (aCons (eVar 3) aNil))) (aCons (eOp opSub (eC (.int 190)) (eCB oLen (aCons (eVar 3) aNil))) aNil))))
  (sSeq (sSet 6 (eOp opAdd (eCall (arg 5 m__law_body) (aCons (eVar 0) (aCons (eVar 9) (aCons (eVar 10) (aCons (eVar 5) (aCons (eVar 1) aNil)))))) (eCall (arg 5 m__law_body) (aCons (eVar 0) (aCons (eVar 9) (aCons (eVar 10) (aCons (eVar 5) (aCons (eCB oLst (aCons (eOp opIx (eVar 1) (eC (.int 0))) (aCons (eC (.int 2)) (aCons (eC (.int 1)) aNil)))) aNil))))))))
  (sRet (eCB oTup (aCons (eCB oTup (aCons (eVar 8) (aCons (eOp opAdd (eCB oTuple (aCons (eVar 3) aNil)) (eVar 6)) aNil))) (aCons (eCB oTuple (aCons (eLcX (aRng (aCons (eVar 8) aNil)) (glN 4) tTrue (eCall (arg 2 m__law_draw) (aCons (eVar 0) (aCons (eC (.int 2)) aNil))) [4]) aNil)) aNil)))))))))))
def m__law_program : List Vl → M Vl := fnM 14 b__law_program
def b__law_count (R : Nat → List Vl → M Vl) : SM := (sRet (eCB oSum (aCons (eLcX (aTup (eVar 0)) (glN 1) tTrue (eOp opAdd (eC (.int 1)) (eCB oSum (aCons (eLcX (aTup (eSl opSl (eVar 1) (some (eC (.int 2))) none)) (glN 2) (tVal (eOp opIn (eOp opIx (eVar 1) (eC (.int 0))) (eCB oLst (aCons (eC (.str "if")) (aCons (eC (.str "repeat")) aNil))))) (eCall (arg 1 (R 0)) (aCons (eVar 2) aNil)) [2]) aNil))) [1]) aNil)))
def R3 : Nat → Nat → List Vl → M Vl
  | 0, _ => mFail
  | n + 1, 0 => fnM 3 (b__law_count (R3 n))
  | _ + 1, _ => mFail
def m__law_count : List Vl → M Vl := R3 12 0
def b__law_fixed (R : Nat → List Vl → M Vl) : SM := (sSeq (sSet 4 (eCB oLst aNil))
  (sSeq (sForX (aTup (eVar 1)) (gNm 5)
  (sSeq (sSet 6 (eVar 5))
  (sSeq (sIf (tVal (eOp opIn (eOp opIx (eVar 5) (eC (.int 0))) (eCB oLst (aCons (eC (.str "if")) (aCons (eC (.str "repeat")) aNil))))) (sSeq (sPar 8 9 (aCons (eCB oLst aNil) (aCons (eOp opAdd (eVar 2) (eC (.int 1))) aNil)))
  (sSeq (sForX (aTup (eSl opSl (eVar 5) (some (eC (.int 2))) none)) (gNm 7)
  (sSeq (sExpr (eBm .list oAppend (eVar 8) (aCons (eCall (arg 4 (R 0)) (aCons (eVar 0) (aCons (eVar 7) (aCons (eVar 9) (aCons (eVar 3) aNil))))) aNil)))
  (sSet 9 (eOp opAdd (eVar 9) (eCall (arg 1 m__law_count) (aCons (eVar 7) aNil))))))
  (sSet 6 (eOp opAdd (eSl opSl (eVar 5) none (some (eC (.int 2)))) (eCB oTuple (aCons (eVar 8) aNil)))))) sNil)
  (sSeq (sSet 4 (eOp opAdd (eVar 4) (eIfM (tVal (eOp opIn (eVar 2) (eVar 3))) (eCB oList (aCons (eMeth "changed" (tabA 1 tab_changed) (eVar 0) (aCons (eVar 5) aNil)) aNil)) (eCB oLst (aCons (eVar 6) aNil)))))
  (sSet 2 (eOp opAdd (eVar 2) (eCall (arg 1 m__law_count) (aCons (eCB oTup (aCons (eVar 5) aNil)) aNil))))))))
  (sRet (eCB oTuple (aCons (eVar 4) aNil)))))
def R4 : Nat → Nat → List Vl → M Vl
  | 0, _ => mFail
  | n + 1, 0 => fnM 10 (b__law_fixed (R4 n))
  | _ + 1, _ => mFail
def m__law_fixed : List Vl → M Vl := R4 12 0
def b__law_refused : SM := (sSeq (sSet 3 (eC (.str "none")))
  (sSeq (sTryAs hit_NoPlace 4 (sExpr (eMeth "applied" (tabA 2 tab_applied) (eVar 0) (aCons (eVar 1) (aCons (eVar 2) aNil)))) (fun e => (sSeq (sSet 5 (eAndM (eIsX 4 e ans_0) (eNotM (eIsX 4 e ans_1))))
  (sSet 3 (eIfM (tVal (eVar 5)) (eXf 4 e "place") (eC (.str "other")))))))
  (sRet (eVar 3))))
def m__law_refused : List Vl → M Vl := fnM 6 b__law_refused
def b_law : SM := (sSeq (sSet 1 (eCall (arg 1 m__law_deck) (aCons (eVar 0) aNil)))
  (sSeq (sAsg (gTp [4, 5]) (eCall (arg 2 m__law_program) (aCons (eVar 1) (aCons (eCB oLst (aCons (eC (.int 12)) (aCons (eC (.int 4)) (aCons (eC (.int 1)) aNil)))) aNil))))
  (sSeq (sSet 2 (eCall (arg 1 m__law_count) (aCons (eOp opIx (eVar 4) (eC (.int 1))) aNil)))
  (sSeq (sFor 100000 (iLst (eCB oLst (aCons (eMakeB 4) (aCons (eMakeB 5) (aCons (eMakeB 3) aNil))))) (gNm 3)
  (sSeq (sSet 6 (eMeth "places_of" (tabA 1 tab_places_of) (eVar 3) (aCons (eVar 4) aNil)))
  (sSeq (sFor 100000 (iLst (eCB oLst (aCons (eC (.int 1)) (aCons (eC (.int 2)) (aCons (eC (.int 3)) aNil))))) (gNm 7)
  (sSeq (sSet 9 (eCB oTuple (aCons (eLcX (aTup (eVar 6)) (glN 11) (tVal (eOp opEq (eCall (arg 2 m__law_draw) (aCons (eVar 1) (aCons (eVar 7) aNil))) (eC (.int 0)))) (eVar 11) [11]) aNil)))
  (sSeq (sSet 10 (eCB oTup (aCons (eOp opIx (eVar 4) (eC (.int 0))) (aCons (eCall (arg 4 m__law_fixed) (aCons (eVar 3) (aCons (eOp opIx (eVar 4) (eC (.int 1))) (aCons (eC (.int 0)) (aCons (eVar 9) aNil))))) aNil))))
  (sIf (tVal (eOp opNe (eCB oRepr (aCons (eMeth "applied" (tabA 2 tab_applied) (eVar 3) (aCons (eVar 4) (aCons (eVar 9) aNil))) aNil)) (eCB oRepr (aCons (eVar 10) aNil)))) (sRet (eC (.bl false))) sNil))))
  (sSeq (sSet 8 (eLcX (aRng (aCons (eVar 2) aNil)) (glN 11) (tAndM (tVal (eOp opNotIn (eVar 11) (eVar 6))) (tVal (eOp opEq (eCall (arg 2 m__law_draw) (aCons (eVar 1) (aCons (eC (.int 5)) aNil))) (eC (.int 0))))) (eVar 11) [11]))
  (sSeq (sExpr (eBm .list oAppend (eVar 8) (aCons (eOp opAdd (eVar 2) (eCall (arg 2 m__law_draw) (aCons (eVar 1) (aCons (eOp opPow (eC (.int 10)) (eC (.int 18))) aNil)))) aNil)))
  (sSeq (sIf (tVal (eOp opEq (eCall (arg 2 m__law_draw) (aCons (eVar 1) (aCons (eC (.int 3)) aNil))) (eC (.int 0)))) (sSet 8 (eOp opAdd (eCB oLst (aCons (eOp opSub (eOp opSub (eC (.int 0)) (eC (.int 1))) (eCall (arg 2 m__law_draw) (aCons (eVar 1) (aCons (eC (.int 50)) aNil)))) aNil)) (eVar 8))) sNil)
  (sSeq (sSet 9 (eCB oTuple (aCons (eCB oSortS (aCons (eOp opAdd (eLcX (aTup (eVar 6)) (glN 11) (tVal (eOp opEq (eCall (arg 2 m__law_draw) (aCons (eVar 1) (aCons (eC (.int 2)) aNil))) (eC (.int 0)))) (eVar 11) [11]) (eVar 8)) aNil)) aNil)))
  (sIf (tVal (eOp opNe (eCB oRepr (aCons (eCall (arg 3 m__law_refused) (aCons (eVar 3) (aCons (eVar 4) (aCons (eVar 9) aNil)))) aNil)) (eCB oRepr (aCons (eOp opIx (eVar 8) (eC (.int 0))) aNil)))) (sRet (eC (.bl false))) sNil))))))))
  (sRet (eC (.bl true)))))))
def m_law : List Vl → M Vl := fnM 12 b_law
/-! what the top has left -/
structure TX (K : PySem.W.Frag) (mg : Str → Option Value) where
  C_Fix : Addr
  C_Keeps : Addr
  C_Strongs : Addr
  C_GoneError : Addr
  gc_GoneError : mg "GoneError" = some (.ref C_GoneError)
  C_NoVersion : Addr
  gc_NoVersion : mg "NoVersion" = some (.ref C_NoVersion)
  C_NoPlace : Addr
  gc_NoPlace : mg "NoPlace" = some (.ref C_NoPlace)
  f_inner_blocks : Addr
  d_inner_blocks : FuncData
  F_inner_blocks : Fun K "inner_blocks" "inner_blocks" st_inner_blocks f_inner_blocks d_inner_blocks
  b_inner_blocks : Binds K d_inner_blocks ["statement"] []
  g_inner_blocks : mg "inner_blocks" = some (.ref f_inner_blocks)
  f_listed : Addr
  d_listed : FuncData
  F_listed : Fun K "listed" "listed" st_listed f_listed d_listed
  b_listed : Binds K d_listed ["block", "depth"] []
  g_listed : mg "listed" = some (.ref f_listed)
  f_statements_of : Addr
  d_statements_of : FuncData
  F_statements_of : Fun K "statements_of" "statements_of" st_statements_of f_statements_of d_statements_of
  b_statements_of : Binds K d_statements_of ["program"] []
  g_statements_of : mg "statements_of" = some (.ref f_statements_of)
  f_places_with : Addr
  d_places_with : FuncData
  F_places_with : Fun K "places_with" "places_with" st_places_with f_places_with d_places_with
  b_places_with : Binds K d_places_with ["program", "word"] []
  g_places_with : mg "places_with" = some (.ref f_places_with)
  f_make_places : Addr
  d_make_places : FuncData
  F_make_places : Fun K "make_places" "make_places" st_make_places f_make_places d_make_places
  b_make_places : Binds K d_make_places ["program"] []
  g_make_places : mg "make_places" = some (.ref f_make_places)
  f_weak_places : Addr
  d_weak_places : FuncData
  F_weak_places : Fun K "weak_places" "weak_places" st_weak_places f_weak_places d_weak_places
  b_weak_places : Binds K d_weak_places ["program"] []
  g_weak_places : mg "weak_places" = some (.ref f_weak_places)
  f_Fix_places_of : Addr
  d_Fix_places_of : FuncData
  F_Fix_places_of : Fun K "places_of" "Fix.places_of" st_Fix_places_of f_Fix_places_of d_Fix_places_of
  b_Fix_places_of : Binds K d_Fix_places_of ["self", "program"] []
  f_Fix_changed : Addr
  d_Fix_changed : FuncData
  F_Fix_changed : Fun K "changed" "Fix.changed" st_Fix_changed f_Fix_changed d_Fix_changed
  b_Fix_changed : Binds K d_Fix_changed ["self", "statement"] []
  f_Keeps_changed : Addr
  d_Keeps_changed : FuncData
  F_Keeps_changed : Fun K "changed" "Keeps.changed" st_Keeps_changed f_Keeps_changed d_Keeps_changed
  b_Keeps_changed : Binds K d_Keeps_changed ["self", "statement"] []
  f_Strongs_changed : Addr
  d_Strongs_changed : FuncData
  F_Strongs_changed : Fun K "changed" "Strongs.changed" st_Strongs_changed f_Strongs_changed d_Strongs_changed
  b_Strongs_changed : Binds K d_Strongs_changed ["self", "statement"] []
  f_Fix_rebuilt : Addr
  d_Fix_rebuilt : FuncData
  F_Fix_rebuilt : Fun K "rebuilt" "Fix.rebuilt" st_Fix_rebuilt f_Fix_rebuilt d_Fix_rebuilt
  b_Fix_rebuilt : Binds K d_Fix_rebuilt ["self", "block", "place", "places"] []
  f_Keeps_places_of : Addr
  d_Keeps_places_of : FuncData
  F_Keeps_places_of : Fun K "places_of" "Keeps.places_of" st_Keeps_places_of f_Keeps_places_of d_Keeps_places_of
  b_Keeps_places_of : Binds K d_Keeps_places_of ["self", "program"] []
  f_Strongs_places_of : Addr
  d_Strongs_places_of : FuncData
  F_Strongs_places_of : Fun K "places_of" "Strongs.places_of" st_Strongs_places_of f_Strongs_places_of d_Strongs_places_of
  b_Strongs_places_of : Binds K d_Strongs_places_of ["self", "program"] []
  f_Fix_applied : Addr
  d_Fix_applied : FuncData
  F_Fix_applied : Fun K "applied" "Fix.applied" st_Fix_applied f_Fix_applied d_Fix_applied
  b_Fix_applied : Binds K d_Fix_applied ["self", "program", "places"] []
  f__law_deck : Addr
  d__law_deck : FuncData
  F__law_deck : Fun K "_law_deck" "_law_deck" st__law_deck f__law_deck d__law_deck
  b__law_deck : Binds K d__law_deck ["_law_script"] []
  g__law_deck : mg "_law_deck" = some (.ref f__law_deck)
  f__law_draw : Addr
  d__law_draw : FuncData
  F__law_draw : Fun K "_law_draw" "_law_draw" st__law_draw f__law_draw d__law_draw
  b__law_draw : Binds K d__law_draw ["_law_deck_here", "_law_many"] []
  g__law_draw : mg "_law_draw" = some (.ref f__law_draw)
  f__law_one : Addr
  d__law_one : FuncData
  F__law_one : Fun K "_law_one" "_law_one" st__law_one f__law_one d__law_one
  b__law_one : Binds K d__law_one ["_law_deck_here", "_law_items"] []
  g__law_one : mg "_law_one" = some (.ref f__law_one)
  f__law_names : Addr
  d__law_names : FuncData
  F__law_names : Fun K "_law_names" "_law_names" st__law_names f__law_names d__law_names
  b__law_names : Binds K d__law_names ["_law_deck_here", "_law_count_here"] []
  g__law_names : mg "_law_names" = some (.ref f__law_names)
  f__law_words : Addr
  d__law_words : FuncData
  F__law_words : Fun K "_law_words" "_law_words" st__law_words f__law_words d__law_words
  b__law_words : Binds K d__law_words ["_law_deck_here", "_law_count_here"] []
  g__law_words : mg "_law_words" = some (.ref f__law_words)
  f__law_test : Addr
  d__law_test : FuncData
  F__law_test : Fun K "_law_test" "_law_test" st__law_test f__law_test d__law_test
  b__law_test : Binds K d__law_test ["_law_deck_here", "_law_pool", "_law_olds"] []
  g__law_test : mg "_law_test" = some (.ref f__law_test)
  f__law_plain : Addr
  d__law_plain : FuncData
  F__law_plain : Fun K "_law_plain" "_law_plain" st__law_plain f__law_plain d__law_plain
  b__law_plain : Binds K d__law_plain ["_law_deck_here", "_law_pool", "_law_held"] []
  g__law_plain : mg "_law_plain" = some (.ref f__law_plain)
  f__law_body : Addr
  d__law_body : FuncData
  F__law_body : Fun K "_law_body" "_law_body" st__law_body f__law_body d__law_body
  b__law_body : Binds K d__law_body ["_law_deck_here", "_law_pool", "_law_held", "_law_left", "_law_shape"] []
  g__law_body : mg "_law_body" = some (.ref f__law_body)
  f__law_program : Addr
  d__law_program : FuncData
  F__law_program : Fun K "_law_program" "_law_program" st__law_program f__law_program d__law_program
  b__law_program : Binds K d__law_program ["_law_deck_here", "_law_shape"] []
  g__law_program : mg "_law_program" = some (.ref f__law_program)
  f__law_count : Addr
  d__law_count : FuncData
  F__law_count : Fun K "_law_count" "_law_count" st__law_count f__law_count d__law_count
  b__law_count : Binds K d__law_count ["_law_block"] []
  g__law_count : mg "_law_count" = some (.ref f__law_count)
  f__law_fixed : Addr
  d__law_fixed : FuncData
  F__law_fixed : Fun K "_law_fixed" "_law_fixed" st__law_fixed f__law_fixed d__law_fixed
  b__law_fixed : Binds K d__law_fixed ["_law_fix", "_law_block", "_law_place", "_law_places"] []
  g__law_fixed : mg "_law_fixed" = some (.ref f__law_fixed)
  f__law_refused : Addr
  d__law_refused : FuncData
  F__law_refused : Fun K "_law_refused" "_law_refused" st__law_refused f__law_refused d__law_refused
  b__law_refused : Binds K d__law_refused ["_law_fix", "_law_program_here", "_law_places"] []
  g__law_refused : mg "_law_refused" = some (.ref f__law_refused)
  f_law : Addr
  d_law : FuncData
  F_law : Fun K "law" "law" st_law f_law d_law
  b_law : Binds K d_law ["_law_script"] []
  g_law : mg "law" = some (.ref f_law)
  f_NoPlaceU_initU : Addr
  d_NoPlaceU_initU : FuncData
  F_NoPlaceU_initU : Fun K "__init__" "NoPlace.__init__" st_NoPlaceU_initU f_NoPlaceU_initU d_NoPlaceU_initU
  b_NoPlaceU_initU : Binds K d_NoPlaceU_initU ["self", "place"] []
  cl_Fix : Cls K C_Fix
  gc_Fix : mg "Fix" = some (.ref C_Fix)
  mb_Fix : MkB K C_Fix
  mt_Fix_applied : Meth K C_Fix "applied" f_Fix_applied
  mt_Fix_changed : Meth K C_Fix "changed" f_Fix_changed
  mt_Fix_places_of : Meth K C_Fix "places_of" f_Fix_places_of
  mt_Fix_rebuilt : Meth K C_Fix "rebuilt" f_Fix_rebuilt
  cl_Keeps : Cls K C_Keeps
  gc_Keeps : mg "Keeps" = some (.ref C_Keeps)
  mb_Keeps : MkB K C_Keeps
  mt_Keeps_applied : Meth K C_Keeps "applied" f_Fix_applied
  mt_Keeps_changed : Meth K C_Keeps "changed" f_Keeps_changed
  mt_Keeps_places_of : Meth K C_Keeps "places_of" f_Keeps_places_of
  mt_Keeps_rebuilt : Meth K C_Keeps "rebuilt" f_Fix_rebuilt
  cl_Strongs : Cls K C_Strongs
  gc_Strongs : mg "Strongs" = some (.ref C_Strongs)
  mb_Strongs : MkB K C_Strongs
  mt_Strongs_applied : Meth K C_Strongs "applied" f_Fix_applied
  mt_Strongs_changed : Meth K C_Strongs "changed" f_Strongs_changed
  mt_Strongs_places_of : Meth K C_Strongs "places_of" f_Strongs_places_of
  mt_Strongs_rebuilt : Meth K C_Strongs "rebuilt" f_Fix_rebuilt
  n_LookupError : mg "LookupError" = none
  n_ValueError : mg "ValueError" = none
  n_abs : mg "abs" = none
  n_dict : mg "dict" = none
  n_enumerate : mg "enumerate" = none
  n_int : mg "int" = none
  n_isinstance : mg "isinstance" = none
  n_len : mg "len" = none
  n_list : mg "list" = none
  n_range : mg "range" = none
  n_repr : mg "repr" = none
  n_sorted : mg "sorted" = none
  n_str : mg "str" = none
  n_sum : mg "sum" = none
  n_tuple : mg "tuple" = none
  ox_NoPlace : OxT K mg "NoPlace" "place" C_NoPlace f_NoPlaceU_initU
  em_NoPlace_NoPlace : PySem.W.exmOne K (.ref C_NoPlace) (.ref C_NoPlace) = some true
  xc_NoPlace_NoPlace : XfC K C_NoPlace
  nf_NoPlace_NoPlace_place : PySem.W.findIn K (.ref C_NoPlace) "place" = some none
  is_NoPlace : IsC K C_NoPlace
  ki_0_NoPlace : PySem.W.kitOne K (.ref C_NoPlace) (.type "LookupError") = some true
  ki_1_NoPlace : PySem.W.kitAny K (.ref C_NoPlace) [.ref C_GoneError, .type "ValueError", .ref C_NoVersion] = some false
def TX.T {K : PySem.W.Frag} {mg : Str → Option Value} (X : TX K mg) (w : World) : Tb := ⟨K, w, [0, X.C_NoPlace, 0, X.C_Fix, X.C_Keeps, X.C_Strongs], [], []⟩
theorem TX.hit1_NoPlace {K : PySem.W.Frag} {mg : Str → Option Value} (X : TX K mg) (w : World) : ∀ c C, hit_NoPlace c = some true → (X.T w).cl[c]? = some C → PySem.W.exmOne K (.ref C) (.ref X.C_NoPlace) = some true := by
  intro c C h1 h2
  unfold hit_NoPlace at h1
  split at h1
  · cases h2
    exact X.em_NoPlace_NoPlace
  · cases h1
theorem TX.hit0_NoPlace {K : PySem.W.Frag} {mg : Str → Option Value} (X : TX K mg) (w : World) : ∀ c C, hit_NoPlace c = some false → (X.T w).cl[c]? = some C → PySem.W.exmOne K (.ref C) (.ref X.C_NoPlace) = some false := by
  intro c C h1 h2
  unfold hit_NoPlace at h1
  split at h1
  · cases h1
  · cases h1
theorem TX.xf_NoPlace_place {K : PySem.W.Frag} {mg : Str → Option Value} (X : TX K mg) (w : World) : ∀ c C, hit_NoPlace c = some true → (X.T w).cl[c]? = some C → XfC K C ∧ PySem.W.findIn K (.ref C) "place" = some none := by
  intro c C h1 h2
  unfold hit_NoPlace at h1
  split at h1
  · cases h2
    exact ⟨X.xc_NoPlace_NoPlace, X.nf_NoPlace_NoPlace_place⟩
  · cases h1
theorem TX.isx_0 {K : PySem.W.Frag} {mg : Str → Option Value} (X : TX K mg) (w : World) : ∀ c C, hit_NoPlace c = some true → (X.T w).cl[c]? = some C → IsC K C ∧ ∀ b, ans_0 c = some b → PySem.W.kitOne K (.ref C) (.type "LookupError") = some b := by
  intro c C h1 h2
  unfold hit_NoPlace at h1
  split at h1
  · cases h2
    exact ⟨X.is_NoPlace, fun b e => by cases e; exact X.ki_0_NoPlace⟩
  · cases h1
theorem TX.isx_1 {K : PySem.W.Frag} {mg : Str → Option Value} (X : TX K mg) (w : World) : ∀ c C, hit_NoPlace c = some true → (X.T w).cl[c]? = some C → IsC K C ∧ ∀ b, ans_1 c = some b → PySem.W.kitAny K (.ref C) [.ref X.C_GoneError, .type "ValueError", .ref X.C_NoVersion] = some b := by
  intro c C h1 h2
  unfold hit_NoPlace at h1
  split at h1
  · cases h2
    exact ⟨X.is_NoPlace, fun b e => by cases e; exact X.ki_1_NoPlace⟩
  · cases h1
/-! each def computes its pure function -/
theorem sc_inner_blocks : FnScope ["statement"] ["statement"] (defScope st_inner_blocks) := ⟨rfl, rfl, rfl, by decide +kernel, rfl, by decide +kernel, by decide +kernel⟩
theorem sim_inner_blocks {P : Program} {w : World} {K : PySem.W.Frag} {mg : Str → Option Value} {base : Heap} (X : TX K mg) : FnG P w K mg base 1 X.f_inner_blocks X.d_inner_blocks ["statement"] (SpM (X.T w) 1 m_inner_blocks) := by
  refine fn_sim (k := 0) (N := ["statement"]) (T := X.T w) (b := b_inner_blocks) X.F_inner_blocks sc_inner_blocks rfl fun cdv A outer s H E hr hg => ?_
  have tk := L2N.takes_of (X := cxOf (L2N.CX P w) P w K mg base ["statement"] "inner_blocks" (defScope st_inner_blocks) X.f_inner_blocks cdv A outer s H E) (E := E) rfl rfl rfl rfl
  unfold b_inner_blocks
  exact (cs_cons (cs_if (ct_cmp (o_eq hr.units) (ce_ix (o_ix (hu_of hr)) (ce_var 0) ce_int) ce_str) (cs_one (cs_ret (ce_slice o_sl (ce_var 0) (co_some ce_int) co_none))) cs_nil)
  (cs_one (cs_ret (ce_if (ct_cmp (o_eq hr.units) (ce_ix (o_ix (hu_of hr)) (ce_var 0) ce_int) ce_str) (ce_slice o_sl (ce_var 0) (co_some ce_int) co_none) (ce_tup ca_nil)))))
theorem sc_listed : FnScope ["block", "depth", "found", "statement", "inner"] ["block", "depth"] (defScope st_listed) := ⟨rfl, rfl, rfl, by decide +kernel, rfl, by decide +kernel, by decide +kernel⟩
theorem sims0 {P : Program} {w : World} {K : PySem.W.Frag} {mg : Str → Option Value} {base : Heap} (X : TX K mg) : ∀ n : Nat, FnG P w K mg base (1 + 1 * n) X.f_listed X.d_listed ["block", "depth"] (SpM (X.T w) 2 (R0 n 0))
  | 0 => fnG_fail
  | n + 1 => by
    have ih_listed := sims0 (P := P) (w := w) (base := base) X n
    · refine fn_sim (k := 1 + 1 * n + 0) (N := ["block", "depth", "found", "statement", "inner"]) (T := X.T w) (b := b_listed (R0 n)) X.F_listed sc_listed rfl fun cdv A outer s H E hr hg => ?_
      have tk := L2N.takes_of (X := cxOf (L2N.CX P w) P w K mg base ["block", "depth", "found", "statement", "inner"] "listed" (defScope st_listed) X.f_listed cdv A outer s H E) (E := E) rfl rfl rfl rfl
      unfold b_listed
      exact (cs_cons (cs_set (i := 2) sc_listed.nd rfl (by first | exact Or.inl rfl | exact Or.inr rfl) (ce_lst ca_nil))
  (cs_cons (cs_forX (passes_of rfl) rfl (ci_tup (ce_var 0)) (cg_name (n := 3) sc_listed.nd rfl (by first | exact Or.inl rfl | exact Or.inr rfl))
  (cs_cons (cs_expr (ce_bm (t := .list) PySem.F.plainAttrs_list PySem.F.slot_list_append PySem.F.type_list_append m_append (ce_var 2) (ca_cons (ce_tup (ca_cons (ce_var 1) (ca_cons (ce_var 3) ca_nil))) ca_nil)))
  (cs_one (cs_forX (passes_of rfl) rfl (ci_tup (ce_call (sim_inner_blocks X) (hr.mono (by omega)) hg rfl X.g_inner_blocks X.F_inner_blocks.kp X.b_inner_blocks tk (ca_cons (ce_var 3) ca_nil))) (cg_name (n := 4) sc_listed.nd rfl (by first | exact Or.inl rfl | exact Or.inr rfl))
  (cs_one (cs_expr (ce_bm (t := .list) PySem.F.plainAttrs_list PySem.F.slot_list_extend PySem.F.type_list_extend m_extend (ce_var 2) (ca_cons (ce_call ih_listed (hr.mono (by omega)) hg rfl X.g_listed X.F_listed.kp X.b_listed tk (ca_cons (ce_var 4) (ca_cons (ce_op o_add (ce_var 1) ce_int) ca_nil))) ca_nil))))))))
  (cs_one (cs_ret (ce_var 2)))))
theorem sim_listed {P : Program} {w : World} {K : PySem.W.Frag} {mg : Str → Option Value} {base : Heap} (X : TX K mg) : FnG P w K mg base 13 X.f_listed X.d_listed ["block", "depth"] (SpM (X.T w) 2 m_listed) := (sims0 (P := P) (w := w) (base := base) X 12)
theorem sc_statements_of : FnScope ["program", "depth", "statement"] ["program"] (defScope st_statements_of) := ⟨rfl, rfl, rfl, by decide +kernel, rfl, by decide +kernel, by decide +kernel⟩
theorem sim_statements_of {P : Program} {w : World} {K : PySem.W.Frag} {mg : Str → Option Value} {base : Heap} (X : TX K mg) : FnG P w K mg base 14 X.f_statements_of X.d_statements_of ["program"] (SpM (X.T w) 1 m_statements_of) := by
  refine fn_sim (k := 13) (N := ["program", "depth", "statement"]) (T := X.T w) (b := b_statements_of) X.F_statements_of sc_statements_of rfl fun cdv A outer s H E hr hg => ?_
  have tk := L2N.takes_of (X := cxOf (L2N.CX P w) P w K mg base ["program", "depth", "statement"] "statements_of" (defScope st_statements_of) X.f_statements_of cdv A outer s H E) (E := E) rfl rfl rfl rfl
  unfold b_statements_of
  exact (cs_one (cs_ret (ce_lc (own := [("depth", 1), ("statement", 2)]) 100000 rfl sc_statements_of.nd (ci_lst (ce_call (sim_listed X) (hr.mono (by decide)) hg rfl X.g_listed X.F_listed.kp X.b_listed tk (ca_cons (ce_ix (o_ix (hu_of hr)) (ce_var 0) ce_int) (ca_cons ce_int ca_nil)))) (blkOk_by (by kernel_rfl)) (tg_tup (js := [1, 2]) (by decide) rfl) (fun _ _ _ _ _ => pg_tup rfl (pgs_cons (pg_name (i := 1) sc_statements_of.nd rfl (by first | exact Or.inl rfl | exact Or.inr rfl)) (pgs_cons (pg_name (i := 2) sc_statements_of.nd rfl (by first | exact Or.inl rfl | exact Or.inr rfl)) pgs_nil))) (fun _ _ _ _ _ => cts_nil) (fun _ _ _ _ _ => (ce_var 2)))))
theorem sc_places_with : FnScope ["program", "word", "at", "statement"] ["program", "word"] (defScope st_places_with) := ⟨rfl, rfl, rfl, by decide +kernel, rfl, by decide +kernel, by decide +kernel⟩
theorem sim_places_with {P : Program} {w : World} {K : PySem.W.Frag} {mg : Str → Option Value} {base : Heap} (X : TX K mg) : FnG P w K mg base 15 X.f_places_with X.d_places_with ["program", "word"] (SpM (X.T w) 2 m_places_with) := by
  refine fn_sim (k := 14) (N := ["program", "word", "at", "statement"]) (T := X.T w) (b := b_places_with) X.F_places_with sc_places_with rfl fun cdv A outer s H E hr hg => ?_
  have tk := L2N.takes_of (X := cxOf (L2N.CX P w) P w K mg base ["program", "word", "at", "statement"] "places_with" (defScope st_places_with) X.f_places_with cdv A outer s H E) (E := E) rfl rfl rfl rfl
  unfold b_places_with
  exact (cs_one (cs_ret (ce_callTy (c_tuple) rfl X.n_tuple (by decide +kernel) (ca_cons (ce_lc (own := [("at", 2), ("statement", 3)]) 100000 rfl sc_places_with.nd (ci_enm rfl X.n_enumerate (ca_cons (ce_call (sim_statements_of X) (hr.mono (by decide)) hg rfl X.g_statements_of X.F_statements_of.kp X.b_statements_of tk (ca_cons (ce_var 0) ca_nil)) ca_nil)) (blkOk_by (by kernel_rfl)) (tg_tup (js := [2, 3]) (by decide) rfl) (fun _ _ _ _ _ => pg_tup rfl (pgs_cons (pg_name (i := 2) sc_places_with.nd rfl (by first | exact Or.inl rfl | exact Or.inr rfl)) (pgs_cons (pg_name (i := 3) sc_places_with.nd rfl (by first | exact Or.inl rfl | exact Or.inr rfl)) pgs_nil))) (fun _ _ _ _ _ => (cts_one (ct_cmp (o_eq hr.units) (ce_ix (o_ix (hu_of hr)) (ce_var 3) ce_int) (ce_var 1)))) (fun _ _ _ _ _ => (ce_var 2))) ca_nil))))
theorem sc_make_places : FnScope ["program"] ["program"] (defScope st_make_places) := ⟨rfl, rfl, rfl, by decide +kernel, rfl, by decide +kernel, by decide +kernel⟩
theorem sim_make_places {P : Program} {w : World} {K : PySem.W.Frag} {mg : Str → Option Value} {base : Heap} (X : TX K mg) : FnG P w K mg base 16 X.f_make_places X.d_make_places ["program"] (SpM (X.T w) 1 m_make_places) := by
  refine fn_sim (k := 15) (N := ["program"]) (T := X.T w) (b := b_make_places) X.F_make_places sc_make_places rfl fun cdv A outer s H E hr hg => ?_
  have tk := L2N.takes_of (X := cxOf (L2N.CX P w) P w K mg base ["program"] "make_places" (defScope st_make_places) X.f_make_places cdv A outer s H E) (E := E) rfl rfl rfl rfl
  unfold b_make_places
  exact (cs_one (cs_ret (ce_call (sim_places_with X) (hr.mono (by decide)) hg rfl X.g_places_with X.F_places_with.kp X.b_places_with tk (ca_cons (ce_var 0) (ca_cons ce_str ca_nil)))))
theorem sc_weak_places : FnScope ["program"] ["program"] (defScope st_weak_places) := ⟨rfl, rfl, rfl, by decide +kernel, rfl, by decide +kernel, by decide +kernel⟩
theorem sim_weak_places {P : Program} {w : World} {K : PySem.W.Frag} {mg : Str → Option Value} {base : Heap} (X : TX K mg) : FnG P w K mg base 16 X.f_weak_places X.d_weak_places ["program"] (SpM (X.T w) 1 m_weak_places) := by
  refine fn_sim (k := 15) (N := ["program"]) (T := X.T w) (b := b_weak_places) X.F_weak_places sc_weak_places rfl fun cdv A outer s H E hr hg => ?_
  have tk := L2N.takes_of (X := cxOf (L2N.CX P w) P w K mg base ["program"] "weak_places" (defScope st_weak_places) X.f_weak_places cdv A outer s H E) (E := E) rfl rfl rfl rfl
  unfold b_weak_places
  exact (cs_one (cs_ret (ce_call (sim_places_with X) (hr.mono (by decide)) hg rfl X.g_places_with X.F_places_with.kp X.b_places_with tk (ca_cons (ce_var 0) (ca_cons ce_str ca_nil)))))
theorem sc_Fix_places_of : FnScope ["self", "program"] ["self", "program"] (defScope st_Fix_places_of) := ⟨rfl, rfl, rfl, by decide +kernel, rfl, by decide +kernel, by decide +kernel⟩
theorem sim_Fix_places_of {P : Program} {w : World} {K : PySem.W.Frag} {mg : Str → Option Value} {base : Heap} (X : TX K mg) : FnG P w K mg base 1 X.f_Fix_places_of X.d_Fix_places_of ["self", "program"] (SpM (X.T w) 2 m_Fix_places_of) := by
  refine fn_sim (k := 0) (N := ["self", "program"]) (T := X.T w) (b := b_Fix_places_of) X.F_Fix_places_of sc_Fix_places_of rfl fun cdv A outer s H E hr hg => ?_
  have tk := L2N.takes_of (X := cxOf (L2N.CX P w) P w K mg base ["self", "program"] "Fix.places_of" (defScope st_Fix_places_of) X.f_Fix_places_of cdv A outer s H E) (E := E) rfl rfl rfl rfl
  unfold b_Fix_places_of
  exact (cs_one (cs_ret (ce_tup ca_nil)))
theorem sc_Fix_changed : FnScope ["self", "statement"] ["self", "statement"] (defScope st_Fix_changed) := ⟨rfl, rfl, rfl, by decide +kernel, rfl, by decide +kernel, by decide +kernel⟩
theorem sim_Fix_changed {P : Program} {w : World} {K : PySem.W.Frag} {mg : Str → Option Value} {base : Heap} (X : TX K mg) : FnG P w K mg base 1 X.f_Fix_changed X.d_Fix_changed ["self", "statement"] (SpM (X.T w) 2 m_Fix_changed) := by
  refine fn_sim (k := 0) (N := ["self", "statement"]) (T := X.T w) (b := b_Fix_changed) X.F_Fix_changed sc_Fix_changed rfl fun cdv A outer s H E hr hg => ?_
  have tk := L2N.takes_of (X := cxOf (L2N.CX P w) P w K mg base ["self", "statement"] "Fix.changed" (defScope st_Fix_changed) X.f_Fix_changed cdv A outer s H E) (E := E) rfl rfl rfl rfl
  unfold b_Fix_changed
  exact (cs_one (cs_ret (ce_tup (ca_cons (ce_var 1) ca_nil))))
theorem sc_Keeps_changed : FnScope ["self", "statement"] ["self", "statement"] (defScope st_Keeps_changed) := ⟨rfl, rfl, rfl, by decide +kernel, rfl, by decide +kernel, by decide +kernel⟩
theorem sim_Keeps_changed {P : Program} {w : World} {K : PySem.W.Frag} {mg : Str → Option Value} {base : Heap} (X : TX K mg) : FnG P w K mg base 1 X.f_Keeps_changed X.d_Keeps_changed ["self", "statement"] (SpM (X.T w) 2 m_Keeps_changed) := by
  refine fn_sim (k := 0) (N := ["self", "statement"]) (T := X.T w) (b := b_Keeps_changed) X.F_Keeps_changed sc_Keeps_changed rfl fun cdv A outer s H E hr hg => ?_
  have tk := L2N.takes_of (X := cxOf (L2N.CX P w) P w K mg base ["self", "statement"] "Keeps.changed" (defScope st_Keeps_changed) X.f_Keeps_changed cdv A outer s H E) (E := E) rfl rfl rfl rfl
  unfold b_Keeps_changed
  exact (cs_one (cs_ret (ce_if (ct_cmp (o_eq hr.units) (ce_ix (o_ix (hu_of hr)) (ce_var 1) ce_int) ce_str) (ce_tup (ca_cons (ce_var 1) (ca_cons (ce_tup (ca_cons ce_str (ca_cons (ce_ix (o_ix (hu_of hr)) (ce_var 1) ce_int) ca_nil))) ca_nil))) (ce_tup (ca_cons (ce_var 1) ca_nil)))))
theorem sc_Strongs_changed : FnScope ["self", "statement"] ["self", "statement"] (defScope st_Strongs_changed) := ⟨rfl, rfl, rfl, by decide +kernel, rfl, by decide +kernel, by decide +kernel⟩
theorem sim_Strongs_changed {P : Program} {w : World} {K : PySem.W.Frag} {mg : Str → Option Value} {base : Heap} (X : TX K mg) : FnG P w K mg base 1 X.f_Strongs_changed X.d_Strongs_changed ["self", "statement"] (SpM (X.T w) 2 m_Strongs_changed) := by
  refine fn_sim (k := 0) (N := ["self", "statement"]) (T := X.T w) (b := b_Strongs_changed) X.F_Strongs_changed sc_Strongs_changed rfl fun cdv A outer s H E hr hg => ?_
  have tk := L2N.takes_of (X := cxOf (L2N.CX P w) P w K mg base ["self", "statement"] "Strongs.changed" (defScope st_Strongs_changed) X.f_Strongs_changed cdv A outer s H E) (E := E) rfl rfl rfl rfl
  unfold b_Strongs_changed
  exact (cs_one (cs_ret (ce_if (ct_cmp (o_eq hr.units) (ce_ix (o_ix (hu_of hr)) (ce_var 1) ce_int) ce_str) (ce_tup (ca_cons (ce_op o_add (ce_tup (ca_cons ce_str ca_nil)) (ce_slice o_sl (ce_var 1) (co_some ce_int) co_none)) ca_nil)) (ce_tup (ca_cons (ce_var 1) ca_nil)))))
theorem mo_changed {P : Program} {w : World} {K : PySem.W.Frag} {mg : Str → Option Value} {base : Heap} (X : TX K mg) : ∀ c mf, tab_changed c = some mf → ∀ C, (X.T w).cl[c]? = some C → ∃ (f : Addr) (fd : FuncData) (ps : List Str), Cls (X.T w).K C ∧ Meth (X.T w).K C "changed" f ∧ FnG P w K mg base 1 f fd ps (SpM (X.T w) (1 + 1) mf) ∧ Binds K fd ps [] := by
  intro c mf h C hC
  unfold tab_changed at h
  split at h
  · cases h
    cases hC
    exact ⟨_, _, _, X.cl_Fix, X.mt_Fix_changed, (sim_Fix_changed X).mono (by decide), X.b_Fix_changed⟩
  · cases h
    cases hC
    exact ⟨_, _, _, X.cl_Keeps, X.mt_Keeps_changed, (sim_Keeps_changed X).mono (by decide), X.b_Keeps_changed⟩
  · cases h
    cases hC
    exact ⟨_, _, _, X.cl_Strongs, X.mt_Strongs_changed, (sim_Strongs_changed X).mono (by decide), X.b_Strongs_changed⟩
  · cases h
theorem sc_Fix_rebuilt : FnScope ["self", "block", "place", "places", "found", "statement", "at", "parts", "part"] ["self", "block", "place", "places"] (defScope st_Fix_rebuilt) := ⟨rfl, rfl, rfl, by decide +kernel, rfl, by decide +kernel, by decide +kernel⟩
theorem moR1_rebuilt {P : Program} {w : World} {K : PySem.W.Frag} {mg : Str → Option Value} {base : Heap} (X : TX K mg) {R : Nat → List Vl → M Vl} {j : Nat} (hj : 0 ≤ j) (ih_Fix_rebuilt : FnG P w K mg base j X.f_Fix_rebuilt X.d_Fix_rebuilt ["self", "block", "place", "places"] (SpM (X.T w) 4 (R 0))) : ∀ c mf, tabR1_rebuilt R c = some mf → ∀ C, (X.T w).cl[c]? = some C → ∃ (f : Addr) (fd : FuncData) (ps : List Str), Cls (X.T w).K C ∧ Meth (X.T w).K C "rebuilt" f ∧ FnG P w K mg base j f fd ps (SpM (X.T w) (3 + 1) mf) ∧ Binds K fd ps [] := by
  intro c mf h C hC
  unfold tabR1_rebuilt at h
  split at h
  · cases h
    cases hC
    exact ⟨_, _, _, X.cl_Fix, X.mt_Fix_rebuilt, ih_Fix_rebuilt, X.b_Fix_rebuilt⟩
  · cases h
    cases hC
    exact ⟨_, _, _, X.cl_Keeps, X.mt_Keeps_rebuilt, ih_Fix_rebuilt, X.b_Fix_rebuilt⟩
  · cases h
    cases hC
    exact ⟨_, _, _, X.cl_Strongs, X.mt_Strongs_rebuilt, ih_Fix_rebuilt, X.b_Fix_rebuilt⟩
  · cases h
theorem sims1 {P : Program} {w : World} {K : PySem.W.Frag} {mg : Str → Option Value} {base : Heap} (X : TX K mg) : ∀ n : Nat, FnG P w K mg base (13 + 1 * n) X.f_Fix_rebuilt X.d_Fix_rebuilt ["self", "block", "place", "places"] (SpM (X.T w) 4 (R1 n 0))
  | 0 => fnG_fail
  | n + 1 => by
    have ih_Fix_rebuilt := sims1 (P := P) (w := w) (base := base) X n
    · refine fn_sim (k := 13 + 1 * n + 0) (N := ["self", "block", "place", "places", "found", "statement", "at", "parts", "part"]) (T := X.T w) (b := b_Fix_rebuilt (R1 n)) X.F_Fix_rebuilt sc_Fix_rebuilt rfl fun cdv A outer s H E hr hg => ?_
      have tk := L2N.takes_of (X := cxOf (L2N.CX P w) P w K mg base ["self", "block", "place", "places", "found", "statement", "at", "parts", "part"] "Fix.rebuilt" (defScope st_Fix_rebuilt) X.f_Fix_rebuilt cdv A outer s H E) (E := E) rfl rfl rfl rfl
      unfold b_Fix_rebuilt
      exact (cs_cons (cs_set (i := 4) sc_Fix_rebuilt.nd rfl (by first | exact Or.inl rfl | exact Or.inr rfl) (ce_lst ca_nil))
  (cs_cons (cs_forX (passes_of rfl) rfl (ci_tup (ce_var 1)) (cg_name (n := 5) sc_Fix_rebuilt.nd rfl (by first | exact Or.inl rfl | exact Or.inr rfl))
  (cs_cons (cs_set (i := 6) sc_Fix_rebuilt.nd rfl (by first | exact Or.inl rfl | exact Or.inr rfl) (ce_var 2))
  (cs_cons (cs_aug (i := 2) sc_Fix_rebuilt.nd rfl (by first | exact Or.inl rfl | exact Or.inr rfl) io_add ce_int)
  (cs_cons (cs_set (i := 7) sc_Fix_rebuilt.nd rfl (by first | exact Or.inl rfl | exact Or.inr rfl) (ce_lst ca_nil))
  (cs_cons (cs_forX (passes_of rfl) rfl (ci_tup (ce_call (sim_inner_blocks X) (hr.mono (by omega)) hg rfl X.g_inner_blocks X.F_inner_blocks.kp X.b_inner_blocks tk (ca_cons (ce_var 5) ca_nil))) (cg_name (n := 8) sc_Fix_rebuilt.nd rfl (by first | exact Or.inl rfl | exact Or.inr rfl))
  (cs_cons (cs_expr (ce_bm (t := .list) PySem.F.plainAttrs_list PySem.F.slot_list_append PySem.F.type_list_append m_append (ce_var 7) (ca_cons (ce_meth (moR1_rebuilt X (by omega) ih_Fix_rebuilt) (hr.mono (by omega)) hg tk (ce_var 0) (ca_cons (ce_var 8) (ca_cons (ce_var 2) (ca_cons (ce_var 3) ca_nil)))) ca_nil)))
  (cs_one (cs_aug (i := 2) sc_Fix_rebuilt.nd rfl (by first | exact Or.inl rfl | exact Or.inr rfl) io_add (ce_callB (c_len) rfl X.n_len (by decide +kernel) (ca_cons (ce_call (sim_listed X) (hr.mono (by omega)) hg rfl X.g_listed X.F_listed.kp X.b_listed tk (ca_cons (ce_var 8) (ca_cons ce_int ca_nil))) ca_nil))))))
  (cs_cons (cs_if (ct_cmp (o_ne hr.units) (ce_var 7) (ce_lst ca_nil)) (cs_one (cs_set (i := 5) sc_Fix_rebuilt.nd rfl (by first | exact Or.inl rfl | exact Or.inr rfl) (ce_op o_add (ce_slice o_sl (ce_var 5) co_none (co_some ce_int)) (ce_callTy (c_tuple) rfl X.n_tuple (by decide +kernel) (ca_cons (ce_var 7) ca_nil))))) cs_nil)
  (cs_one (cs_expr (ce_bm (t := .list) PySem.F.plainAttrs_list PySem.F.slot_list_extend PySem.F.type_list_extend m_extend (ce_var 4) (ca_cons (ce_if (ct_cmp (o_in (hu_of hr)) (ce_var 6) (ce_var 3)) (ce_meth (mo_changed X) (hr.mono (by omega)) hg tk (ce_var 0) (ca_cons (ce_var 5) ca_nil)) (ce_tup (ca_cons (ce_var 5) ca_nil))) ca_nil))))))))))
  (cs_one (cs_ret (ce_callTy (c_tuple) rfl X.n_tuple (by decide +kernel) (ca_cons (ce_var 4) ca_nil))))))
theorem sim_Fix_rebuilt {P : Program} {w : World} {K : PySem.W.Frag} {mg : Str → Option Value} {base : Heap} (X : TX K mg) : FnG P w K mg base 25 X.f_Fix_rebuilt X.d_Fix_rebuilt ["self", "block", "place", "places"] (SpM (X.T w) 4 m_Fix_rebuilt) := (sims1 (P := P) (w := w) (base := base) X 12)
theorem mo_rebuilt {P : Program} {w : World} {K : PySem.W.Frag} {mg : Str → Option Value} {base : Heap} (X : TX K mg) : ∀ c mf, tab_rebuilt c = some mf → ∀ C, (X.T w).cl[c]? = some C → ∃ (f : Addr) (fd : FuncData) (ps : List Str), Cls (X.T w).K C ∧ Meth (X.T w).K C "rebuilt" f ∧ FnG P w K mg base 25 f fd ps (SpM (X.T w) (3 + 1) mf) ∧ Binds K fd ps [] := by
  intro c mf h C hC
  unfold tab_rebuilt at h
  split at h
  · cases h
    cases hC
    exact ⟨_, _, _, X.cl_Fix, X.mt_Fix_rebuilt, (sim_Fix_rebuilt X).mono (by decide), X.b_Fix_rebuilt⟩
  · cases h
    cases hC
    exact ⟨_, _, _, X.cl_Keeps, X.mt_Keeps_rebuilt, (sim_Fix_rebuilt X).mono (by decide), X.b_Fix_rebuilt⟩
  · cases h
    cases hC
    exact ⟨_, _, _, X.cl_Strongs, X.mt_Strongs_rebuilt, (sim_Fix_rebuilt X).mono (by decide), X.b_Fix_rebuilt⟩
  · cases h
theorem sc_Keeps_places_of : FnScope ["self", "program"] ["self", "program"] (defScope st_Keeps_places_of) := ⟨rfl, rfl, rfl, by decide +kernel, rfl, by decide +kernel, by decide +kernel⟩
theorem sim_Keeps_places_of {P : Program} {w : World} {K : PySem.W.Frag} {mg : Str → Option Value} {base : Heap} (X : TX K mg) : FnG P w K mg base 17 X.f_Keeps_places_of X.d_Keeps_places_of ["self", "program"] (SpM (X.T w) 2 m_Keeps_places_of) := by
  refine fn_sim (k := 16) (N := ["self", "program"]) (T := X.T w) (b := b_Keeps_places_of) X.F_Keeps_places_of sc_Keeps_places_of rfl fun cdv A outer s H E hr hg => ?_
  have tk := L2N.takes_of (X := cxOf (L2N.CX P w) P w K mg base ["self", "program"] "Keeps.places_of" (defScope st_Keeps_places_of) X.f_Keeps_places_of cdv A outer s H E) (E := E) rfl rfl rfl rfl
  unfold b_Keeps_places_of
  exact (cs_one (cs_ret (ce_call (sim_make_places X) (hr.mono (by decide)) hg rfl X.g_make_places X.F_make_places.kp X.b_make_places tk (ca_cons (ce_var 1) ca_nil))))
theorem sc_Strongs_places_of : FnScope ["self", "program"] ["self", "program"] (defScope st_Strongs_places_of) := ⟨rfl, rfl, rfl, by decide +kernel, rfl, by decide +kernel, by decide +kernel⟩
theorem sim_Strongs_places_of {P : Program} {w : World} {K : PySem.W.Frag} {mg : Str → Option Value} {base : Heap} (X : TX K mg) : FnG P w K mg base 17 X.f_Strongs_places_of X.d_Strongs_places_of ["self", "program"] (SpM (X.T w) 2 m_Strongs_places_of) := by
  refine fn_sim (k := 16) (N := ["self", "program"]) (T := X.T w) (b := b_Strongs_places_of) X.F_Strongs_places_of sc_Strongs_places_of rfl fun cdv A outer s H E hr hg => ?_
  have tk := L2N.takes_of (X := cxOf (L2N.CX P w) P w K mg base ["self", "program"] "Strongs.places_of" (defScope st_Strongs_places_of) X.f_Strongs_places_of cdv A outer s H E) (E := E) rfl rfl rfl rfl
  unfold b_Strongs_places_of
  exact (cs_one (cs_ret (ce_call (sim_weak_places X) (hr.mono (by decide)) hg rfl X.g_weak_places X.F_weak_places.kp X.b_weak_places tk (ca_cons (ce_var 1) ca_nil))))
theorem mo_places_of {P : Program} {w : World} {K : PySem.W.Frag} {mg : Str → Option Value} {base : Heap} (X : TX K mg) : ∀ c mf, tab_places_of c = some mf → ∀ C, (X.T w).cl[c]? = some C → ∃ (f : Addr) (fd : FuncData) (ps : List Str), Cls (X.T w).K C ∧ Meth (X.T w).K C "places_of" f ∧ FnG P w K mg base 17 f fd ps (SpM (X.T w) (1 + 1) mf) ∧ Binds K fd ps [] := by
  intro c mf h C hC
  unfold tab_places_of at h
  split at h
  · cases h
    cases hC
    exact ⟨_, _, _, X.cl_Fix, X.mt_Fix_places_of, (sim_Fix_places_of X).mono (by decide), X.b_Fix_places_of⟩
  · cases h
    cases hC
    exact ⟨_, _, _, X.cl_Keeps, X.mt_Keeps_places_of, (sim_Keeps_places_of X).mono (by decide), X.b_Keeps_places_of⟩
  · cases h
    cases hC
    exact ⟨_, _, _, X.cl_Strongs, X.mt_Strongs_places_of, (sim_Strongs_places_of X).mono (by decide), X.b_Strongs_places_of⟩
  · cases h
theorem sc_Fix_applied : FnScope ["self", "program", "places", "known", "place"] ["self", "program", "places"] (defScope st_Fix_applied) := ⟨rfl, rfl, rfl, by decide +kernel, rfl, by decide +kernel, by decide +kernel⟩
theorem sim_Fix_applied {P : Program} {w : World} {K : PySem.W.Frag} {mg : Str → Option Value} {base : Heap} (X : TX K mg) : FnG P w K mg base 26 X.f_Fix_applied X.d_Fix_applied ["self", "program", "places"] (SpM (X.T w) 3 m_Fix_applied) := by
  refine fn_sim (k := 25) (N := ["self", "program", "places", "known", "place"]) (T := X.T w) (b := b_Fix_applied) X.F_Fix_applied sc_Fix_applied rfl fun cdv A outer s H E hr hg => ?_
  have tk := L2N.takes_of (X := cxOf (L2N.CX P w) P w K mg base ["self", "program", "places", "known", "place"] "Fix.applied" (defScope st_Fix_applied) X.f_Fix_applied cdv A outer s H E) (E := E) rfl rfl rfl rfl
  unfold b_Fix_applied
  exact (cs_cons (cs_set (i := 3) sc_Fix_applied.nd rfl (by first | exact Or.inl rfl | exact Or.inr rfl) (ce_meth (mo_places_of X) (hr.mono (by decide)) hg tk (ce_var 0) (ca_cons (ce_var 1) ca_nil)))
  (cs_cons (cs_forX (passes_of rfl) rfl (ci_tup (ce_var 2)) (cg_name (n := 4) sc_Fix_applied.nd rfl (by first | exact Or.inl rfl | exact Or.inr rfl))
  (cs_one (cs_if (ct_cmp (o_notIn (hu_of hr)) (ce_var 4) (ce_var 3)) (cs_one (cs_raise rfl X.ox_NoPlace rfl hr tk rfl (ce_var 4))) cs_nil)))
  (cs_one (cs_ret (ce_tup (ca_cons (ce_ix (o_ix (hu_of hr)) (ce_var 1) ce_int) (ca_cons (ce_meth (mo_rebuilt X) (hr.mono (by decide)) hg tk (ce_var 0) (ca_cons (ce_ix (o_ix (hu_of hr)) (ce_var 1) ce_int) (ca_cons ce_int (ca_cons (ce_var 2) ca_nil)))) ca_nil)))))))
theorem mo_applied {P : Program} {w : World} {K : PySem.W.Frag} {mg : Str → Option Value} {base : Heap} (X : TX K mg) : ∀ c mf, tab_applied c = some mf → ∀ C, (X.T w).cl[c]? = some C → ∃ (f : Addr) (fd : FuncData) (ps : List Str), Cls (X.T w).K C ∧ Meth (X.T w).K C "applied" f ∧ FnG P w K mg base 26 f fd ps (SpM (X.T w) (2 + 1) mf) ∧ Binds K fd ps [] := by
  intro c mf h C hC
  unfold tab_applied at h
  split at h
  · cases h
    cases hC
    exact ⟨_, _, _, X.cl_Fix, X.mt_Fix_applied, (sim_Fix_applied X).mono (by decide), X.b_Fix_applied⟩
  · cases h
    cases hC
    exact ⟨_, _, _, X.cl_Keeps, X.mt_Keeps_applied, (sim_Fix_applied X).mono (by decide), X.b_Fix_applied⟩
  · cases h
    cases hC
    exact ⟨_, _, _, X.cl_Strongs, X.mt_Strongs_applied, (sim_Fix_applied X).mono (by decide), X.b_Fix_applied⟩
  · cases h
theorem sc__law_deck : FnScope ["_law_script", "_law_cell"] ["_law_script"] (defScope st__law_deck) := ⟨rfl, rfl, rfl, by decide +kernel, rfl, by decide +kernel, by decide +kernel⟩
theorem sim__law_deck {P : Program} {w : World} {K : PySem.W.Frag} {mg : Str → Option Value} {base : Heap} (X : TX K mg) : FnG P w K mg base 1 X.f__law_deck X.d__law_deck ["_law_script"] (SpM (X.T w) 1 m__law_deck) := by
  refine fn_sim (k := 0) (N := ["_law_script", "_law_cell"]) (T := X.T w) (b := b__law_deck) X.F__law_deck sc__law_deck rfl fun cdv A outer s H E hr hg => ?_
  have tk := L2N.takes_of (X := cxOf (L2N.CX P w) P w K mg base ["_law_script", "_law_cell"] "_law_deck" (defScope st__law_deck) X.f__law_deck cdv A outer s H E) (E := E) rfl rfl rfl rfl
  unfold b__law_deck
  exact (cs_one (cs_ret (ce_lst (ca_cons (ce_lc (own := [("_law_cell", 1)]) 100000 rfl sc__law_deck.nd (ci_lst (ce_slice o_sl (ce_var 0) co_none (co_some ce_int))) (blkOk_by (by kernel_rfl)) (tg_name (List.mem_cons_self ..)) (fun _ _ _ _ _ => pg_name (i := 1) sc__law_deck.nd rfl (by first | exact Or.inl rfl | exact Or.inr rfl)) (fun _ _ _ _ _ => cts_nil) (fun _ _ _ _ _ => (ce_callB (c_abs) rfl X.n_abs (by decide +kernel) (ca_cons (ce_var 1) ca_nil)))) (ca_cons ce_int ca_nil)))))
theorem sc__law_draw : FnScope ["_law_deck_here", "_law_many", "_law_mixed", "_law_cell", "_law_at"] ["_law_deck_here", "_law_many"] (defScope st__law_draw) := ⟨rfl, rfl, rfl, by decide +kernel, rfl, by decide +kernel, by decide +kernel⟩
theorem sim__law_draw {P : Program} {w : World} {K : PySem.W.Frag} {mg : Str → Option Value} {base : Heap} (X : TX K mg) : FnG P w K mg base 1 X.f__law_draw X.d__law_draw ["_law_deck_here", "_law_many"] (SpM (X.T w) 2 m__law_draw) := by
  refine fn_sim (k := 0) (N := ["_law_deck_here", "_law_many", "_law_mixed", "_law_cell", "_law_at"]) (T := X.T w) (b := b__law_draw) X.F__law_draw sc__law_draw rfl fun cdv A outer s H E hr hg => ?_
  have tk := L2N.takes_of (X := cxOf (L2N.CX P w) P w K mg base ["_law_deck_here", "_law_many", "_law_mixed", "_law_cell", "_law_at"] "_law_draw" (defScope st__law_draw) X.f__law_draw cdv A outer s H E) (E := E) rfl rfl rfl rfl
  unfold b__law_draw
  exact (cs_cons (cs_asg (ce_op o_add (ce_ix (o_ix (hu_of hr)) (ce_var 0) ce_int) ce_int) (cg_sub (ce_var 0) ce_int (p_set (hu_of hr)) (pg_sub (ce_var 0) ce_int (p_set (hu_of hr)))))
  (cs_cons (cs_asg (ce_tup (ca_cons ce_int (ca_cons (ce_un o_neg ce_int) ca_nil))) (cg_tup (js := [3, 4]) (pg_tup rfl (pgs_cons (pg_name (i := 3) sc__law_draw.nd rfl (by first | exact Or.inl rfl | exact Or.inr rfl)) (pgs_cons (pg_name (i := 4) sc__law_draw.nd rfl (by first | exact Or.inl rfl | exact Or.inr rfl)) pgs_nil)))))
  (cs_cons (cs_if (ct_cmp o_gt (ce_callB (c_len) rfl X.n_len (by decide +kernel) (ca_cons (ce_ix (o_ix (hu_of hr)) (ce_var 0) ce_int) ca_nil)) ce_int) (cs_cons (cs_set (i := 4) sc__law_draw.nd rfl (by first | exact Or.inl rfl | exact Or.inr rfl) (ce_op o_mod (ce_callTy (c_int) rfl X.n_int (by decide +kernel) (ca_cons (ce_ix (o_ix (hu_of hr)) (ce_var 0) ce_int) ca_nil)) (ce_callB (c_len) rfl X.n_len (by decide +kernel) (ca_cons (ce_ix (o_ix (hu_of hr)) (ce_var 0) ce_int) ca_nil))))
  (cs_one (cs_set (i := 3) sc__law_draw.nd rfl (by first | exact Or.inl rfl | exact Or.inr rfl) (ce_ix (o_ix (hu_of hr)) (ce_ix (o_ix (hu_of hr)) (ce_var 0) ce_int) (ce_var 4))))) cs_nil)
  (cs_cons (cs_if (ct_cmp o_ge (ce_var 3) (ce_op o_pow ce_int ce_int)) (cs_cons (cs_asg (ce_op o_fdiv (ce_callTy (c_int) rfl X.n_int (by decide +kernel) (ca_cons (ce_var 3) ca_nil)) (ce_var 1)) (cg_sub (ce_ix (o_ix (hu_of hr)) (ce_var 0) ce_int) (ce_var 4) (p_set (hu_of hr)) (pg_sub (ce_ix (o_ix (hu_of hr)) (ce_var 0) ce_int) (ce_var 4) (p_set (hu_of hr)))))
  (cs_one (cs_ret (ce_op o_mod (ce_callTy (c_int) rfl X.n_int (by decide +kernel) (ca_cons (ce_var 3) ca_nil)) (ce_var 1))))) cs_nil)
  (cs_cons (cs_set (i := 2) sc__law_draw.nd rfl (by first | exact Or.inl rfl | exact Or.inr rfl) (ce_op o_add (ce_op o_add (ce_op o_mod (ce_callTy (c_int) rfl X.n_int (by decide +kernel) (ca_cons (ce_var 3) ca_nil)) ce_int) (ce_op o_mul ce_int (ce_ix (o_ix (hu_of hr)) (ce_var 0) ce_int))) ce_int))
  (cs_one (cs_ret (ce_op o_mod (ce_callTy (c_int) rfl X.n_int (by decide +kernel) (ca_cons (ce_op o_mod (ce_callTy (c_int) rfl X.n_int (by decide +kernel) (ca_cons (ce_op o_pow (ce_var 2) ce_int) ca_nil)) ce_int) ca_nil)) (ce_var 1)))))))))
theorem sc__law_one : FnScope ["_law_deck_here", "_law_items"] ["_law_deck_here", "_law_items"] (defScope st__law_one) := ⟨rfl, rfl, rfl, by decide +kernel, rfl, by decide +kernel, by decide +kernel⟩
theorem sim__law_one {P : Program} {w : World} {K : PySem.W.Frag} {mg : Str → Option Value} {base : Heap} (X : TX K mg) : FnG P w K mg base 2 X.f__law_one X.d__law_one ["_law_deck_here", "_law_items"] (SpM (X.T w) 2 m__law_one) := by
  refine fn_sim (k := 1) (N := ["_law_deck_here", "_law_items"]) (T := X.T w) (b := b__law_one) X.F__law_one sc__law_one rfl fun cdv A outer s H E hr hg => ?_
  have tk := L2N.takes_of (X := cxOf (L2N.CX P w) P w K mg base ["_law_deck_here", "_law_items"] "_law_one" (defScope st__law_one) X.f__law_one cdv A outer s H E) (E := E) rfl rfl rfl rfl
  unfold b__law_one
  exact (cs_one (cs_ret (ce_ix (o_ix (hu_of hr)) (ce_var 1) (ce_call (sim__law_draw X) (hr.mono (by decide)) hg rfl X.g__law_draw X.F__law_draw.kp X.b__law_draw tk (ca_cons (ce_var 0) (ca_cons (ce_callB (c_len) rfl X.n_len (by decide +kernel) (ca_cons (ce_var 1) ca_nil)) ca_nil))))))
theorem sc__law_names : FnScope ["_law_deck_here", "_law_count_here", "_law_letters", "_law_left", "_law_right", "_law_k"] ["_law_deck_here", "_law_count_here"] (defScope st__law_names) := ⟨rfl, rfl, rfl, by decide +kernel, rfl, by decide +kernel, by decide +kernel⟩
theorem sim__law_names {P : Program} {w : World} {K : PySem.W.Frag} {mg : Str → Option Value} {base : Heap} (X : TX K mg) : FnG P w K mg base 3 X.f__law_names X.d__law_names ["_law_deck_here", "_law_count_here"] (SpM (X.T w) 2 m__law_names) := by
  refine fn_sim (k := 2) (N := ["_law_deck_here", "_law_count_here", "_law_letters", "_law_left", "_law_right", "_law_k"]) (T := X.T w) (b := b__law_names) X.F__law_names sc__law_names rfl fun cdv A outer s H E hr hg => ?_
  have tk := L2N.takes_of (X := cxOf (L2N.CX P w) P w K mg base ["_law_deck_here", "_law_count_here", "_law_letters", "_law_left", "_law_right", "_law_k"] "_law_names" (defScope st__law_names) X.f__law_names cdv A outer s H E) (E := E) rfl rfl rfl rfl
  unfold b__law_names
  exact (cs_cons (cs_set (i := 2) sc__law_names.nd rfl (by first | exact Or.inl rfl | exact Or.inr rfl) ce_str)
  (cs_cons (cs_set (i := 3) sc__law_names.nd rfl (by first | exact Or.inl rfl | exact Or.inr rfl) (ce_bm (t := .str) PySem.F.plainAttrs_str PySem.F.slot_str_join PySem.F.type_str_join m_join ce_str (ca_cons (ce_lcX (own := [("_law_k", 5)]) rfl sc__law_names.nd (ci_rng1 rfl X.n_range (ca_cons (ce_op o_add ce_int (ce_call (sim__law_draw X) (hr.mono (by decide)) hg rfl X.g__law_draw X.F__law_draw.kp X.b__law_draw tk (ca_cons (ce_var 0) (ca_cons ce_int ca_nil)))) ca_nil)) (blkOk_by (by kernel_rfl)) (tg_name (List.mem_cons_self ..)) (fun _ _ _ _ _ => pg_name (i := 5) sc__law_names.nd rfl (by first | exact Or.inl rfl | exact Or.inr rfl)) (fun _ _ _ _ _ => cts_nil) (fun _ _ _ _ _ => (ce_call (sim__law_one X) (hr.mono (by decide)) hg rfl X.g__law_one X.F__law_one.kp X.b__law_one takesN (ca_cons (ce_var 0) (ca_cons (ce_var 2) ca_nil))))) ca_nil)))
  (cs_cons (cs_set (i := 4) sc__law_names.nd rfl (by first | exact Or.inl rfl | exact Or.inr rfl) (ce_bm (t := .str) PySem.F.plainAttrs_str PySem.F.slot_str_join PySem.F.type_str_join m_join ce_str (ca_cons (ce_lcX (own := [("_law_k", 5)]) rfl sc__law_names.nd (ci_rng1 rfl X.n_range (ca_cons (ce_call (sim__law_draw X) (hr.mono (by decide)) hg rfl X.g__law_draw X.F__law_draw.kp X.b__law_draw tk (ca_cons (ce_var 0) (ca_cons ce_int ca_nil))) ca_nil)) (blkOk_by (by kernel_rfl)) (tg_name (List.mem_cons_self ..)) (fun _ _ _ _ _ => pg_name (i := 5) sc__law_names.nd rfl (by first | exact Or.inl rfl | exact Or.inr rfl)) (fun _ _ _ _ _ => cts_nil) (fun _ _ _ _ _ => (ce_call (sim__law_one X) (hr.mono (by decide)) hg rfl X.g__law_one X.F__law_one.kp X.b__law_one takesN (ca_cons (ce_var 0) (ca_cons (ce_var 2) ca_nil))))) ca_nil)))
  (cs_one (cs_ret (ce_lcX (own := [("_law_k", 5)]) rfl sc__law_names.nd (ci_rng1 rfl X.n_range (ca_cons (ce_var 1) ca_nil)) (blkOk_by (by kernel_rfl)) (tg_name (List.mem_cons_self ..)) (fun _ _ _ _ _ => pg_name (i := 5) sc__law_names.nd rfl (by first | exact Or.inl rfl | exact Or.inr rfl)) (fun _ _ _ _ _ => cts_nil) (fun _ _ _ _ _ => (ce_op o_add (ce_op o_add (ce_var 3) (ce_callTy (c_str) rfl X.n_str (by decide +kernel) (ca_cons (ce_var 5) ca_nil))) (ce_var 4)))))))))
theorem sc__law_words : FnScope ["_law_deck_here", "_law_count_here", "_law_signs", "_law_left", "_law_right", "_law_k"] ["_law_deck_here", "_law_count_here"] (defScope st__law_words) := ⟨rfl, rfl, rfl, by decide +kernel, rfl, by decide +kernel, by decide +kernel⟩
theorem sim__law_words {P : Program} {w : World} {K : PySem.W.Frag} {mg : Str → Option Value} {base : Heap} (X : TX K mg) : FnG P w K mg base 3 X.f__law_words X.d__law_words ["_law_deck_here", "_law_count_here"] (SpM (X.T w) 2 m__law_words) := by
  refine fn_sim (k := 2) (N := ["_law_deck_here", "_law_count_here", "_law_signs", "_law_left", "_law_right", "_law_k"]) (T := X.T w) (b := b__law_words) X.F__law_words sc__law_words rfl fun cdv A outer s H E hr hg => ?_
  have tk := L2N.takes_of (X := cxOf (L2N.CX P w) P w K mg base ["_law_deck_here", "_law_count_here", "_law_signs", "_law_left", "_law_right", "_law_k"] "_law_words" (defScope st__law_words) X.f__law_words cdv A outer s H E) (E := E) rfl rfl rfl rfl
  unfold b__law_words
  exact (cs_cons (cs_set (i := 2) sc__law_words.nd rfl (by first | exact Or.inl rfl | exact Or.inr rfl) ce_str)
  (cs_cons (cs_set (i := 3) sc__law_words.nd rfl (by first | exact Or.inl rfl | exact Or.inr rfl) (ce_bm (t := .str) PySem.F.plainAttrs_str PySem.F.slot_str_join PySem.F.type_str_join m_join ce_str (ca_cons (ce_lcX (own := [("_law_k", 5)]) rfl sc__law_words.nd (ci_rng1 rfl X.n_range (ca_cons (ce_call (sim__law_draw X) (hr.mono (by decide)) hg rfl X.g__law_draw X.F__law_draw.kp X.b__law_draw tk (ca_cons (ce_var 0) (ca_cons ce_int ca_nil))) ca_nil)) (blkOk_by (by kernel_rfl)) (tg_name (List.mem_cons_self ..)) (fun _ _ _ _ _ => pg_name (i := 5) sc__law_words.nd rfl (by first | exact Or.inl rfl | exact Or.inr rfl)) (fun _ _ _ _ _ => cts_nil) (fun _ _ _ _ _ => (ce_call (sim__law_one X) (hr.mono (by decide)) hg rfl X.g__law_one X.F__law_one.kp X.b__law_one takesN (ca_cons (ce_var 0) (ca_cons (ce_var 2) ca_nil))))) ca_nil)))
  (cs_cons (cs_set (i := 4) sc__law_words.nd rfl (by first | exact Or.inl rfl | exact Or.inr rfl) (ce_bm (t := .str) PySem.F.plainAttrs_str PySem.F.slot_str_join PySem.F.type_str_join m_join ce_str (ca_cons (ce_lcX (own := [("_law_k", 5)]) rfl sc__law_words.nd (ci_rng1 rfl X.n_range (ca_cons (ce_call (sim__law_draw X) (hr.mono (by decide)) hg rfl X.g__law_draw X.F__law_draw.kp X.b__law_draw tk (ca_cons (ce_var 0) (ca_cons ce_int ca_nil))) ca_nil)) (blkOk_by (by kernel_rfl)) (tg_name (List.mem_cons_self ..)) (fun _ _ _ _ _ => pg_name (i := 5) sc__law_words.nd rfl (by first | exact Or.inl rfl | exact Or.inr rfl)) (fun _ _ _ _ _ => cts_nil) (fun _ _ _ _ _ => (ce_call (sim__law_one X) (hr.mono (by decide)) hg rfl X.g__law_one X.F__law_one.kp X.b__law_one takesN (ca_cons (ce_var 0) (ca_cons (ce_var 2) ca_nil))))) ca_nil)))
  (cs_one (cs_ret (ce_lcX (own := [("_law_k", 5)]) rfl sc__law_words.nd (ci_rng1 rfl X.n_range (ca_cons (ce_var 1) ca_nil)) (blkOk_by (by kernel_rfl)) (tg_name (List.mem_cons_self ..)) (fun _ _ _ _ _ => pg_name (i := 5) sc__law_words.nd rfl (by first | exact Or.inl rfl | exact Or.inr rfl)) (fun _ _ _ _ _ => cts_nil) (fun _ _ _ _ _ => (ce_op o_add (ce_op o_add (ce_var 3) (ce_ix (o_ix (hu_of hr)) ce_str (ce_var 5))) (ce_var 4)))))))))
theorem sc__law_test : FnScope ["_law_deck_here", "_law_pool", "_law_olds", "_law_test_here", "_law_k", "_law_way", "_law_x"] ["_law_deck_here", "_law_pool", "_law_olds"] (defScope st__law_test) := ⟨rfl, rfl, rfl, by decide +kernel, rfl, by decide +kernel, by decide +kernel⟩
theorem sim__law_test {P : Program} {w : World} {K : PySem.W.Frag} {mg : Str → Option Value} {base : Heap} (X : TX K mg) : FnG P w K mg base 3 X.f__law_test X.d__law_test ["_law_deck_here", "_law_pool", "_law_olds"] (SpM (X.T w) 3 m__law_test) := by
  refine fn_sim (k := 2) (N := ["_law_deck_here", "_law_pool", "_law_olds", "_law_test_here", "_law_k", "_law_way", "_law_x"]) (T := X.T w) (b := b__law_test) X.F__law_test sc__law_test rfl fun cdv A outer s H E hr hg => ?_
  have tk := L2N.takes_of (X := cxOf (L2N.CX P w) P w K mg base ["_law_deck_here", "_law_pool", "_law_olds", "_law_test_here", "_law_k", "_law_way", "_law_x"] "_law_test" (defScope st__law_test) X.f__law_test cdv A outer s H E) (E := E) rfl rfl rfl rfl
  unfold b__law_test
  exact (cs_cons (cs_par (i := 5) (j := 6) rfl sc__law_test.nd rfl rfl (by decide) rfl rfl (ca_cons (ce_call (sim__law_draw X) (hr.mono (by decide)) hg rfl X.g__law_draw X.F__law_draw.kp X.b__law_draw tk (ca_cons (ce_var 0) (ca_cons ce_int ca_nil))) (ca_cons (ce_call (sim__law_one X) (hr.mono (by decide)) hg rfl X.g__law_one X.F__law_one.kp X.b__law_one tk (ca_cons (ce_var 0) (ca_cons (ce_var 2) ca_nil))) ca_nil)) (by rfl))
  (cs_cons (cs_set (i := 3) sc__law_test.nd rfl (by first | exact Or.inl rfl | exact Or.inr rfl) (ce_tup (ca_cons ce_str (ca_cons (ce_var 6) (ca_cons (ce_call (sim__law_one X) (hr.mono (by decide)) hg rfl X.g__law_one X.F__law_one.kp X.b__law_one tk (ca_cons (ce_var 0) (ca_cons (ce_ix (o_ix (hu_of hr)) (ce_var 1) ce_int) ca_nil))) ca_nil)))))
  (cs_cons (cs_if (PW.pt (cw_and (ct_cmp (o_eq hr.units) (ce_var 5) ce_int) (cw_and1 (ct_cmp o_gt (ce_ix (o_ix (hu_of hr)) (ce_var 1) ce_int) ce_int)))) (cs_one (cs_set (i := 3) sc__law_test.nd rfl (by first | exact Or.inl rfl | exact Or.inr rfl) (ce_tup (ca_cons ce_str (ca_cons (ce_call (sim__law_draw X) (hr.mono (by decide)) hg rfl X.g__law_draw X.F__law_draw.kp X.b__law_draw tk (ca_cons (ce_var 0) (ca_cons (ce_ix (o_ix (hu_of hr)) (ce_var 1) ce_int) ca_nil))) ca_nil))))) (cs_one (cs_if (ct_cmp o_lt (ce_var 5) ce_int) (cs_one (cs_set (i := 3) sc__law_test.nd rfl (by first | exact Or.inl rfl | exact Or.inr rfl) (ce_tup (ca_cons ce_str (ca_cons (ce_call (sim__law_one X) (hr.mono (by decide)) hg rfl X.g__law_one X.F__law_one.kp X.b__law_one tk (ca_cons (ce_var 0) (ca_cons (ce_ix (o_ix (hu_of hr)) (ce_var 1) ce_int) ca_nil))) ca_nil))))) (cs_one (cs_if (ct_cmp (o_eq hr.units) (ce_var 5) ce_int) (cs_one (cs_set (i := 3) sc__law_test.nd rfl (by first | exact Or.inl rfl | exact Or.inr rfl) (ce_tup (ca_cons ce_str (ca_cons (ce_var 6) (ca_cons (ce_call (sim__law_one X) (hr.mono (by decide)) hg rfl X.g__law_one X.F__law_one.kp X.b__law_one tk (ca_cons (ce_var 0) (ca_cons (ce_var 2) ca_nil))) ca_nil)))))) (cs_one (cs_if (ct_cmp o_lt (ce_var 5) ce_int) (cs_one (cs_set (i := 3) sc__law_test.nd rfl (by first | exact Or.inl rfl | exact Or.inr rfl) (ce_tup (ca_cons ce_str (ca_cons (ce_call (sim__law_one X) (hr.mono (by decide)) hg rfl X.g__law_one X.F__law_one.kp X.b__law_one tk (ca_cons (ce_var 0) (ca_cons (ce_ix (o_ix (hu_of hr)) (ce_var 1) ce_int) ca_nil))) ca_nil))))) cs_nil)))))))
  (cs_cons (cs_forX (passes_of rfl) rfl (ci_rng1 rfl X.n_range (ca_cons (ce_call (sim__law_one X) (hr.mono (by decide)) hg rfl X.g__law_one X.F__law_one.kp X.b__law_one tk (ca_cons (ce_var 0) (ca_cons (ce_lst (ca_cons ce_int (ca_cons ce_int (ca_cons ce_int (ca_cons ce_int (ca_cons ce_int (ca_cons ce_int ca_nil))))))) ca_nil))) ca_nil)) (cg_name (n := 4) sc__law_test.nd rfl (by first | exact Or.inl rfl | exact Or.inr rfl))
  (cs_one (cs_set (i := 3) sc__law_test.nd rfl (by first | exact Or.inl rfl | exact Or.inr rfl) (ce_tup (ca_cons ce_str (ca_cons (ce_var 3) ca_nil))))))
  (cs_one (cs_ret (ce_var 3)))))))
theorem sc__law_plain : FnScope ["_law_deck_here", "_law_pool", "_law_held", "_law_olds", "_law_names_here", "_law_fields", "_law_words_here", "_law_way", "_law_z", "_law_f", "_law_x", "_law_y", "_law_name"] ["_law_deck_here", "_law_pool", "_law_held"] (defScope st__law_plain) := ⟨rfl, rfl, rfl, by decide +kernel, rfl, by decide +kernel, by decide +kernel⟩
theorem sim__law_plain {P : Program} {w : World} {K : PySem.W.Frag} {mg : Str → Option Value} {base : Heap} (X : TX K mg) : FnG P w K mg base 4 X.f__law_plain X.d__law_plain ["_law_deck_here", "_law_pool", "_law_held"] (SpM (X.T w) 3 m__law_plain) := by
  refine fn_sim (k := 3) (N := ["_law_deck_here", "_law_pool", "_law_held", "_law_olds", "_law_names_here", "_law_fields", "_law_words_here", "_law_way", "_law_z", "_law_f", "_law_x", "_law_y", "_law_name"]) (T := X.T w) (b := b__law_plain) X.F__law_plain sc__law_plain rfl fun cdv A outer s H E hr hg => ?_
  have tk := L2N.takes_of (X := cxOf (L2N.CX P w) P w K mg base ["_law_deck_here", "_law_pool", "_law_held", "_law_olds", "_law_names_here", "_law_fields", "_law_words_here", "_law_way", "_law_z", "_law_f", "_law_x", "_law_y", "_law_name"] "_law_plain" (defScope st__law_plain) X.f__law_plain cdv A outer s H E) (E := E) rfl rfl rfl rfl
  unfold b__law_plain
  exact (cs_cons (cs_asg (ce_slice o_sl (ce_var 1) co_none (co_some ce_int)) (cg_unl (cgs_cons (W := WF) (cg_name (n := 4) sc__law_plain.nd rfl (by first | exact Or.inl rfl | exact Or.inr rfl)) (cgs_cons (W := WF) (cg_name (n := 5) sc__law_plain.nd rfl (by first | exact Or.inl rfl | exact Or.inr rfl)) (cgs_cons (W := WF) (cg_name (n := 6) sc__law_plain.nd rfl (by first | exact Or.inl rfl | exact Or.inr rfl)) cgs_nil)))))
  (cs_cons (cs_setLc (i := 3) (own := [("_law_name", 12)]) 100000 rfl sc__law_plain.nd rfl rfl (sw_true rfl rfl rfl (by kernel_rfl)) (ci_lst (ce_callB c_sort rfl X.n_sorted (by decide +kernel) (ca_cons (ce_var 2) ca_nil))) (blkOk_by (by kernel_rfl)) (tg_name (List.mem_cons_self ..)) (fun _ _ _ _ _ => pg_name (i := 12) sc__law_plain.nd rfl (by first | exact Or.inl rfl | exact Or.inr rfl)) (fun _ _ _ _ _ => (cts_one (ct_val (ce_ix (o_ix (hu_of hr)) (ce_var 2) (ce_var 12))))) (fun _ _ _ _ _ => (ce_var 12)))
  (cs_cons (cs_par3 (i := 7) (j := 8) (l := 9) rfl sc__law_plain.nd rfl rfl rfl (by decide) (by decide) (by decide) rfl rfl rfl (ca_cons (ce_call (sim__law_draw X) (hr.mono (by decide)) hg rfl X.g__law_draw X.F__law_draw.kp X.b__law_draw tk (ca_cons (ce_var 0) (ca_cons ce_int ca_nil))) (ca_cons (ce_call (sim__law_one X) (hr.mono (by decide)) hg rfl X.g__law_one X.F__law_one.kp X.b__law_one tk (ca_cons (ce_var 0) (ca_cons (ce_var 4) ca_nil))) (ca_cons (ce_call (sim__law_one X) (hr.mono (by decide)) hg rfl X.g__law_one X.F__law_one.kp X.b__law_one tk (ca_cons (ce_var 0) (ca_cons (ce_var 5) ca_nil))) ca_nil))) (by rfl))
  (cs_cons (cs_if (PW.pt (cw_or (ct_cmp o_lt (ce_var 7) ce_int) (cw_or1 (ct_cmp (o_eq hr.units) (ce_var 3) (ce_lst ca_nil))))) (cs_cons (cs_asg ce_bl (cg_sub (ce_var 2) (ce_var 8) (p_set (hu_of hr)) (pg_sub (ce_var 2) (ce_var 8) (p_set (hu_of hr)))))
  (cs_one (cs_ret (ce_tup (ca_cons ce_str (ca_cons (ce_var 8) ca_nil)))))) cs_nil)
  (cs_cons (cs_par (i := 10) (j := 11) rfl sc__law_plain.nd rfl rfl (by decide) rfl rfl (ca_cons (ce_call (sim__law_one X) (hr.mono (by decide)) hg rfl X.g__law_one X.F__law_one.kp X.b__law_one tk (ca_cons (ce_var 0) (ca_cons (ce_var 3) ca_nil))) (ca_cons (ce_call (sim__law_one X) (hr.mono (by decide)) hg rfl X.g__law_one X.F__law_one.kp X.b__law_one tk (ca_cons (ce_var 0) (ca_cons (ce_if (ct_cmp o_gt (ce_call (sim__law_draw X) (hr.mono (by decide)) hg rfl X.g__law_draw X.F__law_draw.kp X.b__law_draw tk (ca_cons (ce_var 0) (ca_cons ce_int ca_nil))) ce_int) (ce_var 3) (ce_var 4)) ca_nil))) ca_nil)) (by rfl))
  (cs_cons (cs_if (ct_cmp o_lt (ce_var 7) ce_int) (cs_one (cs_ret (ce_tup (ca_cons ce_str (ca_cons (ce_var 10) (ca_cons (ce_var 9) (ca_cons (ce_var 11) ca_nil))))))) cs_nil)
  (cs_cons (cs_if (ct_cmp o_lt (ce_var 7) ce_int) (cs_one (cs_ret (ce_tup (ca_cons ce_str (ca_cons (ce_var 10) (ca_cons (ce_var 9) (ca_cons (ce_var 11) ca_nil))))))) cs_nil)
  (cs_cons (cs_if (ct_cmp (o_eq hr.units) (ce_var 7) ce_int) (cs_cons (cs_asg (ce_cmp (o_eq hr.units) (ce_call (sim__law_draw X) (hr.mono (by decide)) hg rfl X.g__law_draw X.F__law_draw.kp X.b__law_draw tk (ca_cons (ce_var 0) (ca_cons ce_int ca_nil))) ce_int) (cg_sub (ce_var 2) (ce_var 8) (p_set (hu_of hr)) (pg_sub (ce_var 2) (ce_var 8) (p_set (hu_of hr)))))
  (cs_one (cs_ret (ce_tup (ca_cons ce_str (ca_cons (ce_var 8) (ca_cons (ce_var 10) (ca_cons (ce_var 9) ca_nil)))))))) cs_nil)
  (cs_cons (cs_if (ct_cmp o_lt (ce_var 7) ce_int) (cs_cons (cs_asg ce_bl (cg_sub (ce_var 2) (ce_var 10) (p_set (hu_of hr)) (pg_sub (ce_var 2) (ce_var 10) (p_set (hu_of hr)))))
  (cs_one (cs_ret (ce_tup (ca_cons ce_str (ca_cons (ce_var 10) ca_nil)))))) cs_nil)
  (cs_cons (cs_if (ct_cmp (o_eq hr.units) (ce_var 7) ce_int) (cs_cons (cs_asg ce_bl (cg_sub (ce_var 2) (ce_var 8) (p_set (hu_of hr)) (pg_sub (ce_var 2) (ce_var 8) (p_set (hu_of hr)))))
  (cs_one (cs_ret (ce_tup (ca_cons ce_str (ca_cons (ce_var 8) (ca_cons (ce_var 10) ca_nil))))))) cs_nil)
  (cs_cons (cs_if (ct_cmp (o_eq hr.units) (ce_var 7) ce_int) (cs_one (cs_ret (ce_tup (ca_cons ce_str (ca_cons (ce_var 10) (ca_cons (ce_var 9) ca_nil)))))) cs_nil)
  (cs_cons (cs_if (ct_cmp (o_eq hr.units) (ce_var 7) ce_int) (cs_one (cs_ret (ce_tup (ca_cons ce_str (ca_cons (ce_var 10) (ca_cons (ce_call (sim__law_one X) (hr.mono (by decide)) hg rfl X.g__law_one X.F__law_one.kp X.b__law_one tk (ca_cons (ce_var 0) (ca_cons (ce_var 6) ca_nil))) ca_nil)))))) cs_nil)
  (cs_cons (cs_if (ct_cmp (o_eq hr.units) (ce_var 7) ce_int) (cs_one (cs_ret (ce_if (ct_cmp (o_eq hr.units) (ce_call (sim__law_draw X) (hr.mono (by decide)) hg rfl X.g__law_draw X.F__law_draw.kp X.b__law_draw tk (ca_cons (ce_var 0) (ca_cons ce_int ca_nil))) ce_int) (ce_tup (ca_cons ce_str (ca_cons (ce_var 10) ca_nil))) (ce_tup (ca_cons ce_str (ca_cons (ce_call (sim__law_one X) (hr.mono (by decide)) hg rfl X.g__law_one X.F__law_one.kp X.b__law_one tk (ca_cons (ce_var 0) (ca_cons (ce_var 6) ca_nil))) ca_nil)))))) cs_nil)
  (cs_one (cs_ret (ce_tup (ca_cons ce_str (ca_cons (ce_call (sim__law_test X) (hr.mono (by decide)) hg rfl X.g__law_test X.F__law_test.kp X.b__law_test tk (ca_cons (ce_var 0) (ca_cons (ce_var 1) (ca_cons (ce_var 3) ca_nil)))) ca_nil))))))))))))))))))
theorem sc__law_body : FnScope ["_law_deck_here", "_law_pool", "_law_held", "_law_left", "_law_shape", "_law_rows", "_law_k", "_law_way", "_law_olds", "_law_test_here", "_law_inner", "_law_yes", "_law_times", "_law_name"] ["_law_deck_here", "_law_pool", "_law_held", "_law_left", "_law_shape"] (defScope st__law_body) := ⟨rfl, rfl, rfl, by decide +kernel, rfl, by decide +kernel, by decide +kernel⟩
theorem sims2 {P : Program} {w : World} {K : PySem.W.Frag} {mg : Str → Option Value} {base : Heap} (X : TX K mg) : ∀ n : Nat, FnG P w K mg base (4 + 1 * n) X.f__law_body X.d__law_body ["_law_deck_here", "_law_pool", "_law_held", "_law_left", "_law_shape"] (SpM (X.T w) 5 (R2 n 0))
  | 0 => fnG_fail
  | n + 1 => by
    have ih__law_body := sims2 (P := P) (w := w) (base := base) X n
    · refine fn_sim (k := 4 + 1 * n + 0) (N := ["_law_deck_here", "_law_pool", "_law_held", "_law_left", "_law_shape", "_law_rows", "_law_k", "_law_way", "_law_olds", "_law_test_here", "_law_inner", "_law_yes", "_law_times", "_law_name"]) (T := X.T w) (b := b__law_body (R2 n)) X.F__law_body sc__law_body rfl fun cdv A outer s H E hr hg => ?_
      have tk := L2N.takes_of (X := cxOf (L2N.CX P w) P w K mg base ["_law_deck_here", "_law_pool", "_law_held", "_law_left", "_law_shape", "_law_rows", "_law_k", "_law_way", "_law_olds", "_law_test_here", "_law_inner", "_law_yes", "_law_times", "_law_name"] "_law_body" (defScope st__law_body) X.f__law_body cdv A outer s H E) (E := E) rfl rfl rfl rfl
      unfold b__law_body
      exact (cs_cons (cs_set (i := 5) sc__law_body.nd rfl (by first | exact Or.inl rfl | exact Or.inr rfl) (ce_lst ca_nil))
  (cs_cons (cs_forX (passes_of rfl) rfl (ci_rng1 rfl X.n_range (ca_cons (ce_op o_add ce_int (ce_call (sim__law_draw X) (hr.mono (by omega)) hg rfl X.g__law_draw X.F__law_draw.kp X.b__law_draw tk (ca_cons (ce_var 0) (ca_cons (ce_ix (o_ix (hu_of hr)) (ce_var 4) ce_int) ca_nil)))) ca_nil)) (cg_name (n := 6) sc__law_body.nd rfl (by first | exact Or.inl rfl | exact Or.inr rfl))
  (cs_cons (cs_set (i := 7) sc__law_body.nd rfl (by first | exact Or.inl rfl | exact Or.inr rfl) (ce_call (sim__law_draw X) (hr.mono (by omega)) hg rfl X.g__law_draw X.F__law_draw.kp X.b__law_draw tk (ca_cons (ce_var 0) (ca_cons ce_int ca_nil))))
  (cs_one (cs_if (PW.pt (cw_and (ct_cmp o_gt (ce_ix (o_ix (hu_of hr)) (ce_var 3) ce_int) ce_int) (cw_and1 (ct_cmp o_ge (ce_ix (o_ix (hu_of hr)) (ce_var 3) ce_int) (ce_ix (o_ix (hu_of hr)) (ce_var 4) ce_int))))) (cs_cons (cs_asg (ce_tup (ca_cons (ce_op o_sub (ce_ix (o_ix (hu_of hr)) (ce_var 3) ce_int) ce_int) (ca_cons (ce_op o_sub (ce_ix (o_ix (hu_of hr)) (ce_var 3) ce_int) (ce_ix (o_ix (hu_of hr)) (ce_var 4) ce_int)) ca_nil))) (cg_tups (cgs_cons (W := WF) (cg_sub (ce_var 3) ce_int (p_set (hu_of hr)) (pg_sub (ce_var 3) ce_int (p_set (hu_of hr)))) (cgs_cons (W := WF) (cg_sub (ce_var 3) ce_int (p_set (hu_of hr)) (pg_sub (ce_var 3) ce_int (p_set (hu_of hr)))) cgs_nil))))
  (cs_cons (cs_set (i := 8) sc__law_body.nd rfl (by first | exact Or.inl rfl | exact Or.inr rfl) (ce_op o_add (ce_lc (own := [("_law_name", 13)]) 100000 rfl sc__law_body.nd (ci_lst (ce_callB c_sort rfl X.n_sorted (by decide +kernel) (ca_cons (ce_var 2) ca_nil))) (blkOk_by (by kernel_rfl)) (tg_name (List.mem_cons_self ..)) (fun _ _ _ _ _ => pg_name (i := 13) sc__law_body.nd rfl (by first | exact Or.inl rfl | exact Or.inr rfl)) (fun _ _ _ _ _ => (cts_one (ct_val (ce_ix (o_ix (hu_of hr)) (ce_var 2) (ce_var 13))))) (fun _ _ _ _ _ => (ce_var 13))) (ce_slice o_sl (ce_ix (o_ix (hu_of hr)) (ce_var 1) ce_int) co_none (co_some ce_int))))
  (cs_one (cs_if (PW.pt (cw_and (ct_cmp (o_eq hr.units) (ce_var 7) ce_int) (cw_and1 (ct_cmp o_gt (ce_ix (o_ix (hu_of hr)) (ce_var 4) ce_int) ce_int)))) (cs_cons (cs_par (i := 9) (j := 10) rfl sc__law_body.nd rfl rfl (by decide) rfl rfl (ca_cons (ce_call (sim__law_test X) (hr.mono (by omega)) hg rfl X.g__law_test X.F__law_test.kp X.b__law_test tk (ca_cons (ce_var 0) (ca_cons (ce_var 1) (ca_cons (ce_var 8) ca_nil)))) (ca_cons (ce_lst (ca_cons ce_int (ca_cons (ce_op o_sub (ce_ix (o_ix (hu_of hr)) (ce_var 4) ce_int) ce_int) (ca_cons (ce_ix (o_ix (hu_of hr)) (ce_var 4) ce_int) ca_nil)))) ca_nil)) (by rfl))
  (cs_cons (cs_par (i := 11) (j := 7) rfl sc__law_body.nd rfl rfl (by decide) rfl rfl (ca_cons (ce_call ih__law_body (hr.mono (by omega)) hg rfl X.g__law_body X.F__law_body.kp X.b__law_body tk (ca_cons (ce_var 0) (ca_cons (ce_var 1) (ca_cons (ce_callTy c_dict rfl X.n_dict (by decide +kernel) (ca_cons (ce_var 2) ca_nil)) (ca_cons (ce_var 3) (ca_cons (ce_var 10) ca_nil)))))) (ca_cons (ce_call (sim__law_draw X) (hr.mono (by omega)) hg rfl X.g__law_draw X.F__law_draw.kp X.b__law_draw tk (ca_cons (ce_var 0) (ca_cons ce_int ca_nil))) ca_nil)) (by rfl))
  (cs_one (cs_expr (ce_bm (t := .list) PySem.F.plainAttrs_list PySem.F.slot_list_append PySem.F.type_list_append m_append (ce_var 5) (ca_cons (ce_tup (ca_cons ce_str (ca_cons (ce_var 9) (ca_cons (ce_var 11) (ca_cons (ce_if (ct_cmp (o_eq hr.units) (ce_var 7) ce_int) (ce_call ih__law_body (hr.mono (by omega)) hg rfl X.g__law_body X.F__law_body.kp X.b__law_body tk (ca_cons (ce_var 0) (ca_cons (ce_var 1) (ca_cons (ce_callTy c_dict rfl X.n_dict (by decide +kernel) (ca_cons (ce_var 2) ca_nil)) (ca_cons (ce_var 3) (ca_cons (ce_var 10) ca_nil)))))) (ce_tup ca_nil)) ca_nil))))) ca_nil)))))) (cs_one (cs_if (PW.pt (cw_and (ct_cmp (o_eq hr.units) (ce_var 7) ce_int) (cw_and1 (ct_cmp o_gt (ce_ix (o_ix (hu_of hr)) (ce_var 4) ce_int) ce_int)))) (cs_cons (cs_set (i := 12) sc__law_body.nd rfl (by first | exact Or.inl rfl | exact Or.inr rfl) (ce_call (sim__law_one X) (hr.mono (by omega)) hg rfl X.g__law_one X.F__law_one.kp X.b__law_one tk (ca_cons (ce_var 0) (ca_cons (ce_lst (ca_cons ce_int (ca_cons ce_int (ca_cons ce_int (ca_cons ce_int (ca_cons ce_int (ca_cons ce_int ca_nil))))))) ca_nil))))
  (cs_cons (cs_set (i := 10) sc__law_body.nd rfl (by first | exact Or.inl rfl | exact Or.inr rfl) (ce_lst (ca_cons ce_int (ca_cons (ce_op o_sub (ce_ix (o_ix (hu_of hr)) (ce_var 4) ce_int) ce_int) (ca_cons (ce_op o_mul (ce_ix (o_ix (hu_of hr)) (ce_var 4) ce_int) (ce_var 12)) ca_nil)))))
  (cs_one (cs_expr (ce_bm (t := .list) PySem.F.plainAttrs_list PySem.F.slot_list_append PySem.F.type_list_append m_append (ce_var 5) (ca_cons (ce_tup (ca_cons ce_str (ca_cons (ce_var 12) (ca_cons (ce_call ih__law_body (hr.mono (by omega)) hg rfl X.g__law_body X.F__law_body.kp X.b__law_body tk (ca_cons (ce_var 0) (ca_cons (ce_var 1) (ca_cons (ce_callTy c_dict rfl X.n_dict (by decide +kernel) (ca_cons (ce_var 2) ca_nil)) (ca_cons (ce_var 3) (ca_cons (ce_var 10) ca_nil)))))) ca_nil)))) ca_nil)))))) (cs_one (cs_expr (ce_bm (t := .list) PySem.F.plainAttrs_list PySem.F.slot_list_append PySem.F.type_list_append m_append (ce_var 5) (ca_cons (ce_call (sim__law_plain X) (hr.mono (by omega)) hg rfl X.g__law_plain X.F__law_plain.kp X.b__law_plain tk (ca_cons (ce_var 0) (ca_cons (ce_var 1) (ca_cons (ce_var 2) ca_nil)))) ca_nil)))))))))) cs_nil))))
  (cs_one (cs_ret (ce_callTy (c_tuple) rfl X.n_tuple (by decide +kernel) (ca_cons (ce_var 5) ca_nil))))))
theorem sim__law_body {P : Program} {w : World} {K : PySem.W.Frag} {mg : Str → Option Value} {base : Heap} (X : TX K mg) : FnG P w K mg base 16 X.f__law_body X.d__law_body ["_law_deck_here", "_law_pool", "_law_held", "_law_left", "_law_shape"] (SpM (X.T w) 5 m__law_body) := (sims2 (P := P) (w := w) (base := base) X 12)
theorem sc__law_program : FnScope ["_law_deck_here", "_law_shape", "_law_names_here", "_law_rows", "_law_k", "_law_left", "_law_block", "_law_words_here", "_law_givens", "_law_pool", "_law_held", "_law_x", "_law_y", "_law_name"] ["_law_deck_here", "_law_shape"] (defScope st__law_program) := ⟨rfl, rfl, rfl, by decide +kernel, rfl, by decide +kernel, by decide +kernel⟩
theorem sim__law_program {P : Program} {w : World} {K : PySem.W.Frag} {mg : Str → Option Value} {base : Heap} (X : TX K mg) : FnG P w K mg base 17 X.f__law_program X.d__law_program ["_law_deck_here", "_law_shape"] (SpM (X.T w) 2 m__law_program) := by
  refine fn_sim (k := 16) (N := ["_law_deck_here", "_law_shape", "_law_names_here", "_law_rows", "_law_k", "_law_left", "_law_block", "_law_words_here", "_law_givens", "_law_pool", "_law_held", "_law_x", "_law_y", "_law_name"]) (T := X.T w) (b := b__law_program) X.F__law_program sc__law_program rfl fun cdv A outer s H E hr hg => ?_
  have tk := L2N.takes_of (X := cxOf (L2N.CX P w) P w K mg base ["_law_deck_here", "_law_shape", "_law_names_here", "_law_rows", "_law_k", "_law_left", "_law_block", "_law_words_here", "_law_givens", "_law_pool", "_law_held", "_law_x", "_law_y", "_law_name"] "_law_program" (defScope st__law_program) X.f__law_program cdv A outer s H E) (E := E) rfl rfl rfl rfl
  unfold b__law_program
  exact (cs_cons (cs_par (i := 7) (j := 8) rfl sc__law_program.nd rfl rfl (by decide) rfl rfl (ca_cons (ce_call (sim__law_words X) (hr.mono (by decide)) hg rfl X.g__law_words X.F__law_words.kp X.b__law_words tk (ca_cons (ce_var 0) (ca_cons ce_int ca_nil))) (ca_cons (ce_call (sim__law_draw X) (hr.mono (by decide)) hg rfl X.g__law_draw X.F__law_draw.kp X.b__law_draw tk (ca_cons (ce_var 0) (ca_cons ce_int ca_nil))) ca_nil)) (by rfl))
  (cs_cons (cs_set (i := 2) sc__law_program.nd rfl (by first | exact Or.inl rfl | exact Or.inr rfl) (ce_call (sim__law_names X) (hr.mono (by decide)) hg rfl X.g__law_names X.F__law_names.kp X.b__law_names tk (ca_cons (ce_var 0) (ca_cons (ce_op o_add ce_int (ce_call (sim__law_draw X) (hr.mono (by decide)) hg rfl X.g__law_draw X.F__law_draw.kp X.b__law_draw tk (ca_cons (ce_var 0) (ca_cons ce_int ca_nil)))) ca_nil))))
  (cs_cons (cs_par (i := 9) (j := 10) rfl sc__law_program.nd rfl rfl (by decide) rfl rfl (ca_cons (ce_lst (ca_cons (ce_slice o_sl (ce_var 2) (co_some ce_int) co_none) (ca_cons (ce_slice o_sl (ce_var 2) co_none (co_some (ce_op o_add ce_int (ce_call (sim__law_draw X) (hr.mono (by decide)) hg rfl X.g__law_draw X.F__law_draw.kp X.b__law_draw tk (ca_cons (ce_var 0) (ca_cons ce_int ca_nil)))))) (ca_cons (ce_var 7) (ca_cons (ce_var 8) ca_nil))))) (ca_cons (ce_callTy c_dictP rfl X.n_dict (by decide +kernel) (ca_cons (ce_lc (own := [("_law_name", 13)]) 100000 rfl sc__law_program.nd (ci_lst (ce_slice o_sl (ce_var 2) (co_some ce_int) (co_some ce_int))) (blkOk_by (by kernel_rfl)) (tg_name (List.mem_cons_self ..)) (fun _ _ _ _ _ => pg_name (i := 13) sc__law_program.nd rfl (by first | exact Or.inl rfl | exact Or.inr rfl)) (fun _ _ _ _ _ => cts_nil) (fun _ _ _ _ _ => (ce_tup (ca_cons (ce_var 13) (ca_cons ce_bl ca_nil))))) ca_nil)) ca_nil)) (by rfl))
  (cs_cons (cs_setLc (i := 3) (own := [("_law_name", 13)]) 100000 rfl sc__law_program.nd rfl rfl (sw_true rfl rfl rfl (by kernel_rfl)) (ci_lst (ce_slice o_sl (ce_var 2) (co_some ce_int) (co_some ce_int))) (blkOk_by (by kernel_rfl)) (tg_name (List.mem_cons_self ..)) (fun _ _ _ _ _ => pg_name (i := 13) sc__law_program.nd rfl (by first | exact Or.inl rfl | exact Or.inr rfl)) (fun _ _ _ _ _ => cts_nil) (fun _ _ _ _ _ => (ce_tup (ca_cons ce_str (ca_cons (ce_var 13) ca_nil)))))
  (cs_cons (cs_forX (passes_of rfl) rfl (ci_rng1 rfl X.n_range (ca_cons (ce_op o_add ce_int (ce_call (sim__law_draw X) (hr.mono (by decide)) hg rfl X.g__law_draw X.F__law_draw.kp X.b__law_draw tk (ca_cons (ce_var 0) (ca_cons ce_int ca_nil)))) ca_nil)) (cg_name (n := 4) sc__law_program.nd rfl (by first | exact Or.inl rfl | exact Or.inr rfl))
  (cs_cons (cs_par (i := 11) (j := 12) rfl sc__law_program.nd rfl rfl (by decide) rfl rfl (ca_cons (ce_call (sim__law_one X) (hr.mono (by decide)) hg rfl X.g__law_one X.F__law_one.kp X.b__law_one tk (ca_cons (ce_var 0) (ca_cons (ce_slice o_sl (ce_var 2) (co_some ce_int) (co_some ce_int)) ca_nil))) (ca_cons (ce_call (sim__law_one X) (hr.mono (by decide)) hg rfl X.g__law_one X.F__law_one.kp X.b__law_one tk (ca_cons (ce_var 0) (ca_cons (ce_slice o_sl (ce_var 2) (co_some ce_int) (co_some ce_int)) ca_nil))) ca_nil)) (by rfl))
  (cs_one (cs_expr (ce_bm (t := .list) PySem.F.plainAttrs_list PySem.F.slot_list_append PySem.F.type_list_append m_append (ce_var 3) (ca_cons (ce_tup (ca_cons (ce_call (sim__law_one X) (hr.mono (by decide)) hg rfl X.g__law_one X.F__law_one.kp X.b__law_one tk (ca_cons (ce_var 0) (ca_cons (ce_lst (ca_cons ce_str (ca_cons ce_str (ca_cons ce_str ca_nil)))) ca_nil))) (ca_cons (ce_var 11) (ca_cons (ce_call (sim__law_one X) (hr.mono (by decide)) hg rfl X.g__law_one X.F__law_one.kp X.b__law_one tk (ca_cons (ce_var 0) (ca_cons (ce_ix (o_ix (hu_of hr)) (ce_var 9) ce_int) ca_nil))) (ca_cons (ce_var 12) ca_nil))))) ca_nil))))))
  (cs_cons (cs_set (i := 5) sc__law_program.nd rfl (by first | exact Or.inl rfl | exact Or.inr rfl) (ce_lst (ca_cons (ce_op o_sub ce_int (ce_callB (c_len) rfl X.n_len (by decide +kernel) (ca_cons (ce_var 3) ca_nil))) (ca_cons (ce_op o_sub ce_int (ce_callB (c_len) rfl X.n_len (by decide +kernel) (ca_cons (ce_var 3) ca_nil))) ca_nil))))
  (cs_cons (cs_set (i := 6) sc__law_program.nd rfl (by first | exact Or.inl rfl | exact Or.inr rfl) (ce_op o_add (ce_call (sim__law_body X) (hr.mono (by decide)) hg rfl X.g__law_body X.F__law_body.kp X.b__law_body tk (ca_cons (ce_var 0) (ca_cons (ce_var 9) (ca_cons (ce_var 10) (ca_cons (ce_var 5) (ca_cons (ce_var 1) ca_nil)))))) (ce_call (sim__law_body X) (hr.mono (by decide)) hg rfl X.g__law_body X.F__law_body.kp X.b__law_body tk (ca_cons (ce_var 0) (ca_cons (ce_var 9) (ca_cons (ce_var 10) (ca_cons (ce_var 5) (ca_cons (ce_lst (ca_cons (ce_ix (o_ix (hu_of hr)) (ce_var 1) ce_int) (ca_cons ce_int (ca_cons ce_int ca_nil)))) ca_nil))))))))
  (cs_one (cs_ret (ce_tup (ca_cons (ce_tup (ca_cons (ce_var 8) (ca_cons (ce_op o_add (ce_callTy (c_tuple) rfl X.n_tuple (by decide +kernel) (ca_cons (ce_var 3) ca_nil)) (ce_var 6)) ca_nil))) (ca_cons (ce_callTy (c_tuple) rfl X.n_tuple (by decide +kernel) (ca_cons (ce_lcX (own := [("_law_k", 4)]) rfl sc__law_program.nd (ci_rng1 rfl X.n_range (ca_cons (ce_var 8) ca_nil)) (blkOk_by (by kernel_rfl)) (tg_name (List.mem_cons_self ..)) (fun _ _ _ _ _ => pg_name (i := 4) sc__law_program.nd rfl (by first | exact Or.inl rfl | exact Or.inr rfl)) (fun _ _ _ _ _ => cts_nil) (fun _ _ _ _ _ => (ce_call (sim__law_draw X) (hr.mono (by decide)) hg rfl X.g__law_draw X.F__law_draw.kp X.b__law_draw takesN (ca_cons (ce_var 0) (ca_cons ce_int ca_nil))))) ca_nil)) ca_nil))))))))))))
theorem sc__law_count : FnScope ["_law_block", "_law_row", "_law_inner"] ["_law_block"] (defScope st__law_count) := ⟨rfl, rfl, rfl, by decide +kernel, rfl, by decide +kernel, by decide +kernel⟩
theorem sims3 {P : Program} {w : World} {K : PySem.W.Frag} {mg : Str → Option Value} {base : Heap} (X : TX K mg) : ∀ n : Nat, FnG P w K mg base (0 + 1 * n) X.f__law_count X.d__law_count ["_law_block"] (SpM (X.T w) 1 (R3 n 0))
  | 0 => fnG_fail
  | n + 1 => by
    have ih__law_count := sims3 (P := P) (w := w) (base := base) X n
    · refine fn_sim (k := 0 + 1 * n + 0) (N := ["_law_block", "_law_row", "_law_inner"]) (T := X.T w) (b := b__law_count (R3 n)) X.F__law_count sc__law_count rfl fun cdv A outer s H E hr hg => ?_
      have tk := L2N.takes_of (X := cxOf (L2N.CX P w) P w K mg base ["_law_block", "_law_row", "_law_inner"] "_law_count" (defScope st__law_count) X.f__law_count cdv A outer s H E) (E := E) rfl rfl rfl rfl
      unfold b__law_count
      exact (cs_one (cs_ret (ce_callB (c_sum) rfl X.n_sum (by decide +kernel) (ca_cons (ce_lcX (own := [("_law_row", 1)]) rfl sc__law_count.nd (ci_tup (ce_var 0)) (blkOk_by (by kernel_rfl)) (tg_name (List.mem_cons_self ..)) (fun _ _ _ _ _ => pg_name (i := 1) sc__law_count.nd rfl (by first | exact Or.inl rfl | exact Or.inr rfl)) (fun _ _ _ _ _ => cts_nil) (fun _ _ _ _ _ => (ce_op o_add ce_int (ce_callB (c_sum) rfl X.n_sum (by decide +kernel) (ca_cons (ce_lcX (own := [("_law_inner", 2)]) rfl sc__law_count.nd (ci_tup (ce_slice o_sl (ce_var 1) (co_some ce_int) co_none)) (blkOk_by (by kernel_rfl)) (tg_name (List.mem_cons_self ..)) (fun _ _ _ _ _ => pg_name (i := 2) sc__law_count.nd rfl (by first | exact Or.inl rfl | exact Or.inr rfl)) (fun _ _ _ _ _ => (cts_one (ct_cmp (o_in (hu_of hr)) (ce_ix (o_ix (hu_of hr)) (ce_var 1) ce_int) (ce_lst (ca_cons ce_str (ca_cons ce_str ca_nil)))))) (fun _ _ _ _ _ => (ce_call ih__law_count (hr.mono (by omega)) hg rfl X.g__law_count X.F__law_count.kp X.b__law_count takesN (ca_cons (ce_var 2) ca_nil)))) ca_nil))))) ca_nil))))
theorem sim__law_count {P : Program} {w : World} {K : PySem.W.Frag} {mg : Str → Option Value} {base : Heap} (X : TX K mg) : FnG P w K mg base 12 X.f__law_count X.d__law_count ["_law_block"] (SpM (X.T w) 1 m__law_count) := (sims3 (P := P) (w := w) (base := base) X 12)
theorem sc__law_fixed : FnScope ["_law_fix", "_law_block", "_law_place", "_law_places", "_law_found", "_law_row", "_law_new", "_law_part", "_law_inner", "_law_at"] ["_law_fix", "_law_block", "_law_place", "_law_places"] (defScope st__law_fixed) := ⟨rfl, rfl, rfl, by decide +kernel, rfl, by decide +kernel, by decide +kernel⟩
theorem sims4 {P : Program} {w : World} {K : PySem.W.Frag} {mg : Str → Option Value} {base : Heap} (X : TX K mg) : ∀ n : Nat, FnG P w K mg base (12 + 1 * n) X.f__law_fixed X.d__law_fixed ["_law_fix", "_law_block", "_law_place", "_law_places"] (SpM (X.T w) 4 (R4 n 0))
  | 0 => fnG_fail
  | n + 1 => by
    have ih__law_fixed := sims4 (P := P) (w := w) (base := base) X n
    · refine fn_sim (k := 12 + 1 * n + 0) (N := ["_law_fix", "_law_block", "_law_place", "_law_places", "_law_found", "_law_row", "_law_new", "_law_part", "_law_inner", "_law_at"]) (T := X.T w) (b := b__law_fixed (R4 n)) X.F__law_fixed sc__law_fixed rfl fun cdv A outer s H E hr hg => ?_
      have tk := L2N.takes_of (X := cxOf (L2N.CX P w) P w K mg base ["_law_fix", "_law_block", "_law_place", "_law_places", "_law_found", "_law_row", "_law_new", "_law_part", "_law_inner", "_law_at"] "_law_fixed" (defScope st__law_fixed) X.f__law_fixed cdv A outer s H E) (E := E) rfl rfl rfl rfl
      unfold b__law_fixed
      exact (cs_cons (cs_set (i := 4) sc__law_fixed.nd rfl (by first | exact Or.inl rfl | exact Or.inr rfl) (ce_lst ca_nil))
  (cs_cons (cs_forX (passes_of rfl) rfl (ci_tup (ce_var 1)) (cg_name (n := 5) sc__law_fixed.nd rfl (by first | exact Or.inl rfl | exact Or.inr rfl))
  (cs_cons (cs_set (i := 6) sc__law_fixed.nd rfl (by first | exact Or.inl rfl | exact Or.inr rfl) (ce_var 5))
  (cs_cons (cs_if (ct_cmp (o_in (hu_of hr)) (ce_ix (o_ix (hu_of hr)) (ce_var 5) ce_int) (ce_lst (ca_cons ce_str (ca_cons ce_str ca_nil)))) (cs_cons (cs_par (i := 8) (j := 9) rfl sc__law_fixed.nd rfl rfl (by decide) rfl rfl (ca_cons (ce_lst ca_nil) (ca_cons (ce_op o_add (ce_var 2) ce_int) ca_nil)) (by rfl))
  (cs_cons (cs_forX (passes_of rfl) rfl (ci_tup (ce_slice o_sl (ce_var 5) (co_some ce_int) co_none)) (cg_name (n := 7) sc__law_fixed.nd rfl (by first | exact Or.inl rfl | exact Or.inr rfl))
  (cs_cons (cs_expr (ce_bm (t := .list) PySem.F.plainAttrs_list PySem.F.slot_list_append PySem.F.type_list_append m_append (ce_var 8) (ca_cons (ce_call ih__law_fixed (hr.mono (by omega)) hg rfl X.g__law_fixed X.F__law_fixed.kp X.b__law_fixed tk (ca_cons (ce_var 0) (ca_cons (ce_var 7) (ca_cons (ce_var 9) (ca_cons (ce_var 3) ca_nil))))) ca_nil)))
  (cs_one (cs_set (i := 9) sc__law_fixed.nd rfl (by first | exact Or.inl rfl | exact Or.inr rfl) (ce_op o_add (ce_var 9) (ce_call (sim__law_count X) (hr.mono (by omega)) hg rfl X.g__law_count X.F__law_count.kp X.b__law_count tk (ca_cons (ce_var 7) ca_nil)))))))
  (cs_one (cs_set (i := 6) sc__law_fixed.nd rfl (by first | exact Or.inl rfl | exact Or.inr rfl) (ce_op o_add (ce_slice o_sl (ce_var 5) co_none (co_some ce_int)) (ce_callTy (c_tuple) rfl X.n_tuple (by decide +kernel) (ca_cons (ce_var 8) ca_nil))))))) cs_nil)
  (cs_cons (cs_set (i := 4) sc__law_fixed.nd rfl (by first | exact Or.inl rfl | exact Or.inr rfl) (ce_op o_add (ce_var 4) (ce_if (ct_cmp (o_in (hu_of hr)) (ce_var 2) (ce_var 3)) (ce_callTy (c_list) rfl X.n_list (by decide +kernel) (ca_cons (ce_meth (mo_changed X) (hr.mono (by omega)) hg tk (ce_var 0) (ca_cons (ce_var 5) ca_nil)) ca_nil)) (ce_lst (ca_cons (ce_var 6) ca_nil)))))
  (cs_one (cs_set (i := 2) sc__law_fixed.nd rfl (by first | exact Or.inl rfl | exact Or.inr rfl) (ce_op o_add (ce_var 2) (ce_call (sim__law_count X) (hr.mono (by omega)) hg rfl X.g__law_count X.F__law_count.kp X.b__law_count tk (ca_cons (ce_tup (ca_cons (ce_var 5) ca_nil)) ca_nil)))))))))
  (cs_one (cs_ret (ce_callTy (c_tuple) rfl X.n_tuple (by decide +kernel) (ca_cons (ce_var 4) ca_nil))))))
theorem sim__law_fixed {P : Program} {w : World} {K : PySem.W.Frag} {mg : Str → Option Value} {base : Heap} (X : TX K mg) : FnG P w K mg base 24 X.f__law_fixed X.d__law_fixed ["_law_fix", "_law_block", "_law_place", "_law_places"] (SpM (X.T w) 4 m__law_fixed) := (sims4 (P := P) (w := w) (base := base) X 12)
theorem sc__law_refused : FnScope ["_law_fix", "_law_program_here", "_law_places", "_law_told", "error", "_law_right"] ["_law_fix", "_law_program_here", "_law_places"] (defScope st__law_refused) := ⟨rfl, rfl, rfl, by decide +kernel, rfl, by decide +kernel, by decide +kernel⟩
theorem sim__law_refused {P : Program} {w : World} {K : PySem.W.Frag} {mg : Str → Option Value} {base : Heap} (X : TX K mg) : FnG P w K mg base 27 X.f__law_refused X.d__law_refused ["_law_fix", "_law_program_here", "_law_places"] (SpM (X.T w) 3 m__law_refused) := by
  refine fn_sim (k := 26) (N := ["_law_fix", "_law_program_here", "_law_places", "_law_told", "error", "_law_right"]) (T := X.T w) (b := b__law_refused) X.F__law_refused sc__law_refused rfl fun cdv A outer s H E hr hg => ?_
  have tk := L2N.takes_of (X := cxOf (L2N.CX P w) P w K mg base ["_law_fix", "_law_program_here", "_law_places", "_law_told", "error", "_law_right"] "_law_refused" (defScope st__law_refused) X.f__law_refused cdv A outer s H E) (E := E) rfl rfl rfl rfl
  unfold b__law_refused
  exact (cs_cons (cs_set (i := 3) sc__law_refused.nd rfl (by first | exact Or.inl rfl | exact Or.inr rfl) ce_str)
  (cs_cons (cs_tryAs (T := X.T w) sc__law_refused.nd rfl rfl ⟨rfl, by decide, Or.inl X.gc_NoPlace⟩ tk (X.hit1_NoPlace w) (X.hit0_NoPlace w) (fun W pn xe tk hp => (cs_one (cs_expr (ce_meth (mo_applied X) (hr.mono (by decide)) hg tk (ce_var 0) (ca_cons (ce_var 1) (ca_cons (ce_var 2) ca_nil)))))) (fun a oe e C d fs pn hfs hC hh hz hf => (cs_cons (cs_set (i := 5) sc__law_refused.nd rfl (by first | exact Or.inl rfl | exact Or.inr rfl) (ce_and (ce_isx (ans := ans_0) (X.isx_0 w _ _ hh hC).1 hz.zc hf (clsE_ty rfl X.n_LookupError (by decide +kernel)) (X.isx_0 w _ _ hh hC).2 rfl X.n_isinstance rfl (Or.inl rfl)) (ce_one (ce_not (ce_isxT (ans := ans_1) (X.isx_1 w _ _ hh hC).1 hz.zc hf (clsEs_cons (clsE_own rfl X.gc_GoneError) (clsEs_cons (clsE_ty rfl X.n_ValueError (by decide +kernel)) (clsEs_cons (clsE_own rfl X.gc_NoVersion) clsEs_nil))) (X.isx_1 w _ _ hh hC).2 (by simp) rfl X.n_isinstance rfl (Or.inl rfl))))))
  (cs_one (cs_set (i := 3) sc__law_refused.nd rfl (by first | exact Or.inl rfl | exact Or.inr rfl) (ce_if (ct_val (ce_var 5)) (ce_xf hfs hz.zc hf (X.xf_NoPlace_place w _ _ hh hC).1 (X.xf_NoPlace_place w _ _ hh hC).2 rfl (Or.inl rfl)) ce_str))))))
  (cs_one (cs_ret (ce_var 3)))))
theorem sc_law : FnScope ["_law_script", "_law_deck_here", "_law_count_here", "_law_fix", "_law_program_here", "_law_inputs", "_law_known", "_law_part", "_law_wrong", "_law_places", "_law_due", "_law_place"] ["_law_script"] (defScope st_law) := ⟨rfl, rfl, rfl, by decide +kernel, rfl, by decide +kernel, by decide +kernel⟩
theorem sim_law {P : Program} {w : World} {K : PySem.W.Frag} {mg : Str → Option Value} {base : Heap} (X : TX K mg) : FnG P w K mg base 28 X.f_law X.d_law ["_law_script"] (SpM (X.T w) 1 m_law) := by
  refine fn_sim (k := 27) (N := ["_law_script", "_law_deck_here", "_law_count_here", "_law_fix", "_law_program_here", "_law_inputs", "_law_known", "_law_part", "_law_wrong", "_law_places", "_law_due", "_law_place"]) (T := X.T w) (b := b_law) X.F_law sc_law rfl fun cdv A outer s H E hr hg => ?_
  have tk := L2N.takes_of (X := cxOf (L2N.CX P w) P w K mg base ["_law_script", "_law_deck_here", "_law_count_here", "_law_fix", "_law_program_here", "_law_inputs", "_law_known", "_law_part", "_law_wrong", "_law_places", "_law_due", "_law_place"] "law" (defScope st_law) X.f_law cdv A outer s H E) (E := E) rfl rfl rfl rfl
  unfold b_law
  exact (cs_cons (cs_set (i := 1) sc_law.nd rfl (by first | exact Or.inl rfl | exact Or.inr rfl) (ce_call (sim__law_deck X) (hr.mono (by decide)) hg rfl X.g__law_deck X.F__law_deck.kp X.b__law_deck tk (ca_cons (ce_var 0) ca_nil)))
  (cs_cons (cs_asg (ce_call (sim__law_program X) (hr.mono (by decide)) hg rfl X.g__law_program X.F__law_program.kp X.b__law_program tk (ca_cons (ce_var 1) (ca_cons (ce_lst (ca_cons ce_int (ca_cons ce_int (ca_cons ce_int ca_nil)))) ca_nil))) (cg_tup (js := [4, 5]) (pg_tup rfl (pgs_cons (pg_name (i := 4) sc_law.nd rfl (by first | exact Or.inl rfl | exact Or.inr rfl)) (pgs_cons (pg_name (i := 5) sc_law.nd rfl (by first | exact Or.inl rfl | exact Or.inr rfl)) pgs_nil)))))
  (cs_cons (cs_set (i := 2) sc_law.nd rfl (by first | exact Or.inl rfl | exact Or.inr rfl) (ce_call (sim__law_count X) (hr.mono (by decide)) hg rfl X.g__law_count X.F__law_count.kp X.b__law_count tk (ca_cons (ce_ix (o_ix (hu_of hr)) (ce_var 4) ce_int) ca_nil)))
  (cs_cons (cs_for 100000 (passes_of rfl) rfl (ci_lst (ce_lst (ca_cons (ce_makeB X.mb_Keeps rfl X.gc_Keeps rfl) (ca_cons (ce_makeB X.mb_Strongs rfl X.gc_Strongs rfl) (ca_cons (ce_makeB X.mb_Fix rfl X.gc_Fix rfl) ca_nil))))) (cg_name (n := 3) sc_law.nd rfl (by first | exact Or.inl rfl | exact Or.inr rfl))
  (cs_cons (cs_set (i := 6) sc_law.nd rfl (by first | exact Or.inl rfl | exact Or.inr rfl) (ce_meth (mo_places_of X) (hr.mono (by decide)) hg tk (ce_var 3) (ca_cons (ce_var 4) ca_nil)))
  (cs_cons (cs_for 100000 (passes_of rfl) rfl (ci_lst (ce_lst (ca_cons ce_int (ca_cons ce_int (ca_cons ce_int ca_nil))))) (cg_name (n := 7) sc_law.nd rfl (by first | exact Or.inl rfl | exact Or.inr rfl))
  (cs_cons (cs_set (i := 9) sc_law.nd rfl (by first | exact Or.inl rfl | exact Or.inr rfl) (ce_callTy (c_tuple) rfl X.n_tuple (by decide +kernel) (ca_cons (ce_lcX (own := [("_law_place", 11)]) rfl sc_law.nd (ci_tup (ce_var 6)) (blkOk_by (by kernel_rfl)) (tg_name (List.mem_cons_self ..)) (fun _ _ _ _ _ => pg_name (i := 11) sc_law.nd rfl (by first | exact Or.inl rfl | exact Or.inr rfl)) (fun _ _ _ _ _ => (cts_one (ct_cmp (o_eq hr.units) (ce_call (sim__law_draw X) (hr.mono (by decide)) hg rfl X.g__law_draw X.F__law_draw.kp X.b__law_draw takesN (ca_cons (ce_var 1) (ca_cons (ce_var 7) ca_nil))) ce_int))) (fun _ _ _ _ _ => (ce_var 11))) ca_nil)))
  (cs_cons (cs_set (i := 10) sc_law.nd rfl (by first | exact Or.inl rfl | exact Or.inr rfl) (ce_tup (ca_cons (ce_ix (o_ix (hu_of hr)) (ce_var 4) ce_int) (ca_cons (ce_call (sim__law_fixed X) (hr.mono (by decide)) hg rfl X.g__law_fixed X.F__law_fixed.kp X.b__law_fixed tk (ca_cons (ce_var 3) (ca_cons (ce_ix (o_ix (hu_of hr)) (ce_var 4) ce_int) (ca_cons ce_int (ca_cons (ce_var 9) ca_nil))))) ca_nil))))
  (cs_one (cs_if (ct_cmp (o_ne hr.units) (ce_callB (c_repr hg hr.units) rfl X.n_repr (by decide +kernel) (ca_cons (ce_meth (mo_applied X) (hr.mono (by decide)) hg tk (ce_var 3) (ca_cons (ce_var 4) (ca_cons (ce_var 9) ca_nil))) ca_nil)) (ce_callB (c_repr hg hr.units) rfl X.n_repr (by decide +kernel) (ca_cons (ce_var 10) ca_nil))) (cs_one (cs_ret ce_bl)) cs_nil)))))
  (cs_cons (cs_setLcX (i := 8) (own := [("_law_place", 11)]) rfl sc_law.nd rfl rfl (sw_true rfl rfl rfl (by kernel_rfl)) (ci_rng1 rfl X.n_range (ca_cons (ce_var 2) ca_nil)) (blkOk_by (by kernel_rfl)) (tg_name (List.mem_cons_self ..)) (fun _ _ _ _ _ => pg_name (i := 11) sc_law.nd rfl (by first | exact Or.inl rfl | exact Or.inr rfl)) (fun _ _ _ _ _ => (cts_one (PW.pt (cw_and (ct_cmp (o_notIn (hu_of hr)) (ce_var 11) (ce_var 6)) (cw_and1 (ct_cmp (o_eq hr.units) (ce_call (sim__law_draw X) (hr.mono (by decide)) hg rfl X.g__law_draw X.F__law_draw.kp X.b__law_draw takesN (ca_cons (ce_var 1) (ca_cons ce_int ca_nil))) ce_int)))))) (fun _ _ _ _ _ => (ce_var 11)))
  (cs_cons (cs_expr (ce_bm (t := .list) PySem.F.plainAttrs_list PySem.F.slot_list_append PySem.F.type_list_append m_append (ce_var 8) (ca_cons (ce_op o_add (ce_var 2) (ce_call (sim__law_draw X) (hr.mono (by decide)) hg rfl X.g__law_draw X.F__law_draw.kp X.b__law_draw tk (ca_cons (ce_var 1) (ca_cons (ce_op o_pow ce_int ce_int) ca_nil)))) ca_nil)))
  (cs_cons (cs_if (ct_cmp (o_eq hr.units) (ce_call (sim__law_draw X) (hr.mono (by decide)) hg rfl X.g__law_draw X.F__law_draw.kp X.b__law_draw tk (ca_cons (ce_var 1) (ca_cons ce_int ca_nil))) ce_int) (cs_one (cs_set (i := 8) sc_law.nd rfl (by first | exact Or.inl rfl | exact Or.inr rfl) (ce_op o_add (ce_lst (ca_cons (ce_op o_sub (ce_op o_sub ce_int ce_int) (ce_call (sim__law_draw X) (hr.mono (by decide)) hg rfl X.g__law_draw X.F__law_draw.kp X.b__law_draw tk (ca_cons (ce_var 1) (ca_cons ce_int ca_nil)))) ca_nil)) (ce_var 8)))) cs_nil)
  (cs_cons (cs_set (i := 9) sc_law.nd rfl (by first | exact Or.inl rfl | exact Or.inr rfl) (ce_callTy (c_tuple) rfl X.n_tuple (by decide +kernel) (ca_cons (ce_callB (c_sortS) rfl X.n_sorted (by decide +kernel) (ca_cons (ce_op o_add (ce_lcX (own := [("_law_place", 11)]) rfl sc_law.nd (ci_tup (ce_var 6)) (blkOk_by (by kernel_rfl)) (tg_name (List.mem_cons_self ..)) (fun _ _ _ _ _ => pg_name (i := 11) sc_law.nd rfl (by first | exact Or.inl rfl | exact Or.inr rfl)) (fun _ _ _ _ _ => (cts_one (ct_cmp (o_eq hr.units) (ce_call (sim__law_draw X) (hr.mono (by decide)) hg rfl X.g__law_draw X.F__law_draw.kp X.b__law_draw takesN (ca_cons (ce_var 1) (ca_cons ce_int ca_nil))) ce_int))) (fun _ _ _ _ _ => (ce_var 11))) (ce_var 8)) ca_nil)) ca_nil)))
  (cs_one (cs_if (ct_cmp (o_ne hr.units) (ce_callB (c_repr hg hr.units) rfl X.n_repr (by decide +kernel) (ca_cons (ce_call (sim__law_refused X) (hr.mono (by decide)) hg rfl X.g__law_refused X.F__law_refused.kp X.b__law_refused tk (ca_cons (ce_var 3) (ca_cons (ce_var 4) (ca_cons (ce_var 9) ca_nil)))) ca_nil)) (ce_callB (c_repr hg hr.units) rfl X.n_repr (by decide +kernel) (ca_cons (ce_ix (o_ix (hu_of hr)) (ce_var 8) ce_int) ca_nil))) (cs_one (cs_ret ce_bl)) cs_nil)))))))))
  (cs_one (cs_ret ce_bl))))))
end K79

namespace K79
open PySem PySem.Spec PyProof.Rows L2 Sm
theorem all_mk {l : PySem.W.OpenLaw} {w : World} {K : PySem.W.Frag} {h : Heap} {mg : Str → Option Value} {fa f_inner_blocks f_listed f_statements_of f_places_with f_make_places f_weak_places f_Fix_places_of f_Fix_changed f_Keeps_changed f_Strongs_changed f_Fix_rebuilt f_Keeps_places_of f_Strongs_places_of f_Fix_applied f__law_deck f__law_draw f__law_one f__law_names f__law_words f__law_test f__law_plain f__law_body f__law_program f__law_count f__law_fixed f__law_refused f_law f_NoPlaceU_initU C_Fix C_Keeps C_Strongs C_NoPlace C_GoneError C_NoVersion xN_NoPlace : Addr} (X : K.In h) (G : h.Ns mainGlobals mg) (hfa : mg "law" = some (.ref fa))
    {od_inner_blocks an_inner_blocks od_listed an_listed od_statements_of an_statements_of od_places_with an_places_with od_make_places an_make_places od_weak_places an_weak_places od_Fix_places_of an_Fix_places_of od_Fix_changed an_Fix_changed od_Keeps_changed an_Keeps_changed od_Strongs_changed an_Strongs_changed od_Fix_rebuilt an_Fix_rebuilt od_Keeps_places_of an_Keeps_places_of od_Strongs_places_of an_Strongs_places_of od_Fix_applied an_Fix_applied od__law_deck an__law_deck od__law_draw an__law_draw od__law_one an__law_one od__law_names an__law_names od__law_words an__law_words od__law_test an__law_test od__law_plain an__law_plain od__law_body an__law_body od__law_program an__law_program od__law_count an__law_count od__law_fixed an__law_fixed od__law_refused an__law_refused od_law an_law od_NoPlaceU_initU an_NoPlaceU_initU xdd_NoPlace : Option Addr} {sl_inner_blocks sl_listed sl_statements_of sl_places_with sl_make_places sl_weak_places sl_Fix_places_of sl_Fix_changed sl_Keeps_changed sl_Strongs_changed sl_Fix_rebuilt sl_Keeps_places_of sl_Strongs_places_of sl_Fix_applied sl__law_deck sl__law_draw sl__law_one sl__law_names sl__law_words sl__law_test sl__law_plain sl__law_body sl__law_program sl__law_count sl__law_fixed sl__law_refused sl_law sl_NoPlaceU_initU : Array (Option Value)} {oc_inner_blocks kV_inner_blocks dc_inner_blocks pm_inner_blocks cd_inner_blocks ct_inner_blocks oc_listed kV_listed dc_listed pm_listed cd_listed ct_listed oc_statements_of kV_statements_of dc_statements_of pm_statements_of cd_statements_of ct_statements_of oc_places_with kV_places_with dc_places_with pm_places_with cd_places_with ct_places_with oc_make_places kV_make_places dc_make_places pm_make_places cd_make_places ct_make_places oc_weak_places kV_weak_places dc_weak_places pm_weak_places cd_weak_places ct_weak_places oc_Fix_places_of kV_Fix_places_of dc_Fix_places_of pm_Fix_places_of cd_Fix_places_of ct_Fix_places_of oc_Fix_changed kV_Fix_changed dc_Fix_changed pm_Fix_changed cd_Fix_changed ct_Fix_changed oc_Keeps_changed kV_Keeps_changed dc_Keeps_changed pm_Keeps_changed cd_Keeps_changed ct_Keeps_changed oc_Strongs_changed kV_Strongs_changed dc_Strongs_changed pm_Strongs_changed cd_Strongs_changed ct_Strongs_changed oc_Fix_rebuilt kV_Fix_rebuilt dc_Fix_rebuilt pm_Fix_rebuilt cd_Fix_rebuilt ct_Fix_rebuilt oc_Keeps_places_of kV_Keeps_places_of dc_Keeps_places_of pm_Keeps_places_of cd_Keeps_places_of ct_Keeps_places_of oc_Strongs_places_of kV_Strongs_places_of dc_Strongs_places_of pm_Strongs_places_of cd_Strongs_places_of ct_Strongs_places_of oc_Fix_applied kV_Fix_applied dc_Fix_applied pm_Fix_applied cd_Fix_applied ct_Fix_applied oc__law_deck kV__law_deck dc__law_deck pm__law_deck cd__law_deck ct__law_deck oc__law_draw kV__law_draw dc__law_draw pm__law_draw cd__law_draw ct__law_draw oc__law_one kV__law_one dc__law_one pm__law_one cd__law_one ct__law_one oc__law_names kV__law_names dc__law_names pm__law_names cd__law_names ct__law_names oc__law_words kV__law_words dc__law_words pm__law_words cd__law_words ct__law_words oc__law_test kV__law_test dc__law_test pm__law_test cd__law_test ct__law_test oc__law_plain kV__law_plain dc__law_plain pm__law_plain cd__law_plain ct__law_plain oc__law_body kV__law_body dc__law_body pm__law_body cd__law_body ct__law_body oc__law_program kV__law_program dc__law_program pm__law_program cd__law_program ct__law_program oc__law_count kV__law_count dc__law_count pm__law_count cd__law_count ct__law_count oc__law_fixed kV__law_fixed dc__law_fixed pm__law_fixed cd__law_fixed ct__law_fixed oc__law_refused kV__law_refused dc__law_refused pm__law_refused cd__law_refused ct__law_refused oc_law kV_law dc_law pm_law cd_law ct_law oc_NoPlaceU_initU kV_NoPlaceU_initU dc_NoPlaceU_initU pm_NoPlaceU_initU cd_NoPlaceU_initU ct_NoPlaceU_initU : Value} {xnm_NoPlace xq_NoPlace : Str} {xbs_NoPlace xsub_NoPlace : List Value} {xsn_NoPlace : List Str} {xab_NoPlace : Bool} {xcol_NoPlace : Option Bool} {xk0_NoPlace xk1_NoPlace xk2_NoPlace xk3_NoPlace xk5_NoPlace : Option Value}
    (aC_Fix : PySem.W.nsIn K mainGlobals "Fix" = some (some (.ref C_Fix)))
    (aC_Keeps : PySem.W.nsIn K mainGlobals "Keeps" = some (some (.ref C_Keeps)))
    (aC_Strongs : PySem.W.nsIn K mainGlobals "Strongs" = some (some (.ref C_Strongs)))
    (aC_GoneError : PySem.W.nsIn K mainGlobals "GoneError" = some (some (.ref C_GoneError)))
    (aC_NoVersion : PySem.W.nsIn K mainGlobals "NoVersion" = some (some (.ref C_NoVersion)))
    (aC_NoPlace : PySem.W.nsIn K mainGlobals "NoPlace" = some (some (.ref C_NoPlace)))
    (a_inner_blocks : PySem.W.nsIn K mainGlobals "inner_blocks" = some (some (.ref f_inner_blocks)))
    (a_listed : PySem.W.nsIn K mainGlobals "listed" = some (some (.ref f_listed)))
    (a_statements_of : PySem.W.nsIn K mainGlobals "statements_of" = some (some (.ref f_statements_of)))
    (a_places_with : PySem.W.nsIn K mainGlobals "places_with" = some (some (.ref f_places_with)))
    (a_make_places : PySem.W.nsIn K mainGlobals "make_places" = some (some (.ref f_make_places)))
    (a_weak_places : PySem.W.nsIn K mainGlobals "weak_places" = some (some (.ref f_weak_places)))
    (a__law_deck : PySem.W.nsIn K mainGlobals "_law_deck" = some (some (.ref f__law_deck)))
    (a__law_draw : PySem.W.nsIn K mainGlobals "_law_draw" = some (some (.ref f__law_draw)))
    (a__law_one : PySem.W.nsIn K mainGlobals "_law_one" = some (some (.ref f__law_one)))
    (a__law_names : PySem.W.nsIn K mainGlobals "_law_names" = some (some (.ref f__law_names)))
    (a__law_words : PySem.W.nsIn K mainGlobals "_law_words" = some (some (.ref f__law_words)))
    (a__law_test : PySem.W.nsIn K mainGlobals "_law_test" = some (some (.ref f__law_test)))
    (a__law_plain : PySem.W.nsIn K mainGlobals "_law_plain" = some (some (.ref f__law_plain)))
    (a__law_body : PySem.W.nsIn K mainGlobals "_law_body" = some (some (.ref f__law_body)))
    (a__law_program : PySem.W.nsIn K mainGlobals "_law_program" = some (some (.ref f__law_program)))
    (a__law_count : PySem.W.nsIn K mainGlobals "_law_count" = some (some (.ref f__law_count)))
    (a__law_fixed : PySem.W.nsIn K mainGlobals "_law_fixed" = some (some (.ref f__law_fixed)))
    (a__law_refused : PySem.W.nsIn K mainGlobals "_law_refused" = some (some (.ref f__law_refused)))
    (a_law : PySem.W.nsIn K mainGlobals "law" = some (some (.ref f_law)))
    (ma_Fix_applied : PySem.W.findIn K (.ref C_Fix) "applied" = some (some (.ref f_Fix_applied)))
    (ma_Fix_changed : PySem.W.findIn K (.ref C_Fix) "changed" = some (some (.ref f_Fix_changed)))
    (ma_Fix_places_of : PySem.W.findIn K (.ref C_Fix) "places_of" = some (some (.ref f_Fix_places_of)))
    (ma_Fix_rebuilt : PySem.W.findIn K (.ref C_Fix) "rebuilt" = some (some (.ref f_Fix_rebuilt)))
    (ma_Keeps_applied : PySem.W.findIn K (.ref C_Keeps) "applied" = some (some (.ref f_Fix_applied)))
    (ma_Keeps_changed : PySem.W.findIn K (.ref C_Keeps) "changed" = some (some (.ref f_Keeps_changed)))
    (ma_Keeps_places_of : PySem.W.findIn K (.ref C_Keeps) "places_of" = some (some (.ref f_Keeps_places_of)))
    (ma_Keeps_rebuilt : PySem.W.findIn K (.ref C_Keeps) "rebuilt" = some (some (.ref f_Fix_rebuilt)))
    (ma_Strongs_applied : PySem.W.findIn K (.ref C_Strongs) "applied" = some (some (.ref f_Fix_applied)))
    (ma_Strongs_changed : PySem.W.findIn K (.ref C_Strongs) "changed" = some (some (.ref f_Strongs_changed)))
    (ma_Strongs_places_of : PySem.W.findIn K (.ref C_Strongs) "places_of" = some (some (.ref f_Strongs_places_of)))
    (ma_Strongs_rebuilt : PySem.W.findIn K (.ref C_Strongs) "rebuilt" = some (some (.ref f_Fix_rebuilt)))
    (in_X_NoPlace : PySem.W.findIn K (.ref C_NoPlace) "__init__" = some (some (.ref f_NoPlaceU_initU)))
    (l_inner_blocks : K.lookup f_inner_blocks = some ⟨oc_inner_blocks, od_inner_blocks, .func (PySem.W.fnOf "inner_blocks" "inner_blocks" (defArgs st_inner_blocks) (defBody st_inner_blocks) (defScope st_inner_blocks) .none kV_inner_blocks dc_inner_blocks pm_inner_blocks an_inner_blocks cd_inner_blocks ct_inner_blocks), sl_inner_blocks⟩)
    (c_inner_blocks : PySem.W.codeIn K cd_inner_blocks "inner_blocks" = true)
    (k_inner_blocks : PySem.W.keepIn K (.ref f_inner_blocks) = true)
    (l_listed : K.lookup f_listed = some ⟨oc_listed, od_listed, .func (PySem.W.fnOf "listed" "listed" (defArgs st_listed) (defBody st_listed) (defScope st_listed) .none kV_listed dc_listed pm_listed an_listed cd_listed ct_listed), sl_listed⟩)
    (c_listed : PySem.W.codeIn K cd_listed "listed" = true)
    (k_listed : PySem.W.keepIn K (.ref f_listed) = true)
    (l_statements_of : K.lookup f_statements_of = some ⟨oc_statements_of, od_statements_of, .func (PySem.W.fnOf "statements_of" "statements_of" (defArgs st_statements_of) (defBody st_statements_of) (defScope st_statements_of) .none kV_statements_of dc_statements_of pm_statements_of an_statements_of cd_statements_of ct_statements_of), sl_statements_of⟩)
    (c_statements_of : PySem.W.codeIn K cd_statements_of "statements_of" = true)
    (k_statements_of : PySem.W.keepIn K (.ref f_statements_of) = true)
    (l_places_with : K.lookup f_places_with = some ⟨oc_places_with, od_places_with, .func (PySem.W.fnOf "places_with" "places_with" (defArgs st_places_with) (defBody st_places_with) (defScope st_places_with) .none kV_places_with dc_places_with pm_places_with an_places_with cd_places_with ct_places_with), sl_places_with⟩)
    (c_places_with : PySem.W.codeIn K cd_places_with "places_with" = true)
    (k_places_with : PySem.W.keepIn K (.ref f_places_with) = true)
    (l_make_places : K.lookup f_make_places = some ⟨oc_make_places, od_make_places, .func (PySem.W.fnOf "make_places" "make_places" (defArgs st_make_places) (defBody st_make_places) (defScope st_make_places) .none kV_make_places dc_make_places pm_make_places an_make_places cd_make_places ct_make_places), sl_make_places⟩)
    (c_make_places : PySem.W.codeIn K cd_make_places "make_places" = true)
    (k_make_places : PySem.W.keepIn K (.ref f_make_places) = true)
    (l_weak_places : K.lookup f_weak_places = some ⟨oc_weak_places, od_weak_places, .func (PySem.W.fnOf "weak_places" "weak_places" (defArgs st_weak_places) (defBody st_weak_places) (defScope st_weak_places) .none kV_weak_places dc_weak_places pm_weak_places an_weak_places cd_weak_places ct_weak_places), sl_weak_places⟩)
    (c_weak_places : PySem.W.codeIn K cd_weak_places "weak_places" = true)
    (k_weak_places : PySem.W.keepIn K (.ref f_weak_places) = true)
    (l_Fix_places_of : K.lookup f_Fix_places_of = some ⟨oc_Fix_places_of, od_Fix_places_of, .func (PySem.W.fnOf "places_of" "Fix.places_of" (defArgs st_Fix_places_of) (defBody st_Fix_places_of) (defScope st_Fix_places_of) .none kV_Fix_places_of dc_Fix_places_of pm_Fix_places_of an_Fix_places_of cd_Fix_places_of ct_Fix_places_of), sl_Fix_places_of⟩)
    (c_Fix_places_of : PySem.W.codeIn K cd_Fix_places_of "Fix.places_of" = true)
    (k_Fix_places_of : PySem.W.keepIn K (.ref f_Fix_places_of) = true)
    (l_Fix_changed : K.lookup f_Fix_changed = some ⟨oc_Fix_changed, od_Fix_changed, .func (PySem.W.fnOf "changed" "Fix.changed" (defArgs st_Fix_changed) (defBody st_Fix_changed) (defScope st_Fix_changed) .none kV_Fix_changed dc_Fix_changed pm_Fix_changed an_Fix_changed cd_Fix_changed ct_Fix_changed), sl_Fix_changed⟩)
    (c_Fix_changed : PySem.W.codeIn K cd_Fix_changed "Fix.changed" = true)
    (k_Fix_changed : PySem.W.keepIn K (.ref f_Fix_changed) = true)
    (l_Keeps_changed : K.lookup f_Keeps_changed = some ⟨oc_Keeps_changed, od_Keeps_changed, .func (PySem.W.fnOf "changed" "Keeps.changed" (defArgs st_Keeps_changed) (defBody st_Keeps_changed) (defScope st_Keeps_changed) .none kV_Keeps_changed dc_Keeps_changed pm_Keeps_changed an_Keeps_changed cd_Keeps_changed ct_Keeps_changed), sl_Keeps_changed⟩)
    (c_Keeps_changed : PySem.W.codeIn K cd_Keeps_changed "Keeps.changed" = true)
    (k_Keeps_changed : PySem.W.keepIn K (.ref f_Keeps_changed) = true)
    (l_Strongs_changed : K.lookup f_Strongs_changed = some ⟨oc_Strongs_changed, od_Strongs_changed, .func (PySem.W.fnOf "changed" "Strongs.changed" (defArgs st_Strongs_changed) (defBody st_Strongs_changed) (defScope st_Strongs_changed) .none kV_Strongs_changed dc_Strongs_changed pm_Strongs_changed an_Strongs_changed cd_Strongs_changed ct_Strongs_changed), sl_Strongs_changed⟩)
    (c_Strongs_changed : PySem.W.codeIn K cd_Strongs_changed "Strongs.changed" = true)
    (k_Strongs_changed : PySem.W.keepIn K (.ref f_Strongs_changed) = true)
    (l_Fix_rebuilt : K.lookup f_Fix_rebuilt = some ⟨oc_Fix_rebuilt, od_Fix_rebuilt, .func (PySem.W.fnOf "rebuilt" "Fix.rebuilt" (defArgs st_Fix_rebuilt) (defBody st_Fix_rebuilt) (defScope st_Fix_rebuilt) .none kV_Fix_rebuilt dc_Fix_rebuilt pm_Fix_rebuilt an_Fix_rebuilt cd_Fix_rebuilt ct_Fix_rebuilt), sl_Fix_rebuilt⟩)
    (c_Fix_rebuilt : PySem.W.codeIn K cd_Fix_rebuilt "Fix.rebuilt" = true)
    (k_Fix_rebuilt : PySem.W.keepIn K (.ref f_Fix_rebuilt) = true)
    (l_Keeps_places_of : K.lookup f_Keeps_places_of = some ⟨oc_Keeps_places_of, od_Keeps_places_of, .func (PySem.W.fnOf "places_of" "Keeps.places_of" (defArgs st_Keeps_places_of) (defBody st_Keeps_places_of) (defScope st_Keeps_places_of) .none kV_Keeps_places_of dc_Keeps_places_of pm_Keeps_places_of an_Keeps_places_of cd_Keeps_places_of ct_Keeps_places_of), sl_Keeps_places_of⟩)
    (c_Keeps_places_of : PySem.W.codeIn K cd_Keeps_places_of "Keeps.places_of" = true)
    (k_Keeps_places_of : PySem.W.keepIn K (.ref f_Keeps_places_of) = true)
    (l_Strongs_places_of : K.lookup f_Strongs_places_of = some ⟨oc_Strongs_places_of, od_Strongs_places_of, .func (PySem.W.fnOf "places_of" "Strongs.places_of" (defArgs st_Strongs_places_of) (defBody st_Strongs_places_of) (defScope st_Strongs_places_of) .none kV_Strongs_places_of dc_Strongs_places_of pm_Strongs_places_of an_Strongs_places_of cd_Strongs_places_of ct_Strongs_places_of), sl_Strongs_places_of⟩)
    (c_Strongs_places_of : PySem.W.codeIn K cd_Strongs_places_of "Strongs.places_of" = true)
    (k_Strongs_places_of : PySem.W.keepIn K (.ref f_Strongs_places_of) = true)
    (l_Fix_applied : K.lookup f_Fix_applied = some ⟨oc_Fix_applied, od_Fix_applied, .func (PySem.W.fnOf "applied" "Fix.applied" (defArgs st_Fix_applied) (defBody st_Fix_applied) (defScope st_Fix_applied) .none kV_Fix_applied dc_Fix_applied pm_Fix_applied an_Fix_applied cd_Fix_applied ct_Fix_applied), sl_Fix_applied⟩)
    (c_Fix_applied : PySem.W.codeIn K cd_Fix_applied "Fix.applied" = true)
    (k_Fix_applied : PySem.W.keepIn K (.ref f_Fix_applied) = true)
    (l__law_deck : K.lookup f__law_deck = some ⟨oc__law_deck, od__law_deck, .func (PySem.W.fnOf "_law_deck" "_law_deck" (defArgs st__law_deck) (defBody st__law_deck) (defScope st__law_deck) .none kV__law_deck dc__law_deck pm__law_deck an__law_deck cd__law_deck ct__law_deck), sl__law_deck⟩)
    (c__law_deck : PySem.W.codeIn K cd__law_deck "_law_deck" = true)
    (k__law_deck : PySem.W.keepIn K (.ref f__law_deck) = true)
    (l__law_draw : K.lookup f__law_draw = some ⟨oc__law_draw, od__law_draw, .func (PySem.W.fnOf "_law_draw" "_law_draw" (defArgs st__law_draw) (defBody st__law_draw) (defScope st__law_draw) .none kV__law_draw dc__law_draw pm__law_draw an__law_draw cd__law_draw ct__law_draw), sl__law_draw⟩)
    (c__law_draw : PySem.W.codeIn K cd__law_draw "_law_draw" = true)
    (k__law_draw : PySem.W.keepIn K (.ref f__law_draw) = true)
    (l__law_one : K.lookup f__law_one = some ⟨oc__law_one, od__law_one, .func (PySem.W.fnOf "_law_one" "_law_one" (defArgs st__law_one) (defBody st__law_one) (defScope st__law_one) .none kV__law_one dc__law_one pm__law_one an__law_one cd__law_one ct__law_one), sl__law_one⟩)
    (c__law_one : PySem.W.codeIn K cd__law_one "_law_one" = true)
    (k__law_one : PySem.W.keepIn K (.ref f__law_one) = true)
    (l__law_names : K.lookup f__law_names = some ⟨oc__law_names, od__law_names, .func (PySem.W.fnOf "_law_names" "_law_names" (defArgs st__law_names) (defBody st__law_names) (defScope st__law_names) .none kV__law_names dc__law_names pm__law_names an__law_names cd__law_names ct__law_names), sl__law_names⟩)
    (c__law_names : PySem.W.codeIn K cd__law_names "_law_names" = true)
    (k__law_names : PySem.W.keepIn K (.ref f__law_names) = true)
    (l__law_words : K.lookup f__law_words = some ⟨oc__law_words, od__law_words, .func (PySem.W.fnOf "_law_words" "_law_words" (defArgs st__law_words) (defBody st__law_words) (defScope st__law_words) .none kV__law_words dc__law_words pm__law_words an__law_words cd__law_words ct__law_words), sl__law_words⟩)
    (c__law_words : PySem.W.codeIn K cd__law_words "_law_words" = true)
    (k__law_words : PySem.W.keepIn K (.ref f__law_words) = true)
    (l__law_test : K.lookup f__law_test = some ⟨oc__law_test, od__law_test, .func (PySem.W.fnOf "_law_test" "_law_test" (defArgs st__law_test) (defBody st__law_test) (defScope st__law_test) .none kV__law_test dc__law_test pm__law_test an__law_test cd__law_test ct__law_test), sl__law_test⟩)
    (c__law_test : PySem.W.codeIn K cd__law_test "_law_test" = true)
    (k__law_test : PySem.W.keepIn K (.ref f__law_test) = true)
    (l__law_plain : K.lookup f__law_plain = some ⟨oc__law_plain, od__law_plain, .func (PySem.W.fnOf "_law_plain" "_law_plain" (defArgs st__law_plain) (defBody st__law_plain) (defScope st__law_plain) .none kV__law_plain dc__law_plain pm__law_plain an__law_plain cd__law_plain ct__law_plain), sl__law_plain⟩)
    (c__law_plain : PySem.W.codeIn K cd__law_plain "_law_plain" = true)
    (k__law_plain : PySem.W.keepIn K (.ref f__law_plain) = true)
    (l__law_body : K.lookup f__law_body = some ⟨oc__law_body, od__law_body, .func (PySem.W.fnOf "_law_body" "_law_body" (defArgs st__law_body) (defBody st__law_body) (defScope st__law_body) .none kV__law_body dc__law_body pm__law_body an__law_body cd__law_body ct__law_body), sl__law_body⟩)
    (c__law_body : PySem.W.codeIn K cd__law_body "_law_body" = true)
    (k__law_body : PySem.W.keepIn K (.ref f__law_body) = true)
    (l__law_program : K.lookup f__law_program = some ⟨oc__law_program, od__law_program, .func (PySem.W.fnOf "_law_program" "_law_program" (defArgs st__law_program) (defBody st__law_program) (defScope st__law_program) .none kV__law_program dc__law_program pm__law_program an__law_program cd__law_program ct__law_program), sl__law_program⟩)
    (c__law_program : PySem.W.codeIn K cd__law_program "_law_program" = true)
    (k__law_program : PySem.W.keepIn K (.ref f__law_program) = true)
    (l__law_count : K.lookup f__law_count = some ⟨oc__law_count, od__law_count, .func (PySem.W.fnOf "_law_count" "_law_count" (defArgs st__law_count) (defBody st__law_count) (defScope st__law_count) .none kV__law_count dc__law_count pm__law_count an__law_count cd__law_count ct__law_count), sl__law_count⟩)
    (c__law_count : PySem.W.codeIn K cd__law_count "_law_count" = true)
    (k__law_count : PySem.W.keepIn K (.ref f__law_count) = true)
    (l__law_fixed : K.lookup f__law_fixed = some ⟨oc__law_fixed, od__law_fixed, .func (PySem.W.fnOf "_law_fixed" "_law_fixed" (defArgs st__law_fixed) (defBody st__law_fixed) (defScope st__law_fixed) .none kV__law_fixed dc__law_fixed pm__law_fixed an__law_fixed cd__law_fixed ct__law_fixed), sl__law_fixed⟩)
    (c__law_fixed : PySem.W.codeIn K cd__law_fixed "_law_fixed" = true)
    (k__law_fixed : PySem.W.keepIn K (.ref f__law_fixed) = true)
    (l__law_refused : K.lookup f__law_refused = some ⟨oc__law_refused, od__law_refused, .func (PySem.W.fnOf "_law_refused" "_law_refused" (defArgs st__law_refused) (defBody st__law_refused) (defScope st__law_refused) .none kV__law_refused dc__law_refused pm__law_refused an__law_refused cd__law_refused ct__law_refused), sl__law_refused⟩)
    (c__law_refused : PySem.W.codeIn K cd__law_refused "_law_refused" = true)
    (k__law_refused : PySem.W.keepIn K (.ref f__law_refused) = true)
    (l_law : K.lookup f_law = some ⟨oc_law, od_law, .func (PySem.W.fnOf "law" "law" (defArgs st_law) (defBody st_law) (defScope st_law) .none kV_law dc_law pm_law an_law cd_law ct_law), sl_law⟩)
    (c_law : PySem.W.codeIn K cd_law "law" = true)
    (k_law : PySem.W.keepIn K (.ref f_law) = true)
    (l_NoPlaceU_initU : K.lookup f_NoPlaceU_initU = some ⟨oc_NoPlaceU_initU, od_NoPlaceU_initU, .func (PySem.W.fnOf "__init__" "NoPlace.__init__" (defArgs st_NoPlaceU_initU) (defBody st_NoPlaceU_initU) (defScope st_NoPlaceU_initU) .none kV_NoPlaceU_initU dc_NoPlaceU_initU pm_NoPlaceU_initU an_NoPlaceU_initU cd_NoPlaceU_initU ct_NoPlaceU_initU), sl_NoPlaceU_initU⟩)
    (c_NoPlaceU_initU : PySem.W.codeIn K cd_NoPlaceU_initU "NoPlace.__init__" = true)
    (k_NoPlaceU_initU : PySem.W.keepIn K (.ref f_NoPlaceU_initU) = true)
    (pg_Fix : PySem.W.plainGet K C_Fix Str.empty = true)
    (hd_Fix : PySem.W.hasDictIn K C_Fix = true)
    (po_Fix : PySem.W.plainOver K C_Fix = true)
    (sa_Fix : PySem.W.findIn K (.ref C_Fix) "__setattr__" = some (some (.builtin "object.__setattr__")))
    (mm_Fix : PySem.W.makesIn K C_Fix = true)
    (kc_Fix : PySem.W.keepIn K (.ref C_Fix) = true)
    (ib_Fix : PySem.W.findIn K (.ref C_Fix) "__init__" = some (some (.builtin "object.__init__")))
    (mo_Fix : PySem.W.mroIn K C_Fix (.type "object") = some true)
    (mi_Fix_applied : PySem.W.isFn K (.ref f_Fix_applied) = true)
    (mi_Fix_changed : PySem.W.isFn K (.ref f_Fix_changed) = true)
    (mi_Fix_places_of : PySem.W.isFn K (.ref f_Fix_places_of) = true)
    (mi_Fix_rebuilt : PySem.W.isFn K (.ref f_Fix_rebuilt) = true)
    (pg_Keeps : PySem.W.plainGet K C_Keeps Str.empty = true)
    (hd_Keeps : PySem.W.hasDictIn K C_Keeps = true)
    (po_Keeps : PySem.W.plainOver K C_Keeps = true)
    (sa_Keeps : PySem.W.findIn K (.ref C_Keeps) "__setattr__" = some (some (.builtin "object.__setattr__")))
    (mm_Keeps : PySem.W.makesIn K C_Keeps = true)
    (kc_Keeps : PySem.W.keepIn K (.ref C_Keeps) = true)
    (ib_Keeps : PySem.W.findIn K (.ref C_Keeps) "__init__" = some (some (.builtin "object.__init__")))
    (mo_Keeps : PySem.W.mroIn K C_Keeps (.type "object") = some true)
    (mi_Keeps_applied : PySem.W.isFn K (.ref f_Fix_applied) = true)
    (mi_Keeps_changed : PySem.W.isFn K (.ref f_Keeps_changed) = true)
    (mi_Keeps_places_of : PySem.W.isFn K (.ref f_Keeps_places_of) = true)
    (mi_Keeps_rebuilt : PySem.W.isFn K (.ref f_Fix_rebuilt) = true)
    (pg_Strongs : PySem.W.plainGet K C_Strongs Str.empty = true)
    (hd_Strongs : PySem.W.hasDictIn K C_Strongs = true)
    (po_Strongs : PySem.W.plainOver K C_Strongs = true)
    (sa_Strongs : PySem.W.findIn K (.ref C_Strongs) "__setattr__" = some (some (.builtin "object.__setattr__")))
    (mm_Strongs : PySem.W.makesIn K C_Strongs = true)
    (kc_Strongs : PySem.W.keepIn K (.ref C_Strongs) = true)
    (ib_Strongs : PySem.W.findIn K (.ref C_Strongs) "__init__" = some (some (.builtin "object.__init__")))
    (mo_Strongs : PySem.W.mroIn K C_Strongs (.type "object") = some true)
    (mi_Strongs_applied : PySem.W.isFn K (.ref f_Fix_applied) = true)
    (mi_Strongs_changed : PySem.W.isFn K (.ref f_Strongs_changed) = true)
    (mi_Strongs_places_of : PySem.W.isFn K (.ref f_Strongs_places_of) = true)
    (mi_Strongs_rebuilt : PySem.W.isFn K (.ref f_Fix_rebuilt) = true)
    (xl_NoPlace : K.lookup C_NoPlace = some (excClassObj xnm_NoPlace xq_NoPlace C_NoPlace xN_NoPlace xbs_NoPlace [.type "LookupError", .type "Exception", .type "BaseException", .type "object"] true xsn_NoPlace xsub_NoPlace xab_NoPlace xcol_NoPlace xdd_NoPlace xk0_NoPlace xk1_NoPlace xk2_NoPlace xk3_NoPlace xk5_NoPlace "LookupError.__new__"))
    (xsa_NoPlace : PySem.W.findIn K (.ref C_NoPlace) "__setattr__" = some (some (.builtin "object.__setattr__")))
    (xga_NoPlace : PySem.W.findIn K (.ref C_NoPlace) "__getattribute__" = some (some (.builtin "BaseException.__getattribute__")))
    (xgg_NoPlace : PySem.W.findIn K (.ref C_NoPlace) "__getattr__" = some none)
    (xno_NoPlace : PySem.W.findIn K (.ref C_NoPlace) "place" = some none)
    (xkc_NoPlace : PySem.W.keepIn K (.ref C_NoPlace) = true)
    (xex_NoPlace : PySem.W.subIn K (.ref C_NoPlace) (.type "BaseException") = some true)
    (xty_NoPlace : PySem.W.typeIn K (.ref C_NoPlace) = some (.type "type"))
    (xhd_NoPlace : PySem.W.hasDictIn K C_NoPlace = true)
    (xti_NoPlace : PySem.W.typeIn K (.ref f_NoPlaceU_initU) = some (.type "function"))
    (em_NoPlace_NoPlace : PySem.W.exmOne K (.ref C_NoPlace) (.ref C_NoPlace) = some true)
    (nf_NoPlace_NoPlace_place : PySem.W.findIn K (.ref C_NoPlace) "place" = some none)
    (xca_NoPlace : PySem.W.findIn K (.ref C_NoPlace) "__class__" = some (some (.builtin "object.__class__")))
    (xmr_NoPlace : PySem.W.mroIn K C_NoPlace (.type "object") = some true)
    (xgs : PySem.W.specialIn K (.builtin "object.__class__") "__get__" = some (some (.builtin "getset_descriptor.__get__")))
    (xtk : PySem.W.takesIn K (.builtin "object.__class__") = some true)
    (ki_0_NoPlace : PySem.W.kitOne K (.ref C_NoPlace) (.type "LookupError") = some true)
    (ki_1_NoPlace : PySem.W.kitAny K (.ref C_NoPlace) [.ref C_GoneError, .type "ValueError", .ref C_NoVersion] = some false)
    (z_LookupError : PySem.W.nsIn K mainGlobals "LookupError" = some none)
    (z_ValueError : PySem.W.nsIn K mainGlobals "ValueError" = some none)
    (z_abs : PySem.W.nsIn K mainGlobals "abs" = some none)
    (z_dict : PySem.W.nsIn K mainGlobals "dict" = some none)
    (z_enumerate : PySem.W.nsIn K mainGlobals "enumerate" = some none)
    (z_int : PySem.W.nsIn K mainGlobals "int" = some none)
    (z_isinstance : PySem.W.nsIn K mainGlobals "isinstance" = some none)
    (z_len : PySem.W.nsIn K mainGlobals "len" = some none)
    (z_list : PySem.W.nsIn K mainGlobals "list" = some none)
    (z_range : PySem.W.nsIn K mainGlobals "range" = some none)
    (z_repr : PySem.W.nsIn K mainGlobals "repr" = some none)
    (z_sorted : PySem.W.nsIn K mainGlobals "sorted" = some none)
    (z_str : PySem.W.nsIn K mainGlobals "str" = some none)
    (z_sum : PySem.W.nsIn K mainGlobals "sum" = some none)
    (z_tuple : PySem.W.nsIn K mainGlobals "tuple" = some none) :
    ∃ (T : Tb) (fd : FuncData), T.K = K ∧ (∀ (s : Shared) (u : Value), BindsTo s fd ⟨[u], []⟩ [("_law_script", u)]) ∧ ∀ base : Heap, T.K.In base → base.Ns mainGlobals mg → FnG l.prog w T.K mg base 28 fa fd ["_law_script"] (SpM T 1 m_law) := by
  have e := hfa.symm.trans (PySem.W.mg_of X G a_law)
  cases e
  have F_inner_blocks := fun_mk (st := st_inner_blocks) l_inner_blocks c_inner_blocks k_inner_blocks
  have b_inner_blocks := F_inner_blocks.binds (ps := ["statement"]) fun _ _ _ _ _ _ us hl => match us, hl with | [_], _ => rfl
  have F_listed := fun_mk (st := st_listed) l_listed c_listed k_listed
  have b_listed := F_listed.binds (ps := ["block", "depth"]) fun _ _ _ _ _ _ us hl => match us, hl with | [_, _], _ => rfl
  have F_statements_of := fun_mk (st := st_statements_of) l_statements_of c_statements_of k_statements_of
  have b_statements_of := F_statements_of.binds (ps := ["program"]) fun _ _ _ _ _ _ us hl => match us, hl with | [_], _ => rfl
  have F_places_with := fun_mk (st := st_places_with) l_places_with c_places_with k_places_with
  have b_places_with := F_places_with.binds (ps := ["program", "word"]) fun _ _ _ _ _ _ us hl => match us, hl with | [_, _], _ => rfl
  have F_make_places := fun_mk (st := st_make_places) l_make_places c_make_places k_make_places
  have b_make_places := F_make_places.binds (ps := ["program"]) fun _ _ _ _ _ _ us hl => match us, hl with | [_], _ => rfl
  have F_weak_places := fun_mk (st := st_weak_places) l_weak_places c_weak_places k_weak_places
  have b_weak_places := F_weak_places.binds (ps := ["program"]) fun _ _ _ _ _ _ us hl => match us, hl with | [_], _ => rfl
  have F_Fix_places_of := fun_mk (st := st_Fix_places_of) l_Fix_places_of c_Fix_places_of k_Fix_places_of
  have b_Fix_places_of := F_Fix_places_of.binds (ps := ["self", "program"]) fun _ _ _ _ _ _ us hl => match us, hl with | [_, _], _ => rfl
  have F_Fix_changed := fun_mk (st := st_Fix_changed) l_Fix_changed c_Fix_changed k_Fix_changed
  have b_Fix_changed := F_Fix_changed.binds (ps := ["self", "statement"]) fun _ _ _ _ _ _ us hl => match us, hl with | [_, _], _ => rfl
  have F_Keeps_changed := fun_mk (st := st_Keeps_changed) l_Keeps_changed c_Keeps_changed k_Keeps_changed
  have b_Keeps_changed := F_Keeps_changed.binds (ps := ["self", "statement"]) fun _ _ _ _ _ _ us hl => match us, hl with | [_, _], _ => rfl
  have F_Strongs_changed := fun_mk (st := st_Strongs_changed) l_Strongs_changed c_Strongs_changed k_Strongs_changed
  have b_Strongs_changed := F_Strongs_changed.binds (ps := ["self", "statement"]) fun _ _ _ _ _ _ us hl => match us, hl with | [_, _], _ => rfl
  have F_Fix_rebuilt := fun_mk (st := st_Fix_rebuilt) l_Fix_rebuilt c_Fix_rebuilt k_Fix_rebuilt
  have b_Fix_rebuilt := F_Fix_rebuilt.binds (ps := ["self", "block", "place", "places"]) fun _ _ _ _ _ _ us hl => match us, hl with | [_, _, _, _], _ => rfl
  have F_Keeps_places_of := fun_mk (st := st_Keeps_places_of) l_Keeps_places_of c_Keeps_places_of k_Keeps_places_of
  have b_Keeps_places_of := F_Keeps_places_of.binds (ps := ["self", "program"]) fun _ _ _ _ _ _ us hl => match us, hl with | [_, _], _ => rfl
  have F_Strongs_places_of := fun_mk (st := st_Strongs_places_of) l_Strongs_places_of c_Strongs_places_of k_Strongs_places_of
  have b_Strongs_places_of := F_Strongs_places_of.binds (ps := ["self", "program"]) fun _ _ _ _ _ _ us hl => match us, hl with | [_, _], _ => rfl
  have F_Fix_applied := fun_mk (st := st_Fix_applied) l_Fix_applied c_Fix_applied k_Fix_applied
  have b_Fix_applied := F_Fix_applied.binds (ps := ["self", "program", "places"]) fun _ _ _ _ _ _ us hl => match us, hl with | [_, _, _], _ => rfl
  have F__law_deck := fun_mk (st := st__law_deck) l__law_deck c__law_deck k__law_deck
  have b__law_deck := F__law_deck.binds (ps := ["_law_script"]) fun _ _ _ _ _ _ us hl => match us, hl with | [_], _ => rfl
  have F__law_draw := fun_mk (st := st__law_draw) l__law_draw c__law_draw k__law_draw
  have b__law_draw := F__law_draw.binds (ps := ["_law_deck_here", "_law_many"]) fun _ _ _ _ _ _ us hl => match us, hl with | [_, _], _ => rfl
  have F__law_one := fun_mk (st := st__law_one) l__law_one c__law_one k__law_one
  have b__law_one := F__law_one.binds (ps := ["_law_deck_here", "_law_items"]) fun _ _ _ _ _ _ us hl => match us, hl with | [_, _], _ => rfl
  have F__law_names := fun_mk (st := st__law_names) l__law_names c__law_names k__law_names
  have b__law_names := F__law_names.binds (ps := ["_law_deck_here", "_law_count_here"]) fun _ _ _ _ _ _ us hl => match us, hl with | [_, _], _ => rfl
  have F__law_words := fun_mk (st := st__law_words) l__law_words c__law_words k__law_words
  have b__law_words := F__law_words.binds (ps := ["_law_deck_here", "_law_count_here"]) fun _ _ _ _ _ _ us hl => match us, hl with | [_, _], _ => rfl
  have F__law_test := fun_mk (st := st__law_test) l__law_test c__law_test k__law_test
  have b__law_test := F__law_test.binds (ps := ["_law_deck_here", "_law_pool", "_law_olds"]) fun _ _ _ _ _ _ us hl => match us, hl with | [_, _, _], _ => rfl
  have F__law_plain := fun_mk (st := st__law_plain) l__law_plain c__law_plain k__law_plain
  have b__law_plain := F__law_plain.binds (ps := ["_law_deck_here", "_law_pool", "_law_held"]) fun _ _ _ _ _ _ us hl => match us, hl with | [_, _, _], _ => rfl
  have F__law_body := fun_mk (st := st__law_body) l__law_body c__law_body k__law_body
  have b__law_body := F__law_body.binds (ps := ["_law_deck_here", "_law_pool", "_law_held", "_law_left", "_law_shape"]) fun _ _ _ _ _ _ us hl => match us, hl with | [_, _, _, _, _], _ => rfl
  have F__law_program := fun_mk (st := st__law_program) l__law_program c__law_program k__law_program
  have b__law_program := F__law_program.binds (ps := ["_law_deck_here", "_law_shape"]) fun _ _ _ _ _ _ us hl => match us, hl with | [_, _], _ => rfl
  have F__law_count := fun_mk (st := st__law_count) l__law_count c__law_count k__law_count
  have b__law_count := F__law_count.binds (ps := ["_law_block"]) fun _ _ _ _ _ _ us hl => match us, hl with | [_], _ => rfl
  have F__law_fixed := fun_mk (st := st__law_fixed) l__law_fixed c__law_fixed k__law_fixed
  have b__law_fixed := F__law_fixed.binds (ps := ["_law_fix", "_law_block", "_law_place", "_law_places"]) fun _ _ _ _ _ _ us hl => match us, hl with | [_, _, _, _], _ => rfl
  have F__law_refused := fun_mk (st := st__law_refused) l__law_refused c__law_refused k__law_refused
  have b__law_refused := F__law_refused.binds (ps := ["_law_fix", "_law_program_here", "_law_places"]) fun _ _ _ _ _ _ us hl => match us, hl with | [_, _, _], _ => rfl
  have F_law := fun_mk (st := st_law) l_law c_law k_law
  have b_law := F_law.binds (ps := ["_law_script"]) fun _ _ _ _ _ _ us hl => match us, hl with | [_], _ => rfl
  have F_NoPlaceU_initU := fun_mk (st := st_NoPlaceU_initU) l_NoPlaceU_initU c_NoPlaceU_initU k_NoPlaceU_initU
  have b_NoPlaceU_initU := F_NoPlaceU_initU.binds (ps := ["self", "place"]) fun _ _ _ _ _ _ us hl => match us, hl with | [_, _], _ => rfl
  have ox_NoPlace : OxT K mg "NoPlace" "place" C_NoPlace f_NoPlaceU_initU := ⟨PySem.W.mg_of X G aC_NoPlace, ⟨_, _, _, _, _, _, _, _, _, _, _, _, _, _, _, _, _, _, _, PySem.F.excBase_LookupError, xl_NoPlace, fun _ => rfl, fun v => by simp only [refuseLoop_ref]; exact PySem.F.store_LookupError.passes v, rfl⟩, xsa_NoPlace, xga_NoPlace, xgg_NoPlace, xno_NoPlace, in_X_NoPlace, xti_NoPlace, xkc_NoPlace, xex_NoPlace, xty_NoPlace, xhd_NoPlace, ⟨_, _, _, _, _, _, _, _, F_NoPlaceU_initU, b_NoPlaceU_initU, rfl, rfl, rfl, by decide, by decide, rfl, rfl, rfl⟩⟩
  let Z : TX K mg := { C_Fix := C_Fix, C_Keeps := C_Keeps, C_Strongs := C_Strongs, C_GoneError := C_GoneError, gc_GoneError := PySem.W.mg_of X G aC_GoneError, C_NoVersion := C_NoVersion, gc_NoVersion := PySem.W.mg_of X G aC_NoVersion, is_NoPlace := ⟨xga_NoPlace, xgg_NoPlace, xex_NoPlace, xhd_NoPlace, xca_NoPlace, xgs, xtk, xmr_NoPlace⟩, ki_0_NoPlace := ki_0_NoPlace, ki_1_NoPlace := ki_1_NoPlace, C_NoPlace := C_NoPlace, gc_NoPlace := PySem.W.mg_of X G aC_NoPlace, ox_NoPlace := ox_NoPlace, em_NoPlace_NoPlace := em_NoPlace_NoPlace, xc_NoPlace_NoPlace := ⟨xga_NoPlace, xgg_NoPlace, xex_NoPlace, xhd_NoPlace⟩, nf_NoPlace_NoPlace_place := nf_NoPlace_NoPlace_place, f_inner_blocks := _, d_inner_blocks := _, F_inner_blocks := F_inner_blocks, b_inner_blocks := b_inner_blocks, g_inner_blocks := PySem.W.mg_of X G a_inner_blocks, f_listed := _, d_listed := _, F_listed := F_listed, b_listed := b_listed, g_listed := PySem.W.mg_of X G a_listed, f_statements_of := _, d_statements_of := _, F_statements_of := F_statements_of, b_statements_of := b_statements_of, g_statements_of := PySem.W.mg_of X G a_statements_of, f_places_with := _, d_places_with := _, F_places_with := F_places_with, b_places_with := b_places_with, g_places_with := PySem.W.mg_of X G a_places_with, f_make_places := _, d_make_places := _, F_make_places := F_make_places, b_make_places := b_make_places, g_make_places := PySem.W.mg_of X G a_make_places, f_weak_places := _, d_weak_places := _, F_weak_places := F_weak_places, b_weak_places := b_weak_places, g_weak_places := PySem.W.mg_of X G a_weak_places, f_Fix_places_of := _, d_Fix_places_of := _, F_Fix_places_of := F_Fix_places_of, b_Fix_places_of := b_Fix_places_of, f_Fix_changed := _, d_Fix_changed := _, F_Fix_changed := F_Fix_changed, b_Fix_changed := b_Fix_changed, f_Keeps_changed := _, d_Keeps_changed := _, F_Keeps_changed := F_Keeps_changed, b_Keeps_changed := b_Keeps_changed, f_Strongs_changed := _, d_Strongs_changed := _, F_Strongs_changed := F_Strongs_changed, b_Strongs_changed := b_Strongs_changed, f_Fix_rebuilt := _, d_Fix_rebuilt := _, F_Fix_rebuilt := F_Fix_rebuilt, b_Fix_rebuilt := b_Fix_rebuilt, f_Keeps_places_of := _, d_Keeps_places_of := _, F_Keeps_places_of := F_Keeps_places_of, b_Keeps_places_of := b_Keeps_places_of, f_Strongs_places_of := _, d_Strongs_places_of := _, F_Strongs_places_of := F_Strongs_places_of, b_Strongs_places_of := b_Strongs_places_of, f_Fix_applied := _, d_Fix_applied := _, F_Fix_applied := F_Fix_applied, b_Fix_applied := b_Fix_applied, f__law_deck := _, d__law_deck := _, F__law_deck := F__law_deck, b__law_deck := b__law_deck, g__law_deck := PySem.W.mg_of X G a__law_deck, f__law_draw := _, d__law_draw := _, F__law_draw := F__law_draw, b__law_draw := b__law_draw, g__law_draw := PySem.W.mg_of X G a__law_draw, f__law_one := _, d__law_one := _, F__law_one := F__law_one, b__law_one := b__law_one, g__law_one := PySem.W.mg_of X G a__law_one, f__law_names := _, d__law_names := _, F__law_names := F__law_names, b__law_names := b__law_names, g__law_names := PySem.W.mg_of X G a__law_names, f__law_words := _, d__law_words := _, F__law_words := F__law_words, b__law_words := b__law_words, g__law_words := PySem.W.mg_of X G a__law_words, f__law_test := _, d__law_test := _, F__law_test := F__law_test, b__law_test := b__law_test, g__law_test := PySem.W.mg_of X G a__law_test, f__law_plain := _, d__law_plain := _, F__law_plain := F__law_plain, b__law_plain := b__law_plain, g__law_plain := PySem.W.mg_of X G a__law_plain, f__law_body := _, d__law_body := _, F__law_body := F__law_body, b__law_body := b__law_body, g__law_body := PySem.W.mg_of X G a__law_body, f__law_program := _, d__law_program := _, F__law_program := F__law_program, b__law_program := b__law_program, g__law_program := PySem.W.mg_of X G a__law_program, f__law_count := _, d__law_count := _, F__law_count := F__law_count, b__law_count := b__law_count, g__law_count := PySem.W.mg_of X G a__law_count, f__law_fixed := _, d__law_fixed := _, F__law_fixed := F__law_fixed, b__law_fixed := b__law_fixed, g__law_fixed := PySem.W.mg_of X G a__law_fixed, f__law_refused := _, d__law_refused := _, F__law_refused := F__law_refused, b__law_refused := b__law_refused, g__law_refused := PySem.W.mg_of X G a__law_refused, f_law := _, d_law := _, F_law := F_law, b_law := b_law, g_law := PySem.W.mg_of X G a_law, f_NoPlaceU_initU := _, d_NoPlaceU_initU := _, F_NoPlaceU_initU := F_NoPlaceU_initU, b_NoPlaceU_initU := b_NoPlaceU_initU, cl_Fix := ⟨pg_Fix, hd_Fix, po_Fix, sa_Fix⟩, gc_Fix := PySem.W.mg_of X G aC_Fix, mb_Fix := ⟨mm_Fix, ib_Fix, mo_Fix, kc_Fix⟩, mt_Fix_applied := ⟨ma_Fix_applied, mi_Fix_applied, k_Fix_applied⟩, mt_Fix_changed := ⟨ma_Fix_changed, mi_Fix_changed, k_Fix_changed⟩, mt_Fix_places_of := ⟨ma_Fix_places_of, mi_Fix_places_of, k_Fix_places_of⟩, mt_Fix_rebuilt := ⟨ma_Fix_rebuilt, mi_Fix_rebuilt, k_Fix_rebuilt⟩, cl_Keeps := ⟨pg_Keeps, hd_Keeps, po_Keeps, sa_Keeps⟩, gc_Keeps := PySem.W.mg_of X G aC_Keeps, mb_Keeps := ⟨mm_Keeps, ib_Keeps, mo_Keeps, kc_Keeps⟩, mt_Keeps_applied := ⟨ma_Keeps_applied, mi_Keeps_applied, k_Fix_applied⟩, mt_Keeps_changed := ⟨ma_Keeps_changed, mi_Keeps_changed, k_Keeps_changed⟩, mt_Keeps_places_of := ⟨ma_Keeps_places_of, mi_Keeps_places_of, k_Keeps_places_of⟩, mt_Keeps_rebuilt := ⟨ma_Keeps_rebuilt, mi_Keeps_rebuilt, k_Fix_rebuilt⟩, cl_Strongs := ⟨pg_Strongs, hd_Strongs, po_Strongs, sa_Strongs⟩, gc_Strongs := PySem.W.mg_of X G aC_Strongs, mb_Strongs := ⟨mm_Strongs, ib_Strongs, mo_Strongs, kc_Strongs⟩, mt_Strongs_applied := ⟨ma_Strongs_applied, mi_Strongs_applied, k_Fix_applied⟩, mt_Strongs_changed := ⟨ma_Strongs_changed, mi_Strongs_changed, k_Strongs_changed⟩, mt_Strongs_places_of := ⟨ma_Strongs_places_of, mi_Strongs_places_of, k_Strongs_places_of⟩, mt_Strongs_rebuilt := ⟨ma_Strongs_rebuilt, mi_Strongs_rebuilt, k_Fix_rebuilt⟩, n_LookupError := PySem.W.mg_none_of X G z_LookupError, n_ValueError := PySem.W.mg_none_of X G z_ValueError, n_abs := PySem.W.mg_none_of X G z_abs, n_dict := PySem.W.mg_none_of X G z_dict, n_enumerate := PySem.W.mg_none_of X G z_enumerate, n_int := PySem.W.mg_none_of X G z_int, n_isinstance := PySem.W.mg_none_of X G z_isinstance, n_len := PySem.W.mg_none_of X G z_len, n_list := PySem.W.mg_none_of X G z_list, n_range := PySem.W.mg_none_of X G z_range, n_repr := PySem.W.mg_none_of X G z_repr, n_sorted := PySem.W.mg_none_of X G z_sorted, n_str := PySem.W.mg_none_of X G z_str, n_sum := PySem.W.mg_none_of X G z_sum, n_tuple := PySem.W.mg_none_of X G z_tuple }
  exact ⟨Z.T w, Z.d_law, rfl, fun s u => .of_eq rfl, fun base _ _ => sim_law Z⟩
end K79

/-! S13: how pure programs are computed: weakest preconditions -/
namespace Sm
open PySem L2
/-- a mark that keeps simp from what it speaks of -/
inductive Tg {α : Type} (x : α) : Type where
  | a | b
/-- behind an expression: the value and the store (Q), or an exception (E) -/
def WE0 {α : Type} (m : M α) (s : Sto) (Q : α → Sto → Prop) (E : Ex → Sto → Prop) : Prop := match m s with
  | .ok a s' => Q a s'
  | .exc e s' => E e s'
  | .fail => False
structure WE {α : Type} (m : M α) (s : Sto) (Q : α → Sto → Prop) (E : Ex → Sto → Prop) (_ : Tg (Q, E) := .a) : Prop where
  h : WE0 m s Q E
theorem WE_eq {α : Type} {m : M α} {s : Sto} {Q : α → Sto → Prop} {E : Ex → Sto → Prop} : WE m s Q E = WE0 m s Q E := propext ⟨fun x => x.h, fun x => ⟨x⟩⟩
/-- behind a statement -/
structure RK where
  nx : Lo → Sto → Prop
  rt : Vl → Sto → Prop
  bk : Lo → Sto → Prop
  ct : Lo → Sto → Prop
  ex : Ex → Lo → Sto → Prop
def WS0 (b : SM) (lo : Lo) (s : Sto) (K : RK) : Prop := match b lo s with
  | .nx lo s => K.nx lo s
  | .rt v s => K.rt v s
  | .bk lo s => K.bk lo s
  | .ct lo s => K.ct lo s
  | .exc e lo s => K.ex e lo s
  | .fail => False
structure WS (b : SM) (lo : Lo) (s : Sto) (K : RK) (_ : Tg K := .a) : Prop where
  h : WS0 b lo s K
theorem WS_eq {b : SM} {lo : Lo} {s : Sto} {K : RK} : WS b lo s K = WS0 b lo s K := propext ⟨fun x => x.h, fun x => ⟨x⟩⟩
def WO0 {α : Type} (o : Option (α × Sto)) (Q : α → Sto → Prop) : Prop := match o with
  | some (a, s) => Q a s
  | none => False
structure WO {α : Type} (o : Option (α × Sto)) (Q : α → Sto → Prop) (_ : Tg Q := .a) : Prop where
  h : WO0 o Q
theorem WO_eq {α : Type} {o : Option (α × Sto)} {Q : α → Sto → Prop} : WO o Q = WO0 o Q := propext ⟨fun x => x.h, fun x => ⟨x⟩⟩
theorem WE_ext {α : Type} {m : M α} {s : Sto} {Q Q' : α → Sto → Prop} {E : Ex → Sto → Prop} (h : ∀ a s, Q a s = Q' a s) : WE m s Q E = WE m s Q' E := by
  have : Q = Q' := funext fun a => funext fun s => h a s
  subst this
  rfl
abbrev NoX : Ex → Sto → Prop := fun _ _ => False
theorem WE.mono {α : Type} {m : M α} {s : Sto} {Q Q' : α → Sto → Prop} {E E' : Ex → Sto → Prop} (h : WE m s Q E) (k : ∀ a s', Q a s' → Q' a s') (kx : ∀ e s', E e s' → E' e s') : WE m s Q' E' := by
  simp only [WE_eq] at h ⊢
  unfold WE0 at h ⊢
  cases e : m s with
  | ok a s' => rw [e] at h; exact k a s' h
  | exc x s' => rw [e] at h; exact kx x s' h
  | fail => rw [e] at h; exact h
/-- what is known of a call, used -/
theorem WE.use {α : Type} {m : M α} {s : Sto} {Q Q' : α → Sto → Prop} {E' : Ex → Sto → Prop} (h : WE m s Q NoX) (k : ∀ a s', Q a s' → Q' a s') : WE m s Q' E' := h.mono k fun _ _ z => z.elim
theorem WE.ok {α : Type} {m : M α} {s s' : Sto} {a : α} {Q : α → Sto → Prop} {E : Ex → Sto → Prop} (h : m s = .ok a s') (k : Q a s') : WE m s Q E := by
  simp only [WE_eq]
  unfold WE0; rw [h]; exact k
theorem WE.get {α : Type} {m : M α} {s : Sto} {Q : α → Sto → Prop} (h : WE m s Q NoX) : ∃ a s', m s = .ok a s' ∧ Q a s' := by
  simp only [WE_eq] at h
  unfold WE0 at h
  cases e : m s with
  | ok a s' => rw [e] at h; exact ⟨a, s', rfl, h⟩
  | exc x s' => rw [e] at h; exact h.elim
  | fail => rw [e] at h; exact h.elim
theorem WS.mono {b : SM} {lo : Lo} {s : Sto} {K K' : RK} (h : WS b lo s K) (k1 : ∀ lo s, K.nx lo s → K'.nx lo s) (k2 : ∀ v s, K.rt v s → K'.rt v s) (k3 : ∀ lo s, K.bk lo s → K'.bk lo s) (k4 : ∀ lo s, K.ct lo s → K'.ct lo s) (k5 : ∀ e lo s, K.ex e lo s → K'.ex e lo s) : WS b lo s K' := by
  simp only [WS_eq] at h ⊢
  unfold WS0 at h ⊢
  cases e : b lo s with
  | nx lo s => rw [e] at h; exact k1 lo s h
  | rt v s => rw [e] at h; exact k2 v s h
  | bk lo s => rw [e] at h; exact k3 lo s h
  | ct lo s => rw [e] at h; exact k4 lo s h
  | exc x lo s => rw [e] at h; exact k5 x lo s h
  | fail => rw [e] at h; exact h
section
variable {α β : Type} {m : M α} {s : Sto} {lo : Lo} {Q : α → Sto → Prop} {QV : Vl → Sto → Prop} {QB : Bool → Sto → Prop} {QA : List Vl → Sto → Prop} {Q' : β → Sto → Prop} {E : Ex → Sto → Prop} {K : RK}
@[simp ↓] theorem WO_some {a : α} : WO (some (a, s)) Q = Q a s := by simp only [WO_eq]; rfl
@[simp ↓] theorem WO_none : WO (none : Option (α × Sto)) Q = False := by simp only [WO_eq]; rfl
@[simp ↓] theorem WE_bnd {f : α → M β} : WE (bnd m f) s Q' E = WE m s (fun a s => WE (f a) s Q' E) E := by
  simp only [WE_eq]
  unfold WE0 bnd
  cases m s <;> rfl
@[simp ↓] theorem WE_ret {a : α} : WE (ret a) s Q E = Q a s := by simp only [WE_eq]; rfl
@[simp ↓] theorem WE_fail : WE (failM : M α) s Q E = False := by simp only [WE_eq]; rfl
@[simp ↓] theorem WE_lift {f : Sto → Option (α × Sto)} : WE (lift f) s Q E = WO (f s) Q := by
  simp only [WE_eq, WO_eq]
  unfold WE0 lift WO0
  cases f s with
  | none => rfl
  | some p => obtain ⟨a, s'⟩ := p; rfl
theorem WE_eVar {i : Nat} {v : Vl} (h : lo[i]? = some (some v)) : WE (eVar i lo) s QV E = QV v s := by
  simp only [WE_eq]
  unfold WE0 eVar; rw [h]
@[simp ↓] theorem WE_eVar' {i : Nat} : WE (eVar i lo) s QV E = (match lo[i]? with | some (some v) => QV v s | _ => False) := by
  simp only [WE_eq]
  unfold WE0 eVar
  cases lo[i]? with
  | none => rfl
  | some o => cases o <;> rfl
@[simp ↓] theorem WE_eC {v : Vl} : WE (eC v lo) s QV E = QV v s := by simp only [WE_eq]; rfl
@[simp ↓] theorem WE_eOp1 {f : O1} {a : EM} : WE (eOp1 f a lo) s QV E = WE (a lo) s (fun x s => WO (f x s) QV) E := by
  unfold eOp1
  rw [WE_bnd]
  exact WE_ext fun x s => WE_lift
@[simp ↓] theorem WE_eOp {f : O2} {a b : EM} : WE (eOp f a b lo) s QV E = WE (a lo) s (fun x s => WE (b lo) s (fun y s => WO (f x y s) QV) E) E := by
  unfold eOp
  rw [WE_bnd]
  refine WE_ext fun x s => ?_
  rw [WE_bnd]
  exact WE_ext fun y s => WE_lift
@[simp ↓] theorem WE_aNil : WE (aNil lo) s QA E = QA [] s := by simp only [WE_eq]; rfl
@[simp ↓] theorem WE_aCons {a : EM} {r : AM} : WE (aCons a r lo) s QA E = WE (a lo) s (fun x s => WE (r lo) s (fun xs s => QA (x :: xs) s) E) E := by
  unfold aCons
  rw [WE_bnd]
  refine WE_ext fun x s => ?_
  rw [WE_bnd]
  exact WE_ext fun xs s => WE_ret
@[simp ↓] theorem WE_eCB {f : OC} {a : AM} : WE (eCB f a lo) s QV E = WE (a lo) s (fun xs s => WO (f xs s) QV) E := by
  unfold eCB
  rw [WE_bnd]
  exact WE_ext fun x s => WE_lift
@[simp ↓] theorem WE_eCall {mf : List Vl → M Vl} {a : AM} : WE (eCall mf a lo) s QV E = WE (a lo) s (fun as s => WE (mf as) s QV E) E := by unfold eCall; rw [WE_bnd]
@[simp ↓] theorem WE_arg {n : Nat} {mf : List Vl → M Vl} {as : List Vl} : WE (arg n mf as) s QV E = (if as.length = n then WE (mf as) s QV E else False) := by
  by_cases h : as.length = n <;> simp [WE_eq, WE0, arg, h]
@[simp ↓] theorem WE_argI {n : Nat} {mf : List Vl → M Vl} {as : List Vl} : WE (argI n mf as) s QV E = (if as.length = n + 1 then WE (mf as) s QV E else False) := by
  by_cases h : as.length = n + 1 <;> simp [WE_eq, WE0, argI, h]
@[simp ↓] theorem WE_tVal {a : EM} : WE (tVal a lo) s QB E = WE (a lo) s (fun x s => match x with | .bl b => QB b s | _ => False) E := by
  unfold tVal
  rw [WE_bnd]
  refine WE_ext fun x s => ?_
  cases x <;> (simp only [WE_eq]; rfl)
@[simp ↓] theorem WE_tAndM {a b : TM} : WE (tAndM a b lo) s QB E = WE (a lo) s (fun x s => if x = true then WE (b lo) s QB E else QB false s) E := by
  unfold tAndM
  rw [WE_bnd]
  refine WE_ext fun x s => ?_
  cases x <;> simp
@[simp ↓] theorem WE_tOrM {a b : TM} : WE (tOrM a b lo) s QB E = WE (a lo) s (fun x s => if x = true then QB true s else WE (b lo) s QB E) E := by
  unfold tOrM
  rw [WE_bnd]
  refine WE_ext fun x s => ?_
  cases x <;> simp
@[simp ↓] theorem WE_tNotM {a : TM} : WE (tNotM a lo) s QB E = WE (a lo) s (fun x s => QB (!x) s) E := by unfold tNotM; rw [WE_bnd]; exact WE_ext fun x s => WE_ret
@[simp ↓] theorem WE_eAndM {a b : EM} : WE (eAndM a b lo) s QV E = WE (a lo) s (fun x s => match x with | .bl true => WE (b lo) s QV E | .bl false => QV (.bl false) s | _ => False) E := by
  unfold eAndM
  rw [WE_bnd]
  refine WE_ext fun x s => ?_
  cases x <;> try (simp only [WE_eq]; rfl)
  rename_i k
  cases k <;> simp only [WE_eq] <;> rfl
@[simp ↓] theorem WE_eOrM {a b : EM} : WE (eOrM a b lo) s QV E = WE (a lo) s (fun x s => match x with | .bl false => WE (b lo) s QV E | .bl true => QV (.bl true) s | _ => False) E := by
  unfold eOrM
  rw [WE_bnd]
  refine WE_ext fun x s => ?_
  cases x <;> try (simp only [WE_eq]; rfl)
  rename_i k
  cases k <;> simp only [WE_eq] <;> rfl
@[simp ↓] theorem WE_eNotM {a : EM} : WE (eNotM a lo) s QV E = WE (a lo) s (fun x s => match x with | .bl b => QV (.bl (!b)) s | _ => False) E := by
  unfold eNotM
  rw [WE_bnd]
  refine WE_ext fun x s => ?_
  cases x <;> (simp only [WE_eq]; rfl)
@[simp ↓] theorem WE_eIfM {t : TM} {a b : EM} : WE (eIfM t a b lo) s QV E = WE (t lo) s (fun x s => if x = true then WE (a lo) s QV E else WE (b lo) s QV E) E := by
  unfold eIfM
  rw [WE_bnd]
  refine WE_ext fun x s => ?_
  cases x <;> simp
@[simp ↓] theorem WE_eBm {t : Kd} {f : OMt} {o : EM} {a : AM} : WE (eBm t f o a lo) s QV E = WE (o lo) s (fun x s => if kd t x s = true then WE (a lo) s (fun xs s => WO (f x xs s) QV) E else False) E := by
  unfold eBm
  rw [WE_bnd]
  refine WE_ext fun x s => ?_
  show WE (fun s => match kd t x s with | true => bnd (a lo) (fun xs => lift (f x xs)) s | false => .fail) s QV E = _
  cases h : kd t x s with
  | true =>
    rw [if_pos rfl]
    have : WE (bnd (a lo) (fun xs => lift (f x xs))) s QV E = WE (a lo) s (fun xs s => WO (f x xs s) QV) E := by
      rw [WE_bnd]
      exact WE_ext fun xs s => WE_lift
    rw [← this]
    simp only [WE_eq]
    unfold WE0
    simp only [h]
  | false =>
    rw [if_neg (by decide)]
    simp only [WE_eq]
    unfold WE0
    simp only [h]
@[simp ↓] theorem WE_eBm0 {t : Kd} {f : OMt} {o : EM} : WE (eBm0 t f o lo) s QV E = WE (o lo) s (fun x s => if kd t x s = true then WO (f x [] s) QV else False) E := by
  unfold eBm0
  rw [WE_bnd]
  refine WE_ext fun x s => ?_
  show WE (fun s => match kd t x s with | true => lift (f x []) s | false => .fail) s QV E = _
  cases h : kd t x s with
  | true =>
    rw [if_pos rfl, ← WE_lift (E := E)]
    simp only [WE_eq]
    unfold WE0
    simp only [h]
  | false =>
    rw [if_neg (by decide)]
    simp only [WE_eq]
    unfold WE0
    simp only [h]
def fldW (cs : List Nat) (f : Str) (x : Vl) (s : Sto) (QV : Vl → Sto → Prop) : Prop := match x with
  | .ref j => match s[j]? with
    | some (.ins c fs) => c ∈ cs ∧ match getS fs f with
        | some v => QV v s
        | none => False
    | _ => False
  | _ => False
@[simp ↓] theorem WE_eFld {cs : List Nat} {f : Str} {o : EM} : WE (eFld cs f o lo) s QV E = WE (o lo) s (fun x s => fldW cs f x s QV) E := by
  unfold eFld
  rw [WE_bnd]
  refine WE_ext fun x s => ?_
  simp only [WE_eq]
  unfold WE0 fldW
  cases x <;> try rfl
  rename_i j
  simp only
  cases h : s[j]? with
  | none => simp only [h]
  | some o =>
    cases o <;> simp only [h]
    rename_i c fs
    by_cases hc : c ∈ cs
    · simp only [hc, if_true, true_and]
      cases getS fs f <;> rfl
    · simp [hc]
@[simp ↓] theorem WE_fnM {n : Nat} {b : SM} {as : List Vl} : WE (fnM n b as) s QV E = WS b (as.map some ++ List.replicate (n - as.length) none) s ⟨fun _ s => QV .non s, QV, fun _ _ => False, fun _ _ => False, fun e _ s => E e s⟩ := by
  simp only [WE_eq, WS_eq]
  unfold WE0 WS0 fnM
  cases b (as.map some ++ List.replicate (n - as.length) none) s <;> rfl
@[simp ↓] theorem WE_eSl {f : OSl} {a : EM} {l h : Option EM} : WE (eSl f a l h lo) s QV E = WE (a lo) s (fun x s => WE (oPart l lo) s (fun i s => WE (oPart h lo) s (fun j s => WO (f x i j s) QV) E) E) E := by
  unfold eSl
  rw [WE_bnd]
  refine WE_ext fun x s => ?_
  rw [WE_bnd]
  refine WE_ext fun i s => ?_
  rw [WE_bnd]
  exact WE_ext fun j s => WE_lift
@[simp ↓] theorem WE_oPartN {QO : Option Int → Sto → Prop} : WE (oPart none lo) s QO E = QO none s := by simp only [WE_eq]; rfl
@[simp ↓] theorem WE_oPartS {QO : Option Int → Sto → Prop} {a : EM} : WE (oPart (some a) lo) s QO E = WE (a lo) s (fun x s => match x with | .int i => QO (some i) s | _ => False) E := by
  show WE (bnd (a lo) _) s QO E = _
  rw [WE_bnd]
  refine WE_ext fun x s => ?_
  cases x <;> (simp only [WE_eq]; rfl)
@[simp ↓] theorem WE_eDict0 : WE (eDict0 lo) s QV E = QV (.ref s.length) (s ++ [.dic []]) := by simp only [WE_eq]; rfl
/-! statements -/
@[simp ↓] theorem WS_sNil : WS sNil lo s K = K.nx lo s := by simp only [WS_eq]; rfl
@[simp ↓] theorem WS_sBreak : WS sBreak lo s K = K.bk lo s := by simp only [WS_eq]; rfl
@[simp ↓] theorem WS_sCont : WS sCont lo s K = K.ct lo s := by simp only [WS_eq]; rfl
@[simp ↓] theorem WS_sRetN : WS sRetN lo s K = K.rt .non s := by simp only [WS_eq]; rfl
@[simp ↓] theorem WS_sSeq {a b : SM} : WS (sSeq a b) lo s K = WS a lo s ⟨fun lo s => WS b lo s K, K.rt, K.bk, K.ct, K.ex⟩ := by
  simp only [WS_eq]
  unfold WS0 sSeq
  cases a lo s <;> rfl
theorem WS_bndS {m : Lo → M α} {f : Lo → α → Sto → RS} : WS (bndS m f) lo s K = WE (m lo) s (fun a s => match f lo a s with | .nx lo s => K.nx lo s | .rt v s => K.rt v s | .bk lo s => K.bk lo s | .ct lo s => K.ct lo s | .exc e lo s => K.ex e lo s | .fail => False) (fun e s => K.ex e lo s) := by
  simp only [WS_eq, WE_eq]
  unfold WS0 WE0 bndS
  cases m lo s <;> rfl
@[simp ↓] theorem WS_sExpr {e : EM} : WS (sExpr e) lo s K = WE (e lo) s (fun _ s => K.nx lo s) (fun x s => K.ex x lo s) := by unfold sExpr; rw [WS_bndS]
@[simp ↓] theorem WS_sRet {e : EM} : WS (sRet e) lo s K = WE (e lo) s K.rt (fun x s => K.ex x lo s) := by unfold sRet; rw [WS_bndS]
@[simp ↓] theorem WS_sSet {i : Nat} {e : EM} : WS (sSet i e) lo s K = WE (e lo) s (fun v s => K.nx (lo.set i (some v)) s) (fun x s => K.ex x lo s) := by unfold sSet; rw [WS_bndS]
@[simp ↓] theorem WS_sIf {t : TM} {a b : SM} : WS (sIf t a b) lo s K = WE (t lo) s (fun c s => if c = true then WS a lo s K else WS b lo s K) (fun x s => K.ex x lo s) := by
  unfold sIf
  rw [WS_bndS]
  refine WE_ext fun c s => ?_
  cases c <;> simp [WS_eq, WS0]
@[simp ↓] theorem WS_sPar {i j : Nat} {a : AM} : WS (sPar i j a) lo s K = WE (a lo) s (fun vs s => match vs with | [v, w] => K.nx ((lo.set i (some v)).set j (some w)) s | _ => False) (fun x s => K.ex x lo s) := by
  unfold sPar
  rw [WS_bndS]
  refine WE_ext fun vs s => ?_
  match vs with
  | [] => rfl
  | [_] => rfl
  | [_, _] => rfl
  | _ :: _ :: _ :: _ => rfl
@[simp ↓] theorem WS_sPar3 {i j l : Nat} {a : AM} : WS (sPar3 i j l a) lo s K = WE (a lo) s (fun vs s => match vs with | [v, w, x] => K.nx (((lo.set i (some v)).set j (some w)).set l (some x)) s | _ => False) (fun x s => K.ex x lo s) := by
  unfold sPar3
  rw [WS_bndS]
  refine WE_ext fun vs s => ?_
  match vs with
  | [] => rfl
  | [_] => rfl
  | [_, _] => rfl
  | [_, _, _] => rfl
  | _ :: _ :: _ :: _ :: _ => rfl
/-- targets -/
structure WG (g : GM) (v : Vl) (lo : Lo) (s : Sto) (N : Lo → Sto → Prop) (E : Ex → Sto → Prop) (_ : Tg (N, E) := .a) : Prop where
  h : WE (g v lo) s N E
theorem WG_eq {g : GM} {v : Vl} {lo : Lo} {s : Sto} {N : Lo → Sto → Prop} {E : Ex → Sto → Prop} : WG g v lo s N E = WE (g v lo) s N E := propext ⟨fun x => x.h, fun x => ⟨x⟩⟩
@[simp ↓] theorem WG_gNm {i : Nat} {v : Vl} {N : Lo → Sto → Prop} : WG (gNm i) v lo s N E = N (lo.set i (some v)) s := by simp only [WG_eq, WE_eq]; rfl
@[simp ↓] theorem WG_gTp {js : List Nat} {xs : List Vl} {N : Lo → Sto → Prop} : WG (gTp js) (.tup xs) lo s N E = (match gNms js xs lo with | some lo' => N lo' s | none => False) := by
  simp only [WG_eq, WE_eq]
  unfold WE0 gTp
  simp only
  cases gNms js xs lo <;> rfl
@[simp] theorem gNms_nil {lo : Lo} : gNms [] [] lo = some lo := rfl
@[simp] theorem gNms_cons {j : Nat} {js : List Nat} {v : Vl} {vs : List Vl} {lo : Lo} : gNms (j :: js) (v :: vs) lo = gNms js vs (lo.set j (some v)) := rfl
@[simp ↓] theorem WG_gSb {f : OSet} {o i : EM} {v : Vl} {N : Lo → Sto → Prop} : WG (gSb f o i) v lo s N E = WE (o lo) s (fun x s => WE (i lo) s (fun y s => match f x y v s with | some s' => N lo s' | none => False) E) E := by
  simp only [WG_eq]
  unfold gSb
  rw [WE_bnd]
  refine WE_ext fun x s => ?_
  rw [WE_bnd]
  refine WE_ext fun y s => ?_
  simp only [WE_eq]
  unfold WE0 liftU
  cases f x y v s <;> rfl
@[simp ↓] theorem WS_sAsg {g : GM} {e : EM} : WS (sAsg g e) lo s K = WE (e lo) s (fun v s => WG g v lo s K.nx (fun x s => K.ex x lo s)) (fun x s => K.ex x lo s) := by
  unfold sAsg
  rw [WS_bndS]
  refine WE_ext fun v s => ?_
  simp only [WG_eq, WE_eq]
  unfold WE0
  cases g v lo s <;> rfl
@[simp ↓] theorem WS_sFldM {cs : List Nat} {f : Str} {o e : EM} : WS (sFldM cs f o e) lo s K = WE (e lo) s (fun v s => WE (o lo) s (fun x s => match setFld cs f x v s with | some s' => K.nx lo s' | none => False) (fun x s => K.ex x lo s)) (fun x s => K.ex x lo s) := by
  unfold sFldM
  rw [WS_bndS]
  refine WE_ext fun v s => ?_
  refine Eq.trans (b := WS (bndS o fun lo x s => match setFld cs f x v s with | some s' => .nx lo s' | none => .fail) lo s K) (by simp only [WS_eq]; rfl) ?_
  rw [WS_bndS]
  refine WE_ext fun x s => ?_
  cases setFld cs f x v s <;> rfl
/-! methods, making -/
def methW (m : Str) (tab : MTab) (x : Vl) (s : Sto) (P : (List Vl → M Vl) → Prop) : Prop := match x with
  | .ref j => match s[j]? with
    | some (.ins c fs) => match tab c, getS fs m with
      | some mf, none => P mf
      | _, _ => False
    | _ => False
  | _ => False
theorem WE_eMeth {m : Str} {tab : MTab} {o : EM} {a : AM} : WE (eMeth m tab o a lo) s QV E = WE (o lo) s (fun x s => methW m tab x s fun mf => WE (a lo) s (fun as s => WE (mf (x :: as)) s QV E) E) E := by
  unfold eMeth
  rw [WE_bnd]
  refine WE_ext fun x s => ?_
  cases x <;> try (simp only [WE_eq]; rfl)
  rename_i j
  unfold methW
  show WE (fun s => match s[j]? with | some (.ins c fs) => (match tab c, getS fs m with | some mf, none => bnd (a lo) (fun as => mf (.ref j :: as)) s | _, _ => .fail) | _ => .fail) s QV E = _
  have key : ∀ mf : List Vl → M Vl, WE (a lo) s (fun as s => WE (mf (.ref j :: as)) s QV E) E = WE (bnd (a lo) (fun as => mf (.ref j :: as))) s QV E := fun mf => by rw [WE_bnd]
  simp only [key]
  simp only [WE_eq]
  unfold WE0
  simp only
  cases h : s[j]? with
  | none => rfl
  | some o =>
    cases o <;> try rfl
    rename_i c fs
    simp only
    cases h1 : tab c with
    | none => rfl
    | some mf => cases h2 : getS fs m <;> rfl
theorem WE_eMake {c : Nat} {mi : List Vl → M Vl} {a : AM} : WE (eMake c mi a lo) s QV E = WE (a lo) s (fun as s => WE (mi (.ref s.length :: as)) (s ++ [.ins c []]) (fun v s' => match v with | .non => QV (.ref s.length) s' | _ => False) E) E := by
  unfold eMake
  rw [WE_bnd]
  refine WE_ext fun as s => ?_
  simp only [WE_eq]
  unfold WE0
  simp only
  cases h : mi (.ref s.length :: as) (s ++ [.ins c []]) with
  | ok v s' => cases v <;> rfl
  | exc e s' => rfl
  | fail => rfl
end
end Sm

/-! S14: loops and comprehensions of pure programs -/
namespace Sm
open PySem L2
section
variable {α : Type} {s : Sto} {lo : Lo} {QV : Vl → Sto → Prop} {QA : List Vl → Sto → Prop} {QN : NX → Sto → Prop} {E : Ex → Sto → Prop} {K : RK}
@[simp ↓] theorem WE_aTup {e : EM} : WE (aTup e lo) s QA E = WE (e lo) s (fun x s => match x with | .tup xs => QA xs s | _ => False) E := by
  unfold aTup
  rw [WE_bnd]
  refine WE_ext fun x s => ?_
  cases x <;> simp only [WE_eq] <;> rfl
def rngW (xs : List Vl) (s : Sto) (QA : List Vl → Sto → Prop) : Prop := match xs with
  | [.int n] => (-(2 ^ 62) ≤ n ∧ n < 2 ^ 62) ∧ QA (rng 0 n.toNat) s
  | _ => False
theorem rngW_one {n : Int} : rngW [.int n] s QA = ((-(2 ^ 62) ≤ n ∧ n < 2 ^ 62) ∧ QA (rng 0 n.toNat) s) := rfl
@[simp ↓] theorem WE_aRng {a : AM} : WE (aRng a lo) s QA E = WE (a lo) s (fun xs s => rngW xs s QA) E := by
  unfold aRng
  rw [WE_bnd]
  refine WE_ext fun xs s => ?_
  match xs with
  | [] => simp only [WE_eq]; rfl
  | [.int n] =>
    simp only [rngW]
    by_cases h : -(2 ^ 62) ≤ n ∧ n < 2 ^ 62
    · rw [if_pos h]; simp only [h, and_self, true_and, WE_ret]
    · rw [if_neg h, WE_fail]
      exact (propext ⟨fun z => z.elim, fun z => absurd z.1 h⟩)
  | .non :: _ => simp only [WE_eq]; rfl
  | .bl _ :: _ => simp only [WE_eq]; rfl
  | .str _ :: _ => simp only [WE_eq]; rfl
  | .tup _ :: _ => simp only [WE_eq]; rfl
  | .ref _ :: _ => simp only [WE_eq]; rfl
  | .scr _ :: _ => simp only [WE_eq]; rfl
  | .ty _ :: _ => simp only [WE_eq]; rfl
  | .fn _ :: _ => simp only [WE_eq]; rfl
  | .int _ :: _ :: _ => simp only [WE_eq]; rfl
def lstW (x : Vl) (s : Sto) (P : Nat → List Vl → Prop) : Prop := match x with
  | .ref j => match s[j]? with
    | some (.lst xs) => P j xs
    | _ => False
  | _ => False
@[simp] theorem lstW_ref {j : Nat} {P : Nat → List Vl → Prop} : lstW (.ref j) s P = (match s[j]? with | some (.lst xs) => P j xs | _ => False) := rfl
@[simp ↓] theorem WE_iLst {e : EM} : WE (iLst e lo) s QN E = WE (e lo) s (fun x s => lstW x s fun j _ => QN (nxLst j) s) E := by
  unfold iLst
  rw [WE_bnd]
  refine WE_ext fun x s => ?_
  cases x <;> try (simp only [WE_eq]; rfl)
  rename_i j
  simp only [WE_eq]
  unfold WE0 lstW
  simp only
  cases h : s[j]? with
  | none => rfl
  | some o => cases o <;> rfl
def lst1W (xs : List Vl) (s : Sto) (P : Nat → List Vl → Prop) : Prop := match xs with
  | [x] => lstW x s P
  | _ => False
@[simp] theorem lst1W_one {x : Vl} {P : Nat → List Vl → Prop} : lst1W [x] s P = lstW x s P := rfl
@[simp ↓] theorem WE_iEnm {a : AM} : WE (iEnm a lo) s QN E = WE (a lo) s (fun xs s => lst1W xs s fun j _ => QN (nxEnum j) s) E := by
  unfold iEnm
  rw [WE_bnd]
  refine WE_ext fun xs s => ?_
  match xs with
  | [] => simp only [WE_eq]; rfl
  | [.ref j] =>
    simp only [WE_eq]
    unfold WE0 lst1W lstW
    simp only
    cases h : s[j]? with
    | none => rfl
    | some o => cases o <;> rfl
  | .non :: _ => cases ‹List Vl› <;> simp only [WE_eq] <;> rfl
  | .bl _ :: _ => cases ‹List Vl› <;> simp only [WE_eq] <;> rfl
  | .int _ :: _ => cases ‹List Vl› <;> simp only [WE_eq] <;> rfl
  | .str _ :: _ => cases ‹List Vl› <;> simp only [WE_eq] <;> rfl
  | .tup _ :: _ => cases ‹List Vl› <;> simp only [WE_eq] <;> rfl
  | .scr _ :: _ => cases ‹List Vl› <;> simp only [WE_eq] <;> rfl
  | .ty _ :: _ => cases ‹List Vl› <;> simp only [WE_eq] <;> rfl
  | .fn _ :: _ => cases ‹List Vl› <;> simp only [WE_eq] <;> rfl
  | .ref _ :: _ :: _ => simp only [WE_eq]; rfl
@[simp ↓] theorem WS_sForX {ma : AM} {g : GM} {b : SM} : WS (sForX ma g b) lo s K = WE (ma lo) s (fun xs s => WS (loopX g b xs) lo s K) (fun e s => K.ex e lo s) := by
  unfold sForX
  rw [WS_bndS]
  refine WE_ext fun xs s => ?_
  simp only [WS_eq]
  rfl
@[simp ↓] theorem WS_sFor {n : Nat} {m : IM} {g : GM} {b : SM} : WS (sFor n m g b) lo s K = WE (m lo) s (fun nx s => WS (loopN nx g b n 0) lo s K) (fun e s => K.ex e lo s) := by
  unfold sFor
  rw [WS_bndS]
  refine WE_ext fun xs s => ?_
  simp only [WS_eq]
  rfl
/-- a for by its invariant -/
theorem loopX_inv {g : GM} {b : SM} {xs : List Vl} (I : Nat → Lo → Sto → Prop) (h0 : I 0 lo s)
    (hs : ∀ i v lo s, xs[i]? = some v → I i lo s → WG g v lo s (fun lo s => WS b lo s ⟨I (i + 1), K.rt, K.nx, I (i + 1), K.ex⟩) (fun e s => K.ex e lo s)) (hd : ∀ lo s, I xs.length lo s → K.nx lo s) : WS (loopX g b xs) lo s K := by
  have key : ∀ (ys : List Vl) (i : Nat) (lo : Lo) (s : Sto), xs.drop i = ys → i ≤ xs.length → I i lo s → WS (loopX g b ys) lo s K := by
    intro ys
    induction ys with
    | nil =>
      intro i lo s e hi h
      have : i = xs.length := Nat.le_antisymm hi (List.drop_eq_nil_iff.mp e)
      subst this
      exact ⟨hd lo s h⟩
    | cons y ys ih =>
      intro i lo s e hi h
      have hi' : i < xs.length := by
        rcases Nat.lt_or_ge i xs.length with q | q
        · exact q
        · rw [List.drop_eq_nil_of_le q] at e; cases e
      rw [List.drop_eq_getElem_cons hi'] at e
      obtain ⟨e1, e2⟩ := List.cons.inj e
      have st := hs i y lo s (by rw [List.getElem?_eq_getElem hi', e1]) h
      simp only [WS_eq]
      unfold WS0 loopX
      simp only [WG_eq, WE_eq] at st
      unfold WE0 at st
      cases q : g y lo s with
      | fail => simp only [q] at st
      | exc z s' => simp only [q] at st ⊢; exact st
      | ok lo' s' =>
        simp only [q] at st ⊢
        simp only [WS_eq] at st
        unfold WS0 at st
        cases q2 : b lo' s' with
        | nx lo2 s2 => simp only [q2] at st ⊢; exact (ih (i + 1) lo2 s2 e2 hi' st).h
        | ct lo2 s2 => simp only [q2] at st ⊢; exact (ih (i + 1) lo2 s2 e2 hi' st).h
        | bk lo2 s2 => simp only [q2] at st ⊢; exact st
        | rt v s2 => simp only [q2] at st ⊢; exact st
        | exc z lo2 s2 => simp only [q2] at st ⊢; exact st
        | fail => simp only [q2] at st
  exact key xs 0 lo s (by simp) (Nat.zero_le _) h0
/-- the same over what nx tells: n items, at each turn the i-th one is f i -/
theorem loopN_inv {nx : NX} {g : GM} {b : SM} {n fuel : Nat} (I : Nat → Lo → Sto → Prop) (f : Nat → Vl) (hf : n < fuel) (h0 : I 0 lo s) (hn : ∀ i lo s, i < n → I i lo s → nx i s = some (some (f i))) (he : ∀ lo s, I n lo s → nx n s = some none)
    (hs : ∀ i lo s, i < n → I i lo s → WG g (f i) lo s (fun lo s => WS b lo s ⟨I (i + 1), K.rt, K.nx, I (i + 1), K.ex⟩) (fun e s => K.ex e lo s)) (hd : ∀ lo s, I n lo s → K.nx lo s) : WS (loopN nx g b fuel 0) lo s K := by
  have key : ∀ (k i : Nat) (lo : Lo) (s : Sto), n - i < k → i ≤ n → I i lo s → WS (loopN nx g b k i) lo s K := by
    intro k
    induction k with
    | zero => intro i lo s h; omega
    | succ k ih =>
      intro i lo s hk hi h
      simp only [WS_eq]
      unfold WS0 loopN
      rcases Nat.lt_or_ge i n with q | q
      · simp only [hn i lo s q h]
        have st := hs i lo s q h
        simp only [WG_eq, WE_eq] at st
        unfold WE0 at st
        cases q1 : g (f i) lo s with
        | fail => simp only [q1] at st
        | exc z s' => simp only [q1] at st ⊢; exact st
        | ok lo' s' =>
          simp only [q1] at st ⊢
          simp only [WS_eq] at st
          unfold WS0 at st
          cases q2 : b lo' s' with
          | nx lo2 s2 => simp only [q2] at st ⊢; exact (ih (i + 1) lo2 s2 (by omega) q st).h
          | ct lo2 s2 => simp only [q2] at st ⊢; exact (ih (i + 1) lo2 s2 (by omega) q st).h
          | bk lo2 s2 => simp only [q2] at st ⊢; exact st
          | rt v s2 => simp only [q2] at st ⊢; exact st
          | exc z lo2 s2 => simp only [q2] at st ⊢; exact st
          | fail => simp only [q2] at st
      · have : i = n := Nat.le_antisymm hi q
        subst this
        simp only [he lo s h]
        exact hd lo s h
  exact key fuel 0 lo s (by omega) (Nat.zero_le _) h0
/-- over a list that the loop leaves as it is -/
theorem loopL_inv {j : Nat} {xs : List Vl} {g : GM} {b : SM} {fuel : Nat} (I : Nat → Lo → Sto → Prop) (hf : xs.length < fuel) (h0 : I 0 lo s) (hl : ∀ i lo s, I i lo s → s[j]? = some (.lst xs))
    (hs : ∀ i v lo s, xs[i]? = some v → I i lo s → WG g v lo s (fun lo s => WS b lo s ⟨I (i + 1), K.rt, K.nx, I (i + 1), K.ex⟩) (fun e s => K.ex e lo s)) (hd : ∀ lo s, I xs.length lo s → K.nx lo s) : WS (loopN (nxLst j) g b fuel 0) lo s K :=
  loopN_inv I (fun i => (xs[i]?).getD .non) hf h0 (fun i lo s hi h => by simp only [nxLst, hl i lo s h, List.getElem?_eq_getElem hi, Option.getD]) (fun lo s h => by simp only [nxLst, hl _ lo s h]; rw [List.getElem?_eq_none (Nat.le_refl _)])
    (fun i lo s hi h => by
      have := hs i xs[i] lo s (List.getElem?_eq_getElem hi) h
      simpa only [List.getElem?_eq_getElem hi, Option.getD] using this) hd
/-- enumerate -/
theorem loopE_inv {j : Nat} {xs : List Vl} {g : GM} {b : SM} {fuel : Nat} (I : Nat → Lo → Sto → Prop) (hf : xs.length < fuel) (h0 : I 0 lo s) (hl : ∀ i lo s, I i lo s → s[j]? = some (.lst xs))
    (hs : ∀ i v lo s, xs[i]? = some v → I i lo s → WG g (.tup [.int (i : Nat), v]) lo s (fun lo s => WS b lo s ⟨I (i + 1), K.rt, K.nx, I (i + 1), K.ex⟩) (fun e s => K.ex e lo s)) (hd : ∀ lo s, I xs.length lo s → K.nx lo s) : WS (loopN (nxEnum j) g b fuel 0) lo s K :=
  loopN_inv I (fun i => .tup [.int (i : Nat), (xs[i]?).getD .non]) hf h0 (fun i lo s hi h => by simp only [nxEnum, hl i lo s h, List.getElem?_eq_getElem hi, Option.getD]) (fun lo s h => by simp only [nxEnum, hl _ lo s h]; rw [List.getElem?_eq_none (Nat.le_refl _)])
    (fun i lo s hi h => by
      have := hs i xs[i] lo s (List.getElem?_eq_getElem hi) h
      simpa only [List.getElem?_eq_getElem hi, Option.getD] using this) hd
/-- while, by an invariant with a number that falls -/
theorem loopW_inv {t : TM} {b : SM} {n : Nat} (I : Nat → Lo → Sto → Prop) (m0 : Nat) (hm : m0 < n) (h0 : I m0 lo s)
    (hs : ∀ m lo s, I m lo s → WE (t lo) s (fun c s' => if c = true then WS b lo s' ⟨fun lo s => ∃ m', m' < m ∧ I m' lo s, K.rt, K.nx, fun lo s => ∃ m', m' < m ∧ I m' lo s, K.ex⟩ else K.nx lo s') (fun e s => K.ex e lo s)) : WS (loopW t b n) lo s K := by
  have key : ∀ (k m : Nat) (lo : Lo) (s : Sto), m < k → I m lo s → WS (loopW t b k) lo s K := by
    intro k
    induction k with
    | zero => intro m lo s h; omega
    | succ k ih =>
      intro m lo s hk h
      have st := hs m lo s h
      simp only [WS_eq]
      unfold WS0 loopW
      simp only [WE_eq] at st
      unfold WE0 at st
      cases q : t lo s with
      | fail => simp only [q] at st
      | exc z s' => simp only [q] at st ⊢; exact st
      | ok c s' =>
        cases c with
        | false => simp only [q] at st ⊢; exact (by simpa using st)
        | true =>
          simp only [q, if_true] at st ⊢
          simp only [WS_eq] at st
          unfold WS0 at st
          cases q2 : b lo s' with
          | nx lo2 s2 => simp only [q2] at st ⊢; obtain ⟨m', h1, h2⟩ := st; exact (ih m' lo2 s2 (by omega) h2).h
          | ct lo2 s2 => simp only [q2] at st ⊢; obtain ⟨m', h1, h2⟩ := st; exact (ih m' lo2 s2 (by omega) h2).h
          | bk lo2 s2 => simp only [q2] at st ⊢; exact st
          | rt v s2 => simp only [q2] at st ⊢; exact st
          | exc z lo2 s2 => simp only [q2] at st ⊢; exact st
          | fail => simp only [q2] at st
  exact key n m0 lo s hm h0
/-! ### comprehensions -/
def WL0 (o : Option Sto) (Q : Sto → Prop) : Prop := match o with
  | some s => Q s
  | none => False
structure WL (o : Option Sto) (Q : Sto → Prop) (_ : Tg Q := .a) : Prop where
  h : WL0 o Q
theorem WL_eq {o : Option Sto} {Q : Sto → Prop} : WL o Q = WL0 o Q := propext ⟨fun x => x.h, fun x => ⟨x⟩⟩
@[simp ↓] theorem WE_eLc {n : Nat} {m : IM} {g : GL} {t : TM} {e : EM} {vs : List Nat} : WE (eLc n m g t e vs lo) s QV E = WE (m lo) s (fun nx s => WL (lcN nx g t e s.length (wipeL lo vs) n 0 (s ++ [.lst []])) fun s' => QV (.ref s.length) s') E := by
  unfold eLc
  rw [WE_bnd]
  refine WE_ext fun nx s => ?_
  simp only [WE_eq, WL_eq]
  unfold WE0 WL0
  simp only
  cases lcN nx g t e s.length (wipeL lo vs) n 0 (s ++ [.lst []]) <;> rfl
@[simp ↓] theorem WE_eLcX {m : AM} {g : GL} {t : TM} {e : EM} {vs : List Nat} : WE (eLcX m g t e vs lo) s QV E = WE (m lo) s (fun xs s => WL (lcX g t e s.length (wipeL lo vs) xs (s ++ [.lst []])) fun s' => QV (.ref s.length) s') E := by
  unfold eLcX
  rw [WE_bnd]
  refine WE_ext fun xs s => ?_
  simp only [WE_eq, WL_eq]
  unfold WE0 WL0
  simp only
  cases lcX g t e s.length (wipeL lo vs) xs (s ++ [.lst []]) <;> rfl
/-- one turn -/
def LcT (t : TM) (e : EM) (d : Nat) (lo : Lo) (s : Sto) (Q : Sto → Prop) : Prop :=
  WE (t lo) s (fun c s => if c = true then WE (e lo) s (fun y s => match s[d]? with | some (.lst acc) => acc.length < LIM ∧ Q (s.set d (.lst (acc ++ [y]))) | _ => False) NoX else Q s) NoX
theorem lcStep_of {t : TM} {e : EM} {d : Nat} {lo : Lo} {s : Sto} {Q : Sto → Prop} (h : LcT t e d lo s Q) : ∃ s', lcStep t e d lo s = some s' ∧ Q s' := by
  unfold LcT at h
  simp only [WE_eq] at h
  unfold WE0 at h
  unfold lcStep
  cases q : t lo s with
  | fail => simp only [q] at h
  | exc z s1 => simp only [q] at h; exact h.elim
  | ok c s1 =>
    cases c with
    | false => simp only [q] at h ⊢; exact ⟨s1, rfl, by simpa using h⟩
    | true =>
      simp only [q, if_true] at h ⊢
      cases q2 : e lo s1 with
      | fail => simp only [q2] at h
      | exc z s2 => simp only [q2] at h; exact h.elim
      | ok y s2 =>
        simp only [q2] at h ⊢
        split at h
        · rename_i acc hacc
          simp only [hacc, if_pos h.1]
          exact ⟨_, rfl, h.2⟩
        · exact h.elim
theorem lcX_inv {g : GL} {t : TM} {e : EM} {d : Nat} {xs : List Vl} {s : Sto} {Q : Sto → Prop} (I : Nat → Sto → Prop) (h0 : I 0 s) (hs : ∀ i v s, xs[i]? = some v → I i s → ∃ lo', g v lo = some lo' ∧ LcT t e d lo' s (I (i + 1))) (hd : ∀ s, I xs.length s → Q s) :
    WL (lcX g t e d lo xs s) Q := by
  have key : ∀ (ys : List Vl) (i : Nat) (s : Sto), xs.drop i = ys → i ≤ xs.length → I i s → WL (lcX g t e d lo ys s) Q := by
    intro ys
    induction ys with
    | nil =>
      intro i s e hi h
      have : i = xs.length := Nat.le_antisymm hi (List.drop_eq_nil_iff.mp e)
      subst this
      exact ⟨hd s h⟩
    | cons y ys ih =>
      intro i s e hi h
      have hi' : i < xs.length := by
        rcases Nat.lt_or_ge i xs.length with q | q
        · exact q
        · rw [List.drop_eq_nil_of_le q] at e; cases e
      rw [List.drop_eq_getElem_cons hi'] at e
      obtain ⟨e1, e2⟩ := List.cons.inj e
      obtain ⟨lo', g1, g2⟩ := hs i y s (by rw [List.getElem?_eq_getElem hi', e1]) h
      obtain ⟨s', k1, k2⟩ := lcStep_of g2
      unfold lcX
      simp only [g1, k1]
      exact ih (i + 1) s' e2 hi' k2
  exact key xs 0 s (by simp) (Nat.zero_le _) h0
theorem lcN_inv {nx : NX} {g : GL} {t : TM} {e : EM} {d n fuel : Nat} {s : Sto} {Q : Sto → Prop} (I : Nat → Sto → Prop) (f : Nat → Vl) (hf : n < fuel) (h0 : I 0 s) (hn : ∀ i s, i < n → I i s → nx i s = some (some (f i))) (he : ∀ s, I n s → nx n s = some none)
    (hs : ∀ i s, i < n → I i s → ∃ lo', g (f i) lo = some lo' ∧ LcT t e d lo' s (I (i + 1))) (hd : ∀ s, I n s → Q s) : WL (lcN nx g t e d lo fuel 0 s) Q := by
  have key : ∀ (k i : Nat) (s : Sto), n - i < k → i ≤ n → I i s → WL (lcN nx g t e d lo k i s) Q := by
    intro k
    induction k with
    | zero => intro i s h; omega
    | succ k ih =>
      intro i s hk hi h
      unfold lcN
      rcases Nat.lt_or_ge i n with q | q
      · simp only [hn i s q h]
        obtain ⟨lo', g1, g2⟩ := hs i s q h
        obtain ⟨s', k1, k2⟩ := lcStep_of g2
        simp only [g1, k1]
        exact ih (i + 1) s' (by omega) q k2
      · have : i = n := Nat.le_antisymm hi q
        subst this
        simp only [he s h]
        exact ⟨hd s h⟩
  exact key fuel 0 s (by omega) (Nat.zero_le _) h0
theorem lcL_inv {j : Nat} {xs : List Vl} {g : GL} {t : TM} {e : EM} {d fuel : Nat} {s : Sto} {Q : Sto → Prop} (I : Nat → Sto → Prop) (hf : xs.length < fuel) (h0 : I 0 s) (hl : ∀ i s, I i s → s[j]? = some (.lst xs))
    (hs : ∀ i v s, xs[i]? = some v → I i s → ∃ lo', g v lo = some lo' ∧ LcT t e d lo' s (I (i + 1))) (hd : ∀ s, I xs.length s → Q s) : WL (lcN (nxLst j) g t e d lo fuel 0 s) Q :=
  lcN_inv I (fun i => (xs[i]?).getD .non) hf h0 (fun i s hi h => by simp only [nxLst, hl i s h, List.getElem?_eq_getElem hi, Option.getD]) (fun s h => by simp only [nxLst, hl _ s h]; rw [List.getElem?_eq_none (Nat.le_refl _)])
    (fun i s hi h => by
      have := hs i xs[i] s (List.getElem?_eq_getElem hi) h
      simpa only [List.getElem?_eq_getElem hi, Option.getD] using this) hd
theorem lcE_inv {j : Nat} {xs : List Vl} {g : GL} {t : TM} {e : EM} {d fuel : Nat} {s : Sto} {Q : Sto → Prop} (I : Nat → Sto → Prop) (hf : xs.length < fuel) (h0 : I 0 s) (hl : ∀ i s, I i s → s[j]? = some (.lst xs))
    (hs : ∀ i v s, xs[i]? = some v → I i s → ∃ lo', g (.tup [.int (i : Nat), v]) lo = some lo' ∧ LcT t e d lo' s (I (i + 1))) (hd : ∀ s, I xs.length s → Q s) : WL (lcN (nxEnum j) g t e d lo fuel 0 s) Q :=
  lcN_inv I (fun i => .tup [.int (i : Nat), (xs[i]?).getD .non]) hf h0 (fun i s hi h => by simp only [nxEnum, hl i s h, List.getElem?_eq_getElem hi, Option.getD]) (fun s h => by simp only [nxEnum, hl _ s h]; rw [List.getElem?_eq_none (Nat.le_refl _)])
    (fun i s hi h => by
      have := hs i xs[i] s (List.getElem?_eq_getElem hi) h
      simpa only [List.getElem?_eq_getElem hi, Option.getD] using this) hd
theorem lcV_inv {j : Nat} {kvs : List (Key × Vl)} {g : GL} {t : TM} {e : EM} {d fuel : Nat} {s : Sto} {Q : Sto → Prop} (I : Nat → Sto → Prop) (hf : kvs.length < fuel) (h0 : I 0 s) (hl : ∀ i s, I i s → s[j]? = some (.fdic kvs))
    (hs : ∀ i v s, (kvs.map (·.2))[i]? = some v → I i s → ∃ lo', g v lo = some lo' ∧ LcT t e d lo' s (I (i + 1))) (hd : ∀ s, I kvs.length s → Q s) : WL (lcN (nxVals j) g t e d lo fuel 0 s) Q :=
  lcN_inv I (fun i => ((kvs.map (·.2))[i]?).getD .non) hf h0 (fun i s hi h => by simp only [nxVals, hl i s h, List.getElem?_eq_getElem hi, List.getElem?_map, Option.map, Option.getD]) (fun s h => by simp only [nxVals, hl _ s h]; rw [List.getElem?_eq_none (Nat.le_refl _)])
    (fun i s hi h => by
      have hi' : i < (kvs.map (·.2)).length := by rw [List.length_map]; exact hi
      have := hs i (kvs.map (·.2))[i] s (List.getElem?_eq_getElem hi') h
      simpa only [List.getElem?_eq_getElem hi', Option.getD] using this) hd
/-- where neither test nor element changes the store: kept items by f -/
def LcP (g : GL) (t : TM) (e : EM) (lo : Lo) (s : Sto) (x : Vl) (r : Option Vl) : Prop := ∀ acc, ∃ lo', g x lo = some lo' ∧ WE (t lo') (s ++ [.lst acc]) (fun c s' => s' = s ++ [.lst acc] ∧ if c = true then WE (e lo') s' (fun y s'' => s'' = s ++ [.lst acc] ∧ r = some y) NoX else r = none) NoX
theorem LcP.turn {g : GL} {t : TM} {e : EM} {s : Sto} {x : Vl} {r : Option Vl} {acc : List Vl} (h : LcP g t e lo s x r) (hl : acc.length < LIM) : ∃ lo', g x lo = some lo' ∧ LcT t e s.length lo' (s ++ [.lst acc]) fun s' => s' = s ++ [.lst (acc ++ r.toList)] := by
  obtain ⟨lo', h1, h2⟩ := h acc
  refine ⟨lo', h1, WE.mono h2 (fun c s' hc => ?_) fun _ _ z => z⟩
  obtain ⟨rfl, h3⟩ := hc
  cases c with
  | false =>
    simp only [if_false, Bool.false_eq_true] at h3 ⊢
    subst h3
    simp
  | true =>
    simp only [if_true] at h3 ⊢
    refine WE.mono h3 (fun y s'' hy => ?_) fun _ _ z => z
    obtain ⟨rfl, rfl⟩ := hy
    simp [hl]
theorem lcX_pure {g : GL} {t : TM} {e : EM} {xs : List Vl} {s : Sto} {Q : Sto → Prop} (f : Vl → Option Vl) (hl : xs.length < LIM) (hx : ∀ x ∈ xs, LcP g t e lo s x (f x)) (hd : Q (s ++ [.lst (xs.filterMap f)])) : WL (lcX g t e s.length lo xs (s ++ [.lst []])) Q := by
  refine lcX_inv (fun i s' => s' = s ++ [.lst ((xs.take i).filterMap f)]) (by simp) (fun i v s' hv e => ?_) (fun s' e => by rw [e, List.take_length]; exact hd)
  subst e
  obtain ⟨hi, ev⟩ := List.getElem?_eq_some_iff.mp hv
  have hlen : ((xs.take i).filterMap f).length < LIM := Nat.lt_of_le_of_lt (Nat.le_trans (List.length_filterMap_le ..) (by rw [List.length_take]; exact Nat.min_le_right ..)) hl
  obtain ⟨lo', h1, h2⟩ := (hx v (List.mem_of_getElem? hv)).turn hlen
  refine ⟨lo', h1, ?_⟩
  have : (xs.take (i + 1)).filterMap f = (xs.take i).filterMap f ++ (f v).toList := by
    rw [List.take_add_one, hv, Option.toList, List.filterMap_append]
    cases h : f v <;> simp [List.filterMap_cons, h]
  rw [this]
  exact h2
theorem lcL_pure {j fuel : Nat} {g : GL} {t : TM} {e : EM} {xs : List Vl} {s : Sto} {Q : Sto → Prop} (f : Vl → Option Vl) (hj : s[j]? = some (.lst xs)) (hl : xs.length < LIM) (hf : xs.length < fuel) (hx : ∀ x ∈ xs, LcP g t e lo s x (f x)) (hd : Q (s ++ [.lst (xs.filterMap f)])) :
    WL (lcN (nxLst j) g t e s.length lo fuel 0 (s ++ [.lst []])) Q := by
  have hjl : j < s.length := (List.getElem?_eq_some_iff.mp hj).1
  refine lcL_inv (xs := xs) (fun i s' => s' = s ++ [.lst ((xs.take i).filterMap f)]) hf (by simp) (fun i s' e => by rw [e, List.getElem?_append_left hjl]; exact hj) (fun i v s' hv e => ?_) (fun s' e => by rw [e, List.take_length]; exact hd)
  subst e
  have hlen : ((xs.take i).filterMap f).length < LIM := Nat.lt_of_le_of_lt (Nat.le_trans (List.length_filterMap_le ..) (by rw [List.length_take]; exact Nat.min_le_right ..)) hl
  obtain ⟨lo', h1, h2⟩ := (hx v (List.mem_of_getElem? hv)).turn hlen
  refine ⟨lo', h1, ?_⟩
  have : (xs.take (i + 1)).filterMap f = (xs.take i).filterMap f ++ (f v).toList := by
    rw [List.take_add_one, hv, Option.toList, List.filterMap_append]
    cases h : f v <;> simp [List.filterMap_cons, h]
  rw [this]
  exact h2
end
end Sm

/-! S15: frames of stores; locked dicts; decks of numbers -/
namespace Sm
open PySem L2
/-- all that stood in s stands in s' but for the numbers X -/
structure Fr (X : List Nat) (s s' : Sto) : Prop where
  le : s.length ≤ s'.length
  get : ∀ i, i < s.length → i ∉ X → s'[i]? = s[i]?
section
variable {X Y : List Nat} {s s1 s2 : Sto}
theorem Fr.refl : Fr X s s := ⟨Nat.le_refl _, fun _ _ _ => rfl⟩
theorem Fr.trans (a : Fr X s s1) (b : Fr X s1 s2) : Fr X s s2 := ⟨Nat.le_trans a.le b.le, fun i hi hx => (b.get i (Nat.lt_of_lt_of_le hi a.le) hx).trans (a.get i hi hx)⟩
theorem Fr.mono (a : Fr X s s1) (h : ∀ i ∈ X, i ∈ Y) : Fr Y s s1 := ⟨a.le, fun i hi hx => a.get i hi fun z => hx (h i z)⟩
/-- what is changed in s1 may be new since s -/
theorem Fr.trans' (a : Fr X s s1) (b : Fr Y s1 s2) (h : ∀ i ∈ Y, i ∈ X ∨ s.length ≤ i) : Fr X s s2 := ⟨Nat.le_trans a.le b.le, fun i hi hx => (b.get i (Nat.lt_of_lt_of_le hi a.le) fun z => (h i z).elim hx fun q => absurd hi (Nat.not_lt.mpr q)).trans (a.get i hi hx)⟩
theorem Fr.at (a : Fr X s s1) {i : Nat} {o : Ob} (h : s[i]? = some o) (hx : i ∉ X) : s1[i]? = some o := (a.get i (List.getElem?_eq_some_iff.mp h).1 hx).trans h
theorem Fr.push (a : Fr X s s1) (o : Ob) : Fr X s (s1 ++ [o]) := ⟨by rw [List.length_append]; exact Nat.le_trans a.le (Nat.le_add_right ..), fun i hi hx => by rw [List.getElem?_append_left (Nat.lt_of_lt_of_le hi a.le)]; exact a.get i hi hx⟩
theorem Fr.app (a : Fr X s s1) (t : Sto) : Fr X s (s1 ++ t) := ⟨by rw [List.length_append]; exact Nat.le_trans a.le (Nat.le_add_right ..), fun i hi hx => by rw [List.getElem?_append_left (Nat.lt_of_lt_of_le hi a.le)]; exact a.get i hi hx⟩
theorem Fr.set (a : Fr X s s1) {i : Nat} {o : Ob} (h : i ∈ X ∨ s.length ≤ i) : Fr X s (s1.set i o) := ⟨by rw [List.length_set]; exact a.le, fun j hj hx => by
  rw [List.getElem?_set_ne (fun z => by subst z; exact h.elim hx fun q => absurd hj (Nat.not_lt.mpr q))]
  exact a.get j hj hx⟩
end
@[simp] theorem get_set_self {s : Sto} {i : Nat} {o o' : Ob} (h : s[i]? = some o) : (s.set i o')[i]? = some o' := List.getElem?_set_self (List.getElem?_eq_some_iff.mp h).1
theorem get_set_ne {s : Sto} {i j : Nat} {o' : Ob} (h : i ≠ j) : (s.set i o')[j]? = s[j]? := List.getElem?_set_ne h
theorem get_push {s : Sto} {i : Nat} {o o' : Ob} (h : s[i]? = some o) : (s ++ [o'])[i]? = some o := by rw [List.getElem?_append_left (List.getElem?_eq_some_iff.mp h).1]; exact h
theorem get_app {s t : Sto} {i : Nat} {o : Ob} (h : s[i]? = some o) : (s ++ t)[i]? = some o := by rw [List.getElem?_append_left (List.getElem?_eq_some_iff.mp h).1]; exact h
@[simp] theorem get_last {s : Sto} {o : Ob} : (s ++ [o])[s.length]? = some o := by simp
theorem lt_of_get {s : Sto} {i : Nat} {o : Ob} (h : s[i]? = some o) : i < s.length := (List.getElem?_eq_some_iff.mp h).1
theorem ne_of_get {s : Sto} {i j : Nat} {o o' : Ob} (h : s[i]? = some o) (h' : s[j]? = some o') (n : o ≠ o') : i ≠ j := fun e => by subst e; rw [h] at h'; cases h'; exact n rfl
section
variable {s : Sto} {lo : Lo} {QV : Vl → Sto → Prop} {E : Ex → Sto → Prop}
theorem WE_eLock {e c : EM} {j : Nat} {kvs : List (Key × Vl)} (he : WE (e lo) s (fun v _ => v = .ref j) NoX) (hj : s[j]? = some (.dic kvs)) (hc : WE (c lo) (s.set j (.fdic kvs)) (fun v s' => (∃ kvs', s'[j]? = some (.fdic kvs')) ∧ QV v (s'.set j (.dic kvs))) NoX) : WE (eLock e c lo) s QV E := by
  obtain ⟨v, s', e1, e2⟩ := he.get
  subst e2
  obtain ⟨w, s2, e3, ⟨k', e4⟩, e5⟩ := hc.get
  simp only [WE_eq]
  unfold WE0 eLock
  simp only [e1, hj, e3, e4]
  exact e5
@[simp ↓] theorem WE_iVal {e : EM} {QN : NX → Sto → Prop} : WE (iVal e lo) s QN E = WE (e lo) s (fun x s => match x with | .ref j => (match s[j]? with | some (.fdic _) => QN (nxVals j) s | _ => False) | _ => False) E := by
  unfold iVal
  rw [WE_bnd]
  refine WE_ext fun x s => ?_
  cases x <;> try (simp only [WE_eq]; rfl)
  rename_i j
  simp only [WE_eq]
  unfold WE0
  simp only
  cases h : s[j]? with
  | none => rfl
  | some o => cases o <;> rfl
@[simp ↓] theorem WE_eListVals {e : EM} : WE (eListVals e lo) s QV E = WE (e lo) s (fun x s => match x with | .ref j => (match s[j]? with | some (.dic kvs) => QV (.ref s.length) (s ++ [.lst (kvs.map (·.2))]) | _ => False) | _ => False) E := by
  unfold eListVals
  rw [WE_bnd]
  refine WE_ext fun x s => ?_
  cases x <;> try (simp only [WE_eq]; rfl)
  rename_i j
  simp only [WE_eq]
  unfold WE0
  simp only
  cases h : s[j]? with
  | none => rfl
  | some o => cases o <;> rfl
/-- {k: v} of plain parts -/
theorem WE_eDict1 {k v : EM} {x y : Vl} {key : Key} (hk : ∀ s, WE (k lo) s (fun z s' => z = x ∧ s' = s) NoX) (hv : ∀ s, WE (v lo) s (fun z s' => z = y ∧ s' = s) NoX) (hx : keyOf x = some key) (h : QV (.ref s.length) (s ++ [.dic [(key, y)]])) : WE (eDict [(k, v)] lo) s QV E := by
  obtain ⟨a, s1, e1, rfl, rfl⟩ := (hk (s ++ [.dic []])).get
  obtain ⟨b, s2, e2, rfl, rfl⟩ := (hv (s ++ [.dic []])).get
  simp only [WE_eq]
  unfold WE0 eDict
  have : dpM [(k, v)] lo (s ++ [.dic []]) = .ok [(a, b)] (s ++ [.dic []]) := by
    simp only [dpM, bnd, e1, e2, ret]
  simp only [this, get_last]
  simp [mapO, keyP, hx, mergeP, put]
  exact h
end
/-- a deck: the cells at l and the count c, at d -/
structure Deck (s : Sto) (d l c : Nat) (cells : List Int) : Prop where
  top : s[d]? = some (.lst [.ref l, .int c])
  cel : s[l]? = some (.lst (cells.map Vl.int))
  nn : ∀ x ∈ cells, 0 ≤ x
  ne : l ≠ d
theorem Deck.fr {X : List Nat} {s s' : Sto} {d l c : Nat} {cells : List Int} (D : Deck s d l c cells) (f : Fr X s s') (h1 : d ∉ X) (h2 : l ∉ X) : Deck s' d l c cells := ⟨f.at D.top h1, f.at D.cel h2, D.nn, D.ne⟩
/-- some deck with at most c draws -/
def DeckLe (s : Sto) (d l c : Nat) : Prop := ∃ k cells, k ≤ c ∧ Deck s d l k cells
end Sm

/-! S16: operations on values that are known, as rewriting rules -/
namespace Sm
open PySem L2
section
variable {α : Type} {s : Sto} {lo : Lo} {i j : Int} {a b : Nat} {xs ys : List Vl} {x y : Str} {v w : Vl} {kvs : List (Key × Vl)} {k : Bool}
@[simp] theorem opAdd_int : opAdd (.int i) (.int j) s = some (.int (i + j), s) := rfl
@[simp] theorem opSub_int : opSub (.int i) (.int j) s = some (.int (i - j), s) := rfl
@[simp] theorem opNeg_int : opNeg (.int i) s = some (.int (-i), s) := rfl
@[simp] theorem opAdd_tup (h : xs.length + ys.length ≤ LIM) : opAdd (.tup xs) (.tup ys) s = some (.tup (xs ++ ys), s) := by simp only [opAdd, if_pos h]
@[simp] theorem opAdd_str (h : x.length + y.length ≤ LIM) : opAdd (.str x) (.str y) s = some (.str (x ++ y), s) := by simp only [opAdd, if_pos h]
@[simp] theorem opAdd_lst (h1 : s[a]? = some (.lst xs)) (h2 : s[b]? = some (.lst ys)) (h : xs.length + ys.length ≤ LIM) : opAdd (.ref a) (.ref b) s = some (.ref s.length, s ++ [.lst (xs ++ ys)]) := by simp only [opAdd, h1, h2, if_pos h]
@[simp] theorem opMul_int (h : (-(2 ^ 64) < i ∧ i < 2 ^ 64) ∨ (-(2 ^ 64) < j ∧ j < 2 ^ 64)) : opMul (.int i) (.int j) s = some (.int (i * j), s) := by simp only [opMul, if_pos h]
@[simp] theorem opMul_lst (h1 : s[a]? = some (.lst xs)) (h : 0 ≤ i ∧ i < 2 ^ 60 ∧ xs.length * i.toNat ≤ LIM) : opMul (.ref a) (.int i) s = some (.ref s.length, s ++ [.lst (List.replicate i.toNat xs).flatten]) := by simp only [opMul, h1, if_pos h]
@[simp] theorem opFdiv_int (h : 0 < j ∧ j < 1073741824) : opFdiv (.int i) (.int j) s = some (.int (i / j), s) := by
  have h2 : 0 < j ∧ j < 1267650600228229401496703205376 := ⟨h.1, by omega⟩
  simp only [opFdiv, if_pos h2]
@[simp] theorem opFdiv_intW (h : 0 < j ∧ j < 1267650600228229401496703205376) : opFdiv (.int i) (.int j) s = some (.int (i / j), s) := by simp only [opFdiv, if_pos h]
@[simp] theorem opMod_int (h : 0 < j) : opMod (.int i) (.int j) s = some (.int (i % j), s) := by simp only [opMod, if_pos h]
@[simp] theorem opPow_int (h : 0 ≤ j ∧ j ≤ 1000000 ∧ i.natAbs < 2 ^ 64) : opPow (.int i) (.int j) s = some (.int (i ^ j.toNat), s) := by simp only [opPow, if_pos h]
@[simp] theorem opLt_int : opLt (.int i) (.int j) s = some (.bl (decide (i < j)), s) := rfl
@[simp] theorem opLe_int : opLe (.int i) (.int j) s = some (.bl (decide (i ≤ j)), s) := rfl
@[simp] theorem opGt_int : opGt (.int i) (.int j) s = some (.bl (decide (j < i)), s) := rfl
@[simp] theorem opGe_int : opGe (.int i) (.int j) s = some (.bl (decide (j ≤ i)), s) := rfl
@[simp] theorem opIsN_non : opIsN v .non s = some (.bl (isNon v), s) := by cases v <;> rfl
@[simp] theorem opNotN_non : opNotN v .non s = some (.bl (!isNon v), s) := by cases v <;> rfl
@[simp] theorem isNon_non : isNon .non = true := rfl
@[simp] theorem isNon_int : isNon (.int i) = false := rfl
@[simp] theorem isNon_str : isNon (.str x) = false := rfl
@[simp] theorem isNon_tup : isNon (.tup xs) = false := rfl
@[simp] theorem isNon_ref : isNon (.ref a) = false := rfl
@[simp] theorem isNon_bl : isNon (.bl k) = false := rfl
@[simp] theorem opEq_int : opEq (.int i) (.int j) s = some (.bl (i == j), s) := rfl
@[simp] theorem opNe_int : opNe (.int i) (.int j) s = some (.bl (!(i == j)), s) := rfl
@[simp] theorem opEq_str : opEq (.str x) (.str y) s = some (.bl (x == y), s) := rfl
@[simp] theorem opNe_str : opNe (.str x) (.str y) s = some (.bl (!(x == y)), s) := rfl
@[simp] theorem opIx_tup : opIx (.tup xs) (.int i) s = (atI xs i).map fun v => (v, s) := rfl
@[simp] theorem opIx_lst (h : s[a]? = some (.lst xs)) : opIx (.ref a) (.int i) s = (atI xs i).map fun v => (v, s) := by simp only [opIx, h]
@[simp] theorem opIx_dicI (h : s[a]? = some (.dic kvs)) : opIx (.ref a) (.int i) s = (look kvs (.inl i)).map fun v => (v, s) := by simp only [opIx, h, keyOf]
@[simp] theorem opIx_dicS (h : s[a]? = some (.dic kvs)) : opIx (.ref a) (.str x) s = (look kvs (.inr x)).map fun v => (v, s) := by simp only [opIx, h, keyOf]
@[simp] theorem opSet_lst (h : s[a]? = some (.lst xs)) : opSet (.ref a) (.int i) v s = (ixN xs.length i).map fun n => s.set a (.lst (xs.set n v)) := by
  simp only [opSet, h]
  cases ixN xs.length i <;> rfl
@[simp] theorem opSet_dicI (h : s[a]? = some (.dic kvs)) (hl : kvs.length < LIM) : opSet (.ref a) (.int i) v s = some (s.set a (.dic (put kvs (.inl i) v))) := by simp only [opSet, h, keyOf, if_pos hl]
@[simp] theorem opSet_dicS (h : s[a]? = some (.dic kvs)) (hl : kvs.length < LIM) : opSet (.ref a) (.str x) v s = some (s.set a (.dic (put kvs (.inr x) v))) := by simp only [opSet, h, keyOf, if_pos hl]
@[simp] theorem oLen_lst (h : s[a]? = some (.lst xs)) : oLen [.ref a] s = some (.int xs.length, s) := by simp [oLen, lenM, h]
@[simp] theorem oLen_dic (h : s[a]? = some (.dic kvs)) : oLen [.ref a] s = some (.int kvs.length, s) := by simp [oLen, lenM, h]
@[simp] theorem oLen_tup : oLen [.tup xs] s = some (.int xs.length, s) := rfl
@[simp] theorem oAbs_int : oAbs [.int i] s = some (.int (if i < 0 then -i else i), s) := rfl
@[simp] theorem oInt_int : oInt [.int i] s = some (.int i, s) := rfl
@[simp] theorem oInt_bl : oInt [.bl k] s = some (.int (if k then 1 else 0), s) := rfl
@[simp] theorem oMax_int : oMax [.int i, .int j] s = some (.int (if j > i then j else i), s) := rfl
@[simp] theorem oMin_int : oMin [.int i, .int j] s = some (.int (if j < i then j else i), s) := rfl
@[simp] theorem oTup_ok (h : xs.length ≤ LIM) : oTup xs s = some (.tup xs, s) := by simp only [oTup, if_pos h]
@[simp] theorem oLst_ok (h : xs.length ≤ LIM) : oLst xs s = some (.ref s.length, s ++ [.lst xs]) := by simp only [oLst, if_pos h]
@[simp] theorem oTuple_lst (h : s[a]? = some (.lst xs)) : oTuple [.ref a] s = some (.tup xs, s) := by simp only [oTuple, h]
@[simp] theorem oTuple_tup : oTuple [.tup xs] s = some (.tup xs, s) := rfl
@[simp] theorem oList_lst (h : s[a]? = some (.lst xs)) : oList [.ref a] s = some (.ref s.length, s ++ [.lst xs]) := by simp only [oList, h]
@[simp] theorem oList_tup : oList [.tup xs] s = some (.ref s.length, s ++ [.lst xs]) := rfl
@[simp] theorem oList_dic (h : s[a]? = some (.dic kvs)) : oList [.ref a] s = some (.ref s.length, s ++ [.lst (kvs.map fun kv => keyVl kv.1)]) := by simp only [oList, h]
@[simp] theorem oAppend_lst (h : s[a]? = some (.lst xs)) (hl : xs.length < LIM) : oAppend (.ref a) [v] s = some (.non, s.set a (.lst (xs ++ [v]))) := by simp only [oAppend, h, if_pos hl]
@[simp] theorem oExtend_lst (h : s[a]? = some (.lst xs)) (h2 : s[b]? = some (.lst ys)) (hl : xs.length + ys.length ≤ LIM) : oExtend (.ref a) [.ref b] s = some (.non, s.set a (.lst (xs ++ ys))) := by simp only [oExtend, h, h2, if_pos hl]
@[simp] theorem oExtend_tup (h : s[a]? = some (.lst xs)) (hl : xs.length + ys.length ≤ LIM) : oExtend (.ref a) [.tup ys] s = some (.non, s.set a (.lst (xs ++ ys))) := by simp only [oExtend, h, if_pos hl]
@[simp] theorem oPop_lst (h : s[a]? = some (.lst (xs ++ [v]))) : oPop (.ref a) [] s = some (v, s.set a (.lst xs)) := by
  simp only [oPop, h]
  simp
@[simp] theorem kd_lst (h : s[a]? = some (.lst xs)) : kd .list (.ref a) s = true := by simp only [kd, h]
@[simp] theorem kd_dic (h : s[a]? = some (.dic kvs)) : kd .dict (.ref a) s = true := by simp only [kd, h]
@[simp] theorem kd_str : kd .str (.str x) s = true := rfl
@[simp] theorem opSl_tup {lo hi : Option Int} : opSl (.tup xs) lo hi s = some (.tup (cutL xs lo hi), s) := rfl
@[simp] theorem opSl_lst {lo hi : Option Int} (h : s[a]? = some (.lst xs)) : opSl (.ref a) lo hi s = some (.ref s.length, s ++ [.lst (cutL xs lo hi)]) := by simp only [opSl, h]
@[simp] theorem opSl_scr {lo hi : Option Int} {ns : List Int} : opSl (.scr ns) lo hi s = some (.ref s.length, s ++ [.lst ((cutL ns lo hi).map Vl.int)]) := rfl
@[simp] theorem opIn_lst (h : s[a]? = some (.lst xs)) (hf : flat v = true) (ha : xs.all flat = true) : opIn v (.ref a) s = some (.bl (inF v xs), s) := by simp only [opIn, inM, h, hf, ha, Bool.and_self, if_true]
@[simp] theorem opNotIn_lst (h : s[a]? = some (.lst xs)) (hf : flat v = true) (ha : xs.all flat = true) : opNotIn v (.ref a) s = some (.bl (!inF v xs), s) := by simp only [opNotIn, inM, h, hf, ha, Bool.and_self, if_true]
@[simp] theorem opIn_tup (hf : flat v = true) (ha : xs.all flat = true) : opIn v (.tup xs) s = some (.bl (inF v xs), s) := by simp only [opIn, inM, hf, ha, Bool.and_self, if_true]
@[simp] theorem opNotIn_tup (hf : flat v = true) (ha : xs.all flat = true) : opNotIn v (.tup xs) s = some (.bl (!inF v xs), s) := by simp only [opNotIn, inM, hf, ha, Bool.and_self, if_true]
@[simp] theorem opIn_dicI (h : s[a]? = some (.dic kvs)) : opIn (.int i) (.ref a) s = some (.bl (hasK kvs (.inl i)), s) := by simp only [opIn, inM, h, keyOf]
@[simp] theorem opNotIn_dicI (h : s[a]? = some (.dic kvs)) : opNotIn (.int i) (.ref a) s = some (.bl (!hasK kvs (.inl i)), s) := by simp only [opNotIn, inM, h, keyOf]
@[simp] theorem opIn_dicS (h : s[a]? = some (.dic kvs)) : opIn (.str x) (.ref a) s = some (.bl (hasK kvs (.inr x)), s) := by simp only [opIn, inM, h, keyOf]
@[simp] theorem opNotIn_dicS (h : s[a]? = some (.dic kvs)) : opNotIn (.str x) (.ref a) s = some (.bl (!hasK kvs (.inr x)), s) := by simp only [opNotIn, inM, h, keyOf]
@[simp] theorem flat_int : flat (.int i) = true := rfl
@[simp] theorem flat_str : flat (.str x) = true := rfl
@[simp] theorem flat_bl : flat (.bl k) = true := rfl
@[simp] theorem flat_non : flat .non = true := rfl
@[simp] theorem oSortS_ints {ns : List Int} (h : s[a]? = some (.lst (ns.map Vl.int))) : oSortS [.ref a] s = some (.ref s.length, s ++ [.lst ((srt ns).map Vl.int)]) := by simp [oSortS, h, mapO_ints]
@[simp] theorem oSortS_set {ns : List Int} (h : s[a]? = some (.set ns)) (hl : ns.length < 64) : oSortS [.ref a] s = some (.ref s.length, s ++ [.lst ((srt ns).map Vl.int)]) := by simp [oSortS, h, hl]
@[simp] theorem oSet_ints {ns : List Int} (h : s[a]? = some (.lst (ns.map Vl.int))) (hl : ns.length < 4000) : oSet [.ref a] s = some (.ref s.length, s ++ [.set (ddup ns)]) := by simp [oSet, lstOf, h, mapO_ints, hl]
@[simp] theorem oAll_bls {bs : List Bool} (h : s[a]? = some (.lst (bs.map Vl.bl))) : oAll [.ref a] s = some (.bl (bs.all id), s) := by simp [oAll, lstOf, h, mapO_bls]
@[simp] theorem oAny_bls {bs : List Bool} (h : s[a]? = some (.lst (bs.map Vl.bl))) : oAny [.ref a] s = some (.bl (bs.any id), s) := by simp [oAny, lstOf, h, mapO_bls]
@[simp] theorem oSum_ints {ns : List Int} (h : s[a]? = some (.lst (ns.map Vl.int))) : oSum [.ref a] s = some (.int ns.sum, s) := by simp [oSum, lstOf, h, mapO_ints]
theorem fldW_ins {cs : List Nat} {f : Str} {c : Nat} {fs : List (Str × Vl)} {QV : Vl → Sto → Prop} (h : s[a]? = some (.ins c fs)) : fldW cs f (.ref a) s QV = (c ∈ cs ∧ match getS fs f with | some v => QV v s | none => False) := by
  simp only [fldW, h] <;> rfl
theorem setFld_ins {cs : List Nat} {f : Str} {c : Nat} {fs : List (Str × Vl)} (h : s[a]? = some (.ins c fs)) (hc : c ∈ cs ∧ fs.length < 1000) : setFld cs f (.ref a) v s = some (s.set a (.ins c (putS f v fs))) := by simp only [setFld, h, if_pos hc]
theorem methW_ins {m : Str} {tab : MTab} {c : Nat} {fs : List (Str × Vl)} {mf : List Vl → M Vl} {P : (List Vl → M Vl) → Prop} (h : s[a]? = some (.ins c fs)) (ht : tab c = some mf) (hg : getS fs m = none) : methW m tab (.ref a) s P = P mf := by simp only [methW, h, ht, hg]
@[simp] theorem lim0 : (0 ≤ LIM) = True := eq_true (by decide)
@[simp] theorem lim1 : (1 ≤ LIM) = True := eq_true (by decide)
@[simp] theorem lim2 : (2 ≤ LIM) = True := eq_true (by decide)
@[simp] theorem lim3 : (3 ≤ LIM) = True := eq_true (by decide)
@[simp] theorem lim4 : (4 ≤ LIM) = True := eq_true (by decide)
@[simp] theorem lim5 : (5 ≤ LIM) = True := eq_true (by decide)
@[simp] theorem lim6 : (6 ≤ LIM) = True := eq_true (by decide)
@[simp] theorem limz : (0 < LIM) = True := eq_true (by decide)
theorem limB {n : Nat} (h : n ≤ 1000000) : n ≤ LIM := Nat.le_trans h (by decide)
theorem limC {n : Nat} (h : n < 1000000) : n < LIM := Nat.lt_of_lt_of_le h (by decide)
end
theorem ixN_nat {n m : Nat} (h : n < m) : ixN m (n : Int) = some n := by
  simp [ixN, h]
theorem atN {α : Type} {xs : List α} {n : Nat} : atI xs (n : Int) = xs[n]? := by
  by_cases h : n < xs.length
  · simp [atI, ixN_nat h]
  · simp [atI, ixN, h, List.getElem?_eq_none (Nat.le_of_not_lt h)]
@[simp] theorem atI_0 {α : Type} {xs : List α} : atI xs 0 = xs[0]? := atN (n := 0)
@[simp] theorem atI_1 {α : Type} {xs : List α} : atI xs 1 = xs[1]? := atN (n := 1)
@[simp] theorem atI_2 {α : Type} {xs : List α} : atI xs 2 = xs[2]? := atN (n := 2)
@[simp] theorem atI_3 {α : Type} {xs : List α} : atI xs 3 = xs[3]? := atN (n := 3)
@[simp] theorem atLast {α : Type} {xs : List α} {v : α} : atI (xs ++ [v]) (-1) = some v := by
  have : ixN (xs ++ [v]).length (-1) = some xs.length := by
    simp [ixN]
    omega
  unfold atI
  rw [this]
  simp
theorem mapO_none {α β : Type} {f : α → Option β} : ∀ {xs : List α}, (∀ x ∈ xs, (f x).isSome = true) → ∃ ys, mapO f xs = some ys ∧ ys.length = xs.length
  | [], _ => ⟨[], rfl, rfl⟩
  | x :: xs, h => by
    obtain ⟨y, hy⟩ := Option.isSome_iff_exists.mp (h x (List.mem_cons_self ..))
    obtain ⟨ys, e, l⟩ := mapO_none fun z hz => h z (List.mem_cons_of_mem _ hz)
    exact ⟨y :: ys, by simp only [mapO, hy, e], by simp [l]⟩
@[simp] theorem cutL_nat {α : Type} {xs : List α} {n : Nat} : cutL xs none (some (n : Int)) = xs.take n := by
  unfold cutL
  rw [HT.sIx_none, HT.sIx_nat]
  simp [List.take_eq_take_iff]
theorem lcX_p {g : GL} {t : TM} {e : EM} {lo : Lo} {d : Nat} {xs : List Vl} {s0 : Sto} {Q : Sto → Prop} (s : Sto) (f : Vl → Option Vl) (h1 : d = s.length) (h2 : s0 = s ++ [.lst []]) (hl : xs.length < 1000000) (hx : ∀ x ∈ xs, LcP g t e lo s x (f x)) (hd : Q (s ++ [.lst (xs.filterMap f)])) : WL (lcX g t e d lo xs s0) Q := by
  subst h1 h2
  exact lcX_pure f (limC hl) hx hd
theorem lcL_p {j : Nat} {g : GL} {t : TM} {e : EM} {lo : Lo} {d : Nat} {xs : List Vl} {s0 : Sto} {Q : Sto → Prop} (s : Sto) (f : Vl → Option Vl) (h1 : d = s.length) (h2 : s0 = s ++ [.lst []]) (hj : s[j]? = some (.lst xs)) (hf : xs.length < 100000) (hx : ∀ x ∈ xs, LcP g t e lo s x (f x)) (hd : Q (s ++ [.lst (xs.filterMap f)])) :
    WL (lcN (nxLst j) g t e d lo 100000 0 s0) Q := by
  subst h1 h2
  exact lcL_pure f hj (limC (by omega)) hf hx hd
theorem lcV_p {j : Nat} {g : GL} {t : TM} {e : EM} {lo : Lo} {d : Nat} {kvs : List (Key × Vl)} {s0 : Sto} {Q : Sto → Prop} (s : Sto) (f : Vl → Option Vl) (h1 : d = s.length) (h2 : s0 = s ++ [.lst []]) (hj : s[j]? = some (.fdic kvs)) (hf : kvs.length < 100000) (hx : ∀ x ∈ kvs.map (·.2), LcP g t e lo s x (f x)) (hd : Q (s ++ [.lst ((kvs.map (·.2)).filterMap f)])) :
    WL (lcN (nxVals j) g t e d lo 100000 0 s0) Q := by
  subst h1 h2
  have hjl : j < s.length := (List.getElem?_eq_some_iff.mp hj).1
  generalize hxs : kvs.map (·.2) = xs at hx hd
  have hxl : xs.length = kvs.length := by rw [← hxs, List.length_map]
  refine lcV_inv (kvs := kvs) (fun i s' => s' = s ++ [.lst ((xs.take i).filterMap f)]) hf (by simp) (fun i s' e => by rw [e, List.getElem?_append_left hjl]; exact hj) (fun i v s' hv e => ?_) (fun s' e => by rw [e, ← hxl, List.take_length]; exact hd)
  subst e
  rw [hxs] at hv
  have hlen : ((xs.take i).filterMap f).length < LIM := Nat.lt_of_le_of_lt (Nat.le_trans (List.length_filterMap_le ..) (by rw [List.length_take]; exact Nat.min_le_right ..)) (limC (by omega))
  obtain ⟨lo', h1, h2⟩ := (hx v (List.mem_of_getElem? hv)).turn hlen
  refine ⟨lo', h1, ?_⟩
  have : (xs.take (i + 1)).filterMap f = (xs.take i).filterMap f ++ (f v).toList := by
    rw [List.take_add_one, hv, Option.toList, List.filterMap_append]
    cases h : f v <;> simp [List.filterMap_cons, h]
  rw [this]
  exact h2
/-- enumerate, both names read -/
theorem lcE_p {j : Nat} {g : GL} {t : TM} {e : EM} {lo : Lo} {d : Nat} {xs : List Vl} {s0 : Sto} {Q : Sto → Prop} (s : Sto) (f : Nat → Vl → Option Vl) (h1 : d = s.length) (h2 : s0 = s ++ [.lst []]) (hj : s[j]? = some (.lst xs)) (hf : xs.length < 100000) (hx : ∀ i x, xs[i]? = some x → LcP g t e lo s (.tup [.int (i : Nat), x]) (f i x)) (hd : Q (s ++ [.lst ((xs.zipIdx).filterMap fun p => f p.2 p.1)])) :
    WL (lcN (nxEnum j) g t e d lo 100000 0 s0) Q := by
  subst h1 h2
  have hjl : j < s.length := (List.getElem?_eq_some_iff.mp hj).1
  refine lcE_inv (xs := xs) (fun i s' => s' = s ++ [.lst (((xs.take i).zipIdx).filterMap fun p => f p.2 p.1)]) hf (by simp) (fun i s' e => by rw [e, List.getElem?_append_left hjl]; exact hj) (fun i v s' hv e => ?_) (fun s' e => by rw [e, List.take_length]; exact hd)
  subst e
  obtain ⟨hi, ev⟩ := List.getElem?_eq_some_iff.mp hv
  have hlen : (((xs.take i).zipIdx).filterMap fun p => f p.2 p.1).length < LIM := Nat.lt_of_le_of_lt (Nat.le_trans (List.length_filterMap_le ..) (by rw [List.length_zipIdx, List.length_take]; exact Nat.min_le_right ..)) (limC (by omega))
  obtain ⟨lo', h1, h2⟩ := (hx i v hv).turn hlen
  refine ⟨lo', h1, ?_⟩
  have : ((xs.take (i + 1)).zipIdx).filterMap (fun p => f p.2 p.1) = ((xs.take i).zipIdx).filterMap (fun p => f p.2 p.1) ++ (f i v).toList := by
    rw [List.take_add_one, hv, Option.toList, List.zipIdx_append, List.filterMap_append]
    have : 0 + (xs.take i).length = i := by rw [List.length_take]; omega
    rw [this]
    cases h : f i v <;> simp [List.filterMap_cons, h]
  rw [this]
  exact h2
end Sm

/-! S17: texts of plain values; == with an empty list -/
namespace Sm
open PySem L2
/-- a plain value, at most n deep, at most w wide -/
def Pn (n w : Nat) (v : Vl) : Prop := ∃ d : PyData, (∀ s m, n ≤ m → toD m s v = some d) ∧ d.leavesShort 13 = true ∧ d.showable = true ∧ d.weight ≤ w
theorem Pn.mono {n m w z : Nat} {v : Vl} (h : Pn n w v) (h1 : n ≤ m) (h2 : w ≤ z) : Pn m z v := by
  obtain ⟨d, a, b, c, e⟩ := h
  exact ⟨d, fun s k hk => a s k (Nat.le_trans h1 hk), b, c, Nat.le_trans e h2⟩
theorem Pn.non : Pn 1 64 .non := by
  refine ⟨.none, fun s m hm => ?_, rfl, rfl, by simp [PyData.weight]⟩
  obtain ⟨m, rfl⟩ : ∃ k, m = k + 1 := ⟨m - 1, by omega⟩
  rfl
theorem Pn.int {i : Int} (h : i.natAbs < 10 ^ 12) : Pn 1 64 (.int i) := by
  refine ⟨.int i, fun s m hm => ?_, ?_, ?_, ?_⟩
  · obtain ⟨m, rfl⟩ : ∃ k, m = k + 1 := ⟨m - 1, by omega⟩
    rfl
  · have := int_text_length_le10 (a := i) (k := 12) (by omega) h
    simp only [PyData.leavesShort, PyData.shown]
    refine decide_eq_true ?_
    have e : (Str.ofString (toString i)).length = (toString i).length := ofString_length _
    omega
  · simp only [PyData.showable, decide_eq_true_eq]
    rcases Nat.eq_zero_or_pos i.natAbs with z | z
    · rw [z]; decide
    · have : i.natAbs.log2 < 40 := by
        rw [Nat.log2_lt (by omega)]
        exact Nat.lt_of_lt_of_le h (by decide)
      omega
  · simp only [PyData.weight]
    split
    · omega
    · rename_i z
      have z : i.natAbs ≠ 0 := by simp at z; omega
      have : i.natAbs.log2 < 40 := by
        rw [Nat.log2_lt z]
        exact Nat.lt_of_lt_of_le h (by decide)
      omega
theorem Pn.str {x : Str} (h : (x.cps.toList.all fun c => decide (c < 16 ^ 8)) = true) (hl : x.length ≤ 64) : Pn 1 64 (.str x) := by
  refine ⟨.str x, fun s m hm => ?_, ?_, rfl, ?_⟩
  · obtain ⟨m, rfl⟩ : ∃ k, m = k + 1 := ⟨m - 1, by omega⟩
    rfl
  · exact h
  · exact hl
theorem Pn.all {n w : Nat} : ∀ {xs : List Vl}, (∀ x ∈ xs, Pn n w x) → ∃ ds : List PyData, (∀ s m, n ≤ m → mapO (toD m s) xs = some ds) ∧ PyData.leavesShortAll 13 ds = true ∧ PyData.showableAll ds = true ∧ PyData.weightAll ds ≤ xs.length * (w + 1)
  | [], _ => ⟨[], fun _ _ _ => rfl, rfl, rfl, by simp [PyData.weightAll]⟩
  | x :: xs, h => by
    obtain ⟨d, a, b, c, e⟩ := h x (List.mem_cons_self ..)
    obtain ⟨ds, a', b', c', e'⟩ := Pn.all fun y hy => h y (List.mem_cons_of_mem _ hy)
    refine ⟨d :: ds, fun s m hm => ?_, ?_, ?_, ?_⟩
    · simp only [mapO, a s m hm, a' s m hm]
    · simp only [PyData.leavesShortAll, b, b', Bool.and_self]
    · simp only [PyData.showableAll, c, c', Bool.and_self]
    · simp only [PyData.weightAll, List.length_cons, Nat.add_mul, Nat.one_mul]
      omega
theorem Pn.tup {n w : Nat} {xs : List Vl} (h : ∀ x ∈ xs, Pn n w x) : Pn (n + 1) (xs.length * (w + 1)) (.tup xs) := by
  obtain ⟨ds, a, b, c, e⟩ := Pn.all h
  refine ⟨.tuple ds, fun s m hm => ?_, ?_, ?_, ?_⟩
  · obtain ⟨m, rfl⟩ : ∃ k, m = k + 1 := ⟨m - 1, by omega⟩
    simp only [toD, a s m (by omega), Option.map]
  · simpa only [PyData.leavesShort] using b
  · simpa only [PyData.showable] using c
  · simpa only [PyData.weight] using e
theorem Pn.repr {n w : Nat} {v : Vl} (h : Pn n w v) (hn : n ≤ 40) (hw : w ≤ 2 ^ 20) : ∃ x, ∀ s, oRepr [v] s = some (.str x, s) := by
  obtain ⟨d, a, b, c, e⟩ := h
  refine ⟨d.shown, fun s => ?_⟩
  have : d.shown.length ≤ LIM := by
    rw [← lim_eq]
    exact PyData.shown_fits (by omega) (by omega) b (by omega)
  simp only [oRepr, a s 40 hn, c, this, decide_true, Bool.and_self, if_true]
theorem canLay_ints : ∀ ns : List Int, PyData.canLayAll0 (ns.map PyData.int) = true
  | [] => rfl
  | n :: ns => by simp only [List.map_cons, PyData.canLayAll0, PyData.canLay0, canLay_ints ns, Bool.and_self]
theorem toD_ints {s : Sto} {m : Nat} : ∀ ns : List Int, mapO (toD (m + 1) s) (ns.map Vl.int) = some (ns.map PyData.int)
  | [] => rfl
  | n :: ns => by
    have e : toD (m + 1) s (.int n) = some (.int n) := rfl
    simp only [List.map_cons, mapO, e, toD_ints ns]
theorem toD_lst {s : Sto} {m a : Nat} {xs : List Vl} (h : s[a]? = some (.lst xs)) : toD (m + 1) s (.ref a) = (mapO (toD m s) xs).map .list := by
  unfold toD
  simp only [h]
theorem eqM_nil {s : Sto} {a b : Nat} {ns : List Int} (h1 : s[a]? = some (.lst (ns.map Vl.int))) (h2 : s[b]? = some (.lst [])) : eqM (.ref a) (.ref b) s = some ns.isEmpty := by
  have e1 : toD 40 s (.ref a) = some (.list (ns.map PyData.int)) := by
    rw [toD_lst (m := 39) h1, toD_ints (m := 38)]
    rfl
  have e2 : toD 40 s (.ref b) = some (.list []) := by
    rw [toD_lst (m := 39) h2]
    rfl
  have e3 : PyData.canLay0 (.list (ns.map PyData.int)) = true := by simpa only [PyData.canLay0] using canLay_ints ns
  have e4 : PyData.canLay0 (.list []) = true := rfl
  simp only [eqM, eqS, e1, e2, e3, e4, Bool.and_self, if_true, PyData.eqv]
  cases ns <;> simp [PyData.eqvAll]
theorem opEq_nil {s : Sto} {a b : Nat} {ns : List Int} (h1 : s[a]? = some (.lst (ns.map Vl.int))) (h2 : s[b]? = some (.lst [])) : opEq (.ref a) (.ref b) s = some (.bl ns.isEmpty, s) := by
  simp only [opEq, eqM_nil h1 h2]
theorem opNe_nil {s : Sto} {a b : Nat} {ns : List Int} (h1 : s[a]? = some (.lst (ns.map Vl.int))) (h2 : s[b]? = some (.lst [])) : opNe (.ref a) (.ref b) s = some (.bl (!ns.isEmpty), s) := by
  simp only [opNe, eqM_nil h1 h2]
section
variable {mf : List Vl → M Vl} {s : Sto} {QV : Vl → Sto → Prop} {E : Ex → Sto → Prop} {x y z : Vl}
theorem WE_arg1 : WE (arg 1 mf [x]) s QV E = WE (mf [x]) s QV E := by rw [WE_arg]; exact if_pos rfl
theorem WE_arg2 : WE (arg 2 mf [x, y]) s QV E = WE (mf [x, y]) s QV E := by rw [WE_arg]; exact if_pos rfl
theorem WE_arg3 : WE (arg 3 mf [x, y, z]) s QV E = WE (mf [x, y, z]) s QV E := by rw [WE_arg]; exact if_pos rfl
end
@[simp] theorem rngW_nat {n : Nat} {s : Sto} {QA : List Vl → Sto → Prop} (h : n < 1000000) : rngW [.int (n : Int)] s QA = QA (rng 0 n) s := by
  rw [rngW_one]
  have h1 : -(2 ^ 62) ≤ (n : Int) := by omega
  have h2 : (n : Int) < 2 ^ 62 := by omega
  have e : (n : Int).toNat = n := Int.toNat_natCast n
  rw [e]
  exact propext ⟨fun z => z.2, fun z => ⟨⟨h1, h2⟩, z⟩⟩
theorem rng_get {n i : Nat} {v : Vl} (h : (rng 0 n)[i]? = some v) : i < n ∧ v = .int (i : Nat) := by
  have h1 := (List.getElem?_eq_some_iff.mp h).1
  have h2 : i < n := by simpa [rng] using h1
  refine ⟨h2, ?_⟩
  simp [rng, h2] at h
  exact h.symm
@[simp] theorem rng_len {n : Nat} : (rng 0 n).length = n := by simp [rng]
end Sm

/-! S23: dicts, lists of ints, new rules of the pure programs; plain lemmas -/
namespace Sm
open PySem L2
section
variable {s : Sto} {lo : Lo} {QV : Vl → Sto → Prop} {E : Ex → Sto → Prop}
@[simp ↓] theorem WE_eMakeB {c : Nat} : WE (eMakeB c lo) s QV E = QV (.ref s.length) (s ++ [.ins c []]) := by simp only [WE_eq]; rfl
@[simp ↓] theorem WE_starM {n : Nat} {mf : List Vl → M Vl} {as : List Vl} : WE (starM n mf as) s QV E = (if n ≤ as.length ∧ as.length ≤ LIM then WE (mf (as.take n ++ [.tup (as.drop n)])) s QV E else False) := by
  by_cases h : n ≤ as.length ∧ as.length ≤ LIM
  · simp only [WE_eq, WE0, starM, if_pos h]
  · simp only [WE_eq, WE0, starM, if_neg h]
def callW (tab : MTab) (j : Nat) (s : Sto) (P : (List Vl → M Vl) → Prop) : Prop := match s[j]? with
  | some (.ins c _) => match tab c with
    | some mf => P mf
    | none => False
  | _ => False
theorem callW_ins {tab : MTab} {c j : Nat} {fs : List (Str × Vl)} {mf : List Vl → M Vl} {P : (List Vl → M Vl) → Prop} (h : s[j]? = some (.ins c fs)) (ht : tab c = some mf) : callW tab j s P = P mf := by simp only [callW, h, ht]
theorem WE_eCallO {tab : MTab} {o : EM} {a : AM} : WE (eCallO tab o a lo) s QV E = WE (o lo) s (fun x s => match x with | .ref j => WE (a lo) s (fun as s => callW tab j s fun mf => WE (mf (.ref j :: as)) s QV E) E | _ => False) E := by
  unfold eCallO
  rw [WE_bnd]
  refine WE_ext fun x s => ?_
  cases x <;> try (simp only [WE_eq]; rfl)
  rename_i j
  show WE (bnd (a lo) _) s QV E = _
  rw [WE_bnd]
  refine WE_ext fun as s => ?_
  simp only [WE_eq]
  unfold WE0 callW
  simp only
  cases h : s[j]? with
  | none => rfl
  | some o =>
    cases o <;> try rfl
    rename_i c fs
    simp only
    cases h1 : tab c with
    | none => rfl
    | some mf => simp only [WE_eq] <;> rfl
end
theorem put_len {κ : Type} [DecidableEq κ] {kvs : List (κ × Vl)} {k : κ} {v : Vl} : (put kvs k v).length ≤ kvs.length + 1 := by
  induction kvs with
  | nil => simp [put]
  | cons p r ih =>
    unfold put
    split
    · simp
    · simp; omega
@[simp] theorem look_put_self {κ : Type} [DecidableEq κ] {kvs : List (κ × Vl)} {k : κ} {v : Vl} : look (put kvs k v) k = some v := by
  induction kvs with
  | nil => simp [put, look]
  | cons p r ih =>
    unfold put
    split
    · simp [look]
    · rename_i h
      simp [look, h, ih]
theorem look_put_ne {κ : Type} [DecidableEq κ] {kvs : List (κ × Vl)} {k k' : κ} {v : Vl} (h : k ≠ k') : look (put kvs k v) k' = look kvs k' := by
  induction kvs with
  | nil => simp [put, look, h]
  | cons p r ih =>
    unfold put
    split
    · rename_i e
      simp only [look]
      rw [if_neg h, if_neg (by rw [e]; exact h)]
    · simp only [look]
      split
      · rfl
      · exact ih
theorem hasK_keys {y : Int} : ∀ {kvs : List (Key × Vl)} {K : List Int}, kvs.map (·.1) = K.map Sum.inl → hasK kvs (.inl y) = decide (y ∈ K)
  | [], [], _ => by simp [hasK]
  | [], _ :: _, h => by simp at h
  | _ :: _, [], h => by simp at h
  | p :: r, k :: K, h => by
    simp only [List.map_cons, List.cons.injEq] at h
    unfold hasK
    by_cases q : p.1 = .inl y
    · have : k = y := by rw [q] at h; have := h.1; cases this; rfl
      simp [q, this]
    · have : y ≠ k := fun e => q (by rw [h.1, e])
      rw [if_neg q, hasK_keys h.2]
      simp [this]
theorem put_new {y : Int} {v : Vl} : ∀ {kvs : List (Key × Vl)} {K : List Int}, kvs.map (·.1) = K.map Sum.inl → y ∉ K → (put kvs (.inl y) v).map (·.1) = (K ++ [y]).map Sum.inl
  | [], [], _, _ => rfl
  | [], _ :: _, h, _ => by simp at h
  | _ :: _, [], h, _ => by simp at h
  | p :: r, k :: K, h, hy => by
    simp only [List.map_cons, List.cons.injEq] at h
    simp only [List.mem_cons, not_or] at hy
    unfold put
    have q : p.1 ≠ .inl y := fun e => hy.1 (by rw [h.1] at e; cases e; rfl)
    rw [if_neg q]
    simp only [List.map_cons, List.cons_append, put_new h.2 hy.2, h.1]
theorem nodup_sub : ∀ {A B : List Int}, A.Nodup → (∀ x ∈ A, x ∈ B) → A.length ≤ B.length
  | [], B, _, _ => Nat.zero_le _
  | a :: A, B, nd, h => by
    have ha := h a (List.mem_cons_self ..)
    simp only [List.nodup_cons] at nd
    have ih := nodup_sub (B := B.erase a) nd.2 fun x hx => (List.mem_erase_of_ne (show x ≠ a from fun e => nd.1 (e ▸ hx))).mpr (h x (List.mem_cons_of_mem _ hx))
    rw [List.length_erase_of_mem ha] at ih
    have := List.length_pos_of_mem ha
    simp only [List.length_cons]
    omega
abbrev Inc (A : List Int) : Prop := A.Pairwise (· < ·)
theorem Inc.nodup {A : List Int} (h : Inc A) : A.Nodup := h.imp fun a => by omega
theorem srt_inc {A : List Int} (nd : A.Nodup) : Inc (srt A) := by
  have h1 := srt_sorted A
  have h2 : (srt A).Nodup := (srt_perm A).nodup_iff.mpr nd
  exact (h1.and h2).imp fun h => by omega
theorem mem_srt {A : List Int} {x : Int} : x ∈ srt A ↔ x ∈ A := (srt_perm A).mem_iff
theorem srt_len {A : List Int} : (srt A).length = A.length := (srt_perm A).length_eq
@[simp] theorem inF_ints {c : Int} : ∀ C : List Int, inF (.int c) (C.map Vl.int) = decide (c ∈ C)
  | [] => by simp [inF]
  | x :: C => by
    have := inF_ints (c := c) C
    have e : eqF (.int x) (.int c) = decide (c = x) := by
      simp [eqF]
      by_cases q : x = c
      · simp [q]
      · simp [q, Ne.symm q]
    simp [inF, e] at this ⊢
    rw [this]
@[simp] theorem flat_ints {xs : List Int} : (xs.map Vl.int).all flat = true := by simp [List.all_map]
theorem keys_list {kvs : List (Key × Vl)} {K : List Int} (h : kvs.map (·.1) = K.map Sum.inl) : (kvs.map fun kv => keyVl kv.1) = K.map Vl.int := by
  have : (kvs.map fun kv => keyVl kv.1) = (kvs.map (·.1)).map keyVl := by simp
  rw [this, h, List.map_map]
  rfl
end Sm

/-! S24: texts that are written out; small rules -/
namespace Sm
open PySem L2
theorem toNat_map_inj : ∀ {a b : List Char}, a.map Char.toNat = b.map Char.toNat → a = b
  | [], [], _ => rfl
  | [], _ :: _, h => by simp at h
  | _ :: _, [], h => by simp at h
  | x :: a, y :: b, h => by
    simp only [List.map_cons, List.cons.injEq] at h
    rw [toNat_map_inj h.2, Char.toNat_inj.mp h.1]
theorem ofString_inj {a b : String} (h : Str.ofString a = Str.ofString b) : a = b := by
  rw [Str.ofString_eq_toList, Str.ofString_eq_toList] at h
  have h1 := congrArg (fun z => z.cps.toList) h
  simp only at h1
  exact String.toList_inj.mp (toNat_map_inj h1)
@[simp] theorem ofString_eq_iff {a b : String} : (Str.ofString a = Str.ofString b) = (a = b) := propext ⟨ofString_inj, fun h => by rw [h]⟩
@[simp] theorem ofString_beq {a b : String} : (Str.ofString a == Str.ofString b) = (a == b) := by
  by_cases h : a = b
  · subst h; simp
  · rw [beq_eq_false_iff_ne.mpr h, beq_eq_false_iff_ne.mpr fun z => h (ofString_inj z)]
@[simp] theorem eqF_str {a b : Str} : eqF (.str a) (.str b) = (a == b) := rfl
@[simp] theorem eqF_int {a b : Int} : eqF (.int a) (.int b) = (a == b) := rfl
@[simp] theorem inF_nil {x : Vl} : inF x [] = false := rfl
@[simp] theorem inF_cons {x y : Vl} {ys : List Vl} : inF x (y :: ys) = (eqF y x || inF x ys) := rfl
section
variable {s : Sto} {x : Str} {i : Int} {xs : List Vl} {a : Nat}
@[simp] theorem opIn_tupS : opIn (.str x) (.tup xs) s = if xs.all flat = true then some (.bl (inF (.str x) xs), s) else none := by
  by_cases h : xs.all flat = true
  · rw [if_pos h, opIn_tup rfl h]
  · have h' : xs.all flat = false := by simpa using h
    rw [if_neg h]; simp only [opIn, inM, h', Bool.and_false]; rfl
@[simp] theorem opNotIn_tupS : opNotIn (.str x) (.tup xs) s = if xs.all flat = true then some (.bl (!inF (.str x) xs), s) else none := by
  by_cases h : xs.all flat = true
  · rw [if_pos h, opNotIn_tup rfl h]
  · have h' : xs.all flat = false := by simpa using h
    rw [if_neg h]; simp only [opNotIn, inM, h', Bool.and_false]; rfl
@[simp] theorem opIn_tupI : opIn (.int i) (.tup xs) s = if xs.all flat = true then some (.bl (inF (.int i) xs), s) else none := by
  by_cases h : xs.all flat = true
  · rw [if_pos h, opIn_tup rfl h]
  · have h' : xs.all flat = false := by simpa using h
    rw [if_neg h]; simp only [opIn, inM, h', Bool.and_false]; rfl
@[simp] theorem opNotIn_tupI : opNotIn (.int i) (.tup xs) s = if xs.all flat = true then some (.bl (!inF (.int i) xs), s) else none := by
  by_cases h : xs.all flat = true
  · rw [if_pos h, opNotIn_tup rfl h]
  · have h' : xs.all flat = false := by simpa using h
    rw [if_neg h]; simp only [opNotIn, inM, h', Bool.and_false]; rfl
@[simp] theorem opIn_lstS (h1 : s[a]? = some (.lst xs)) : opIn (.str x) (.ref a) s = if xs.all flat = true then some (.bl (inF (.str x) xs), s) else none := by
  by_cases h : xs.all flat = true
  · rw [if_pos h, opIn_lst h1 rfl h]
  · have h' : xs.all flat = false := by simpa using h
    rw [if_neg h]; simp only [opIn, inM, h1, h', Bool.and_false]; rfl
@[simp] theorem opNotIn_lstS (h1 : s[a]? = some (.lst xs)) : opNotIn (.str x) (.ref a) s = if xs.all flat = true then some (.bl (!inF (.str x) xs), s) else none := by
  by_cases h : xs.all flat = true
  · rw [if_pos h, opNotIn_lst h1 rfl h]
  · have h' : xs.all flat = false := by simpa using h
    rw [if_neg h]; simp only [opNotIn, inM, h1, h', Bool.and_false]; rfl
@[simp] theorem opIn_lstI (h1 : s[a]? = some (.lst xs)) : opIn (.int i) (.ref a) s = if xs.all flat = true then some (.bl (inF (.int i) xs), s) else none := by
  by_cases h : xs.all flat = true
  · rw [if_pos h, opIn_lst h1 rfl h]
  · have h' : xs.all flat = false := by simpa using h
    rw [if_neg h]; simp only [opIn, inM, h1, h', Bool.and_false]; rfl
@[simp] theorem opNotIn_lstI (h1 : s[a]? = some (.lst xs)) : opNotIn (.int i) (.ref a) s = if xs.all flat = true then some (.bl (!inF (.int i) xs), s) else none := by
  by_cases h : xs.all flat = true
  · rw [if_pos h, opNotIn_lst h1 rfl h]
  · have h' : xs.all flat = false := by simpa using h
    rw [if_neg h]; simp only [opNotIn, inM, h1, h', Bool.and_false]; rfl
end
theorem eqM_tupN {s : Sto} {ns : List Int} : eqM (.tup (ns.map Vl.int)) (.tup []) s = some ns.isEmpty := by
  have e1 : toD 40 s (.tup (ns.map Vl.int)) = some (.tuple (ns.map PyData.int)) := by
    unfold toD
    simp only [toD_ints (m := 38), Option.map]
  have e2 : toD 40 s (.tup []) = some (.tuple []) := rfl
  have e3 : PyData.canLay0 (.tuple (ns.map PyData.int)) = true := by simpa only [PyData.canLay0] using canLay_ints ns
  have e4 : PyData.canLay0 (.tuple []) = true := rfl
  simp only [eqM, eqS, e1, e2, e3, e4, Bool.and_self, if_true, PyData.eqv]
  cases ns <;> simp [PyData.eqvAll]
theorem opEq_tupN {s : Sto} {ns : List Int} : opEq (.tup (ns.map Vl.int)) (.tup []) s = some (.bl ns.isEmpty, s) := by
  simp only [opEq, eqM_tupN]
theorem opNe_tupN {s : Sto} {ns : List Int} : opNe (.tup (ns.map Vl.int)) (.tup []) s = some (.bl (!ns.isEmpty), s) := by
  simp only [opNe, eqM_tupN]
@[simp] theorem lim7 : (7 ≤ LIM) = True := eq_true (by decide)
@[simp] theorem lim8 : (8 ≤ LIM) = True := eq_true (by decide)
@[simp] theorem lim9 : (9 ≤ LIM) = True := eq_true (by decide)
@[simp] theorem lim10 : (10 ≤ LIM) = True := eq_true (by decide)
@[simp] theorem lim11 : (11 ≤ LIM) = True := eq_true (by decide)
@[simp] theorem lim12 : (12 ≤ LIM) = True := eq_true (by decide)
@[simp] theorem lim13 : (13 ≤ LIM) = True := eq_true (by decide)
@[simp] theorem lim14 : (14 ≤ LIM) = True := eq_true (by decide)
@[simp] theorem lim15 : (15 ≤ LIM) = True := eq_true (by decide)
@[simp] theorem lim16 : (16 ≤ LIM) = True := eq_true (by decide)
@[simp] theorem lim17 : (17 ≤ LIM) = True := eq_true (by decide)
@[simp] theorem lim18 : (18 ≤ LIM) = True := eq_true (by decide)
@[simp] theorem lim19 : (19 ≤ LIM) = True := eq_true (by decide)
@[simp] theorem lim20 : (20 ≤ LIM) = True := eq_true (by decide)
@[simp] theorem lim21 : (21 ≤ LIM) = True := eq_true (by decide)
@[simp] theorem lim22 : (22 ≤ LIM) = True := eq_true (by decide)
@[simp] theorem lim23 : (23 ≤ LIM) = True := eq_true (by decide)
@[simp] theorem lim24 : (24 ≤ LIM) = True := eq_true (by decide)
@[simp] theorem lim25 : (25 ≤ LIM) = True := eq_true (by decide)
@[simp] theorem lim26 : (26 ≤ LIM) = True := eq_true (by decide)
@[simp] theorem lim27 : (27 ≤ LIM) = True := eq_true (by decide)
@[simp] theorem lim28 : (28 ≤ LIM) = True := eq_true (by decide)
@[simp] theorem lim29 : (29 ≤ LIM) = True := eq_true (by decide)
@[simp] theorem lim30 : (30 ≤ LIM) = True := eq_true (by decide)
@[simp] theorem lim31 : (31 ≤ LIM) = True := eq_true (by decide)
@[simp] theorem lim32 : (32 ≤ LIM) = True := eq_true (by decide)
@[simp] theorem lim33 : (33 ≤ LIM) = True := eq_true (by decide)
@[simp] theorem lim34 : (34 ≤ LIM) = True := eq_true (by decide)
@[simp] theorem lim35 : (35 ≤ LIM) = True := eq_true (by decide)
@[simp] theorem lim36 : (36 ≤ LIM) = True := eq_true (by decide)
@[simp] theorem lim37 : (37 ≤ LIM) = True := eq_true (by decide)
@[simp] theorem lim38 : (38 ≤ LIM) = True := eq_true (by decide)
@[simp] theorem lim39 : (39 ≤ LIM) = True := eq_true (by decide)
@[simp] theorem lim40 : (40 ≤ LIM) = True := eq_true (by decide)
theorem Pn.bl {b : Bool} : Pn 1 64 (.bl b) := by
  refine ⟨.bool b, fun s m hm => ?_, by cases b <;> decide, rfl, by simp [PyData.weight]⟩
  obtain ⟨m, rfl⟩ : ∃ k, m = k + 1 := ⟨m - 1, by omega⟩
  rfl
theorem Pn.ints {ns : List Int} {n : Nat} (h : ∀ x ∈ ns, x.natAbs < 10 ^ 12) (hn : ns.length ≤ n) : Pn 2 (n * 65) (.tup (ns.map Vl.int)) :=
  (Pn.tup (n := 1) (w := 64) fun x hx => by
    obtain ⟨i, hi, rfl⟩ := List.mem_map.mp hx
    exact Pn.int (h i hi)).mono (Nat.le_refl _) (by simp; omega)
/-- an item of a mapped list -/
theorem get_map {α β : Type} {f : α → β} {xs : List α} {i : Nat} {v : β} (h : (xs.map f)[i]? = some v) : ∃ x, xs[i]? = some x ∧ v = f x := by
  rw [List.getElem?_map] at h
  cases q : xs[i]? with
  | none => rw [q] at h; cases h
  | some e => rw [q] at h; exact ⟨e, rfl, by simpa using h.symm⟩
theorem take_succ_get {α : Type} {xs : List α} {i : Nat} {x : α} (h : xs[i]? = some x) : xs.take (i + 1) = xs.take i ++ [x] := by
  rw [List.take_add_one, h]; rfl
theorem rngW_lit {n : Nat} {s : Sto} {QA : List Vl → Sto → Prop} (h : n < 1000000) : rngW [.int (OfNat.ofNat n)] s QA = QA (rng 0 n) s := rngW_nat h
end Sm

/-! S29: how the newer parts of pure programs are computed -/
namespace Sm
open PySem L2
section
variable {s : Sto} {lo : Lo} {QV : Vl → Sto → Prop} {QA : List Vl → Sto → Prop} {E : Ex → Sto → Prop} {K : RK} {N : Lo → Sto → Prop}
def WGs0 (gs : List GM) (vs : List Vl) (lo : Lo) (s : Sto) (N : Lo → Sto → Prop) : Prop := match gAll gs vs lo s with
  | some (lo', s') => N lo' s'
  | none => False
structure WGs (gs : List GM) (vs : List Vl) (lo : Lo) (s : Sto) (N : Lo → Sto → Prop) (_ : Tg N := .a) : Prop where
  h : WGs0 gs vs lo s N
theorem WGs_eq {gs : List GM} {vs : List Vl} : WGs gs vs lo s N = WGs0 gs vs lo s N := propext ⟨fun x => x.h, fun x => ⟨x⟩⟩
@[simp ↓] theorem WG_gTs {gs : List GM} {xs : List Vl} : WG (gTs gs) (.tup xs) lo s N E = WGs gs xs lo s N := by
  simp only [WG_eq, WE_eq, WGs_eq]
  unfold WE0 gTs WGs0
  simp only
  cases gAll gs xs lo s with
  | none => rfl
  | some p => obtain ⟨a, b⟩ := p; rfl
@[simp ↓] theorem WGs_nil : WGs [] [] lo s N = N lo s := by simp only [WGs_eq]; rfl
@[simp ↓] theorem WGs_cons {g : GM} {gs : List GM} {v : Vl} {vs : List Vl} : WGs (g :: gs) (v :: vs) lo s N = WG g v lo s (fun lo s => WGs gs vs lo s N) NoX := by
  simp only [WG_eq, WE_eq, WGs_eq]
  unfold WE0 WGs0
  have e : gAll (g :: gs) (v :: vs) lo s = match g v lo s with | .ok lo' s' => gAll gs vs lo' s' | _ => none := rfl
  rw [e]
  cases g v lo s with
  | ok a b => simp only [WGs_eq] <;> rfl
  | exc a b => rfl
  | fail => rfl
def ulW (x : Vl) (s : Sto) (P : List Vl → Prop) : Prop := match x with
  | .ref j => match s[j]? with
    | some (.lst xs) => P xs
    | _ => False
  | _ => False
@[simp] theorem ulW_ref {j : Nat} {P : List Vl → Prop} {xs : List Vl} (h : s[j]? = some (.lst xs)) : ulW (.ref j) s P = P xs := by simp [ulW, h]
@[simp ↓] theorem WG_gUl {gs : List GM} {x : Vl} : WG (gUl gs) x lo s N E = ulW x s fun xs => WGs gs xs lo s N := by
  simp only [WG_eq, WE_eq, WGs_eq]
  unfold WE0 gUl ulW WGs0
  cases x <;> try rfl
  rename_i j
  dsimp only
  cases s[j]? with
  | none => rfl
  | some o =>
    cases o <;> try rfl
    rename_i xs
    dsimp only
    cases gAll gs xs lo s with
    | none => rfl
    | some p => obtain ⟨a, b⟩ := p; rfl
def atW (lo : Lo) (i : Nat) (P : Vl → Prop) : Prop := match lo[i]? with
  | some (some x) => P x
  | _ => False
theorem atW_some {i : Nat} {x : Vl} {P : Vl → Prop} (h : lo[i]? = some (some x)) : atW lo i P = P x := by unfold atW; rw [h]
@[simp ↓] theorem WS_sAug {i : Nat} {f : O2} {e : EM} : WS (sAug i f e) lo s K = (match lo[i]? with | some (some x) => WE (e lo) s (fun v s => WO (f x v s) fun z s => K.nx (lo.set i (some z)) s) (fun x s => K.ex x lo s) | _ => False) := by
  simp only [WS_eq]
  unfold WS0 sAug
  cases h : lo[i]? with
  | none => simp only [h]
  | some o =>
    cases o with
    | none => simp only [h]
    | some x =>
      simp only [h]
      have := WS_bndS (m := e) (lo := lo) (s := s) (K := K) (f := fun lo v s => match f x v s with | some (z, s') => .nx (lo.set i (some z)) s' | none => .fail)
      refine Eq.trans (b := WS (bndS e fun lo v s => match f x v s with | some (z, s') => .nx (lo.set i (some z)) s' | none => .fail) lo s K) (by simp only [WS_eq]; rfl) (this.trans ?_)
      refine WE_ext fun v s => ?_
      simp only [WO_eq]
      unfold WO0
      cases f x v s with
      | none => rfl
      | some p => obtain ⟨a, b⟩ := p; rfl
@[simp] theorem opIAdd_int {i j : Int} : opIAdd (.int i) (.int j) s = some (.int (i + j), s) := rfl
@[simp] theorem opISub_int {i j : Int} : opISub (.int i) (.int j) s = some (.int (i - j), s) := rfl
@[simp] theorem opIAdd_str {x y : Str} (h : x.length + y.length ≤ LIM) : opIAdd (.str x) (.str y) s = some (.str (x ++ y), s) := by simp only [opIAdd, if_pos h]
@[simp ↓] theorem WE_eChain {f f' : O2} {a b c : EM} : WE (eChain f f' a b c lo) s QV E = WE (a lo) s (fun x s => WE (b lo) s (fun y s => WO (f x y s) fun z s => match z with | .bl true => WE (c lo) s (fun w s => WO (f' y w s) QV) E | .bl false => QV (.bl false) s | _ => False) E) E := by
  unfold eChain
  rw [WE_bnd]
  refine WE_ext fun x s => ?_
  rw [WE_bnd]
  refine WE_ext fun y s => ?_
  rw [WE_bnd, WE_lift]
  have : ∀ (o : Option (Vl × Sto)) (P P' : Vl → Sto → Prop), (∀ a s, P a s = P' a s) → WO o P = WO o P' := fun o P P' h => by
    have : P = P' := funext fun a => funext fun s => h a s
    subst this; rfl
  refine this _ _ _ fun z s => ?_
  cases z <;> try (simp only [WE_eq]; rfl)
  rename_i k
  cases k with
  | false => simp only [WE_eq]; rfl
  | true =>
    simp only
    rw [WE_bnd]
    exact WE_ext fun w s => WE_lift
def dicW (x : Vl) (s : Sto) (P : Nat → Prop) : Prop := match x with
  | .ref j => isDic j s = true ∧ P j
  | _ => False
@[simp] theorem dicW_ref {j : Nat} {P : Nat → Prop} {kvs : List (Key × Vl)} (h : s[j]? = some (.dic kvs)) : dicW (.ref j) s P = P j := by simp [dicW, isDic, h]
def getW (j : Nat) (y : Vl) (s : Sto) (P : List (Key × Vl) → Key → Prop) : Prop := match s[j]?, keyOf y with
  | some (.dic kvs), some key => P kvs key
  | _, _ => False
@[simp] theorem getW_str {j : Nat} {x : Str} {kvs : List (Key × Vl)} {P : List (Key × Vl) → Key → Prop} (h : s[j]? = some (.dic kvs)) : getW j (.str x) s P = P kvs (.inr x) := by simp [getW, h, keyOf]
@[simp] theorem getW_int {j : Nat} {x : Int} {kvs : List (Key × Vl)} {P : List (Key × Vl) → Key → Prop} (h : s[j]? = some (.dic kvs)) : getW j (.int x) s P = P kvs (.inl x) := by simp [getW, h, keyOf]
@[simp ↓] theorem WE_eDGet1 {d k : EM} : WE (eDGet1 d k lo) s QV E = WE (d lo) s (fun x s => dicW x s fun j => WE (k lo) s (fun y s => getW j y s fun kvs key => QV ((look kvs key).getD .non) s) E) E := by
  unfold eDGet1
  rw [WE_bnd]
  refine WE_ext fun x s => ?_
  cases x <;> try (simp only [WE_eq]; rfl)
  rename_i j
  unfold dicW
  by_cases h : isDic j s = true
  · simp only [h, true_and]
    refine Eq.trans (b := WE (bnd (k lo) fun y s => match s[j]?, keyOf y with | some (.dic kvs), some key => .ok ((look kvs key).getD .non) s | _, _ => .fail) s QV E) ?_ ?_
    · simp only [WE_eq]; unfold WE0; simp only [h, if_true] <;> rfl
    · rw [WE_bnd]
      refine WE_ext fun y s => ?_
      simp only [WE_eq]
      unfold WE0 getW
      dsimp only
      cases s[j]? with
      | none => rfl
      | some o => cases o <;> cases keyOf y <;> rfl
  · simp only [h, false_and, Bool.false_eq_true]
    simp only [WE_eq]; unfold WE0; simp only [h, if_false, Bool.false_eq_true]
@[simp ↓] theorem WE_eDGet2 {d k v : EM} : WE (eDGet2 d k v lo) s QV E = WE (d lo) s (fun x s => dicW x s fun j => WE (k lo) s (fun y s => WE (v lo) s (fun z s => getW j y s fun kvs key => QV ((look kvs key).getD z) s) E) E) E := by
  unfold eDGet2
  rw [WE_bnd]
  refine WE_ext fun x s => ?_
  cases x <;> try (simp only [WE_eq]; rfl)
  rename_i j
  unfold dicW
  by_cases h : isDic j s = true
  · simp only [h, true_and]
    refine Eq.trans (b := WE (bnd (k lo) fun y => bnd (v lo) fun z s => match s[j]?, keyOf y with | some (.dic kvs), some key => .ok ((look kvs key).getD z) s | _, _ => .fail) s QV E) ?_ ?_
    · simp only [WE_eq]; unfold WE0; simp only [h, if_true] <;> rfl
    · rw [WE_bnd]
      refine WE_ext fun y s => ?_
      rw [WE_bnd]
      refine WE_ext fun z s => ?_
      simp only [WE_eq]
      unfold WE0 getW
      dsimp only
      cases s[j]? with
      | none => rfl
      | some o => cases o <;> cases keyOf y <;> rfl
  · simp only [h, false_and, Bool.false_eq_true]
    simp only [WE_eq]; unfold WE0; simp only [h, if_false, Bool.false_eq_true]
@[simp ↓] theorem WE_aEnm {e : AM} : WE (aEnm e lo) s QA E = WE (e lo) s (fun as s => match as with | [.tup xs] => QA (enmL xs) s | _ => False) E := by
  unfold aEnm
  rw [WE_bnd]
  refine WE_ext fun as s => ?_
  match as with
  | [] => simp only [WE_eq]; rfl
  | [.tup xs] => simp only [WE_eq]; rfl
  | .non :: _ => cases ‹List Vl› <;> simp only [WE_eq] <;> rfl
  | .bl _ :: _ => cases ‹List Vl› <;> simp only [WE_eq] <;> rfl
  | .int _ :: _ => cases ‹List Vl› <;> simp only [WE_eq] <;> rfl
  | .str _ :: _ => cases ‹List Vl› <;> simp only [WE_eq] <;> rfl
  | .ref _ :: _ => cases ‹List Vl› <;> simp only [WE_eq] <;> rfl
  | .scr _ :: _ => cases ‹List Vl› <;> simp only [WE_eq] <;> rfl
  | .ty _ :: _ => cases ‹List Vl› <;> simp only [WE_eq] <;> rfl
  | .fn _ :: _ => cases ‹List Vl› <;> simp only [WE_eq] <;> rfl
  | .tup _ :: _ :: _ => simp only [WE_eq]; rfl
@[simp ↓] theorem WE_dflM {n : Nat} {das as : List Vl} {mf : List Vl → M Vl} : WE (dflM n das mf as) s QV E = (if as.length + das.length = n then WE (mf (as ++ das)) s QV E else False) := by
  by_cases h : as.length + das.length = n
  · simp only [WE_eq, WE0, dflM, if_pos h]
  · simp only [WE_eq, WE0, dflM, if_neg h]
end
section
variable {s : Sto} {a : Nat} {x : Str} {xs : List Vl} {kvs : List (Key × Vl)}
theorem oJoin_strs {ys : List Str} (h : s[a]? = some (.lst (ys.map Vl.str))) (hl : (ys.map (·.length)).sum + ys.length * x.length ≤ LIM) : oJoin (.str x) [.ref a] s = some (.str (Txt.join x ys), s) := by simp [oJoin, lstOf, h, mapO_strs, hl]
@[simp] theorem oDict_dic (h : s[a]? = some (.dic kvs)) : oDict [.ref a] s = some (.ref s.length, s ++ [.dic kvs]) := by simp only [oDict, h]
theorem oDictP_lst {ps : List (Key × Vl)} (h : s[a]? = some (.lst xs)) (hp : mapO asPr xs = some ps) : oDictP [.ref a] s = some (.ref s.length, s ++ [.dic (mergeP [] ps)]) := by simp [oDictP, lstOf, h, hp]
theorem strKeys_eq : ∀ {kvs : List (Key × Vl)} {ks : List Str}, kvs.map (·.1) = ks.map Sum.inr → strKeys kvs = some ks
  | [], [], _ => rfl
  | [], _ :: _, h => by simp at h
  | _ :: _, [], h => by simp at h
  | p :: r, k :: ks, h => by
    simp only [List.map_cons, List.cons.injEq] at h
    obtain ⟨⟨k1, v⟩, r⟩ : ∃ q : Key × Vl, q = p := ⟨p, rfl⟩
    have ih := strKeys_eq h.2
    cases p with
    | mk q v =>
      obtain ⟨h1, h2⟩ := h
      simp only at h1
      subst h1
      simp [strKeys, ih]
theorem oSort_dic {ks : List Str} (h : s[a]? = some (.dic kvs)) (hk : kvs.map (·.1) = ks.map Sum.inr) (hl : ks.length < 64) : oSort [.ref a] s = some (.ref s.length, s ++ [.lst ((srtT ks).map Vl.str)]) := by simp [oSort, h, strKeys_eq hk, hl]
theorem mem_srtT {ks : List Str} {z : Str} : z ∈ srtT ks ↔ z ∈ ks := (srtT_perm ks).mem_iff
theorem srtT_len {ks : List Str} : (srtT ks).length = ks.length := (srtT_perm ks).length_eq
@[simp] theorem kd_join : kd .str (.str x) s = true := rfl
@[simp] theorem oLen_str (h : x.length ≤ LIM) : oLen [.str x] s = some (.int x.length, s) := by simp [oLen, lenM, h]
@[simp] theorem opIx_str {i : Int} (h : x.length ≤ LIM) : opIx (.str x) (.int i) s = (atI x.cps.toList i).map fun c => (.str ⟨#[c]⟩, s) := by simp only [opIx, if_pos h]
@[simp] theorem oStr_int {i : Int} (h : i.natAbs.log2 < 1920) : oStr [.int i] s = some (.str (toString i), s) := by simp only [oStr, if_pos h]
end
theorem str_len {x : Str} : x.length = x.cps.toList.length := by simp [Str.length]
theorem str_append {x y : Str} : (x ++ y).cps.toList = x.cps.toList ++ y.cps.toList := by
  show (x.cps ++ y.cps).toList = _
  simp
/-- == of any list with an empty one -/
theorem eqM_lstN {s : Sto} {a b : Nat} {xs : List Vl} {ds : List PyData} (h1 : s[a]? = some (.lst xs)) (h2 : s[b]? = some (.lst [])) (hd : mapO (toD 39 s) xs = some ds) (hc : PyData.canLayAll0 ds = true) : eqM (.ref a) (.ref b) s = some xs.isEmpty := by
  have e1 : toD 40 s (.ref a) = some (.list ds) := by rw [toD_lst (m := 39) h1, hd]; rfl
  have e2 : toD 40 s (.ref b) = some (.list []) := by rw [toD_lst (m := 39) h2]; rfl
  have e3 : PyData.canLay0 (.list ds) = true := by simpa only [PyData.canLay0] using hc
  have e4 : PyData.canLay0 (.list []) = true := rfl
  have e5 : ds.isEmpty = xs.isEmpty := by
    cases xs with
    | nil => cases hd; rfl
    | cons x xs =>
      unfold mapO at hd
      cases q : toD 39 s x with
      | none => simp only [q] at hd; cases hd
      | some d =>
        simp only [q] at hd
        cases q2 : mapO (toD 39 s) xs with
        | none => simp only [q2] at hd; cases hd
        | some r => simp only [q2] at hd; cases hd; rfl
  simp only [eqM, eqS, e1, e2, e3, e4, Bool.and_self, if_true, PyData.eqv]
  rw [← e5]
  cases ds <;> simp [PyData.eqvAll]
theorem toD_strs {s : Sto} {m : Nat} : ∀ ns : List Str, mapO (toD (m + 1) s) (ns.map Vl.str) = some (ns.map PyData.str)
  | [] => rfl
  | n :: ns => by
    have e : toD (m + 1) s (.str n) = some (.str n) := rfl
    simp only [List.map_cons, mapO, e, toD_strs ns]
theorem canLay_strs : ∀ {ns : List Str}, (∀ z ∈ ns, PyData.strOk z = true) → PyData.canLayAll0 (ns.map PyData.str) = true
  | [], _ => rfl
  | n :: ns, h => by
    have h1 := h n (List.mem_cons_self ..)
    have h2 := canLay_strs (ns := ns) fun z hz => h z (List.mem_cons_of_mem _ hz)
    simp only [List.map_cons, PyData.canLayAll0, PyData.canLay0, h1, h2, Bool.and_self]
theorem opEq_lstS {s : Sto} {a b : Nat} {zs : List Str} (hz : ∀ z ∈ zs, PyData.strOk z = true) (h1 : s[a]? = some (.lst (zs.map Vl.str))) (h2 : s[b]? = some (.lst [])) : opEq (.ref a) (.ref b) s = some (.bl zs.isEmpty, s) := by
  simp only [opEq, eqM_lstN h1 h2 (toD_strs (m := 38) zs) (canLay_strs hz)]
  simp
/-- plain values, each with its own weight -/
theorem Pn.tupS {n : Nat} : ∀ {xs : List Vl} {ws : List Nat}, ws.length = xs.length → (∀ (i : Nat) (x : Vl) (w : Nat), xs[i]? = some x → ws[i]? = some w → Pn n w x) → Pn (n + 1) ((ws.map (· + 1)).sum) (.tup xs) := by
  intro xs ws hl h
  have key : ∃ ds : List PyData, (∀ s m, n ≤ m → mapO (toD m s) xs = some ds) ∧ PyData.leavesShortAll 13 ds = true ∧ PyData.showableAll ds = true ∧ PyData.weightAll ds ≤ (ws.map (· + 1)).sum := by
    induction xs generalizing ws with
    | nil =>
      cases ws with
      | nil => exact ⟨[], fun _ _ _ => rfl, rfl, rfl, by simp [PyData.weightAll]⟩
      | cons w ws => simp at hl
    | cons x xs ih =>
      cases ws with
      | nil => simp at hl
      | cons w ws =>
        obtain ⟨d, a, b, c, e⟩ := h 0 x w rfl rfl
        obtain ⟨ds, a', b', c', e'⟩ := ih (by simpa using hl) fun i y v h1 h2 => h (i + 1) y v (by simpa using h1) (by simpa using h2)
        refine ⟨d :: ds, fun s m hm => ?_, ?_, ?_, ?_⟩
        · simp only [mapO, a s m hm, a' s m hm]
        · simp only [PyData.leavesShortAll, b, b', Bool.and_self]
        · simp only [PyData.showableAll, c, c', Bool.and_self]
        · simp only [PyData.weightAll, List.map_cons, List.sum_cons]
          omega
  obtain ⟨ds, a, b, c, e⟩ := key
  refine ⟨.tuple ds, fun s m hm => ?_, ?_, ?_, ?_⟩
  · obtain ⟨m, rfl⟩ : ∃ k, m = k + 1 := ⟨m - 1, by omega⟩
    simp only [toD, a s m (by omega), Option.map]
  · simpa only [PyData.leavesShort] using b
  · simpa only [PyData.showable] using c
  · simpa only [PyData.weight] using e
end Sm

/-! D2: the deck of numbers: _law_deck, _law_draw (the second kind), _law_one -/
namespace K79
open PySem L2 Sm
/-- a deck of at most 63 numbers, at most c of them drawn -/
def Dk (s : Sto) (d l c : Nat) : Prop := ∃ k cells, k ≤ c ∧ cells.length ≤ 63 ∧ Deck s d l k cells
theorem Dk.fr {X : List Nat} {s s' : Sto} {d l c : Nat} (D : Dk s d l c) (f : Fr X s s') (h1 : d ∉ X) (h2 : l ∉ X) : Dk s' d l c := by
  obtain ⟨k, cells, a, b, D⟩ := D
  exact ⟨k, cells, a, b, D.fr f h1 h2⟩
theorem Dk.new {s s' : Sto} {d l c : Nat} (D : Dk s d l c) (f : Fr [] s s') : Dk s' d l c := D.fr f (by simp) (by simp)
theorem Dk.mono {s : Sto} {d l c c' : Nat} (D : Dk s d l c) (h : c ≤ c') : Dk s d l c' := by
  obtain ⟨k, cells, a, b, D⟩ := D
  exact ⟨k, cells, Nat.le_trans a h, b, D⟩
theorem Dk.lt {s : Sto} {d l c : Nat} (D : Dk s d l c) : d < s.length ∧ l < s.length := by
  obtain ⟨k, cells, a, b, D⟩ := D
  exact ⟨lt_of_get D.top, lt_of_get D.cel⟩
abbrev CM : Nat := 1000000000000000
section
variable {s : Sto} {d l c : Nat} {Q : Vl → Sto → Prop} {E : Ex → Sto → Prop}
theorem draw {many : Int} (D : Dk s d l c) (hm : 0 < many) (hm2 : many < 1267650600228229401496703205376) (hc : c < CM) (k : ∀ (r : Nat) s', (r : Int) < many → Dk s' d l (c + 1) → Fr [d, l] s s' → Q (.int r) s') : WE (m__law_draw [.ref d, .int many]) s Q E := by
  obtain ⟨n, cells, hn, hl, D⟩ := D
  have h1 := D.top
  have h2 := D.cel
  have hne := D.ne
  have k' : ∀ (r : Int) s' cells', 0 ≤ r → r < many → Deck s' d l (n + 1) cells' → cells'.length ≤ 63 → Fr [d, l] s s' → Q (.int r) s' := fun r s' cells' h0 hr D' hl' f => by
    have e : r = ((r.toNat : Nat) : Int) := (Int.toNat_of_nonneg h0).symm
    rw [e]
    exact k r.toNat s' (by omega) ⟨n + 1, cells', by omega, hl', D'⟩ f
  unfold m__law_draw b__law_draw
  simp [h1, h2, ixN, atI, List.replicate, get_set_self h1, get_set_ne hne.symm]
  generalize hs1 : s.set d (Ob.lst [Vl.ref l, Vl.int (↑n + 1)]) = s1
  have e1 : s1[d]? = some (.lst [.ref l, .int (n + 1)]) := by rw [← hs1]; exact get_set_self h1
  have e2 : s1[l]? = some (.lst (cells.map Vl.int)) := by rw [← hs1, get_set_ne hne.symm]; exact h2
  have f1 : Fr [d, l] s s1 := hs1 ▸ Fr.refl.set (Or.inl (List.mem_cons_self ..))
  have tail : ∀ (x : Int), 0 ≤ x → x < 1000000000000000000 → ∀ q : Int, q = (x % 2147483563 + 8117 * ((n : Int) + 1) + 3) ^ 5 % 2147483629 % many → Q (.int q) s1 := fun x hx hb q hq => by
    refine k' q s1 cells ?_ ?_ ⟨e1, e2, D.nn, hne⟩ hl f1
    · rw [hq]; exact Int.emod_nonneg _ (by omega)
    · rw [hq]; exact Int.emod_lt_of_pos _ hm
  have nab : ∀ x : Int, (x % 2147483563 + 8117 * ((n : Int) + 1) + 3).natAbs < 2 ^ 64 := fun x => by
    have a1 := Int.emod_nonneg x (show (2147483563 : Int) ≠ 0 by omega)
    have a2 := Int.emod_lt_of_pos x (show (0 : Int) < 2147483563 by omega)
    generalize x % 2147483563 = q at a1 a2
    have hn' : n < 1000000000000000 := Nat.lt_of_le_of_lt hn hc
    omega
  cases cells with
  | nil =>
    have := nab 0
    simp at this
    simp [e1, e2, hm, this]
    exact tail 0 (by omega) (by omega) _ (by simp)
  | cons y ys =>
    have hpos : 0 < (((y :: ys).length : Nat) : Int) := by simp <;> omega
    have hpos' : (0 : Int) < (ys.length : Int) + 1 := by omega
    generalize hcs : (y :: ys) = cs at *
    have hcl : ((ys.length : Nat) : Int) + 1 = ((cs.length : Nat) : Int) := by rw [← hcs]; simp
    have hp0 := Int.emod_nonneg ((n : Int) + 1) (Int.ne_of_gt hpos)
    have hp1 := Int.emod_lt_of_pos ((n : Int) + 1) hpos
    obtain ⟨p, hp⟩ : ∃ p : Nat, ((n : Int) + 1) % (cs.length : Int) = p := ⟨_, (Int.toNat_of_nonneg hp0).symm⟩
    have hpl : p < cs.length := by omega
    obtain ⟨x, hx⟩ : ∃ x, cs[p]? = some x := ⟨_, List.getElem?_eq_getElem hpl⟩
    have hx0 : 0 ≤ x := D.nn x (List.mem_of_getElem? hx)
    have hxm : (cs.map Vl.int)[p]? = some (.int x) := by rw [List.getElem?_map, hx]; rfl
    have hlt : 0 < cs.length := by omega
    simp [hlt, e1, e2]
    rw [hp, atN, hxm]
    simp [e1, e2]
    by_cases hbig : 1000000000000000000 ≤ x
    · have i2 : ixN cs.length (p : Int) = some p := ixN_nat hpl
      have i3 : ixN (cs.map Vl.int).length (p : Int) = some p := by rw [List.length_map]; exact i2
      simp [hbig, e1, e2, hm, hm2, i2]
      refine k' (x % many) _ (cs.set p (x / many)) (Int.emod_nonneg x (by omega)) (Int.emod_lt_of_pos x hm) ⟨?_, ?_, ?_, hne⟩ (by simpa using hl) (f1.set (by simp))
      · rw [get_set_ne hne]; exact e1
      · rw [get_set_self e2, List.map_set]
      · intro z hz
        rcases List.mem_or_eq_of_mem_set hz with h | h
        · exact D.nn z h
        · rw [h]; exact Int.ediv_nonneg hx0 (by omega)
    · have := nab x
      simp [hbig, e1, e2, hm, this]
      exact tail x hx0 (by omega) _ rfl
theorem one {a : Nat} {xs : List Vl} (D : Dk s d l c) (ha : s[a]? = some (.lst xs)) (hd : a ∉ [d, l]) (h0 : 0 < xs.length) (h1 : xs.length < 1000000) (hc : c < CM) (k : ∀ v s', v ∈ xs → Dk s' d l (c + 1) → Fr [d, l] s s' → Q v s') : WE (m__law_one [.ref d, .ref a]) s Q E := by
  unfold m__law_one b__law_one
  simp [ha]
  refine draw D (by omega) (by omega) hc fun r s' h2 h3 h4 => ?_
  have h5 := h4.at ha hd
  have h6 : r < xs.length := by omega
  simp [opIx_lst h5, atN, h6]
  exact k _ _ (List.getElem_mem h6) h3 h4
theorem oneNew {xs : List Vl} (D : Dk s d l c) (h0 : 0 < xs.length) (h1 : xs.length < 1000000) (hc : c < CM) (k : ∀ v s', v ∈ xs → Dk s' d l (c + 1) → Fr [d, l] s s' → Q v s') : WE (m__law_one [.ref d, .ref s.length]) (s ++ [.lst xs]) Q E := by
  have hlt := D.lt
  exact one (D.new (Fr.refl.push _)) get_last (by simp; omega) h0 h1 hc fun v s' a b f => k v s' a b ((Fr.refl.push _).trans f)
theorem oneS {x : Str} (D : Dk s d l c) (h0 : 0 < x.length) (h1 : x.length < 1000000) (hc : c < CM) (k : ∀ ch s', ch ∈ x.cps.toList → Dk s' d l (c + 1) → Fr [d, l] s s' → Q (.str ⟨#[ch]⟩) s') : WE (m__law_one [.ref d, .str x]) s Q E := by
  unfold m__law_one b__law_one
  have hL : x.length ≤ LIM := limB (by omega)
  simp [hL]
  refine draw D (by omega) (by omega) hc fun r s' h2 h3 h4 => ?_
  have h6 : r < x.cps.toList.length := by rw [← str_len]; omega
  have h7 : x.cps.toList[r]? = some x.cps.toList[r] := List.getElem?_eq_getElem h6
  rw [opIx_str hL, atN, h7]
  simp only [Option.map, WO_some]
  exact k _ _ (List.getElem_mem h6) h3 h4
theorem deck {ns : List Int} (h : ns.length ≤ 63) (k : ∀ d l s', Dk s' d l 0 → Fr [] s s' → Q (.ref d) s') : WE (m__law_deck [.scr ns]) s Q E := by
  unfold m__law_deck b__law_deck
  have e63 : cutL ns none (some 63) = ns.take 63 := cutL_nat (n := 63)
  simp
  rw [e63]
  refine lcL_p (xs := (ns.take 63).map Vl.int) (s ++ [.lst ((ns.take 63).map Vl.int)]) (fun v => match v with | .int i => some (.int (if i < 0 then -i else i)) | _ => none) (by simp) (by simp) get_last (by simp; omega) ?_ ?_
  · intro x hx acc
    obtain ⟨i, _, rfl⟩ := List.mem_map.mp hx
    refine ⟨_, rfl, ?_⟩
    simp [tTrue, wipeL]
  · have e : ((ns.take 63).map Vl.int).filterMap (fun v => match v with | .int i => some (.int (if i < 0 then -i else i)) | _ => none) = ((ns.take 63).map fun i : Int => if i < 0 then -i else i).map Vl.int := by
      rw [List.filterMap_map, List.map_map, ← List.filterMap_eq_map]
      rfl
    rw [e]
    have hcl : ((ns.take 63).map fun i : Int => if i < 0 then -i else i).length ≤ 63 := by simp; omega
    have hcn : ∀ x ∈ ((ns.take 63).map fun i : Int => if i < 0 then -i else i), 0 ≤ x := by
      intro x hx
      obtain ⟨a, _, rfl⟩ := List.mem_map.mp hx
      split <;> omega
    generalize ((ns.take 63).map fun i : Int => if i < 0 then -i else i) = cs at hcl hcn
    generalize (ns.take 63).map Vl.int = o1
    simp
    refine k _ (s.length + 1) _ ⟨0, cs, Nat.le_refl _, hcl, ⟨?_, ?_, hcn, ?_⟩⟩ (Fr.refl.app _)
    · rw [List.getElem?_append_right (by omega)]
      simp
    · rw [List.getElem?_append_right (by omega)]
      simp
    · omega
end
end K79

/-! S30: programs of cells: tests, statements, blocks -/
namespace Sm
open PySem L2
/-- a short text of plain signs -/
structure Nice (x : Str) : Prop where
  len : x.length ≤ 20
  sgn : ∀ c ∈ x.cps.toList, c < 128
theorem Nice.pn {x : Str} (h : Nice x) : Pn 1 64 (.str x) := Pn.str (by
  rw [List.all_eq_true]
  intro c hc
  have := h.sgn c hc
  exact decide_eq_true (by omega)) (by have := h.len; omega)
theorem Nice.strOk {x : Str} (h : Nice x) : PyData.strOk x = true := by
  unfold PyData.strOk
  rw [← Array.all_toList, List.all_eq_true]
  intro c hc
  have := h.sgn c hc
  exact decide_eq_true (by omega)
inductive Tst where
  | given (i : Nat) | set (x : Str) | same (x y : Str) | full (x f : Str) | wished (w : Str) | not (t : Tst)
def Tst.vl : Tst → Vl
  | .given i => .tup [.str "given", .int (i : Nat)]
  | .set x => .tup [.str "set", .str x]
  | .same x y => .tup [.str "same", .str x, .str y]
  | .full x f => .tup [.str "full", .str x, .str f]
  | .wished w => .tup [.str "wished", .str w]
  | .not t => .tup [.str "not", t.vl]
/-- a right test, at most n "not" in one another, g givens -/
def Tst.ok (g : Nat) : Nat → Tst → Prop
  | _, .given i => i < g
  | _, .set x => Nice x
  | _, .same x y => Nice x ∧ Nice y
  | _, .full x f => Nice x ∧ Nice f
  | _, .wished w => Nice w
  | n + 1, .not t => Tst.ok g n t
  | 0, .not _ => False
theorem Tst.ok.mono {g : Nat} : ∀ {n m : Nat} {t : Tst}, t.ok g n → n ≤ m → t.ok g m
  | n, m, .given i, h, _ => by cases n <;> cases m <;> exact h
  | n, m, .set x, h, _ => by cases n <;> cases m <;> exact h
  | n, m, .same x y, h, _ => by cases n <;> cases m <;> exact h
  | n, m, .full x y, h, _ => by cases n <;> cases m <;> exact h
  | n, m, .wished x, h, _ => by cases n <;> cases m <;> exact h
  | n + 1, 0, .not t, h, e => by omega
  | n + 1, m + 1, .not t, h, e => Tst.ok.mono (t := t) (n := n) (m := m) h (by omega)
  | 0, _, .not t, h, _ => h.elim
inductive Stm where
  | make (x : Str) | wish (x w : Str) | keep (x : Str) | name (x y : Str) | drop (x : Str)
  | hold (x f y : Str) | weak (x f y : Str) | cut (x f : Str) | take (z x f : Str) | say (w : Str) | ask (t : Tst)
  | ife (t : Tst) (yes no : List Stm) | rep (k : Nat) (b : List Stm)
mutual
def Stm.vl : Stm → Vl
  | .make x => .tup [.str "make", .str x]
  | .wish x w => .tup [.str "wish", .str x, .str w]
  | .keep x => .tup [.str "keep", .str x]
  | .name x y => .tup [.str "name", .str x, .str y]
  | .drop x => .tup [.str "drop", .str x]
  | .hold x f y => .tup [.str "hold", .str x, .str f, .str y]
  | .weak x f y => .tup [.str "weak", .str x, .str f, .str y]
  | .cut x f => .tup [.str "cut", .str x, .str f]
  | .take z x f => .tup [.str "take", .str z, .str x, .str f]
  | .say w => .tup [.str "say", .str w]
  | .ask t => .tup [.str "ask", t.vl]
  | .ife t a b => .tup [.str "if", t.vl, .tup (Stm.vls a), .tup (Stm.vls b)]
  | .rep k b => .tup [.str "repeat", .int (k : Nat), .tup (Stm.vls b)]
def Stm.vls : List Stm → List Vl
  | [] => []
  | x :: xs => x.vl :: Stm.vls xs
end
mutual
/-- how many statements -/
def Stm.cnt : Stm → Nat
  | .ife _ a b => 1 + Stm.cnts a + Stm.cnts b
  | .rep _ b => 1 + Stm.cnts b
  | _ => 1
def Stm.cnts : List Stm → Nat
  | [] => 0
  | x :: xs => x.cnt + Stm.cnts xs
end
mutual
def Stm.wgt : Stm → Nat
  | .ife _ a b => 1 + Stm.wgts a + Stm.wgts b
  | .rep k b => 1 + k * Stm.wgts b
  | _ => 1
def Stm.wgts : List Stm → Nat
  | [] => 0
  | x :: xs => x.wgt + Stm.wgts xs
end
mutual
/-- a right statement: g givens, at most n blocks in one another -/
def Stm.ok (g : Nat) : Nat → Stm → Prop
  | _, .make x => Nice x
  | _, .wish x w => Nice x ∧ Nice w
  | _, .keep x => Nice x
  | _, .name x y => Nice x ∧ Nice y
  | _, .drop x => Nice x
  | _, .hold x f y => Nice x ∧ Nice f ∧ Nice y
  | _, .weak x f y => Nice x ∧ Nice f ∧ Nice y
  | _, .cut x f => Nice x ∧ Nice f
  | _, .take z x f => Nice z ∧ Nice x ∧ Nice f
  | _, .say w => Nice w
  | _, .ask t => t.ok g 3
  | n, .ife t a b => 0 < n ∧ t.ok g 3 ∧ Stm.oks g (n - 1) a ∧ Stm.oks g (n - 1) b
  | n, .rep k b => 0 < n ∧ k ≤ 12 ∧ Stm.oks g (n - 1) b
def Stm.oks (g : Nat) : Nat → List Stm → Prop
  | _, [] => True
  | n, x :: xs => x.ok g n ∧ Stm.oks g n xs
end
mutual
/-- the statements in the order of their places, with their depth -/
def Stm.flat (d : Nat) : Stm → List (Nat × Stm)
  | .ife t a b => (d, .ife t a b) :: (Stm.flats (d + 1) a ++ Stm.flats (d + 1) b)
  | .rep k b => (d, .rep k b) :: Stm.flats (d + 1) b
  | x => [(d, x)]
def Stm.flats (d : Nat) : List Stm → List (Nat × Stm)
  | [] => []
  | x :: xs => x.flat d ++ Stm.flats d xs
end
theorem Stm.vls_map : ∀ xs : List Stm, Stm.vls xs = xs.map Stm.vl
  | [] => rfl
  | x :: xs => by rw [Stm.vls, Stm.vls_map xs]; rfl
theorem Stm.cnts_app : ∀ xs ys : List Stm, Stm.cnts (xs ++ ys) = Stm.cnts xs + Stm.cnts ys
  | [], ys => by simp [Stm.cnts]
  | x :: xs, ys => by simp only [List.cons_append, Stm.cnts, Stm.cnts_app xs ys]; omega
theorem Stm.wgts_app : ∀ xs ys : List Stm, Stm.wgts (xs ++ ys) = Stm.wgts xs + Stm.wgts ys
  | [], ys => by simp [Stm.wgts]
  | x :: xs, ys => by simp only [List.cons_append, Stm.wgts, Stm.wgts_app xs ys]; omega
theorem Stm.oks_app {g n : Nat} : ∀ {xs ys : List Stm}, Stm.oks g n (xs ++ ys) ↔ Stm.oks g n xs ∧ Stm.oks g n ys
  | [], ys => by simp [Stm.oks]
  | x :: xs, ys => by simp only [List.cons_append, Stm.oks, Stm.oks_app (xs := xs) (ys := ys), and_assoc]
theorem Stm.oks_mem {g n : Nat} : ∀ {xs : List Stm}, Stm.oks g n xs → ∀ x ∈ xs, x.ok g n
  | [], _, x, h => by simp at h
  | y :: xs, h, x, hx => by
    rcases List.mem_cons.mp hx with rfl | hx
    · exact h.1
    · exact Stm.oks_mem h.2 x hx
theorem Stm.flats_app {d : Nat} : ∀ xs ys : List Stm, Stm.flats d (xs ++ ys) = Stm.flats d xs ++ Stm.flats d ys
  | [], ys => by simp [Stm.flats]
  | x :: xs, ys => by simp only [List.cons_append, Stm.flats, Stm.flats_app xs ys, List.append_assoc]
mutual
theorem Stm.ok.mono {g : Nat} : ∀ {n m : Nat} {x : Stm}, x.ok g n → n ≤ m → x.ok g m
  | n, m, .make x, h, _ => by unfold Stm.ok at h ⊢; exact h
  | n, m, .wish x w, h, _ => by unfold Stm.ok at h ⊢; exact h
  | n, m, .keep x, h, _ => by unfold Stm.ok at h ⊢; exact h
  | n, m, .name x y, h, _ => by unfold Stm.ok at h ⊢; exact h
  | n, m, .drop x, h, _ => by unfold Stm.ok at h ⊢; exact h
  | n, m, .hold x f y, h, _ => by unfold Stm.ok at h ⊢; exact h
  | n, m, .weak x f y, h, _ => by unfold Stm.ok at h ⊢; exact h
  | n, m, .cut x f, h, _ => by unfold Stm.ok at h ⊢; exact h
  | n, m, .take z x f, h, _ => by unfold Stm.ok at h ⊢; exact h
  | n, m, .say w, h, _ => by unfold Stm.ok at h ⊢; exact h
  | n, m, .ask t, h, _ => by unfold Stm.ok at h ⊢; exact h
  | n, m, .ife t a b, h, e => by
    unfold Stm.ok at h ⊢
    exact ⟨by omega, h.2.1, Stm.oks.mono h.2.2.1 (by omega), Stm.oks.mono h.2.2.2 (by omega)⟩
  | n, m, .rep k b, h, e => by
    unfold Stm.ok at h ⊢
    exact ⟨by omega, h.2.1, Stm.oks.mono h.2.2 (by omega)⟩
theorem Stm.oks.mono {g : Nat} : ∀ {n m : Nat} {xs : List Stm}, Stm.oks g n xs → n ≤ m → Stm.oks g m xs
  | _, _, [], _, _ => trivial
  | _, _, x :: xs, h, e => ⟨Stm.ok.mono h.1 e, Stm.oks.mono h.2 e⟩
end
/-! ### they are plain values -/
theorem Pn.tup2 {n u v : Nat} {a b : Vl} (ha : Pn n u a) (hb : Pn n v b) : Pn (n + 1) (u + v + 2) (.tup [a, b]) :=
  (Pn.tupS (ws := [u, v]) rfl fun i x w h1 h2 => by
    match i with
    | 0 => simp at h1 h2; subst h1 h2; exact ha
    | 1 => simp at h1 h2; subst h1 h2; exact hb
    | i + 2 => simp at h1).mono (Nat.le_refl _) (by simp; omega)
theorem Pn.tup3 {n u v w : Nat} {a b c : Vl} (ha : Pn n u a) (hb : Pn n v b) (hc : Pn n w c) : Pn (n + 1) (u + v + w + 3) (.tup [a, b, c]) :=
  (Pn.tupS (ws := [u, v, w]) rfl fun i x w h1 h2 => by
    match i with
    | 0 => simp at h1 h2; subst h1 h2; exact ha
    | 1 => simp at h1 h2; subst h1 h2; exact hb
    | 2 => simp at h1 h2; subst h1 h2; exact hc
    | i + 3 => simp at h1).mono (Nat.le_refl _) (by simp; omega)
theorem Pn.tup4 {n u v w z : Nat} {a b c d : Vl} (ha : Pn n u a) (hb : Pn n v b) (hc : Pn n w c) (hd : Pn n z d) : Pn (n + 1) (u + v + w + z + 4) (.tup [a, b, c, d]) :=
  (Pn.tupS (ws := [u, v, w, z]) rfl fun i x w h1 h2 => by
    match i with
    | 0 => simp at h1 h2; subst h1 h2; exact ha
    | 1 => simp at h1 h2; subst h1 h2; exact hb
    | 2 => simp at h1 h2; subst h1 h2; exact hc
    | 3 => simp at h1 h2; subst h1 h2; exact hd
    | i + 4 => simp at h1).mono (Nat.le_refl _) (by simp; omega)
theorem Pn.lit {x : Str} (h : (x.cps.toList.all fun c => decide (c < 16 ^ 8)) = true := by decide) (hl : x.length ≤ 64 := by decide) : Pn 1 64 (.str x) := Pn.str h hl
theorem Tst.pn {g : Nat} (hg : g ≤ 100) : ∀ {n : Nat} {t : Tst}, t.ok g n → Pn (2 + n) (195 + 66 * n) t.vl
  | n, .given i, h => by
    have h : i < g := by cases n <;> exact h
    exact (Pn.tup2 Pn.lit (Pn.int (by omega))).mono (by omega) (by omega)
  | n, .set x, h => by
    have h : Nice x := by cases n <;> exact h
    exact (Pn.tup2 Pn.lit h.pn).mono (by omega) (by omega)
  | n, .same x y, h => by
    have h : Nice x ∧ Nice y := by cases n <;> exact h
    exact (Pn.tup3 Pn.lit h.1.pn h.2.pn).mono (by omega) (by omega)
  | n, .full x y, h => by
    have h : Nice x ∧ Nice y := by cases n <;> exact h
    exact (Pn.tup3 Pn.lit h.1.pn h.2.pn).mono (by omega) (by omega)
  | n, .wished x, h => by
    have h : Nice x := by cases n <;> exact h
    exact (Pn.tup2 Pn.lit h.pn).mono (by omega) (by omega)
  | n + 1, .not t, h => by
    have ih := Tst.pn hg (n := n) (t := t) h
    exact (Pn.tup2 (Pn.mono Pn.lit (by omega) (Nat.le_refl _)) ih).mono (by omega) (by omega)
  | 0, .not t, h => h.elim
theorem Pn.listS {n : Nat} : ∀ {xs : List Vl} {w : Nat}, (∃ ws : List Nat, ws.length = xs.length ∧ (∀ (i : Nat) (x : Vl) (v : Nat), xs[i]? = some x → ws[i]? = some v → Pn n v x) ∧ (ws.map (· + 1)).sum ≤ w) → Pn (n + 1) w (.tup xs) := by
  rintro xs w ⟨ws, h1, h2, h3⟩
  exact (Pn.tupS h1 h2).mono (Nat.le_refl _) h3
mutual
theorem Stm.pn {g : Nat} (hg : g ≤ 100) : ∀ {n : Nat} {x : Stm}, x.ok g n → Pn (6 + 2 * n) (2000 * x.cnt - 1000) x.vl
  | n, .make x, h => by unfold Stm.ok at h; unfold Stm.vl Stm.cnt; exact (Pn.tup2 Pn.lit h.pn).mono (by omega) (by omega)
  | n, .wish x w, h => by unfold Stm.ok at h; unfold Stm.vl Stm.cnt; exact (Pn.tup3 Pn.lit h.1.pn h.2.pn).mono (by omega) (by omega)
  | n, .keep x, h => by unfold Stm.ok at h; unfold Stm.vl Stm.cnt; exact (Pn.tup2 Pn.lit h.pn).mono (by omega) (by omega)
  | n, .name x y, h => by unfold Stm.ok at h; unfold Stm.vl Stm.cnt; exact (Pn.tup3 Pn.lit h.1.pn h.2.pn).mono (by omega) (by omega)
  | n, .drop x, h => by unfold Stm.ok at h; unfold Stm.vl Stm.cnt; exact (Pn.tup2 Pn.lit h.pn).mono (by omega) (by omega)
  | n, .hold x f y, h => by unfold Stm.ok at h; unfold Stm.vl Stm.cnt; exact (Pn.tup4 Pn.lit h.1.pn h.2.1.pn h.2.2.pn).mono (by omega) (by omega)
  | n, .weak x f y, h => by unfold Stm.ok at h; unfold Stm.vl Stm.cnt; exact (Pn.tup4 Pn.lit h.1.pn h.2.1.pn h.2.2.pn).mono (by omega) (by omega)
  | n, .cut x f, h => by unfold Stm.ok at h; unfold Stm.vl Stm.cnt; exact (Pn.tup3 Pn.lit h.1.pn h.2.pn).mono (by omega) (by omega)
  | n, .take z x f, h => by unfold Stm.ok at h; unfold Stm.vl Stm.cnt; exact (Pn.tup4 Pn.lit h.1.pn h.2.1.pn h.2.2.pn).mono (by omega) (by omega)
  | n, .say w, h => by unfold Stm.ok at h; unfold Stm.vl Stm.cnt; exact (Pn.tup2 Pn.lit h.pn).mono (by omega) (by omega)
  | n, .ask t, h => by
    unfold Stm.ok at h; unfold Stm.vl Stm.cnt
    exact (Pn.tup2 (Pn.mono Pn.lit (show 1 ≤ 5 by omega) (Nat.le_refl _)) (Tst.pn hg h)).mono (by omega) (by omega)
  | n, .ife t a b, h => by
    unfold Stm.ok at h; unfold Stm.vl Stm.cnt
    have h1 := Stm.pns hg h.2.2.1
    have h2 := Stm.pns hg h.2.2.2
    have h3 := Tst.pn hg h.2.1
    have e : 6 + 2 * (n - 1) + 1 = 5 + 2 * n := by omega
    rw [e] at h1 h2
    exact (Pn.tup4 (Pn.mono Pn.lit (show 1 ≤ 5 + 2 * n by omega) (Nat.le_refl _)) (h3.mono (by omega) (Nat.le_refl _)) h1 h2).mono (by omega) (by omega)
  | n, .rep k b, h => by
    unfold Stm.ok at h; unfold Stm.vl Stm.cnt
    have h1 := Stm.pns hg h.2.2
    have e : 6 + 2 * (n - 1) + 1 = 5 + 2 * n := by omega
    rw [e] at h1
    exact (Pn.tup3 (Pn.mono Pn.lit (show 1 ≤ 5 + 2 * n by omega) (Nat.le_refl _)) ((Pn.int (by have := h.2.1; omega)).mono (show 1 ≤ 5 + 2 * n by omega) (Nat.le_refl _)) h1).mono (by omega) (by omega)
theorem Stm.pns {g : Nat} (hg : g ≤ 100) : ∀ {n : Nat} {xs : List Stm}, Stm.oks g n xs → Pn (6 + 2 * n + 1) (2000 * Stm.cnts xs) (.tup (Stm.vls xs))
  | n, xs, h => Pn.listS (Stm.pnw hg h)
theorem Stm.pnw {g : Nat} (hg : g ≤ 100) : ∀ {n : Nat} {xs : List Stm}, Stm.oks g n xs → ∃ ws : List Nat, ws.length = (Stm.vls xs).length ∧ (∀ (i : Nat) (x : Vl) (v : Nat), (Stm.vls xs)[i]? = some x → ws[i]? = some v → Pn (6 + 2 * n) v x) ∧ (ws.map (· + 1)).sum ≤ 2000 * Stm.cnts xs
  | n, [], _ => ⟨[], rfl, fun i x v h => by simp [Stm.vls] at h, by simp⟩
  | n, x :: xs, h => by
    have h1 := Stm.pn hg h.1
    obtain ⟨ws, a, b, c⟩ := Stm.pnw hg h.2
    have hc : 1 ≤ x.cnt := by cases x <;> unfold Stm.cnt <;> omega
    refine ⟨(2000 * x.cnt - 1000) :: ws, by simp [Stm.vls, a], fun i y v e1 e2 => ?_, ?_⟩
    · cases i with
      | zero => simp [Stm.vls] at e1 e2; subst e1 e2; exact h1
      | succ i => simp [Stm.vls] at e1 e2; exact b i y v e1 e2
    · simp only [List.map_cons, List.sum_cons, Stm.cnts]
      omega
end
end Sm

/-! N2: names and words -/
namespace K79
open PySem L2 Sm
/-- a list of short texts -/
structure Strs (s : Sto) (a : Nat) (xs : List Str) : Prop where
  at_ : s[a]? = some (.lst (xs.map Vl.str))
  nice : ∀ x ∈ xs, Nice x
  len : xs.length ≤ 30
theorem Strs.fr {X : List Nat} {s s' : Sto} {a : Nat} {xs : List Str} (h : Strs s a xs) (f : Fr X s s') (hx : a ∉ X) : Strs s' a xs := ⟨f.at h.at_ hx, h.nice, h.len⟩
theorem join_eq {x : Str} {ys : List Str} : Txt.join x ys = Str.join x ys := StrLaws.glued_eq_join x ys
theorem joinE : ∀ {ys : List Str}, (∀ y ∈ ys, y.length = 1 ∧ ∀ c ∈ y.cps.toList, c < 128) → (Txt.join "" ys).length = ys.length ∧ ∀ c ∈ (Txt.join "" ys).cps.toList, c < 128
  | [], _ => ⟨rfl, fun c hc => by cases hc⟩
  | [y], h => by
    have := h y (List.mem_cons_self ..)
    exact ⟨this.1, this.2⟩
  | y :: z :: r, h => by
    have h1 := h y (List.mem_cons_self ..)
    have ih := joinE (ys := z :: r) fun w hw => h w (List.mem_cons_of_mem _ hw)
    have e : Txt.join "" (y :: z :: r) = y ++ "" ++ Txt.join "" (z :: r) := by rw [join_eq, join_eq]; rfl
    have e2 : (Txt.join "" (y :: z :: r)).cps.toList = y.cps.toList ++ (Txt.join "" (z :: r)).cps.toList := by
      rw [e, str_append, str_append]
      have : (("" : Str)).cps.toList = [] := by decide
      rw [this, List.append_nil]
    refine ⟨?_, fun c hc => ?_⟩
    · rw [str_len, e2, List.length_append, ← str_len, ← str_len, h1.1, ih.1]
      simp; omega
    · rw [e2] at hc
      rcases List.mem_append.mp hc with q | q
      · exact h1.2 c q
      · exact ih.2 c q
section
variable {s : Sto} {d l c : Nat} {Q : Vl → Sto → Prop} {E : Ex → Sto → Prop}
theorem oneT {a : Nat} {xs : List Str} (D : Dk s d l c) (S : Strs s a xs) (hd : a ∉ [d, l]) (h0 : 0 < xs.length) (hc : c < CM) (k : ∀ x s', x ∈ xs → Nice x → Dk s' d l (c + 1) → Fr [d, l] s s' → Q (.str x) s') : WE (m__law_one [.ref d, .ref a]) s Q E := by
  have hl := S.len
  refine one D S.at_ hd (by simpa using h0) (by simp; omega) hc fun v s' hv D' f => ?_
  obtain ⟨x, hx, rfl⟩ := List.mem_map.mp hv
  exact k x s' hx (S.nice x hx) D' f
/-- some drawn signs -/
theorem signs {x : Str} {n : Nat} {lo : Lo} {QS : Sto → Prop} (D : Dk s d l c) (h0 : 0 < x.length) (h1 : x.length ≤ 100) (hx : ∀ ch ∈ x.cps.toList, ch < 128) (hn : n ≤ 10) (hc : c + 100 < CM) (l0 : lo[0]? = some (some (.ref d))) (l2 : lo[2]? = some (some (.str x))) (l5 : 5 < lo.length)
    (k : ∀ (ys : List Str) (s' : Sto), s'[s.length]? = some (.lst (ys.map Vl.str)) → ys.length = n → (∀ y ∈ ys, y.length = 1 ∧ ∀ c ∈ y.cps.toList, c < 128) → Dk s' d l (c + n) → Fr [d, l] s s' → QS s') :
    WL (lcX (glN 5) tTrue (eCall (arg 2 m__law_one) (aCons (eVar 0) (aCons (eVar 2) aNil))) s.length lo (rng 0 n) (s ++ [.lst []])) QS := by
  have hlt := D.lt
  refine lcX_inv (fun i s' => ∃ ys : List Str, s'[s.length]? = some (.lst (ys.map Vl.str)) ∧ ys.length = i ∧ (∀ y ∈ ys, y.length = 1 ∧ ∀ c ∈ y.cps.toList, c < 128) ∧ Dk s' d l (c + i) ∧ Fr [d, l] s s') ?_ ?_ ?_
  · exact ⟨[], get_last, rfl, by simp, D.new (Fr.refl.push _), Fr.refl.push _⟩
  · rintro i v s1 hv ⟨ys, g1, g2, g3, D1, f1⟩
    obtain ⟨hi, rfl⟩ := rng_get hv
    refine ⟨_, rfl, ?_⟩
    unfold LcT tTrue
    have e0 : (lo.set 5 (some (Vl.int (i : Nat))))[0]? = some (some (.ref d)) := by rw [List.getElem?_set_ne (by omega)]; exact l0
    have e2 : (lo.set 5 (some (Vl.int (i : Nat))))[2]? = some (some (.str x)) := by rw [List.getElem?_set_ne (by omega)]; exact l2
    simp [e0, e2, l0, l2]
    refine oneS D1 h0 (by omega) (by omega) fun ch s2 hch D2 f2 => ?_
    have g4 := f2.at g1 (by simp; omega)
    simp only [g4]
    refine ⟨limC (by simp; omega), ys ++ [⟨#[ch]⟩], ?_, by simp [g2], ?_, ?_, ?_⟩
    · rw [get_set_self g4]; simp
    · intro y hy
      rcases List.mem_append.mp hy with q | q
      · exact g3 y q
      · simp at q
        subst q
        exact ⟨rfl, fun z hz => by simp at hz; subst hz; exact hx z hch⟩
    · exact D2.fr (Fr.refl.set (X := [s.length]) (by simp)) (by simp; omega) (by simp; omega)
    · exact (f1.trans f2).set (Or.inr (Nat.le_refl _))
  · rintro s1 ⟨ys, g1, g2, g3, D1, f1⟩
    rw [rng_len] at g2 D1
    exact k ys s1 g1 g2 g3 D1 f1
theorem digit : ∀ k : Fin 10, (Str.ofString (toString ((k.val : Nat) : Int))).length = 1 ∧ ∀ c ∈ (Str.ofString (toString ((k.val : Nat) : Int))).cps.toList, c < 128 := by decide
theorem nice3 {x y z : Str} (hx : x.length ≤ 6 ∧ ∀ c ∈ x.cps.toList, c < 128) (hy : y.length = 1 ∧ ∀ c ∈ y.cps.toList, c < 128) (hz : z.length ≤ 6 ∧ ∀ c ∈ z.cps.toList, c < 128) : Nice (x ++ y ++ z) ∧ (x ++ y ++ z).length = x.length + 1 + z.length := by
  have e : (x ++ y ++ z).length = x.length + 1 + z.length := by
    rw [str_len, str_append, str_append, List.length_append, List.length_append, ← str_len, ← str_len, ← str_len, hy.1]
  refine ⟨⟨by rw [e]; omega, fun c hc => ?_⟩, e⟩
  rw [str_append, str_append] at hc
  rcases List.mem_append.mp hc with q | q
  · rcases List.mem_append.mp q with q | q
    · exact hx.2 c q
    · exact hy.2 c q
  · exact hz.2 c q
theorem sum_ones : ∀ {ys : List Str}, (∀ y ∈ ys, y.length = 1) → (ys.map (·.length)).sum = ys.length
  | [], _ => rfl
  | y :: ys, h => by
    have := sum_ones (ys := ys) fun z hz => h z (List.mem_cons_of_mem _ hz)
    simp [h y (List.mem_cons_self ..)] at this ⊢
    omega
theorem str_app_le {x y : Str} (h : x.length + y.length ≤ 100) : x.length + y.length ≤ LIM := limB (by omega)
theorem append_len {x y : Str} : (x ++ y).length = x.length + y.length := by rw [str_len, str_append, List.length_append, ← str_len, ← str_len]
theorem names {n : Nat} (D : Dk s d l c) (hn : n ≤ 10) (hc : c + 1000 < CM) (k : ∀ (L R : Str) (r : Nat) s', Strs s' r ((List.range n).map fun i => L ++ Str.ofString (toString ((i : Nat) : Int)) ++ R) → s.length ≤ r → Dk s' d l (c + 10) → Fr [d, l] s s' → Q (.ref r) s') : WE (m__law_names [.ref d, .int n]) s Q E := by
  unfold m__law_names b__law_names
  simp
  refine draw D (by omega) (by omega) (by omega) fun r s1 hr D1 f1 => ?_
  have lt1 := D1.lt
  have e1 : (1 : Int) + r = ((1 + r : Nat) : Int) := by omega
  simp
  rw [e1, rngW_nat (by omega)]
  refine signs (x := "abcdefghijklmnopqrstuvwxyz") D1 (by decide) (by decide) (by decide) (by omega) (by omega) (by simp [wipeL]) (by simp [wipeL]) (by simp [wipeL]) fun ys s2 g2 y1 y2 D2 f2 => ?_
  obtain ⟨j1, j2⟩ := joinE y2
  have hs := sum_ones fun y hy => (y2 y hy).1
  simp [oJoin_strs g2 (x := "") (by rw [hs]; exact Nat.le_trans (show _ ≤ ys.length + ys.length * 0 from Nat.le_of_eq rfl) (limB (by omega)))]
  refine draw D2 (by omega) (by omega) (by omega) fun r2 s3 hr2 D3 f3 => ?_
  simp
  rw [rngW_nat (by omega)]
  refine signs (x := "abcdefghijklmnopqrstuvwxyz") D3 (by decide) (by decide) (by decide) (by omega) (by omega) (by simp [wipeL]) (by simp [wipeL]) (by simp [wipeL]) fun zs s4 g4 z1 z2 D4 f4 => ?_
  obtain ⟨i1, i2⟩ := joinE z2
  have hs2 := sum_ones fun y hy => (z2 y hy).1
  simp [oJoin_strs g4 (x := "") (by rw [hs2]; exact Nat.le_trans (show _ ≤ zs.length + zs.length * 0 from Nat.le_of_eq rfl) (limB (by omega)))]
  rw [rngW_nat (by omega)]
  generalize Txt.join "" ys = L at j1 j2
  generalize Txt.join "" zs = R at i1 i2
  have dg : ∀ i : Nat, i < 10 → (Str.ofString (toString ((i : Nat) : Int))).length = 1 ∧ ∀ c ∈ (Str.ofString (toString ((i : Nat) : Int))).cps.toList, c < 128 := fun i hi => digit ⟨i, hi⟩
  refine lcX_p (xs := rng 0 n) s4 (fun v => match v with | .int i => some (.str (L ++ Str.ofString (toString i) ++ R)) | _ => none) rfl rfl (by simp; omega) ?_ ?_
  · intro v hv acc
    obtain ⟨i, hi⟩ := List.getElem?_of_mem hv
    obtain ⟨hi, rfl⟩ := rng_get hi
    refine ⟨_, rfl, ?_⟩
    have q := dg i (by omega)
    have b1 : ((i : Nat) : Int).natAbs.log2 < 1920 := by
      have : ((i : Nat) : Int).natAbs = i := by omega
      rw [this]
      rcases Nat.eq_zero_or_pos i with z | z
      · subst z; decide
      · have := (Nat.log2_lt (by omega) (n := i) (k := 10)).mpr (by omega)
        omega
    obtain ⟨X, hX⟩ : ∃ X, X = Str.ofString (toString ((i : Nat) : Int)) := ⟨_, rfl⟩
    have ho : ∀ s, oStr [.int ((i : Nat) : Int)] s = some (.str X, s) := fun s => by rw [oStr_int b1, hX]
    have hr : Str.ofString (Int.repr ((i : Nat) : Int)) = X := hX.symm
    rw [← hX] at q
    have b2 : L.length + X.length ≤ LIM := str_app_le (by omega)
    have b3 : (L ++ X).length + R.length ≤ LIM := str_app_le (by rw [append_len]; omega)
    simp [tTrue, wipeL, ho, opAdd_str b2, opAdd_str b3, hr]
  · have e : (rng 0 n).filterMap (fun v => match v with | .int i => some (Vl.str (L ++ Str.ofString (toString i) ++ R)) | _ => none) = ((List.range n).map fun i : Nat => L ++ Str.ofString (toString ((i : Nat) : Int)) ++ R).map Vl.str := by
      unfold rng
      rw [List.filterMap_map, List.map_map, ← List.filterMap_eq_map]
      congr 1
      funext i
      simp
    rw [e]
    refine k L R s4.length _ ⟨get_last, ?_, by simp; omega⟩ ?_ ((D4.new (Fr.refl.push _)).mono (by omega)) ((((f1.trans f2).trans f3).trans f4).push _)
    · intro x hx
      obtain ⟨i, hi, rfl⟩ := List.mem_map.mp hx
      simp at hi
      exact (nice3 ⟨by omega, j2⟩ (dg i (by omega)) ⟨by omega, i2⟩).1
    · exact (((f1.trans f2).trans f3).trans f4).le
theorem qvxz : ∀ k : Fin 4, ∃ ch, ("qvxz" : Str).cps.toList[k.val]? = some ch ∧ ch < 128 := by decide
theorem words {n : Nat} (D : Dk s d l c) (hn : n ≤ 4) (hc : c + 1000 < CM) (k : ∀ (L R : Str) (r : Nat) s', Strs s' r ((List.range n).map fun i => L ++ ⟨#[(("qvxz" : Str).cps.toList[i]?).getD 0]⟩ ++ R) → s.length ≤ r → Dk s' d l (c + 10) → Fr [d, l] s s' → Q (.ref r) s') : WE (m__law_words [.ref d, .int n]) s Q E := by
  unfold m__law_words b__law_words
  simp
  refine draw D (by omega) (by omega) (by omega) fun r s1 hr D1 f1 => ?_
  have lt1 := D1.lt
  simp
  rw [rngW_nat (by omega)]
  refine signs (x := "0123456789abcdefghijklmnopqrstuvwxyz") D1 (by decide) (by decide) (by decide) (by omega) (by omega) (by simp [wipeL]) (by simp [wipeL]) (by simp [wipeL]) fun ys s2 g2 y1 y2 D2 f2 => ?_
  obtain ⟨j1, j2⟩ := joinE y2
  have hs := sum_ones fun y hy => (y2 y hy).1
  simp [oJoin_strs g2 (x := "") (by rw [hs]; exact Nat.le_trans (show _ ≤ ys.length + ys.length * 0 from Nat.le_of_eq rfl) (limB (by omega)))]
  refine draw D2 (by omega) (by omega) (by omega) fun r2 s3 hr2 D3 f3 => ?_
  simp
  rw [rngW_nat (by omega)]
  refine signs (x := "0123456789abcdefghijklmnopqrstuvwxyz") D3 (by decide) (by decide) (by decide) (by omega) (by omega) (by simp [wipeL]) (by simp [wipeL]) (by simp [wipeL]) fun zs s4 g4 z1 z2 D4 f4 => ?_
  obtain ⟨i1, i2⟩ := joinE z2
  have hs2 := sum_ones fun y hy => (z2 y hy).1
  simp [oJoin_strs g4 (x := "") (by rw [hs2]; exact Nat.le_trans (show _ ≤ zs.length + zs.length * 0 from Nat.le_of_eq rfl) (limB (by omega)))]
  rw [rngW_nat (by omega)]
  generalize Txt.join "" ys = L at j1 j2
  generalize Txt.join "" zs = R at i1 i2
  refine lcX_p (xs := rng 0 n) s4 (fun v => match v with | .int i => some (.str (L ++ ⟨#[(("qvxz" : Str).cps.toList[i.toNat]?).getD 0]⟩ ++ R)) | _ => none) rfl rfl (by simp; omega) ?_ ?_
  · intro v hv acc
    obtain ⟨i, hi⟩ := List.getElem?_of_mem hv
    obtain ⟨hi, rfl⟩ := rng_get hi
    refine ⟨_, rfl, ?_⟩
    obtain ⟨ch, hch, _⟩ := qvxz ⟨i, by omega⟩
    have hch : ("qvxz" : Str).cps.toList[i]? = some ch := hch
    have b1 : (⟨#[ch]⟩ : Str).length = 1 := rfl
    have b2 : L.length + (⟨#[ch]⟩ : Str).length ≤ LIM := str_app_le (by rw [b1]; omega)
    have b3 : (L ++ (⟨#[ch]⟩ : Str)).length + R.length ≤ LIM := str_app_le (by rw [append_len, b1]; omega)
    have b4 : ("qvxz" : Str).length ≤ LIM := by decide
    simp [tTrue, wipeL, opIx_str b4, atN, hch, opAdd_str b2, opAdd_str b3]
  · have e : (rng 0 n).filterMap (fun v => match v with | .int i => some (Vl.str (L ++ ⟨#[(("qvxz" : Str).cps.toList[i.toNat]?).getD 0]⟩ ++ R)) | _ => none) = ((List.range n).map fun i : Nat => L ++ ⟨#[(("qvxz" : Str).cps.toList[i]?).getD 0]⟩ ++ R).map Vl.str := by
      unfold rng
      rw [List.filterMap_map, List.map_map, ← List.filterMap_eq_map]
      congr 1
      funext i
      simp
    rw [e]
    refine k L R s4.length _ ⟨get_last, ?_, by simp; omega⟩ ?_ ((D4.new (Fr.refl.push _)).mono (by omega)) ((((f1.trans f2).trans f3).trans f4).push _)
    · intro x hx
      obtain ⟨i, hi, rfl⟩ := List.mem_map.mp hx
      simp at hi
      obtain ⟨ch, hch, hc2⟩ := qvxz ⟨i, by omega⟩
      have hch : ("qvxz" : Str).cps.toList[i]? = some ch := hch
      rw [hch]
      exact (nice3 ⟨by omega, j2⟩ ⟨rfl, fun z hz => by simp at hz; omega⟩ ⟨by omega, i2⟩).1
    · exact (((f1.trans f2).trans f3).trans f4).le
end
end K79

/-! P2: tests and statements without blocks -/
namespace K79
open PySem L2 Sm
/-- the pool: names, fields, words, givens -/
structure Pool (s : Sto) (d l p n f w : Nat) (N F W : List Str) (g : Nat) : Prop where
  top : s[p]? = some (.lst [.ref n, .ref f, .ref w, .int (g : Nat)])
  sn : Strs s n N
  sf : Strs s f F
  sw : Strs s w W
  n0 : 0 < N.length
  f0 : 0 < F.length
  w0 : 0 < W.length
  g4 : g < 4
  nl : N.length ≤ 20
  ne : ∀ i ∈ [d, l], i ∉ [p, n, f, w]
theorem Pool.fr {X : List Nat} {s s' : Sto} {d l p n f w : Nat} {N F W : List Str} {g : Nat} (P : Pool s d l p n f w N F W g) (fr : Fr X s s') (h : ∀ i ∈ [p, n, f, w], i ∉ X) : Pool s' d l p n f w N F W g :=
  ⟨fr.at P.top (h p (by simp)), P.sn.fr fr (h n (by simp)), P.sf.fr fr (h f (by simp)), P.sw.fr fr (h w (by simp)), P.n0, P.f0, P.w0, P.g4, P.nl, P.ne⟩
theorem Pool.out {s : Sto} {d l p n f w : Nat} {N F W : List Str} {g : Nat} (P : Pool s d l p n f w N F W g) : ∀ i ∈ [p, n, f, w], i ∉ [d, l] := fun i hi hd => P.ne i hd hi
theorem Pool.frD {s s' : Sto} {d l p n f w : Nat} {N F W : List Str} {g : Nat} (P : Pool s d l p n f w N F W g) (fr : Fr [d, l] s s') : Pool s' d l p n f w N F W g := P.fr fr P.out
theorem Pool.fr0 {s s' : Sto} {d l p n f w : Nat} {N F W : List Str} {g : Nat} (P : Pool s d l p n f w N F W g) (fr : Fr [] s s') : Pool s' d l p n f w N F W g := P.fr fr (by simp)
/-- what seems to stand: a dict of truths by names -/
def hdD (kb : List (Str × Bool)) : List (Key × Vl) := kb.map fun q => (Sum.inr q.1, Vl.bl q.2)
structure Hd (s : Sto) (h : Nat) (N : List Str) : Prop where
  ex : ∃ kb : List (Str × Bool), s[h]? = some (.dic (hdD kb)) ∧ (kb.map (·.1)).Nodup ∧ ∀ q ∈ kb, q.1 ∈ N
theorem Hd.fr {X : List Nat} {s s' : Sto} {h : Nat} {N : List Str} (H : Hd s h N) (f : Fr X s s') (hx : h ∉ X) : Hd s' h N := by
  obtain ⟨kb, a, b, c⟩ := H.ex
  exact ⟨kb, f.at a hx, b, c⟩
def putB (z : Str) (b : Bool) : List (Str × Bool) → List (Str × Bool)
  | [] => [(z, b)]
  | q :: r => if q.1 = z then (z, b) :: r else q :: putB z b r
theorem put_hdD {z : Str} {b : Bool} : ∀ kb : List (Str × Bool), put (hdD kb) (.inr z) (.bl b) = hdD (putB z b kb)
  | [] => rfl
  | q :: r => by
    have ih := put_hdD (z := z) (b := b) r
    by_cases e : q.1 = z
    · have e' : (Sum.inr q.1 : Key) = .inr z := by rw [e]
      show (if (Sum.inr q.1 : Key) = .inr z then _ else _) = hdD (if q.1 = z then _ else _)
      rw [if_pos e', if_pos e]; rfl
    · have e' : ¬ (Sum.inr q.1 : Key) = .inr z := fun h => e (Sum.inr.inj h)
      show (if (Sum.inr q.1 : Key) = .inr z then _ else _) = hdD (if q.1 = z then _ else _)
      rw [if_neg e', if_neg e]
      show (Sum.inr q.1, Vl.bl q.2) :: put (hdD r) (.inr z) (.bl b) = _
      rw [ih]; rfl
theorem putB_pos {z : Str} {b : Bool} {q : Str × Bool} {r : List (Str × Bool)} (h : q.1 = z) : putB z b (q :: r) = (z, b) :: r := by unfold putB; rw [if_pos h]
theorem putB_neg {z : Str} {b : Bool} {q : Str × Bool} {r : List (Str × Bool)} (h : ¬ q.1 = z) : putB z b (q :: r) = q :: putB z b r := by
  show (if q.1 = z then (z, b) :: r else q :: putB z b r) = _
  rw [if_neg h]
theorem putB_mem {z y : Str} {b : Bool} : ∀ {kb : List (Str × Bool)}, y ∈ (putB z b kb).map (·.1) ↔ y = z ∨ y ∈ kb.map (·.1)
  | [] => by simp [putB]
  | q :: r => by
    have ih := putB_mem (z := z) (y := y) (b := b) (kb := r)
    by_cases e : q.1 = z
    · rw [putB_pos e, List.map_cons, List.map_cons, List.mem_cons, List.mem_cons, e]
      constructor
      · rintro (h | h)
        · exact .inl h
        · exact .inr (.inr h)
      · rintro (h | h | h)
        · exact .inl h
        · exact .inl h
        · exact .inr h
    · rw [putB_neg e, List.map_cons, List.map_cons, List.mem_cons, List.mem_cons, ih]
      constructor
      · rintro (h | h | h)
        · exact .inr (.inl h)
        · exact .inl h
        · exact .inr (.inr h)
      · rintro (h | h | h)
        · exact .inr (.inl h)
        · exact .inl h
        · exact .inr (.inr h)
theorem putB_nodup {z : Str} {b : Bool} : ∀ {kb : List (Str × Bool)}, (kb.map (·.1)).Nodup → ((putB z b kb).map (·.1)).Nodup
  | [], _ => by simp [putB]
  | q :: r, h => by
    rw [List.map_cons, List.nodup_cons] at h
    by_cases e : q.1 = z
    · rw [putB_pos e, List.map_cons, List.nodup_cons]
      exact ⟨e ▸ h.1, h.2⟩
    · rw [putB_neg e, List.map_cons, List.nodup_cons]
      refine ⟨fun hm => ?_, putB_nodup h.2⟩
      rcases putB_mem.mp hm with q' | q'
      · exact e q'
      · exact h.1 q'
theorem nodup_subS : ∀ {A B : List Str}, A.Nodup → (∀ x ∈ A, x ∈ B) → A.length ≤ B.length
  | [], B, _, _ => Nat.zero_le _
  | a :: A, B, nd, h => by
    have ha := h a (List.mem_cons_self ..)
    simp only [List.nodup_cons] at nd
    have ih := nodup_subS (B := B.erase a) nd.2 fun x hx => (List.mem_erase_of_ne (show x ≠ a from fun e => nd.1 (e ▸ hx))).mpr (h x (List.mem_cons_of_mem _ hx))
    rw [List.length_erase_of_mem ha] at ih
    have := List.length_pos_of_mem ha
    simp only [List.length_cons]
    omega
theorem look_hdD {x : Str} : ∀ {kb : List (Str × Bool)}, x ∈ kb.map (·.1) → ∃ b, look (hdD kb) (.inr x) = some (.bl b)
  | [], h => by simp at h
  | q :: r, h => by
    by_cases e : q.1 = x
    · exact ⟨q.2, by show (if (Sum.inr q.1 : Key) = .inr x then _ else _) = _; rw [if_pos (by rw [e])]⟩
    · simp only [List.map_cons, List.mem_cons] at h
      obtain ⟨b, hb⟩ := look_hdD (h.resolve_left fun z => e z.symm)
      exact ⟨b, by show (if (Sum.inr q.1 : Key) = .inr x then _ else _) = _; rw [if_neg fun z => e (Sum.inr.inj z)]; exact hb⟩
def truth (kb : List (Str × Bool)) (x : Str) : Bool := match look (hdD kb) (.inr x) with
  | some (.bl b) => b
  | _ => false
def pickS (p : Str → Bool) (v : Vl) : Option Vl := match v with
  | .str x => if p x = true then some (.str x) else none
  | _ => none
theorem pickS_eq {p : Str → Bool} : ∀ xs : List Str, (xs.map Vl.str).filterMap (pickS p) = (xs.filter p).map Vl.str
  | [] => rfl
  | x :: xs => by
    have ih := pickS_eq (p := p) xs
    by_cases h : p x = true
    · simp only [List.map_cons, List.filterMap_cons, pickS, if_pos h, List.filter_cons, ih]
    · simp only [List.map_cons, List.filterMap_cons, pickS, if_neg h, List.filter_cons, ih]
section
variable {s : Sto} {d l c : Nat} {Q : Vl → Sto → Prop} {E : Ex → Sto → Prop}
theorem Hd.put {h : Nat} {N : List Str} {z : Str} {b : Bool} (H : Hd s h N) (hN : N.length ≤ 30) (hz : z ∈ N) : ∃ s', opSet (.ref h) (.str z) (.bl b) s = some s' ∧ Hd s' h N ∧ Fr [h] s s' := by
  obtain ⟨kb, a1, a2, a3⟩ := H.ex
  have hl := nodup_subS (A := kb.map (·.1)) (B := N) a2 fun x hx => by
    obtain ⟨q, hq, rfl⟩ := List.mem_map.mp hx
    exact a3 q hq
  rw [List.length_map] at hl
  have hlim : (hdD kb).length < LIM := limC (by simp [hdD]; omega)
  refine ⟨_, opSet_dicS a1 hlim, ⟨putB z b kb, ?_, putB_nodup a2, fun q hq => ?_⟩, Fr.refl.set (by simp)⟩
  · rw [put_hdD]; exact get_set_self a1
  · rcases putB_mem.mp (List.mem_map_of_mem (f := (·.1)) hq) with e | e
    · rw [e]; exact hz
    · obtain ⟨q', hq', e'⟩ := List.mem_map.mp e
      have e' : q'.1 = q.1 := e'
      rw [← e']; exact a3 q' hq'
theorem hd_len {kb : List (Str × Bool)} {N : List Str} (a2 : (kb.map (·.1)).Nodup) (a3 : ∀ q ∈ kb, q.1 ∈ N) (hl : N.length ≤ 30) : (kb.map (·.1)).length ≤ 30 := Nat.le_trans (nodup_subS a2 fun x hx => by
  obtain ⟨q, hq, rfl⟩ := List.mem_map.mp hx
  exact a3 q hq) hl
theorem hd_keys {kb : List (Str × Bool)} : (hdD kb).map (·.1) = (kb.map (·.1)).map Sum.inr := by simp [hdD]
/-- the names that seem to stand -/
theorem oldsL {v h j : Nat} {N : List Str} {lo : Lo} {kb : List (Str × Bool)} {QS : Sto → Prop} (a1 : s[h]? = some (.dic (hdD kb))) (a2 : (kb.map (·.1)).Nodup) (a3 : ∀ q ∈ kb, q.1 ∈ N) (hj : s[j]? = some (.lst ((srtT (kb.map (·.1))).map Vl.str))) (hN : ∀ x ∈ N, Nice x) (hl : N.length ≤ 30) (l2 : lo[2]? = some (some (.ref h))) (lv : v < lo.length) (v2 : v ≠ 2)
    (k : ∀ (O : List Str), Strs (s ++ [.lst (O.map Vl.str)]) s.length O → (∀ x ∈ O, x ∈ N) → O.length ≤ N.length → QS (s ++ [.lst (O.map Vl.str)])) :
    WL (lcN (nxLst j) (glN v) (tVal (eOp opIx (eVar 2) (eVar v))) (eVar v) s.length (wipeL lo [v]) 100000 0 (s ++ [.lst []])) QS := by
  have hkl := hd_len a2 a3 hl
  have hm : ∀ x ∈ (srtT (kb.map (·.1))).filter (truth kb), x ∈ N := fun x hx => by
    have hx' := mem_srtT.mp (List.mem_filter.mp hx).1
    obtain ⟨q, hq, rfl⟩ := List.mem_map.mp hx'
    exact a3 q hq
  refine lcL_p (xs := (srtT (kb.map (·.1))).map Vl.str) s (pickS (truth kb)) rfl rfl hj (by simp only [List.length_map, srtT_len]; rw [List.length_map] at hkl; omega) ?_ ?_
  · intro y hy acc
    obtain ⟨x, hx, rfl⟩ := List.mem_map.mp hy
    refine ⟨_, rfl, ?_⟩
    obtain ⟨b, hb⟩ := look_hdD (mem_srtT.mp hx)
    have ht : truth kb x = b := by simp [truth, hb]
    have l2' : ((wipeL lo [v]).set v (some (Vl.str x)))[2]? = some (some (.ref h)) := by
      rw [List.getElem?_set_ne v2]
      simp only [wipeL]
      rw [List.getElem?_set_ne v2]
      exact l2
    have lv' : ((wipeL lo [v]).set v (some (Vl.str x)))[v]? = some (some (.str x)) := by
      rw [List.getElem?_set_self]
      simp only [wipeL, List.length_set]
      exact lv
    rw [WE_tVal, WE_eOp, WE_eVar l2', WE_eVar lv', opIx_dicS (get_push a1), hb]
    simp only [Option.map, WO_some, true_and, pickS, ht]
    cases b with
    | true => simp only [if_true]; rw [WE_eVar lv']; exact ⟨rfl, by rw [ht]; rfl⟩
    | false => simp [ht]
  · rw [pickS_eq]
    have hle : ((srtT (kb.map (·.1))).filter (truth kb)).length ≤ N.length := by
      refine Nat.le_trans (List.length_filter_le ..) ?_
      rw [srtT_len]
      exact nodup_subS a2 fun x hx => by
        obtain ⟨q, hq, rfl⟩ := List.mem_map.mp hx
        exact a3 q hq
    exact k _ ⟨get_last, fun x hx => hN x (hm x hx), by omega⟩ hm hle
theorem test {p n f w o g : Nat} {N F W O : List Str} (D : Dk s d l c) (P : Pool s d l p n f w N F W g) (SO : Strs s o O) (ho : o ∉ [d, l]) (o0 : 0 < O.length) (hc : c + 100 < CM)
    (k : ∀ (t : Tst) s', t.ok g 3 → Dk s' d l (c + 6) → Fr [d, l] s s' → Q t.vl s') : WE (m__law_test [.ref d, .ref p, .ref o]) s Q E := by
  have g4 := P.g4
  unfold m__law_test b__law_test
  simp
  refine draw D (by omega) (by omega) (by omega) fun way s1 hw D1 f1 => ?_
  simp
  refine oneT D1 (SO.fr f1 ho) ho o0 (by omega) fun x s2 hx nx D2 f2 => ?_
  have P2 := (P.frD f1).frD f2
  simp [P2.top]
  refine oneT D2 P2.sf (P2.out f (by simp)) P2.f0 (by omega) fun y s3 hy ny D3 f3 => ?_
  have P3 := P2.frD f3
  have SO3 := ((SO.fr f1 ho).fr f2 ho).fr f3 ho
  have F3 := (f1.trans f2).trans f3
  simp [P3.top]
  -- behind the test without "not"
  have fin : ∀ (t : Tst) (s4 : Sto) (c4 : Nat), t.ok g 0 → Dk s4 d l c4 → c4 ≤ c + 4 → Fr [d, l] s s4 →
      WS (sSeq (sForX (aRng (aCons (eCall (arg 2 m__law_one) (aCons (eVar 0) (aCons (eCB oLst (aCons (eC (.int 0)) (aCons (eC (.int 0)) (aCons (eC (.int 0)) (aCons (eC (.int 1)) (aCons (eC (.int 2)) (aCons (eC (.int 3)) aNil))))))) aNil))) aNil)) (gNm 4)
        (sSet 3 (eCB oTup (aCons (eC (.str "not")) (aCons (eVar 3) aNil))))) (sRet (eVar 3))) [some (.ref d), some (.ref p), some (.ref o), some t.vl, none, some (.int way), some (.str x)] s4
        ⟨fun _ s => Q .non s, Q, fun _ _ => False, fun _ _ => False, fun e _ s => E e s⟩ := fun t s4 c4 ht D4 hc4 f4 => by
    simp
    refine oneNew D4 (by simp) (by simp) (by omega) fun v s5 hv D5 f5 => ?_
    obtain ⟨m, rfl, hm⟩ : ∃ m : Nat, v = .int m ∧ m ≤ 3 := by
      simp only [List.mem_cons, List.not_mem_nil, or_false] at hv
      rcases hv with rfl | rfl | rfl | rfl | rfl | rfl
      · exact ⟨0, rfl, by omega⟩
      · exact ⟨0, rfl, by omega⟩
      · exact ⟨0, rfl, by omega⟩
      · exact ⟨1, rfl, by omega⟩
      · exact ⟨2, rfl, by omega⟩
      · exact ⟨3, rfl, by omega⟩
    simp
    rw [rngW_nat (by omega)]
    refine loopX_inv (fun i lo s' => s' = s5 ∧ ∃ (t : Tst) (x4 : Option Vl), t.ok g i ∧ lo = [some (.ref d), some (.ref p), some (.ref o), some t.vl, x4, some (.int way), some (.str x)]) ⟨rfl, t, none, ht, rfl⟩ ?_ ?_
    · rintro i v lo s6 hv ⟨rfl, t, x4, ht, rfl⟩
      simp
      exact ⟨.not t, ht, rfl⟩
    · rintro lo s6 ⟨rfl, t, x4, ht, rfl⟩
      rw [rng_len] at ht
      simp
      exact k t _ (ht.mono (by omega)) (D5.mono (by omega)) (f4.trans f5)
  have way9 : way < 9 := by omega
  by_cases w0 : way = 0
  · subst w0
    by_cases g0 : 0 < g
    · have g0' : (0 : Int) < (g : Nat) := by omega
      simp [P3.top, g0, g0']
      refine draw D3 (by omega) (by omega) (by omega) fun i s4 hi D4 f4 => ?_
      rw [WE_aNil, oTup_ok (by simp), WO_some]
      exact fin (.given i) s4 _ (show i < g by omega) D4 (by omega) (F3.trans f4)
    · have g0' : g = 0 := by omega
      subst g0'
      simp [P3.top]
      refine oneT D3 P3.sn (P3.out n (by simp)) P3.n0 (by omega) fun y s4 hy ny D4 f4 => ?_
      rw [WE_aNil, oTup_ok (by simp), WO_some]
      exact fin (.set y) s4 _ ny D4 (by omega) (F3.trans f4)
  · by_cases w1 : way = 1
    · subst w1
      simp [P3.top]
      refine oneT D3 P3.sn (P3.out n (by simp)) P3.n0 (by omega) fun y s4 hy ny D4 f4 => ?_
      rw [WE_aNil, oTup_ok (by simp), WO_some]
      exact fin (.set y) s4 _ ny D4 (by omega) (F3.trans f4)
    · have a1 : ¬ (way : Int) = 0 := by omega
      have a2 : ¬ (way : Int) < 2 := by omega
      by_cases w2 : way = 2
      · subst w2
        simp
        refine oneT D3 SO3 ho o0 (by omega) fun y s4 hy ny D4 f4 => ?_
        rw [WE_aNil, oTup_ok (by simp), WO_some]
        exact fin (.same x y) s4 _ ⟨nx, ny⟩ D4 (by omega) (F3.trans f4)
      · have a3 : ¬ (way : Int) = 2 := by omega
        by_cases w3 : way < 5
        · have a4 : (way : Int) < 5 := by omega
          simp [w0, a1, a2, w2, a3, a4, P3.top]
          refine oneT D3 P3.sw (P3.out w (by simp)) P3.w0 (by omega) fun y s4 hy ny D4 f4 => ?_
          rw [WE_aNil, oTup_ok (by simp), WO_some]
          exact fin (.wished y) s4 _ ny D4 (by omega) (F3.trans f4)
        · have a4 : ¬ (way : Int) < 5 := by omega
          have z := fin (.full x y) s3 _ ⟨nx, ny⟩ D3 (by omega) F3
          simp [Tst.vl] at z
          simp [w0, a1, a2, w2, a3, a4]
          exact z
end
end K79

/-! P3: statements without blocks -/
namespace K79
open PySem L2 Sm
section
variable {s : Sto} {d l c : Nat} {Q : Vl → Sto → Prop} {E : Ex → Sto → Prop}
theorem ifW {cc : Prop} [Decidable cc] {i j : Nat} {mf : List Vl → M Vl} (hk : ∀ k, k = i ∨ k = j → WE (mf [.ref d, .ref k]) s Q E) : if cc then WE (mf [.ref d, .ref i]) s Q E else WE (mf [.ref d, .ref j]) s Q E := by
  split
  · exact hk i (.inl rfl)
  · exact hk j (.inr rfl)
theorem plain {p n f w h g : Nat} {N F W : List Str} (D : Dk s d l c) (P : Pool s d l p n f w N F W g) (H : Hd s h N) (hh : h ∉ [d, l, p, n, f, w]) (hc : c + 200 < CM)
    (k : ∀ (x : Stm) s', x.ok g 0 → x.cnt = 1 → x.wgt = 1 → Dk s' d l (c + 20) → Hd s' h N → Fr [d, l, h] s s' → Q x.vl s') : WE (m__law_plain [.ref d, .ref p, .ref h]) s Q E := by
  have g4 := P.g4
  unfold m__law_plain b__law_plain
  have e3 : cutL [Vl.ref n, .ref f, .ref w, .int (g : Nat)] none (some 3) = [Vl.ref n, .ref f, .ref w] := cutL_nat (n := 3)
  obtain ⟨kb, a1, a2, a3⟩ := H.ex
  have hN30 := P.sn.len
  have hkl := hd_len a2 a3 hN30
  have hhd : h ∉ [d, l] := fun z => hh (by simp at z ⊢; rcases z with z | z <;> simp [z])
  have pne := P.ne
  simp [P.top, e3]
  have f1 : Fr [] s (s ++ [Ob.lst [Vl.ref n, Vl.ref f, Vl.ref w]]) := Fr.refl.push _
  generalize s ++ [Ob.lst [Vl.ref n, Vl.ref f, Vl.ref w]] = s1 at f1
  have b1 := f1.at a1 (by simp)
  rw [oSort_dic b1 hd_keys (by omega), WO_some, lstW_ref, get_last]
  refine oldsL (get_push b1) a2 a3 get_last P.sn.nice hN30 rfl (by simp) (by decide) fun O SO hO hOl => ?_
  have lt0 := D.lt
  have hr : s.length ≤ (s1 ++ [Ob.lst ((srtT (kb.map (·.1))).map Vl.str)]).length := by have := f1.le; simp; omega
  generalize hs2 : (s1 ++ [Ob.lst ((srtT (kb.map (·.1))).map Vl.str)]) = s2 at SO hr
  have f2 : Fr [] s (s2 ++ [Ob.lst (O.map Vl.str)]) := hs2 ▸ (f1.push _).push _
  generalize hs3 : s2 ++ [Ob.lst (O.map Vl.str)] = s3 at SO f2
  generalize s2.length = r at SO hr
  have D3 := D.new f2
  have P3 := P.fr0 f2
  have H3 := H.fr f2 (by simp)
  have hro : r ∉ [d, l] := by simp; omega
  simp
  refine draw D3 (by omega) (by omega) (by omega) fun way s4 hw D4 f4 => ?_
  have P4 := P3.frD f4
  simp
  refine oneT D4 P4.sn (P4.out n (by simp)) P4.n0 (by omega) fun z s5 hz nz D5 f5 => ?_
  have P5 := P4.frD f5
  simp
  refine oneT D5 P5.sf (P5.out f (by simp)) P5.f0 (by omega) fun fl s6 hf nf D6 f6 => ?_
  have P6 := P5.frD f6
  have F6 : Fr [d, l] s s6 := (Fr.mono f2 (by simp) |>.trans f4 |>.trans f5 |>.trans f6)
  have H6 : Hd s6 h N := ((H3.fr f4 hhd).fr f5 hhd).fr f6 hhd
  have S6 : Strs s6 r O := ((SO.fr f4 hro).fr f5 hro).fr f6 hro
  -- the ends
  have kk : ∀ (x : Stm) s', x.ok g 0 → x.cnt = 1 → x.wgt = 1 → ∀ c', Dk s' d l c' → c' ≤ c + 20 → Hd s' h N → Fr [d, l, h] s s' → Q x.vl s' := fun x s' h1 h2 h3 c' D' hc' H' f' => k x s' h1 h2 h3 (D'.mono hc') H' f'
  have up : ∀ {s'}, Fr [d, l] s s' → Fr [d, l, h] s s' := fun f => f.mono fun i hi => by simp at hi ⊢; omega
  have way20 : way < 20 := by omega
  have mk : ∀ (s7 : Sto) (c7 : Nat), Dk s7 d l c7 → c7 ≤ c + 20 → Hd s7 h N → Fr [d, l, h] s s7 → ∃ s8, opSet (.ref h) (.str z) (.bl true) s7 = some s8 ∧ Q (.tup [.str "make", .str z]) s8 := fun s7 c7 D7 hc7 H7 F7 => by
    obtain ⟨s8, e8, H8, f8⟩ := H7.put (b := true) hN30 hz
    have hx : ∀ i ∈ [h], i ∈ [d, l, h] := by simp
    exact ⟨s8, e8, kk (.make z) s8 (by unfold Stm.ok; exact nz) (by rfl) (by rfl) c7 (D7.fr f8 (by simp at hh ⊢; omega) (by simp at hh ⊢; omega)) hc7 H8 (F7.trans (f8.mono hx))⟩
  by_cases w4 : way < 4
  · have w4' : (way : Int) < 4 := by omega
    obtain ⟨s8, e8, q8⟩ := mk s6 _ D6 (by omega) H6 (up F6)
    simp [w4', e8]
    exact q8
  · have w4' : ¬ (way : Int) < 4 := by omega
    simp [w4']
    have f7 : Fr [] s6 (s6 ++ [Ob.lst []]) := Fr.refl.push _
    rw [opEq_lstS (fun z hz => (S6.nice z hz).strOk) (get_push S6.at_) get_last]
    have D7 := D6.new f7
    have P7 := P6.fr0 f7
    have H7 := H6.fr f7 (by simp)
    have S7 := S6.fr f7 (by simp)
    have F7 : Fr [d, l] s (s6 ++ [Ob.lst []]) := F6.trans (f7.mono (by simp))
    generalize s6 ++ [Ob.lst []] = s7 at D7 P7 H7 S7 F7
    cases hO0 : O.isEmpty with
    | true =>
      obtain ⟨s8, e8, q8⟩ := mk s7 _ D7 (by omega) H7 (up F7)
      simp [e8]
      exact q8
    | false =>
      have o0 : 0 < O.length := by
        cases O with
        | nil => simp at hO0
        | cons => simp
      simp
      refine oneT D7 S7 hro o0 (by omega) fun x s8 hx nx D8 f8 => ?_
      have P8 := P7.frD f8
      have S8 := S7.fr f8 hro
      have H8 := H7.fr f8 hhd
      have F8 := F7.trans f8
      have xN := hO x hx
      simp
      refine draw D8 (by omega) (by omega) (by omega) fun q s9 hq D9 f9 => ?_
      have P9 := P8.frD f9
      have S9 := S8.fr f9 hro
      have H9 := H8.fr f9 hhd
      have F9 := F8.trans f9
      -- the second name
      have two : ∀ (K : Vl → Sto → Prop), (∀ y s', Nice y → Dk s' d l (c + 7) → Fr [d, l] s9 s' → K (.str y) s') → ∀ (i : Nat), (i = r ∨ i = n) → WE (m__law_one [.ref d, .ref i]) s9 K E := fun K kK i hi => by
        rcases hi with rfl | rfl
        · exact oneT D9 S9 hro o0 (by omega) fun y s' _ ny D' f' => kK y s' ny (D'.mono (by omega)) f'
        · exact oneT D9 P9.sn (P9.out _ (by simp)) P9.n0 (by omega) fun y s' _ ny D' f' => kK y s' ny (D'.mono (by omega)) f'
      simp
      refine ifW fun i hi => two _ (fun y s10 ny D10 f10 => ?_) i hi
      have P10 := P9.frD f10
      have S10 := S9.fr f10 hro
      have H10 := H9.fr f10 hhd
      have F10 := F9.trans f10
      have fin : ∀ (v : Stm), v.ok g 0 → v.cnt = 1 → v.wgt = 1 → Q v.vl s10 := fun v h1 h2 h3 => kk v s10 h1 h2 h3 _ D10 (by omega) H10 (up F10)
      have put : ∀ (b : Bool) (u : Str) (v : Stm) (s11 : Sto) (c11 : Nat), u ∈ N → v.ok g 0 → v.cnt = 1 → v.wgt = 1 → Dk s11 d l c11 → c11 ≤ c + 20 → Hd s11 h N → Fr [d, l] s s11 → ∃ s12, opSet (.ref h) (.str u) (.bl b) s11 = some s12 ∧ Q v.vl s12 := fun b u v s11 c11 hu h1 h2 h3 D11 hc11 H11 F11 => by
        obtain ⟨s12, e12, H12, f12⟩ := H11.put (b := b) hN30 hu
        have hx : ∀ i ∈ [h], i ∈ [d, l, h] := by simp
        exact ⟨s12, e12, kk v s12 h1 h2 h3 c11 (D11.fr f12 (by simp at hh ⊢; omega) (by simp at hh ⊢; omega)) hc11 H12 ((up F11).trans (f12.mono hx))⟩
      by_cases w7 : way < 7
      · have w7' : (way : Int) < 7 := by omega
        simp [w7']
        exact fin (.weak x fl y) (by unfold Stm.ok; exact ⟨nx, nf, ny⟩) rfl rfl
      have w7' : ¬ (way : Int) < 7 := by omega
      by_cases w10 : way < 10
      · have w10' : (way : Int) < 10 := by omega
        simp [w7', w10']
        exact fin (.hold x fl y) (by unfold Stm.ok; exact ⟨nx, nf, ny⟩) rfl rfl
      have w10' : ¬ (way : Int) < 10 := by omega
      by_cases w11 : way = 10
      · subst w11
        simp
        refine draw D10 (by omega) (by omega) (by omega) fun b s11 hb D11 f11 => ?_
        obtain ⟨s12, e12, q12⟩ := put ((b : Int) == 0) z (.take z x fl) s11 _ hz (by unfold Stm.ok; exact ⟨nz, nx, nf⟩) rfl rfl D11 (by omega) (H10.fr f11 hhd) (F10.trans f11)
        simp only [opEq_int, WO_some, WE_eC, WG_gSb, WS_sAsg, WS_sSeq, WS_sRet]
        simp [e12]
        exact q12
      have w11' : ¬ (way : Int) = 10 := by omega
      by_cases w14 : way < 14
      · have w14' : (way : Int) < 14 := by omega
        obtain ⟨s12, e12, q12⟩ := put false x (.drop x) s10 _ xN (by unfold Stm.ok; exact nx) rfl rfl D10 (by omega) H10 F10
        simp [w7', w10', w11, w11', w14', e12]
        exact q12
      have w14' : ¬ (way : Int) < 14 := by omega
      obtain rfl | rfl | rfl | rfl | w18 : way = 14 ∨ way = 15 ∨ way = 16 ∨ way = 17 ∨ 18 ≤ way := by omega
      · obtain ⟨s12, e12, q12⟩ := put true z (.name z x) s10 _ hz (by unfold Stm.ok; exact ⟨nz, nx⟩) rfl rfl D10 (by omega) H10 F10
        simp [e12]
        exact q12
      · simp
        exact fin (.cut x fl) (by unfold Stm.ok; exact ⟨nx, nf⟩) rfl rfl
      · simp
        refine oneT D10 P10.sw (P10.out w (by simp)) P10.w0 (by omega) fun u s11 hu nu D11 f11 => ?_
        simp
        exact kk (.wish x u) s11 (by unfold Stm.ok; exact ⟨nx, nu⟩) rfl rfl _ D11 (by omega) (H10.fr f11 hhd) (up (F10.trans f11))
      · simp
        refine draw D10 (by omega) (by omega) (by omega) fun b s11 hb D11 f11 => ?_
        have P11 := P10.frD f11
        by_cases b0 : b = 0
        · subst b0
          simp
          exact kk (.keep x) s11 (by unfold Stm.ok; exact nx) rfl rfl _ D11 (by omega) (H10.fr f11 hhd) (up (F10.trans f11))
        · have b0' : ¬ (b : Int) = 0 := by omega
          simp [b0, b0']
          refine oneT D11 P11.sw (P11.out w (by simp)) P11.w0 (by omega) fun u s12 hu nu D12 f12 => ?_
          simp
          exact kk (.say u) s12 (by unfold Stm.ok; exact nu) rfl rfl _ D12 (by omega) ((H10.fr f11 hhd).fr f12 hhd) (up ((F10.trans f11).trans f12))
      · have e15 : ¬ (way : Int) = 15 := by omega
        have e16 : ¬ (way : Int) = 16 := by omega
        have e17 : ¬ (way : Int) = 17 := by omega
        have e14 : ¬ (way : Int) = 14 := by omega
        have n15 : ¬ way = 15 := by omega
        have n16 : ¬ way = 16 := by omega
        have n17 : ¬ way = 17 := by omega
        have n14 : ¬ way = 14 := by omega
        simp [w7', w10', w11, w11', w14', e14, e15, e16, e17, n14, n15, n16, n17]
        refine test D10 P10 S10 hro o0 (by omega) fun t s11 ht D11 f11 => ?_
        simp
        exact kk (.ask t) s11 (by unfold Stm.ok; exact ht) rfl rfl _ D11 (by omega) (H10.fr f11 hhd) (up (F10.trans f11))
end
end K79

/-! P4: blocks -/
namespace K79
open PySem L2 Sm
/-- the draws of a block, at most -/
def X (D : Nat) : Nat := 100 ^ (D + 2)
theorem X_succ {D : Nat} : X (D + 1) = 100 * X D := by unfold X; rw [Nat.pow_succ, Nat.mul_comm]
theorem X_pos {D : Nat} : 10000 ≤ X D := by
  induction D with
  | zero => decide
  | succ n ih => rw [X_succ]; omega
def per (D : Nat) : Nat := match D with
  | 0 => 30
  | D + 1 => 30 + 2 * X D
theorem per_le {D : Nat} : 1 + 12 * per D ≤ X D := by
  cases D with
  | zero => decide
  | succ D =>
    have := X_pos (D := D)
    rw [X_succ]
    simp only [per]
    omega
/-- what a block's making finds -/
structure Be (s : Sto) (d l p n f w h lf sh : Nat) (N F W : List Str) (g A Dp T L Wt : Nat) : Prop where
  P : Pool s d l p n f w N F W g
  H : Hd s h N
  lfA : s[lf]? = some (.lst [.int (L : Nat), .int (Wt : Nat)])
  shA : s[sh]? = some (.lst [.int (A : Nat), .int (Dp : Nat), .int (T : Nat)])
  a0 : 0 < A
  a1 : A ≤ 12
  hx : ∀ i ∈ [p, n, f, w, sh], i ∉ [d, l, h, lf]
  hl : lf ∉ [d, l, h]
  hh : h ∉ [d, l]
def BodyS (mf : List Vl → M Vl) (M : Nat) : Prop := ∀ (s : Sto) (d l c p n f w h lf sh : Nat) (N F W : List Str) (g A Dp T L Wt : Nat) (Q : Vl → Sto → Prop) (E : Ex → Sto → Prop), Dp < M → Dk s d l c → Be s d l p n f w h lf sh N F W g A Dp T L Wt → c + X Dp + 1000 < CM →
  (∀ (b : List Stm) (L' W' : Nat) (s' : Sto), Stm.oks g Dp b → L' + Stm.cnts b = L → W' + T * Stm.wgts b = Wt → s'[lf]? = some (.lst [.int (L' : Nat), .int (W' : Nat)]) → Hd s' h N → Dk s' d l (c + X Dp) → Fr [d, l, h, lf] s s' → Q (.tup (Stm.vls b)) s') →
  WE (mf [.ref d, .ref p, .ref h, .ref lf, .ref sh]) s Q E
/-- behind i turns of a block's loop -/
def BI (s : Sto) (d l c p n f w h lf sh : Nat) (N F W : List Str) (g A Dp T L Wt i : Nat) (lo : Lo) (s' : Sto) : Prop := ∃ (b : List Stm) (L' W' : Nat) (x6 x7 x8 x9 x10 x11 x12 : Option Vl), lo = [some (.ref d), some (.ref p), some (.ref h), some (.ref lf), some (.ref sh), some (.ref s.length), x6, x7, x8, x9, x10, x11, x12, none] ∧
  Stm.oks g Dp b ∧ L' + Stm.cnts b = L ∧ W' + T * Stm.wgts b = Wt ∧ b.length ≤ i ∧ s'[s.length]? = some (.lst (Stm.vls b)) ∧ Be s' d l p n f w h lf sh N F W g A Dp T L' W' ∧ Dk s' d l (c + 1 + i * per Dp) ∧ Fr [d, l, h, lf] s s'
theorem Stm.snoc_vls (b : List Stm) (x : Stm) : Stm.vls b ++ [x.vl] = Stm.vls (b ++ [x]) := by simp [Stm.vls_map]
theorem bodyS : ∀ M : Nat, BodyS (R2 M 0) M
  | 0 => fun s d l c p n f w h lf sh N F W g A Dp T L Wt Q E hD => by omega
  | M + 1 => fun s d l c p n f w h lf sh N F W g A Dp T L Wt Q E hD D B hc k => by
    have ih := bodyS M
    show WE (fnM 14 (b__law_body (R2 M)) _) _ _ _
    unfold b__law_body
    have hP := per_le (D := Dp)
    have lt0 := D.lt
    have ltlf := lt_of_get B.lfA
    have ltsh := lt_of_get B.shA
    simp
    have f1 : Fr [] s (s ++ [Ob.lst []]) := Fr.refl.push _
    have e1 : (s ++ [Ob.lst []])[s.length]? = some (.lst []) := get_last
    have sh1 := f1.at B.shA (by simp)
    have D1 := D.new f1
    generalize hs1 : s ++ [Ob.lst []] = s1 at f1 e1 sh1 D1
    simp [sh1]
    have hA := B.a0
    have hA1 := B.a1
    refine draw D1 (by omega) (by omega) (by omega) fun r s2 hr D2 f2 => ?_
    have er : (1 : Int) + r = ((1 + r : Nat) : Int) := by omega
    simp
    rw [er, rngW_nat (by omega)]
    have hxp : ∀ i ∈ [p, n, f, w, sh], i ∉ [d, l] := fun i hi z => B.hx i hi (by simp at z ⊢; omega)
    have hhp : h ∉ [d, l, p, n, f, w] := fun z => by
      have q1 := B.hx p (by simp)
      have q2 := B.hx n (by simp)
      have q3 := B.hx f (by simp)
      have q4 := B.hx w (by simp)
      have q5 := B.hh
      simp at z q1 q2 q3 q4 q5
      omega
    have call : ∀ (sA : Sto) (cA L1 W1 nn A' T' : Nat) (kvs : List (Key × Vl)) (K : Vl → Sto → Prop), 0 < Dp → Dk sA d l cA → cA + X (Dp - 1) + 1000 < CM → Pool sA d l p n f w N F W g → Hd sA h N → sA[h]? = some (.dic kvs) → sA[lf]? = some (.lst [.int (L1 : Nat), .int (W1 : Nat)]) →
        sA[nn]? = some (.lst [.int (A' : Nat), .int ((Dp - 1 : Nat) : Nat), .int (T' : Nat)]) → nn ∉ [d, l, lf] → 0 < A' → A' ≤ 12 →
        (∀ (b' : List Stm) (L2 W2 : Nat) (s' : Sto), Stm.oks g (Dp - 1) b' → L2 + Stm.cnts b' = L1 → W2 + T' * Stm.wgts b' = W1 → s'[lf]? = some (.lst [.int (L2 : Nat), .int (W2 : Nat)]) → Dk s' d l (cA + X (Dp - 1)) → Fr [d, l, lf] sA s' → K (.tup (Stm.vls b')) s') →
        WE (R2 M 0 [.ref d, .ref p, .ref sA.length, .ref lf, .ref nn]) (sA ++ [.dic kvs]) K E := fun sA cA L1 W1 nn A' T' kvs K hDp DA hcA PA HA hA' lfA nnA hnn a0 a1 kk => by
      obtain ⟨kb, q1, q2, q3⟩ := HA.ex
      rw [hA'] at q1
      cases q1
      have fA : Fr [] sA (sA ++ [Ob.dic (hdD kb)]) := Fr.refl.push _
      have i1 := lt_of_get PA.top
      have i2 := lt_of_get PA.sn.at_
      have i3 := lt_of_get PA.sf.at_
      have i4 := lt_of_get PA.sw.at_
      have i5 := lt_of_get lfA
      have i6 := lt_of_get nnA
      have i7 := DA.lt
      have i8 := B.hl
      refine ih _ d l cA p n f w sA.length lf nn N F W g A' (Dp - 1) T' L1 W1 K E (by omega) (DA.new fA) ⟨PA.fr0 fA, ⟨kb, get_last, q2, q3⟩, fA.at lfA (by simp), fA.at nnA (by simp), a0, a1, ?_, ?_, ?_⟩ hcA fun b' L2 W2 s' o1 o2 o3 o4 o5 o6 o7 => ?_
      · intro i hi
        have hi' : i ∈ [p, n, f, w] ∨ i = nn := by simp at hi ⊢; omega
        rcases hi' with hi' | rfl
        · have z := B.hx i (by simp at hi' ⊢; omega)
          have z2 : i < sA.length := by simp at hi'; rcases hi' with rfl | rfl | rfl | rfl <;> assumption
          simp at z ⊢
          omega
        · simp at hnn ⊢
          omega
      · simp at i8 ⊢
        omega
      · simp
        omega
      · refine kk b' L2 W2 s' o1 o2 o3 o4 o6 ((fA.mono (by simp)).trans' o7 fun i hi => ?_)
        simp at hi ⊢
        omega
    -- the loop
    refine loopX_inv (BI s d l c p n f w h lf sh N F W g A Dp T L Wt) ?_ ?_ ?_
    · have f12 : Fr [d, l] s s2 := (f1.mono (by simp)).trans f2
      refine ⟨[], L, Wt, none, none, none, none, none, none, none, rfl, trivial, by simp [Stm.cnts], by simp [Stm.wgts], by simp, f2.at e1 (by simp; omega), ?_, by simpa using D2, f12.mono fun i hi => by simp at hi ⊢; omega⟩
      exact ⟨(B.P.fr0 f1).frD f2, (B.H.fr f1 (by simp)).fr f2 B.hh, f12.at B.lfA (fun z => B.hl (by simp at z ⊢; omega)), f12.at B.shA (hxp sh (by simp)), hA, hA1, B.hx, B.hl, B.hh⟩
    · rintro i v lo s3 hv ⟨b, L', W', x6, x7, x8, x9, x10, x11, x12, rfl, ob, cL, cW, bl, e3, B3, D3, F3⟩
      obtain ⟨hi, rfl⟩ := rng_get hv
      have hi12 : i < 12 := by omega
      have hip : i * per Dp + per Dp ≤ 12 * per Dp := by
        have := Nat.mul_le_mul_right (per Dp) (show i + 1 ≤ 12 by omega)
        rw [Nat.succ_mul] at this
        exact this
      have hi1 : (i + 1) * per Dp = i * per Dp + per Dp := Nat.succ_mul ..
      have hp30 : 30 ≤ per Dp := by unfold per; split <;> omega
      have le3 := F3.le
      simp
      refine draw D3 (by omega) (by omega) (by omega) fun way s4 hw D4 f4 => ?_
      have lf4 := f4.at B3.lfA (fun z => B3.hl (by simp at z ⊢; omega))
      have sh4 := f4.at B3.shA (hxp sh (by simp))
      have e4 := f4.at e3 (by simp; omega)
      have P4 := B3.P.frD f4
      have H4 := B3.H.fr f4 B3.hh
      have F4 : Fr [d, l, h, lf] s s4 := F3.trans (f4.mono fun i hi => by simp at hi ⊢; omega)
      have skip : BI s d l c p n f w h lf sh N F W g A Dp T L Wt (i + 1) [some (.ref d), some (.ref p), some (.ref h), some (.ref lf), some (.ref sh), some (.ref s.length), some (.int i), some (.int way), x8, x9, x10, x11, x12, none] s4 :=
        ⟨b, L', W', _, _, x8, x9, x10, x11, x12, rfl, ob, cL, cW, by omega, e4, ⟨P4, H4, lf4, sh4, hA, hA1, B.hx, B.hl, B.hh⟩, D4.mono (by omega), F4⟩
      simp [lf4, sh4]
      by_cases hL : 0 < L'
      · by_cases hW : T ≤ W'
        · have hLi : (0 : Int) < (L' : Nat) := by omega
          have hWi : ((T : Nat) : Int) ≤ (W' : Nat) := by omega
          simp [hL, hLi, hW, hWi, lf4, sh4, ixN, get_set_self lf4]
          have f5 : Fr [lf] s4 (s4.set lf (Ob.lst [Vl.int (↑L' - 1), Vl.int (↑W' - ↑T)])) := Fr.refl.set (by simp)
          have eL : (L' : Int) - 1 = ((L' - 1 : Nat) : Int) := by omega
          have eW : (W' : Int) - (T : Int) = ((W' - T : Nat) : Int) := by omega
          have lf5 : (s4.set lf (Ob.lst [Vl.int (↑L' - 1), Vl.int (↑W' - ↑T)]))[lf]? = some (.lst [.int ((L' - 1 : Nat) : Nat), .int ((W' - T : Nat) : Nat)]) := by rw [get_set_self lf4, eL, eW]
          generalize s4.set lf (Ob.lst [Vl.int (↑L' - 1), Vl.int (↑W' - ↑T)]) = s5 at f5 lf5
          have hlfp : ∀ i ∈ [p, n, f, w], i ∉ [lf] := fun i hi z => B.hx i (by simp at hi ⊢; omega) (by simp at z ⊢; omega)
          have P5 := P4.fr f5 hlfp
          have hl := B.hl
          have H5 := H4.fr f5 (by simp at hl ⊢; omega)
          have sh5 := f5.at sh4 (by have := B.hx sh (by simp); simp at this ⊢; omega)
          have e5 := f5.at e4 (by simp; omega)
          have D5 := D4.fr f5 (by simp at hl ⊢; omega) (by simp at hl ⊢; omega)
          have F5 : Fr [d, l, h, lf] s s5 := F4.trans (f5.mono (by simp))
          obtain ⟨kb, a1, a2, a3⟩ := H5.ex
          have hN30 := P5.sn.len
          have hkl := hd_len a2 a3 hN30
          have hdb : Fr [] s5 (s5 ++ [Ob.lst ((srtT (kb.map (·.1))).map Vl.str)]) := Fr.refl.push _
          rw [oSort_dic a1 hd_keys (by omega), WO_some, lstW_ref, get_last]
          refine oldsL (get_push a1) a2 a3 get_last P5.sn.nice hN30 rfl (by simp) (by decide) fun O SO hO hOl => ?_
          generalize hs6 : (s5 ++ [Ob.lst ((srtT (kb.map (·.1))).map Vl.str)]) = s6 at SO hdb
          have f7 : Fr [] s5 (s6 ++ [Ob.lst (O.map Vl.str)]) := hdb.push _
          have le5 := F5.le
          have le6 := hdb.le
          have P7 := P5.fr0 f7
          have n0 := P7.n0
          obtain ⟨y0, N', rfl⟩ : ∃ y N', N = y :: N' := by
            cases N with
            | nil => simp at n0
            | cons y N' => exact ⟨y, N', rfl⟩
          have ecut : cutL (Vl.str y0 :: N'.map Vl.str) none (some 1) = [Vl.str y0] := by rw [show (1 : Int) = ((1 : Nat) : Int) from rfl, cutL_nat]; rfl
          generalize s6 ++ [Ob.lst (O.map Vl.str)] = s7 at SO f7 P7
          have sn7 : s7[n]? = some (.lst (Vl.str y0 :: N'.map Vl.str)) := P7.sn.at_
          simp [P7.top, opSl_lst sn7, ecut]
          have lO := SO.len
          rw [opAdd_lst (get_push SO.at_) get_last (limB (by simp; omega))]
          have f9 : Fr [] s5 (s7 ++ [Ob.lst [Vl.str y0]] ++ [Ob.lst (O.map Vl.str ++ [Vl.str y0])]) := (f7.push _).push _
          have SO9 : Strs (s7 ++ [Ob.lst [Vl.str y0]] ++ [Ob.lst (O.map Vl.str ++ [Vl.str y0])]) (s7 ++ [Ob.lst [Vl.str y0]]).length (O ++ [y0]) := by
            refine ⟨by rw [get_last]; simp, fun x hx => ?_, ?_⟩
            · rcases List.mem_append.mp hx with q | q
              · exact SO.nice x q
              · simp at q; rw [q]; exact P7.sn.nice y0 (List.mem_cons_self ..)
            · have := P7.nl
              simp
              omega
          have hro : (s7 ++ [Ob.lst [Vl.str y0]]).length ∉ [d, l, h, lf] := by
            have q1 := f7.le
            have q2 := lt_of_get lf5
            have q3 := lt_of_get a1
            have q4 := D5.lt
            simp
            omega
          have o0 : 0 < (O ++ [y0]).length := by simp
          have P9 := P5.fr0 f9
          have D9 := D5.new f9
          have H9 := H5.fr f9 (by simp)
          have lf9 := f9.at lf5 (by simp)
          have sh9 := f9.at sh5 (by simp)
          have e9 := f9.at e5 (by simp)
          have h9 := f9.at a1 (by simp)
          have F9 : Fr [d, l, h, lf] s _ := F5.trans (f9.mono (by simp))
          generalize (s7 ++ [Ob.lst [Vl.str y0]]).length = ro at SO9 hro
          generalize (s7 ++ [Ob.lst [Vl.str y0]] ++ [Ob.lst (O.map Vl.str ++ [Vl.str y0])]) = s9 at SO9 P9 D9 H9 lf9 sh9 e9 h9 F9
          have hrd : ro ∉ [d, l] := fun z => hro (by simp at z ⊢; omega)
          -- the end of a turn
          have hpN : Pool s9 d l p n f w (y0 :: N') F W g := P9
          have done : ∀ (x : Stm) (L2 W2 : Nat) (s' : Sto) (y6 y7 y8 y9 y10 y11 y12 : Option Vl) (c' : Nat), x.ok g Dp → L2 + x.cnt = L' → W2 + T * x.wgt = W' → s'[lf]? = some (.lst [.int (L2 : Nat), .int (W2 : Nat)]) → Hd s' h (y0 :: N') → Dk s' d l c' → c' ≤ c + 1 + (i + 1) * per Dp → Fr [d, l, h, lf] s9 s' →
              kd .list (.ref s.length) s' = true ∧ ∃ s'', oAppend (.ref s.length) [x.vl] s' = some (.non, s'') ∧ BI s d l c p n f w h lf sh (y0 :: N') F W g A Dp T L Wt (i + 1) [some (.ref d), some (.ref p), some (.ref h), some (.ref lf), some (.ref sh), some (.ref s.length), y6, y7, y8, y9, y10, y11, y12, none] s'' := fun x L2 W2 s' y6 y7 y8 y9 y10 y11 y12 c' ox oL oW lf' H' D' hc' f' => by
            have lh := lt_of_get h9
            have lth : h < s.length := by
              obtain ⟨kb0, z, _, _⟩ := B.H.ex
              exact lt_of_get z
            have eS := f'.at e9 (by simp; omega)
            have bl12 : (Stm.vls b).length < LIM := limC (by rw [Stm.vls_map, List.length_map]; omega)
            refine ⟨kd_lst eS, _, oAppend_lst eS bl12, ?_⟩
            have fs : Fr [s.length] s' (s'.set s.length (.lst (Stm.vls b ++ [x.vl]))) := Fr.refl.set (by simp)
            have hxp' : ∀ i ∈ [p, n, f, w], i ∉ [d, l, h, lf] := fun i hi => B.hx i (by simp at hi ⊢; omega)
            have ltp := lt_of_get B.P.top
            have ltn := lt_of_get B.P.sn.at_
            have ltf := lt_of_get B.P.sf.at_
            have ltw := lt_of_get B.P.sw.at_
            have P' := (P9.fr f' hxp').fr fs fun i hi => by simp at hi ⊢; rcases hi with rfl | rfl | rfl | rfl <;> omega
            refine ⟨b ++ [x], L2, W2, y6, y7, y8, y9, y10, y11, y12, rfl, Stm.oks_app.mpr ⟨ob, ox, trivial⟩, ?_, ?_, by simp; omega, ?_, ⟨P', H'.fr fs (by simp; omega), fs.at lf' (by simp; omega), fs.at (f'.at sh9 (B.hx sh (by simp))) (by simp; omega), hA, hA1, B.hx, B.hl, B.hh⟩, ?_, ?_⟩
            · rw [Stm.cnts_app]; simp [Stm.cnts]; omega
            · rw [Stm.wgts_app]; simp only [Stm.wgts, Nat.mul_add]; simp; omega
            · rw [get_set_self eS, Stm.snoc_vls]
            · exact (D'.mono hc').fr fs (by simp; omega) (by simp; omega)
            · exact (F9.trans f').set (Or.inr (Nat.le_refl _))
          by_cases wA : way = 0 ∧ 0 < Dp
          · obtain ⟨rfl, hDp⟩ := wA
            have hDi : (0 : Int) < (Dp : Nat) := by omega
            obtain ⟨D0, rfl⟩ : ∃ D0, Dp = D0 + 1 := ⟨Dp - 1, by omega⟩
            have hper : per (D0 + 1) = 30 + 2 * X D0 := rfl
            have hXs := X_succ (D := D0)
            simp [sh9, hDp, hDi]
            refine test D9 P9 SO9 hrd o0 (by omega) fun tt s10 ht D10 f10 => ?_
            have sh10 := f10.at sh9 (hxp sh (by simp))
            have lf10 := f10.at lf9 (fun z => B3.hl (by simp at z ⊢; omega))
            have h10 := f10.at h9 B.hh
            have P10 := P9.frD f10
            have H10 := H9.fr f10 B.hh
            have e10 := f10.at e9 (by simp; omega)
            simp [sh10, h10]
            have lt10 := D10.lt
            have lf10l := lt_of_get lf10
            have f11 : Fr [] s10 (s10 ++ [Ob.lst [Vl.int 3, Vl.int (D0 : Nat), Vl.int (T : Nat)]]) := Fr.refl.push _
            have nn11 : (s10 ++ [Ob.lst [Vl.int 3, Vl.int (D0 : Nat), Vl.int (T : Nat)]])[s10.length]? = some (.lst [.int 3, .int (D0 : Nat), .int (T : Nat)]) := get_last
            have hnn : s10.length ∉ [d, l, lf] := by simp; omega
            generalize s10 ++ [Ob.lst [Vl.int 3, Vl.int (D0 : Nat), Vl.int (T : Nat)]] = s11 at f11 nn11
            generalize s10.length = nn at nn11 hnn
            have h11 := f11.at h10 (by simp)
            have D11 := D10.new f11
            have F11 : Fr [d, l] s9 s11 := f10.trans (f11.mono (by simp))
            rw [oDict_dic h11, WO_some]
            simp
            refine call s11 _ (L' - 1) (W' - T) nn 3 T _ _ hDp D11 (by simp; omega) (P10.fr0 f11) (H10.fr f11 (by simp)) h11 (f11.at lf10 (by simp)) nn11 hnn (by omega) (by omega) fun b1 L1 W1 s12 ob1 cL1 cW1 lf12 D12 f12 => ?_
            have eD : D0 + 1 - 1 = D0 := rfl
            rw [eD] at ob1 D12
            simp
            refine draw D12 (by omega) (by omega) (by omega) fun q s13 hq D13 f13 => ?_
            have hls : h ∉ [d, l, lf] := by
              have z1 := B.hh
              have z2 := B.hl
              simp at z1 z2 ⊢
              omega
            have lth : h < s.length := by
              obtain ⟨kb0, z, _, _⟩ := B.H.ex
              exact lt_of_get z
            have h13 := f13.at (f12.at h11 hls) B.hh
            have lf13 := f13.at lf12 (fun z => B3.hl (by simp at z ⊢; omega))
            have nn13 := f13.at (f12.at nn11 hnn) (fun z => hnn (by simp at z ⊢; omega))
            have e13 := f13.at (f12.at (f11.at e10 (by simp)) (by simp; omega)) (by simp; omega)
            have F13 : Fr [d, l, h, lf] s9 s13 := ((F11.mono fun i hi => by simp at hi ⊢; omega).trans (f12.mono fun i hi => by simp at hi ⊢; omega)).trans (f13.mono fun i hi => by simp at hi ⊢; omega)
            have H13 : Hd s13 h (y0 :: N') := ⟨kb, h13, a2, a3⟩
            have P13 : Pool s13 d l p n f w (y0 :: N') F W g := P9.fr F13 fun i hi => B.hx i (by simp at hi ⊢; omega)
            by_cases q0 : q = 0
            · subst q0
              simp [kd_lst e13]
              rw [oDict_dic h13, WO_some]
              simp
              refine call s13 _ L1 W1 nn 3 T _ _ hDp D13 (by simp; omega) P13 H13 h13 lf13 nn13 hnn (by omega) (by omega) fun b2 L2 W2 s14 ob2 cL2 cW2 lf14 D14 f14 => ?_
              rw [eD] at ob2 D14
              have F14 : Fr [d, l, h, lf] s9 s14 := F13.trans (f14.mono fun i hi => by simp at hi ⊢; omega)
              have H14 : Hd s14 h (y0 :: N') := ⟨kb, f14.at h13 hls, a2, a3⟩
              obtain ⟨_, s15, e15, q15⟩ := done (.ife tt b1 b2) L2 W2 s14 (some (.int i)) (some (.int 0)) (some (.ref ro)) (some tt.vl) (some (.ref nn)) (some (.tup (Stm.vls b1))) x12 _ (by unfold Stm.ok; exact ⟨by omega, ht, ob1, ob2⟩) (by simp [Stm.cnt]; omega) (by simp only [Stm.wgt, Nat.mul_add]; omega) lf14 H14 D14 (by omega) F14
              simp
              rw [show Vl.tup [Vl.str (Str.ofString "if"), tt.vl, Vl.tup (Stm.vls b1), Vl.tup (Stm.vls b2)] = (Stm.ife tt b1 b2).vl from by rw [Stm.vl], e15]
              simp
              exact q15
            · have q0' : ¬ (q : Int) = 0 := by omega
              obtain ⟨kd15, s15, e15, q15⟩ := done (.ife tt b1 []) L1 W1 s13 (some (.int i)) (some (.int q)) (some (.ref ro)) (some tt.vl) (some (.ref nn)) (some (.tup (Stm.vls b1))) x12 _ (by unfold Stm.ok; exact ⟨by omega, ht, ob1, trivial⟩) (by simp [Stm.cnt, Stm.cnts]; omega) (by simp only [Stm.wgt, Stm.wgts, Nat.mul_add]; omega) lf13 H13 D13 (by omega) F13
              simp [q0, q0', kd15]
              rw [show Vl.tup [Vl.str (Str.ofString "if"), tt.vl, Vl.tup (Stm.vls b1), Vl.tup []] = (Stm.ife tt b1 []).vl from by rw [Stm.vl, Stm.vls], e15]
              simp
              exact q15
          · by_cases wB : way = 1 ∧ 0 < Dp
            · obtain ⟨rfl, hDp⟩ := wB
              have hDi : (0 : Int) < (Dp : Nat) := by omega
              obtain ⟨D0, rfl⟩ : ∃ D0, Dp = D0 + 1 := ⟨Dp - 1, by omega⟩
              have hper : per (D0 + 1) = 30 + 2 * X D0 := rfl
              have hXs := X_succ (D := D0)
              simp [sh9, hDp, hDi]
              refine oneNew D9 (by simp) (by simp) (by omega) fun v s10 hv D10 f10 => ?_
              obtain ⟨tm, rfl, htm⟩ : ∃ m : Nat, v = .int m ∧ m ≤ 3 := by
                simp only [List.mem_cons, List.not_mem_nil, or_false] at hv
                rcases hv with rfl | rfl | rfl | rfl | rfl | rfl
                · exact ⟨0, rfl, by omega⟩
                · exact ⟨1, rfl, by omega⟩
                · exact ⟨2, rfl, by omega⟩
                · exact ⟨2, rfl, by omega⟩
                · exact ⟨3, rfl, by omega⟩
                · exact ⟨3, rfl, by omega⟩
              have sh10 := f10.at sh9 (hxp sh (by simp))
              have lf10 := f10.at lf9 (fun z => B3.hl (by simp at z ⊢; omega))
              have h10 := f10.at h9 B.hh
              have P10 := P9.frD f10
              have H10 := H9.fr f10 B.hh
              have e10 := f10.at e9 (by simp; omega)
              have emul : (T : Int) * (tm : Int) = ((T * tm : Nat) : Int) := by simp
              have tm64 : -(2 ^ 64) < (tm : Int) ∧ (tm : Int) < 2 ^ 64 := by omega
              simp [sh10, h10, opMul_int (Or.inr tm64)]
              rw [emul]
              have lt10 := D10.lt
              have lf10l := lt_of_get lf10
              have f11 : Fr [] s10 (s10 ++ [Ob.lst [Vl.int 4, Vl.int (D0 : Nat), Vl.int ((T * tm : Nat) : Int)]]) := Fr.refl.push _
              have nn11 : (s10 ++ [Ob.lst [Vl.int 4, Vl.int (D0 : Nat), Vl.int ((T * tm : Nat) : Int)]])[s10.length]? = some (.lst [.int 4, .int (D0 : Nat), .int ((T * tm : Nat) : Int)]) := get_last
              have hnn : s10.length ∉ [d, l, lf] := by simp; omega
              generalize s10 ++ [Ob.lst [Vl.int 4, Vl.int (D0 : Nat), Vl.int ((T * tm : Nat) : Int)]] = s11 at f11 nn11
              generalize s10.length = nn at nn11 hnn
              have h11 := f11.at h10 (by simp)
              have D11 := D10.new f11
              have F11 : Fr [d, l] s9 s11 := f10.trans (f11.mono (by simp))
              have e11 := f11.at e10 (by simp)
              simp [kd_lst e11]
              rw [oDict_dic h11, WO_some]
              simp
              refine call s11 _ (L' - 1) (W' - T) nn 4 (T * tm) _ _ hDp D11 (by simp; omega) (P10.fr0 f11) (H10.fr f11 (by simp)) h11 (f11.at lf10 (by simp)) nn11 hnn (by omega) (by omega) fun b1 L1 W1 s12 ob1 cL1 cW1 lf12 D12 f12 => ?_
              have eD : D0 + 1 - 1 = D0 := rfl
              rw [eD] at ob1 D12
              have hls : h ∉ [d, l, lf] := by
                have z1 := B.hh
                have z2 := B.hl
                simp at z1 z2 ⊢
                omega
              have F12 : Fr [d, l, h, lf] s9 s12 := (F11.mono fun i hi => by simp at hi ⊢; omega).trans (f12.mono fun i hi => by simp at hi ⊢; omega)
              have H12 : Hd s12 h (y0 :: N') := ⟨kb, f12.at h11 hls, a2, a3⟩
              obtain ⟨_, s15, e15, q15⟩ := done (.rep tm b1) L1 W1 s12 (some (.int i)) (some (.int 1)) (some (.ref ro)) x9 (some (.ref nn)) x11 (some (.int tm)) _ (by unfold Stm.ok; exact ⟨by omega, by omega, ob1⟩) (by simp [Stm.cnt]; omega) (by simp only [Stm.wgt, Nat.mul_add]; rw [← Nat.mul_assoc]; omega) lf12 H12 D12 (by omega) F12
              simp
              rw [show Vl.tup [Vl.str (Str.ofString "repeat"), Vl.int tm, Vl.tup (Stm.vls b1)] = (Stm.rep tm b1).vl from by rw [Stm.vl], e15]
              simp
              exact q15
            · have pl : ∀ (K : Vl → Sto → Prop), (∀ s'' y7, BI s d l c p n f w h lf sh (y0 :: N') F W g A Dp T L Wt (i + 1) [some (.ref d), some (.ref p), some (.ref h), some (.ref lf), some (.ref sh), some (.ref s.length), some (.int i), y7, some (.ref ro), x9, x10, x11, x12, none] s'' → True) → (∀ (x : Stm) s', (∀ y7, ∃ s'', oAppend (.ref s.length) [x.vl] s' = some (.non, s'') ∧ BI s d l c p n f w h lf sh (y0 :: N') F W g A Dp T L Wt (i + 1) [some (.ref d), some (.ref p), some (.ref h), some (.ref lf), some (.ref sh), some (.ref s.length), some (.int i), y7, some (.ref ro), x9, x10, x11, x12, none] s'') → K x.vl s') → WE (m__law_plain [.ref d, .ref p, .ref h]) s9 K E := fun K _ kK =>
                plain D9 P9 H9 hhp (by omega) fun x s10 ox cx wx D10 H10 f10 => kK x s10 fun y7 =>
                  (done x (L' - 1) (W' - T) s10 (some (.int i)) y7 (some (.ref ro)) x9 x10 x11 x12 _ (ox.mono (Nat.zero_le _)) (by omega) (by rw [wx]; omega) (f10.at lf9 (by have := B.hl; simp at this ⊢; omega)) H10 D10 (by omega) (f10.mono fun i hi => by simp at hi ⊢; omega)).2
              have hcase : (way = 0 ∧ Dp = 0) ∨ (way = 1 ∧ Dp = 0) ∨ (way ≠ 0 ∧ way ≠ 1) := by omega
              rcases hcase with ⟨rfl, rfl⟩ | ⟨rfl, rfl⟩ | ⟨w0, w1⟩
              · simp [sh9, kd_lst e9]
                refine pl _ (fun _ _ _ => trivial) fun x s10 hx => ?_
                obtain ⟨s15, e15, q15⟩ := hx (some (.int 0))
                simp [e15]
                exact q15
              · simp [sh9, kd_lst e9]
                refine pl _ (fun _ _ _ => trivial) fun x s10 hx => ?_
                obtain ⟨s15, e15, q15⟩ := hx (some (.int 1))
                simp [e15]
                exact q15
              · have w0' : ¬ (way : Int) = 0 := by omega
                have w1' : ¬ (way : Int) = 1 := by omega
                simp [w0, w1, w0', w1', kd_lst e9]
                refine pl _ (fun _ _ _ => trivial) fun x s10 hx => ?_
                obtain ⟨s15, e15, q15⟩ := hx (some (.int way))
                simp [e15]
                exact q15
        · have hWi : ¬ ((T : Nat) : Int) ≤ (W' : Nat) := by omega
          have hLi : (0 : Int) < (L' : Nat) := by omega
          simp [hL, hLi, hW, hWi, lf4, sh4]
          exact skip
      · have hLi : ¬ (0 : Int) < (L' : Nat) := by omega
        simp [hL, hLi]
        exact skip
    · rintro lo s3 ⟨b, L', W', x6, x7, x8, x9, x10, x11, x12, rfl, ob, cL, cW, bl, e3, B3, D3, F3⟩
      rw [rng_len] at D3
      have : (1 + r) * per Dp ≤ 12 * per Dp := Nat.mul_le_mul_right _ (by omega)
      simp [oTuple_lst e3]
      exact k b L' W' s3 ob cL cW B3.lfA B3.H (D3.mono (by omega)) F3
end K79

/-! S32: slices of lists -/
namespace Sm
open PySem L2
theorem cutL_from {α : Type} {xs : List α} {n : Nat} : cutL xs (some (n : Int)) none = xs.drop n := by
  unfold cutL
  rw [HT.sIx_none, HT.sIx_nat]
  by_cases h : n ≤ xs.length
  · rw [Nat.min_eq_left h, List.take_of_length_le (by simp)]
  · rw [Nat.min_eq_right (by omega), Nat.sub_self, List.take_zero, List.drop_eq_nil_of_le (by omega)]
theorem cutL_mid {α : Type} {xs : List α} {n m : Nat} (h1 : n ≤ m) (h2 : m ≤ xs.length) : cutL xs (some (n : Int)) (some (m : Int)) = (xs.drop n).take (m - n) := by
  unfold cutL
  rw [HT.sIx_nat, HT.sIx_nat, Nat.min_eq_left h2, Nat.min_eq_left (by omega)]
theorem cutL_to {α : Type} {xs : List α} {n : Nat} : cutL xs none (some (n : Int)) = xs.take n := cutL_nat
end Sm

/-! P5: programs -/
namespace K79
open PySem L2 Sm
def pairT (v : Vl) : Option Vl := some (.tup [v, .bl true])
def makeT (v : Vl) : Option Vl := some (.tup [.str "make", v])
theorem body {s : Sto} {d l c p n f w h lf sh : Nat} {N F W : List Str} {g A Dp T L Wt : Nat} {Q : Vl → Sto → Prop} {E : Ex → Sto → Prop} (hD : Dp < 12) (D : Dk s d l c) (B : Be s d l p n f w h lf sh N F W g A Dp T L Wt) (hc : c + X Dp + 1000 < CM)
    (k : ∀ (b : List Stm) (L' W' : Nat) (s' : Sto), Stm.oks g Dp b → L' + Stm.cnts b = L → W' + T * Stm.wgts b = Wt → s'[lf]? = some (.lst [.int (L' : Nat), .int (W' : Nat)]) → Hd s' h N → Dk s' d l (c + X Dp) → Fr [d, l, h, lf] s s' → Q (.tup (Stm.vls b)) s') :
    WE (m__law_body [.ref d, .ref p, .ref h, .ref lf, .ref sh]) s Q E := bodyS 12 s d l c p n f w h lf sh N F W g A Dp T L Wt Q E hD D B hc k
theorem mergeP_strs : ∀ (xs : List Str), xs.Nodup → ∀ (acc : List (Str × Bool)), (∀ x ∈ xs, x ∉ acc.map (·.1)) → mergeP (hdD acc) (xs.map fun x => (Sum.inr x, Vl.bl true)) = hdD (acc ++ xs.map fun x => (x, true)) := by
  intro xs
  induction xs with
  | nil => intro _ acc _; simp [mergeP]
  | cons x xs ih =>
    intro nd acc h
    simp only [List.nodup_cons] at nd
    have e : put (hdD acc) (.inr x) (.bl true) = hdD (acc ++ [(x, true)]) := by
      rw [put_hdD]
      congr 1
      have hx := h x (List.mem_cons_self ..)
      clear h ih nd
      induction acc with
      | nil => rfl
      | cons q r ih2 =>
        simp only [List.map_cons, List.mem_cons, not_or] at hx
        rw [putB_neg fun z => hx.1 z.symm, ih2 hx.2]
        rfl
    have ih2 := ih nd.2 (acc ++ [(x, true)]) fun y hy z => by
      rw [List.map_append, List.mem_append] at z
      rcases z with z | z
      · exact h y (List.mem_cons_of_mem _ hy) z
      · simp at z
        exact nd.1 (z ▸ hy)
    show mergeP (put (hdD acc) (.inr x) (.bl true)) _ = _
    rw [e, ih2]
    simp
theorem asPr_strs : ∀ xs : List Str, mapO asPr ((xs.map Vl.str).filterMap pairT) = some (xs.map fun x => (Sum.inr x, Vl.bl true))
  | [] => rfl
  | x :: xs => by
    have ih := asPr_strs xs
    have e : asPr (.tup [.str x, .bl true]) = some (Sum.inr x, Vl.bl true) := rfl
    simp only [List.map_cons, List.filterMap_cons, pairT] at ih ⊢
    simp only [mapO, e, ih]
/-- the names' digits tell them apart -/
theorem digits_ne : ∀ i j : Fin 10, i ≠ j → (Str.ofString (toString ((i.val : Nat) : Int))) ≠ (Str.ofString (toString ((j.val : Nat) : Int))) := by decide
theorem app_cancel {L x y R : Str} (h : L ++ x ++ R = L ++ y ++ R) : x = y := by
  have e : (L ++ x ++ R).cps.toList = (L ++ y ++ R).cps.toList := by rw [h]
  rw [str_append, str_append, str_append, str_append] at e
  have e2 := List.append_cancel_left (List.append_cancel_right e)
  exact str_ext e2
theorem names_nodup {L R : Str} {n : Nat} (hn : n ≤ 10) : ((List.range n).map fun i => L ++ Str.ofString (toString ((i : Nat) : Int)) ++ R).Nodup := by
  refine List.pairwise_map.mpr (List.Pairwise.imp_of_mem ?_ List.nodup_range)
  intro i j hi hj hij h
  simp at hi hj
  exact digits_ne ⟨i, by omega⟩ ⟨j, by omega⟩ (fun z => hij (by simpa using z)) (app_cancel h)
theorem cnt_pos : ∀ x : Stm, 1 ≤ x.cnt := by
  intro x
  cases x <;> simp [Stm.cnt] <;> omega
theorem len_cnts : ∀ b : List Stm, b.length ≤ Stm.cnts b
  | [] => Nat.le_refl _
  | x :: b => by
    have := len_cnts b
    have := cnt_pos x
    simp only [List.length_cons, Stm.cnts]
    omega
/-- drawing g numbers below 2 -/
theorem inputs {s : Sto} {d l c : Nat} {n : Nat} {lo : Lo} {QS : Sto → Prop} (D : Dk s d l c) (hn : n < 10) (hc : c + 100 < CM) (l0 : lo[0]? = some (some (.ref d)))
    (k : ∀ (ins : List Nat) (s' : Sto), s'[s.length]? = some (.lst ((ins.map fun n : Nat => (n : Int)).map Vl.int)) → ins.length = n → (∀ i ∈ ins, i < 2) → Dk s' d l (c + n) → Fr [d, l] s s' → QS s') :
    WL (lcX (glN 4) tTrue (eCall (arg 2 m__law_draw) (aCons (eVar 0) (aCons (eC (.int 2)) aNil))) s.length lo (rng 0 n) (s ++ [.lst []])) QS := by
  have hlt := D.lt
  refine lcX_inv (fun i s' => ∃ ins : List Nat, s'[s.length]? = some (.lst ((ins.map fun n : Nat => (n : Int)).map Vl.int)) ∧ ins.length = i ∧ (∀ i ∈ ins, i < 2) ∧ Dk s' d l (c + i) ∧ Fr [d, l] s s') ?_ ?_ ?_
  · exact ⟨[], get_last, rfl, by simp, D.new (Fr.refl.push _), Fr.refl.push _⟩
  · rintro i v s1 hv ⟨ys, g1, g2, g3, D1, f1⟩
    obtain ⟨hi, rfl⟩ := rng_get hv
    refine ⟨_, rfl, ?_⟩
    unfold LcT tTrue
    have e0 : (lo.set 4 (some (Vl.int (i : Nat))))[0]? = some (some (.ref d)) := by rw [List.getElem?_set_ne (by omega)]; exact l0
    simp [e0, l0]
    refine draw D1 (by omega) (by omega) (by omega) fun q s2 hq D2 f2 => ?_
    have g4 := f2.at g1 (by simp; omega)
    simp only [g4]
    refine ⟨limC (by simp; omega), ys ++ [q], ?_, by simp [g2], ?_, ?_, ?_⟩
    · rw [get_set_self g4]; simp
    · intro y hy
      rcases List.mem_append.mp hy with z | z
      · exact g3 y z
      · simp at z
        omega
    · exact D2.fr (Fr.refl.set (X := [s.length]) (by simp)) (by simp; omega) (by simp; omega)
    · exact (f1.trans f2).set (Or.inr (Nat.le_refl _))
  · rintro s1 ⟨ys, g1, g2, g3, D1, f1⟩
    rw [rng_len] at g2 D1
    exact k ys s1 g1 g2 g3 D1 f1
/-- behind i turns of the first rows' loop -/
def PI (d l c rn rw p h sh rl g : Nat) (s0 : Sto) (i : Nat) (lo : Lo) (s' : Sto) : Prop := ∃ (b : List Stm) (x4 x11 x12 : Option Vl), lo = [some (.ref d), some (.ref sh), some (.ref rn), some (.ref rl), x4, none, none, some (.ref rw), some (.int (g : Nat)), some (.ref p), some (.ref h), x11, x12, none] ∧
  Stm.oks g 0 b ∧ Stm.cnts b = 3 + i ∧ Stm.wgts b = 3 + i ∧ b.length = 3 + i ∧ s'[rl]? = some (.lst (Stm.vls b)) ∧ Dk s' d l (c + 4 * i) ∧ Fr [d, l, rl] s0 s'
theorem makes {g : Nat} : ∀ {M : List Str}, (∀ x ∈ M, Nice x) → Stm.oks g 0 (M.map Stm.make) ∧ Stm.cnts (M.map Stm.make) = M.length ∧ Stm.wgts (M.map Stm.make) = M.length
  | [], _ => ⟨trivial, rfl, rfl⟩
  | x :: M, h => by
    obtain ⟨a, b, c⟩ := makes (g := g) (M := M) fun y hy => h y (List.mem_cons_of_mem _ hy)
    have hx := h x (List.mem_cons_self ..)
    refine ⟨⟨by unfold Stm.ok; exact hx, a⟩, ?_, ?_⟩
    · simp [Stm.cnts, Stm.cnt, b]; omega
    · simp [Stm.wgts, Stm.wgt, c]; omega
theorem progS {s : Sto} {d l c sh A Dp : Nat} {Q : Vl → Sto → Prop} {E : Ex → Sto → Prop} (D : Dk s d l c) (hsh : s[sh]? = some (.lst [.int (A : Nat), .int (Dp : Nat), .int 1])) (hsd : sh ∉ [d, l]) (a0 : 0 < A) (a1 : A ≤ 12) (hD : Dp ≤ 4) (hc : c + 3 * X 4 < CM)
    (k : ∀ (g : Nat) (b : List Stm) (ins : List Nat) (s' : Sto), g < 4 → Stm.oks g 4 b → Stm.cnts b ≤ 29 → Stm.wgts b ≤ 190 → ins.length = g → (∀ i ∈ ins, i < 2) → Dk s' d l (c + 2 * X 4 + 1000) → Fr [d, l] s s' → Q (.tup [.tup [.int (g : Nat), .tup (Stm.vls b)], .tup ((ins.map fun n : Nat => (n : Int)).map Vl.int)]) s') :
    WE (m__law_program [.ref d, .ref sh]) s Q E := by
  have X4 : X 4 = 1000000000000 := by decide
  unfold m__law_program b__law_program
  simp
  refine words (n := 3) D (by omega) (by omega) fun WL WR rw s1 SW hrw D1 f1 => ?_
  have hWl : ((List.range 3).map fun i => WL ++ (⟨#[(("qvxz" : Str).cps.toList[i]?).getD 0]⟩ : Str) ++ WR).length = 3 := by simp
  generalize ((List.range 3).map fun i => WL ++ (⟨#[(("qvxz" : Str).cps.toList[i]?).getD 0]⟩ : Str) ++ WR) = W at SW hWl
  simp
  refine draw D1 (by omega) (by omega) (by omega) fun g s2 hg D2 f2 => ?_
  simp
  refine draw D2 (by omega) (by omega) (by omega) fun q s3 hq D3 f3 => ?_
  simp
  have e6 : (6 : Int) + q = ((6 + q : Nat) : Int) := by omega
  rw [e6]
  refine names (n := 6 + q) D3 (by omega) (by omega) fun NL NR rn s4 SN hrn D4 f4 => ?_
  have ndN := names_nodup (L := NL) (R := NR) (n := 6 + q) (by omega)
  have hNl : ((List.range (6 + q)).map fun i => NL ++ Str.ofString (toString ((i : Nat) : Int)) ++ NR).length = 6 + q := by simp
  generalize ((List.range (6 + q)).map fun i => NL ++ Str.ofString (toString ((i : Nat) : Int)) ++ NR) = NS at SN ndN hNl
  have lt0 := D.lt
  have le1 := f1.le
  have le2 := f2.le
  have le3 := f3.le
  have le4 := f4.le
  have SW4 : Strs s4 rw W := ((SW.fr f2 (by simp; omega)).fr f3 (by simp; omega)).fr f4 (by simp; omega)
  have F4 : Fr [d, l] s s4 := ((f1.trans f2).trans f3).trans f4
  have sh4 := F4.at hsh hsd
  have c1 : cutL (NS.map Vl.str) (some 3) none = (NS.drop 3).map Vl.str := by rw [show (3 : Int) = ((3 : Nat) : Int) from rfl, cutL_from, List.map_drop]
  have c2 : cutL (NS.map Vl.str) (some 3) (some 6) = ((NS.drop 3).take 3).map Vl.str := by
    rw [show (3 : Int) = ((3 : Nat) : Int) from rfl, show (6 : Int) = ((6 : Nat) : Int) from rfl, cutL_mid (by omega) (by simp; omega), ← List.map_drop, ← List.map_take]
  simp [opSl_lst SN.at_]
  rw [c1]
  have S5 : Strs (s4 ++ [Ob.lst ((NS.drop 3).map Vl.str)]) s4.length (NS.drop 3) := ⟨get_last, fun x hx => SN.nice x (List.mem_of_mem_drop hx), by simp; omega⟩
  have f5 : Fr [] s4 (s4 ++ [Ob.lst ((NS.drop 3).map Vl.str)]) := Fr.refl.push _
  generalize hn5 : s4.length = n5 at S5
  generalize s4 ++ [Ob.lst ((NS.drop 3).map Vl.str)] = s5 at S5 f5
  refine draw (D4.new f5) (by omega) (by omega) (by omega) fun q2 s6 hq2 D6 f6 => ?_
  have le5 := f5.le
  have le6 := f6.le
  have n5lt := lt_of_get S5.at_
  have SN6 : Strs s6 rn NS := (SN.fr f5 (by simp)).fr f6 (by simp; omega)
  have S6 : Strs s6 n5 (NS.drop 3) := S5.fr f6 (by simp; omega)
  have SW6 : Strs s6 rw W := (SW4.fr f5 (by simp)).fr f6 (by simp; omega)
  have F6 : Fr [d, l] s s6 := (F4.trans (f5.mono (by simp))).trans f6
  obtain ⟨F, hF⟩ : ∃ F, F = NS.take (1 + q2) := ⟨_, rfl⟩
  have hFn : ∀ x ∈ F, Nice x := fun x hx => SN.nice x (List.mem_of_mem_take (hF ▸ hx))
  have hFl : F.length = 1 + q2 := by rw [hF]; simp; omega
  have c3 : cutL (NS.map Vl.str) none (some (1 + (q2 : Int))) = F.map Vl.str := by rw [show (1 : Int) + q2 = ((1 + q2 : Nat) : Int) by omega, cutL_to, hF, List.map_take]
  simp [opSl_lst SN6.at_]
  rw [c3]
  have f8 : Fr [] s6 (s6 ++ [Ob.lst (F.map Vl.str), Ob.lst [Vl.ref n5, Vl.ref s6.length, Vl.ref rw, Vl.int (g : Nat)]]) := Fr.refl.app _
  have S8f : Strs (s6 ++ [Ob.lst (F.map Vl.str), Ob.lst [Vl.ref n5, Vl.ref s6.length, Vl.ref rw, Vl.int (g : Nat)]]) s6.length F := ⟨by simp, hFn, by omega⟩
  have top8 : (s6 ++ [Ob.lst (F.map Vl.str), Ob.lst [Vl.ref n5, Vl.ref s6.length, Vl.ref rw, Vl.int (g : Nat)]])[s6.length + 1]? = some (.lst [.ref n5, .ref s6.length, .ref rw, .int (g : Nat)]) := by rw [List.getElem?_append_right (by omega)]; simp
  have len8 : (s6 ++ [Ob.lst (F.map Vl.str), Ob.lst [Vl.ref n5, Vl.ref s6.length, Vl.ref rw, Vl.int (g : Nat)]]).length = s6.length + 2 := by simp
  generalize hfr : s6.length = fr at f8 S8f top8 len8
  generalize s6 ++ [Ob.lst (F.map Vl.str), Ob.lst [Vl.ref n5, Vl.ref fr, Vl.ref rw, Vl.int (g : Nat)]] = s8 at f8 S8f top8 len8
  have SN8 := SN6.fr f8 (by simp)
  have D8 := D6.new f8
  have lt8 := D8.lt
  have M3l : ((NS.drop 3).take 3).length = 3 := by simp; omega
  have M3n : ∀ x ∈ (NS.drop 3).take 3, Nice x := fun x hx => SN.nice x (List.mem_of_mem_drop (List.mem_of_mem_take hx))
  have M3s : ∀ x ∈ (NS.drop 3).take 3, x ∈ NS.drop 3 := fun x hx => List.mem_of_mem_take hx
  have M3d : ((NS.drop 3).take 3).Nodup := (ndN.sublist (List.drop_sublist ..)).sublist (List.take_sublist ..)
  generalize hM : (NS.drop 3).take 3 = M3 at c2 M3l M3n M3s M3d
  rw [opSl_lst SN8.at_, WO_some, lstW_ref, get_last, c2]
  refine lcL_p (xs := M3.map Vl.str) (s8 ++ [Ob.lst (M3.map Vl.str)]) pairT rfl rfl get_last (by simp; omega) ?_ ?_
  · intro v hv acc
    refine ⟨_, rfl, ?_⟩
    simp [tTrue, wipeL, pairT]
  have f9 : Fr [] s8 (s8 ++ [Ob.lst (M3.map Vl.str)] ++ [Ob.lst ((M3.map Vl.str).filterMap pairT)]) := (Fr.refl.push _).push _
  have hmg := mergeP_strs M3 M3d [] (by simp)
  rw [WE_aNil, oDictP_lst get_last (asPr_strs M3), WO_some, show mergeP [] (M3.map fun x => (Sum.inr x, Vl.bl true)) = hdD (M3.map fun x => (x, true)) from hmg]
  have f10 : Fr [] s8 (s8 ++ [Ob.lst (M3.map Vl.str)] ++ [Ob.lst ((M3.map Vl.str).filterMap pairT)] ++ [Ob.dic (hdD (M3.map fun x => (x, true)))]) := f9.push _
  have hlt : s8.length ≤ (s8 ++ [Ob.lst (M3.map Vl.str)] ++ [Ob.lst ((M3.map Vl.str).filterMap pairT)]).length := f9.le
  generalize (s8 ++ [Ob.lst (M3.map Vl.str)] ++ [Ob.lst ((M3.map Vl.str).filterMap pairT)]) = s9 at f9 f10 hlt
  have H10 : Hd (s9 ++ [Ob.dic (hdD (M3.map fun x => (x, true)))]) s9.length (NS.drop 3) := by
    refine ⟨M3.map fun x => (x, true), get_last, ?_, fun q hq => ?_⟩
    · rw [List.map_map]
      have e : ((fun x : Str × Bool => x.1) ∘ fun x : Str => (x, true)) = id := rfl
      rw [e, List.map_id]
      exact M3d
    · obtain ⟨x, hx, rfl⟩ := List.mem_map.mp hq
      exact M3s x hx
  generalize s9.length = h at H10 hlt
  generalize s9 ++ [Ob.dic (hdD (M3.map fun x => (x, true)))] = s10 at H10 f10
  have hhlt : h < s10.length := by
    obtain ⟨kb, z, _, _⟩ := H10.ex
    exact lt_of_get z
  have SN10 := SN8.fr f10 (by simp)
  have D10 := D8.new f10
  have s3 : (M3.map Vl.str).filterMap makeT = Stm.vls (M3.map Stm.make) := by
    rw [Stm.vls_map, List.filterMap_map, List.map_map, ← List.filterMap_eq_map]
    rfl
  simp [opSl_lst SN10.at_, c2]
  refine lcL_p (xs := M3.map Vl.str) (s10 ++ [Ob.lst (M3.map Vl.str)]) makeT (by simp) (by simp) get_last (by simp; omega) ?_ ?_
  · intro v hv acc
    refine ⟨_, rfl, ?_⟩
    simp [tTrue, wipeL, makeT]
  rw [s3]
  have f11 : Fr [] s10 (s10 ++ [Ob.lst (M3.map Vl.str)] ++ [Ob.lst (Stm.vls (M3.map Stm.make))]) := (Fr.refl.push _).push _
  have e11 : (s10 ++ [Ob.lst (M3.map Vl.str)] ++ [Ob.lst (Stm.vls (M3.map Stm.make))])[(s10 ++ [Ob.lst (M3.map Vl.str)]).length]? = some (.lst (Stm.vls (M3.map Stm.make))) := get_last
  have hrl : s10.length ≤ (s10 ++ [Ob.lst (M3.map Vl.str)]).length := by simp
  generalize (s10 ++ [Ob.lst (M3.map Vl.str)]).length = rl at e11 hrl
  generalize (s10 ++ [Ob.lst (M3.map Vl.str)] ++ [Ob.lst (Stm.vls (M3.map Stm.make))]) = s11 at f11 e11
  simp
  refine draw (D10.new f11) (by omega) (by omega) (by omega) fun q3 s12 hq3 D12 f12 => ?_
  have er : (3 : Int) + q3 = ((3 + q3 : Nat) : Int) := by omega
  simp
  rw [er, rngW_nat (by omega)]
  obtain ⟨mk1, mk2, mk3⟩ := makes (g := g) M3n
  have le8 := f8.le
  have le10 := f10.le
  have le11 := f11.le
  have ltrl := lt_of_get e11
  have ltrw := lt_of_get SW.at_
  have ltrn := lt_of_get SN.at_
  have ltsh := lt_of_get hsh
  have F12 : Fr [d, l] s8 s12 := ((f10.trans f11).mono (by simp)).trans f12
  have hdl : ∀ i, s.length ≤ i → i ∉ [d, l] := fun i hi => by simp; omega
  have SN12 := SN8.fr F12 (hdl _ (by omega))
  have top12 := F12.at top8 (hdl _ (by omega))
  have P12 : Pool s12 d l (fr + 1) n5 fr rw (NS.drop 3) F W g := by
    refine ⟨top12, (S6.fr f8 (by simp)).fr F12 (hdl _ (by omega)), S8f.fr F12 (hdl _ (by omega)), (SW6.fr f8 (by simp)).fr F12 (hdl _ (by omega)), by simp; omega, by omega, by omega, by omega, by simp; omega, ?_⟩
    intro i hi
    simp at hi ⊢
    omega
  have H12 : Hd s12 h (NS.drop 3) := (H10.fr f11 (by simp)).fr f12 (hdl _ (by omega))
  have sh12 := ((F6.trans (f8.mono (by simp))).trans F12).at hsh hsd
  have F012 : Fr [d, l] s s12 := (F6.trans (f8.mono (by simp))).trans F12
  have D12' : Dk s12 d l (c + 200) := D12.mono (by omega)
  refine loopX_inv (PI d l (c + 200) rn rw (fr + 1) h sh rl g s12) ?_ ?_ ?_
  · exact ⟨M3.map Stm.make, none, none, none, rfl, mk1, by omega, by omega, by simp; omega, f12.at e11 (hdl _ (by omega)), D12', Fr.refl⟩
  · rintro i v lo s13 hv ⟨b, x4, x11, x12, rfl, ob, cb, wb, lb, e13, D13, f13⟩
    obtain ⟨hi, rfl⟩ := rng_get hv
    have nin : ∀ i, s.length ≤ i → i < rl → i ∉ [d, l, rl] := fun i h1 h2 => by simp; omega
    have SN13 := SN12.fr f13 (nin _ (by omega) (by omega))
    have top13 := f13.at top12 (nin _ (by omega) (by omega))
    have sf13 := P12.sf.fr f13 (nin _ (by omega) (by omega))
    have M3x : ∀ v ∈ M3.map Vl.str, ∃ x, v = .str x ∧ Nice x := fun v hv => by
      obtain ⟨x, hx, rfl⟩ := List.mem_map.mp hv
      exact ⟨x, rfl, M3n x hx⟩
    simp [opSl_lst SN13.at_, c2]
    refine oneNew D13 (by simp; omega) (by simp; omega) (by omega) fun v1 s14 hv1 D14 f14 => ?_
    obtain ⟨x, rfl, nx⟩ := M3x v1 hv1
    have SN14 := SN13.fr f14 (hdl _ (by omega))
    simp [opSl_lst SN14.at_, c2]
    refine oneNew D14 (by simp; omega) (by simp; omega) (by omega) fun v2 s15 hv2 D15 f15 => ?_
    obtain ⟨y, rfl, ny⟩ := M3x v2 hv2
    have e15 := f15.at (f14.at e13 (hdl _ (by omega))) (hdl _ (by omega))
    simp [kd_lst e15]
    refine oneNew D15 (by simp) (by simp) (by omega) fun v3 s16 hv3 D16 f16 => ?_
    have f36 := (f14.trans f15).trans f16
    have top16 := f36.at top13 (hdl _ (by omega))
    have sf16 := sf13.fr f36 (hdl _ (by omega))
    simp [top16]
    refine oneT D16 sf16 (hdl _ (by omega)) (by omega) (by omega) fun fl s17 hf nf D17 f17 => ?_
    have e17 := f17.at (f16.at e15 (hdl _ (by omega))) (hdl _ (by omega))
    have bl : (Stm.vls b).length < LIM := limC (by rw [Stm.vls_map, List.length_map]; omega)
    obtain ⟨st, est, ok1, ok2, ok3⟩ : ∃ st : Stm, Vl.tup [v3, .str x, .str fl, .str y] = st.vl ∧ st.ok g 0 ∧ st.cnt = 1 ∧ st.wgt = 1 := by
      simp at hv3
      rcases hv3 with rfl | rfl
      · exact ⟨.weak x fl y, rfl, by unfold Stm.ok; exact ⟨nx, nf, ny⟩, rfl, rfl⟩
      · exact ⟨.hold x fl y, rfl, by unfold Stm.ok; exact ⟨nx, nf, ny⟩, rfl, rfl⟩
    simp only [WE_aNil, WE_aCons, WE_eVar]
    simp [est, oAppend_lst e17 bl]
    have fs : Fr [rl] s17 (s17.set rl (.lst (Stm.vls b ++ [st.vl]))) := Fr.refl.set (by simp)
    refine ⟨b ++ [st], _, _, _, rfl, Stm.oks_app.mpr ⟨ob, ok1, trivial⟩, ?_, ?_, by simp; omega, ?_, ?_, ?_⟩
    · rw [Stm.cnts_app]; simp [Stm.cnts]; omega
    · rw [Stm.wgts_app]; simp [Stm.wgts]; omega
    · rw [get_set_self e17, Stm.snoc_vls]
    · exact (D17.mono (by omega)).fr fs (by simp; omega) (by simp; omega)
    · exact (f13.trans ((f36.trans f17).mono fun i hi => by simp at hi ⊢; omega)).trans (fs.mono (by simp))
  · rintro lo s13 ⟨b, x4, x11, x12, rfl, ob, cb, wb, lb, e13, D13, f13⟩
    rw [rng_len] at cb wb lb D13
    have nin : ∀ i, s.length ≤ i → i < rl → i ∉ [d, l, rl] := fun i h1 h2 => by simp; omega
    have bl : (Stm.vls b).length = 6 + q3 := by rw [Stm.vls_map, List.length_map]; omega
    have eL : (29 : Int) - ((Stm.vls b).length : Nat) = ((29 - (6 + q3) : Nat) : Int) := by rw [bl]; omega
    have eW : (190 : Int) - ((Stm.vls b).length : Nat) = ((190 - (6 + q3) : Nat) : Int) := by rw [bl]; omega
    simp [oLen_lst e13, eL, eW]
    have f14 : Fr [] s13 (s13 ++ [Ob.lst [Vl.int ((29 - (6 + q3) : Nat) : Int), Vl.int ((190 - (6 + q3) : Nat) : Int)]]) := Fr.refl.push _
    have lf14 : (s13 ++ [Ob.lst [Vl.int ((29 - (6 + q3) : Nat) : Int), Vl.int ((190 - (6 + q3) : Nat) : Int)]])[s13.length]? = some (.lst [Vl.int ((29 - (6 + q3) : Nat) : Int), Vl.int ((190 - (6 + q3) : Nat) : Int)]) := get_last
    have ltr := lt_of_get e13
    generalize hlf : s13.length = lf at lf14
    generalize s13 ++ [Ob.lst [Vl.int ((29 - (6 + q3) : Nat) : Int), Vl.int ((190 - (6 + q3) : Nat) : Int)]] = s14 at f14 lf14
    have P14 := (P12.fr f13 fun i hi => by simp at hi ⊢; omega).fr0 f14
    have H14 := (H12.fr f13 (by simp; omega)).fr f14 (by simp)
    have shn : sh ∉ [d, l, rl] := by simp at hsd ⊢; omega
    have sh14 := f14.at (f13.at sh12 shn) (by simp)
    have D14 := D13.new f14
    have e14 := f14.at e13 (by simp)
    have hx : ∀ i ∈ [fr + 1, n5, fr, rw, sh], i ∉ [d, l, h, lf] := fun i hi => by simp at hi hsd ⊢; omega
    have hl : lf ∉ [d, l, h] := by simp; omega
    have hh : h ∉ [d, l] := by simp; omega
    have X2 : X 2 = 100000000 := by decide
    have XD : X Dp ≤ X 4 := by unfold X; exact Nat.pow_le_pow_right (by omega) (by omega)
    refine body (by omega) D14 ⟨P14, H14, lf14, sh14, a0, a1, hx, hl, hh⟩ (by omega) fun b1 L1 W1 s15 ob1 cL1 cW1 lf15 H15 D15 f15 => ?_
    have sh15 := f15.at sh14 (hx sh (by simp))
    have P15 := P14.fr f15 fun i hi => hx i (by simp at hi ⊢; omega)
    have e15 := f15.at e14 (by simp; omega)
    simp [sh15]
    have le14 := f14.le
    have le15 := f15.le
    have le13 := f13.le
    have ltlf := lt_of_get lf14
    have f16 : Fr [] s15 (s15 ++ [Ob.lst [Vl.int (A : Nat), Vl.int 2, Vl.int 1]]) := Fr.refl.push _
    have sh16 : (s15 ++ [Ob.lst [Vl.int (A : Nat), Vl.int 2, Vl.int 1]])[s15.length]? = some (.lst [Vl.int (A : Nat), Vl.int ((2 : Nat) : Int), Vl.int ((1 : Nat) : Int)]) := get_last
    have hx2 : ∀ i ∈ [fr + 1, n5, fr, rw, s15.length], i ∉ [d, l, h, lf] := fun i hi => by simp at hi ⊢; omega
    generalize s15.length = sh2 at sh16 hx2
    generalize s15 ++ [Ob.lst [Vl.int (A : Nat), Vl.int 2, Vl.int 1]] = s16 at f16 sh16
    refine body (by omega) (D15.new f16) ⟨P15.fr0 f16, H15.fr f16 (by simp), f16.at lf15 (by simp), sh16, a0, a1, hx2, hl, hh⟩ (by omega) fun b2 L2 W2 s17 ob2 cL2 cW2 lf17 H17 D17 f17 => ?_
    have e17 := f17.at (f16.at e15 (by simp)) (by simp; omega)
    have hb1 : (Stm.vls b1).length ≤ 30 := by rw [Stm.vls_map, List.length_map]; have := len_cnts b1; omega
    have hb2 : (Stm.vls b2).length ≤ 30 := by rw [Stm.vls_map, List.length_map]; have := len_cnts b2; omega
    simp [opAdd_tup (xs := Stm.vls b1) (ys := Stm.vls b2) (limB (by omega)), oTuple_lst e17]
    rw [opAdd_tup (limB (by simp; omega)), WO_some]
    simp
    rw [rngW_nat (by omega)]
    refine inputs D17 (by omega) (by omega) (by simp [wipeL]) fun ins s18 i1 i2 i3 D18 f18 => ?_
    simp [oTuple_lst i1]
    have ev : Stm.vls b ++ (Stm.vls b1 ++ Stm.vls b2) = Stm.vls (b ++ (b1 ++ b2)) := by simp [Stm.vls_map]
    rw [ev]
    have FF : Fr [d, l] s s18 := by
      have g13 : Fr [d, l] s s13 := F012.trans' f13 fun i hi => by simp at hi ⊢; omega
      have g14 : Fr [d, l] s s14 := g13.trans (f14.mono (by simp))
      have g15 : Fr [d, l] s s15 := g14.trans' f15 fun i hi => by simp at hi ⊢; omega
      have g16 : Fr [d, l] s s16 := g15.trans (f16.mono (by simp))
      have g17 : Fr [d, l] s s17 := g16.trans' f17 fun i hi => by simp at hi ⊢; omega
      exact g17.trans f18
    have cW1' : W1 + 1 * Stm.wgts b1 = 190 - (6 + q3) := cW1
    have cW2' : W2 + 1 * Stm.wgts b2 = W1 := cW2
    have := k g (b ++ (b1 ++ b2)) ins s18 (by omega) (Stm.oks_app.mpr ⟨Stm.oks.mono ob (by omega), Stm.oks_app.mpr ⟨Stm.oks.mono ob1 hD, Stm.oks.mono ob2 (by omega)⟩⟩) (by rw [Stm.cnts_app, Stm.cnts_app]; omega) (by rw [Stm.wgts_app, Stm.wgts_app]; omega) i2 i3 (D18.mono (by omega)) FF
    simpa using this
end K79

/-! S33: programs of cells: words, inner blocks, rows -/
namespace Sm
open PySem L2
def Stm.word : Stm → Str
  | .make _ => "make"
  | .wish _ _ => "wish"
  | .keep _ => "keep"
  | .name _ _ => "name"
  | .drop _ => "drop"
  | .hold _ _ _ => "hold"
  | .weak _ _ _ => "weak"
  | .cut _ _ => "cut"
  | .take _ _ _ => "take"
  | .say _ => "say"
  | .ask _ => "ask"
  | .ife _ _ _ => "if"
  | .rep _ _ => "repeat"
def blk (b : List Stm) : Vl := .tup (Stm.vls b)
def Stm.args : Stm → List Vl
  | .make x => [.str x]
  | .wish x w => [.str x, .str w]
  | .keep x => [.str x]
  | .name x y => [.str x, .str y]
  | .drop x => [.str x]
  | .hold x f y => [.str x, .str f, .str y]
  | .weak x f y => [.str x, .str f, .str y]
  | .cut x f => [.str x, .str f]
  | .take z x f => [.str z, .str x, .str f]
  | .say w => [.str w]
  | .ask t => [t.vl]
  | .ife t a b => [t.vl, blk a, blk b]
  | .rep k b => [.int (k : Nat), blk b]
/-- the blocks within a statement -/
def Stm.ins : Stm → List (List Stm)
  | .ife _ a b => [a, b]
  | .rep _ b => [b]
  | _ => []
theorem Stm.vl_eq (x : Stm) : x.vl = .tup (.str x.word :: x.args) := by
  cases x <;> simp [Stm.vl, Stm.word, Stm.args, blk]
theorem Stm.flat_eq (d : Nat) (x : Stm) : x.flat d = (d, x) :: x.ins.flatMap (Stm.flats (d + 1)) := by
  cases x <;> simp [Stm.flat, Stm.ins]
theorem Stm.ins_len (x : Stm) : x.ins.length ≤ 2 := by
  cases x <;> simp [Stm.ins]
theorem Stm.ok_ins {g n : Nat} {x : Stm} (h : x.ok g n) : ∀ b ∈ x.ins, 0 < n ∧ Stm.oks g (n - 1) b := by
  intro b hb
  cases x <;> simp [Stm.ins] at hb
  · unfold Stm.ok at h
    rcases hb with rfl | rfl
    · exact ⟨h.1, h.2.2.1⟩
    · exact ⟨h.1, h.2.2.2⟩
  · unfold Stm.ok at h
    subst hb
    exact ⟨h.1, h.2.2⟩
theorem Stm.cnt_ins (x : Stm) : x.cnt = 1 + (x.ins.map Stm.cnts).sum := by
  cases x <;> simp [Stm.ins, Stm.cnt] <;> omega
theorem Stm.cnt_in {x : Stm} : ∀ b ∈ x.ins, Stm.cnts b < x.cnt := by
  intro b hb
  cases x <;> simp [Stm.ins] at hb
  · rcases hb with rfl | rfl <;> simp [Stm.cnt] <;> omega
  · subst hb
    simp [Stm.cnt]
theorem Stm.cnts_mem {b : List Stm} : ∀ x ∈ b, x.cnt ≤ Stm.cnts b := by
  induction b with
  | nil => intro x hx; simp at hx
  | cons y b ih =>
    intro x hx
    simp only [Stm.cnts]
    rcases List.mem_cons.mp hx with rfl | hx
    · omega
    · have := ih x hx; omega
theorem Stm.cnts_take {b : List Stm} {i : Nat} : Stm.cnts (b.take i) ≤ Stm.cnts b := by
  have := Stm.cnts_app (b.take i) (b.drop i)
  rw [List.take_append_drop] at this
  omega
mutual
theorem Stm.flat_len : ∀ (d : Nat) (x : Stm), (x.flat d).length = x.cnt
  | d, .make x => rfl
  | d, .wish x w => rfl
  | d, .keep x => rfl
  | d, .name x y => rfl
  | d, .drop x => rfl
  | d, .hold x f y => rfl
  | d, .weak x f y => rfl
  | d, .cut x f => rfl
  | d, .take z x f => rfl
  | d, .say w => rfl
  | d, .ask t => rfl
  | d, .ife t a b => by
    have h1 := Stm.flats_len (d + 1) a
    have h2 := Stm.flats_len (d + 1) b
    simp only [Stm.flat, Stm.cnt, List.length_cons, List.length_append, h1, h2]
    omega
  | d, .rep k b => by
    have h1 := Stm.flats_len (d + 1) b
    simp only [Stm.flat, Stm.cnt, List.length_cons, h1]
    omega
theorem Stm.flats_len : ∀ (d : Nat) (b : List Stm), (Stm.flats d b).length = Stm.cnts b
  | d, [] => rfl
  | d, x :: b => by
    have h1 := Stm.flat_len d x
    have h2 := Stm.flats_len d b
    simp only [Stm.flats, Stm.cnts, List.length_append, h1, h2]
end
mutual
theorem Stm.flat_ok {g : Nat} : ∀ {n : Nat} (d : Nat) {x : Stm}, x.ok g n → ∀ q ∈ x.flat d, q.2.ok g n ∧ q.2.cnt ≤ x.cnt
  | n, d, .make x, h, q, hq => by simp only [Stm.flat, List.mem_singleton] at hq; subst hq; exact ⟨h, Nat.le_refl _⟩
  | n, d, .wish x w, h, q, hq => by simp only [Stm.flat, List.mem_singleton] at hq; subst hq; exact ⟨h, Nat.le_refl _⟩
  | n, d, .keep x, h, q, hq => by simp only [Stm.flat, List.mem_singleton] at hq; subst hq; exact ⟨h, Nat.le_refl _⟩
  | n, d, .name x w, h, q, hq => by simp only [Stm.flat, List.mem_singleton] at hq; subst hq; exact ⟨h, Nat.le_refl _⟩
  | n, d, .drop x, h, q, hq => by simp only [Stm.flat, List.mem_singleton] at hq; subst hq; exact ⟨h, Nat.le_refl _⟩
  | n, d, .hold x f y, h, q, hq => by simp only [Stm.flat, List.mem_singleton] at hq; subst hq; exact ⟨h, Nat.le_refl _⟩
  | n, d, .weak x f y, h, q, hq => by simp only [Stm.flat, List.mem_singleton] at hq; subst hq; exact ⟨h, Nat.le_refl _⟩
  | n, d, .cut x f, h, q, hq => by simp only [Stm.flat, List.mem_singleton] at hq; subst hq; exact ⟨h, Nat.le_refl _⟩
  | n, d, .take z x f, h, q, hq => by simp only [Stm.flat, List.mem_singleton] at hq; subst hq; exact ⟨h, Nat.le_refl _⟩
  | n, d, .say w, h, q, hq => by simp only [Stm.flat, List.mem_singleton] at hq; subst hq; exact ⟨h, Nat.le_refl _⟩
  | n, d, .ask t, h, q, hq => by simp only [Stm.flat, List.mem_singleton] at hq; subst hq; exact ⟨h, Nat.le_refl _⟩
  | n, d, .ife t a b, h, q, hq => by
    have h0 := h
    unfold Stm.ok at h0
    simp only [Stm.flat, List.mem_cons, List.mem_append] at hq
    simp only [Stm.cnt]
    rcases hq with rfl | hq | hq
    · exact ⟨h, by simp [Stm.cnt]⟩
    · have := Stm.flats_ok (d + 1) h0.2.2.1 q hq
      exact ⟨this.1.mono (by omega), by omega⟩
    · have := Stm.flats_ok (d + 1) h0.2.2.2 q hq
      exact ⟨this.1.mono (by omega), by omega⟩
  | n, d, .rep k b, h, q, hq => by
    have h0 := h
    unfold Stm.ok at h0
    simp only [Stm.flat, List.mem_cons] at hq
    simp only [Stm.cnt]
    rcases hq with rfl | hq
    · exact ⟨h, by simp [Stm.cnt]⟩
    · have := Stm.flats_ok (d + 1) h0.2.2 q hq
      exact ⟨this.1.mono (by omega), by omega⟩
theorem Stm.flats_ok {g : Nat} : ∀ {n : Nat} (d : Nat) {b : List Stm}, Stm.oks g n b → ∀ q ∈ Stm.flats d b, q.2.ok g n ∧ q.2.cnt ≤ Stm.cnts b
  | n, d, [], h, q, hq => by simp [Stm.flats] at hq
  | n, d, x :: b, h, q, hq => by
    simp only [Stm.flats, List.mem_append] at hq
    simp only [Stm.cnts]
    rcases hq with hq | hq
    · have := Stm.flat_ok d h.1 q hq
      exact ⟨this.1, by omega⟩
    · have := Stm.flats_ok d h.2 q hq
      exact ⟨this.1, by omega⟩
end
def rowD (q : Nat × Stm) : Vl := .tup [.int (q.1 : Nat), q.2.vl]
def rowS (q : Nat × Stm) : Vl := q.2.vl
theorem vls_get {b : List Stm} {i : Nat} {v : Vl} (h : (Stm.vls b)[i]? = some v) : ∃ x, b[i]? = some x ∧ v = x.vl := by
  rw [Stm.vls_map] at h
  exact get_map h
theorem vls_len {b : List Stm} : (Stm.vls b).length = b.length := by rw [Stm.vls_map, List.length_map]
end Sm

/-! P6: a program's statements in their order -/
namespace K79
open PySem L2 Sm
section
variable {s : Sto} {Q : Vl → Sto → Prop} {E : Ex → Sto → Prop}
theorem inner (x : Stm) (k : Q (.tup (x.ins.map blk)) s) : WE (m_inner_blocks [x.vl]) s Q E := by
  unfold m_inner_blocks b_inner_blocks
  have c4 : ∀ a b c e : Vl, cutL [a, b, c, e] (some 2) none = [c, e] := fun a b c e => cutL_from (n := 2) (xs := [a, b, c, e])
  have c3 : ∀ a b c : Vl, cutL [a, b, c] (some 2) none = [c] := fun a b c => cutL_from (n := 2) (xs := [a, b, c])
  cases x <;> simp [Stm.vl, Stm.ins, c3, c4] <;> exact k
def LI (s : Sto) (b : List Stm) (d : Nat) (i : Nat) (lo : Lo) (s' : Sto) : Prop := ∃ x3 x4 : Option Vl, lo = [some (blk b), some (.int (d : Nat)), some (.ref s.length), x3, x4] ∧ s'[s.length]? = some (.lst ((Stm.flats d (b.take i)).map rowD)) ∧ Fr [] s s'
def LJ (s : Sto) (b : List Stm) (d i : Nat) (x : Stm) (j : Nat) (lo : Lo) (s' : Sto) : Prop := ∃ x4 : Option Vl, lo = [some (blk b), some (.int (d : Nat)), some (.ref s.length), some x.vl, x4] ∧ s'[s.length]? = some (.lst ((Stm.flats d (b.take i)).map rowD ++ rowD (d, x) :: ((x.ins.take j).flatMap (Stm.flats (d + 1))).map rowD)) ∧ ((x.ins.take j).flatMap (Stm.flats (d + 1))).length ≤ j * 1000 ∧ Fr [] s s'
end
def ListS (mf : List Vl → M Vl) (M : Nat) : Prop := ∀ (s : Sto) (b : List Stm) (n d g : Nat) (Q : Vl → Sto → Prop) (E : Ex → Sto → Prop), n < M → Stm.oks g n b → Stm.cnts b ≤ 1000 → d ≤ 1000 - M →
  (∀ r s', s.length ≤ r → s'[r]? = some (.lst ((Stm.flats d b).map rowD)) → Fr [] s s' → Q (.ref r) s') → WE (mf [blk b, .int (d : Nat)]) s Q E
theorem listedS : ∀ M : Nat, M ≤ 1000 → ListS (R0 M 0) M
  | 0, _ => fun s b n d g Q E hn => by omega
  | M + 1, hM => fun s b n d g Q E hn ob hb hd k => by
    have ih := listedS M (by omega)
    show WE (fnM 5 (b_listed (R0 M)) _) _ _ _
    unfold b_listed
    simp
    show match blk b with | .tup xs => _ | _ => False
    simp only [blk]
    refine loopX_inv (LI s b d) ?_ ?_ ?_
    · exact ⟨none, none, rfl, by simp [Stm.flats], Fr.refl.push _⟩
    · rintro i v lo s1 hv ⟨x3, x4, rfl, e1, f1⟩
      obtain ⟨x, hx, rfl⟩ := vls_get hv
      have hxm := List.mem_of_getElem? hx
      have okx := Stm.oks_mem ob x hxm
      have cx := Stm.cnts_mem x hxm
      have ct := Stm.cnts_take (b := b) (i := i)
      have tl : (Stm.flats d (b.take i)).length ≤ 1000 := by rw [Stm.flats_len]; omega
      have e1l : ((Stm.flats d (b.take i)).map rowD).length < LIM := limC (by simp; omega)
      simp [kd_lst e1, oAppend_lst e1 e1l]
      have e2 : (s1.set s.length (.lst ((Stm.flats d (b.take i)).map rowD ++ [.tup [.int (d : Nat), x.vl]])))[s.length]? = some (.lst ((Stm.flats d (b.take i)).map rowD ++ [.tup [.int (d : Nat), x.vl]])) := get_set_self e1
      have f2 : Fr [] s (s1.set s.length (.lst ((Stm.flats d (b.take i)).map rowD ++ [.tup [.int (d : Nat), x.vl]]))) := f1.set (Or.inr (Nat.le_refl _))
      generalize (s1.set s.length (.lst ((Stm.flats d (b.take i)).map rowD ++ [.tup [.int (d : Nat), x.vl]]))) = s2 at e2 f2
      refine inner x ?_
      refine loopX_inv (LJ s b d i x) ?_ ?_ ?_
      · exact ⟨x4, rfl, by simpa [rowD] using e2, by simp, f2⟩
      · rintro j v lo s3 hv ⟨x4, rfl, e3, l3, f3⟩
        obtain ⟨b', hb', rfl⟩ := get_map hv
        have hbm := List.mem_of_getElem? hb'
        obtain ⟨n0, ob'⟩ := Stm.ok_ins okx b' hbm
        have cb := Stm.cnt_in (x := x) b' hbm
        have hj : j < 2 := by
          have := Stm.ins_len x
          have := (List.getElem?_eq_some_iff.mp hb').1
          omega
        have ed : (d : Int) + 1 = ((d + 1 : Nat) : Int) := by omega
        simp [kd_lst e3]
        rw [ed]
        refine ih s3 b' (n - 1) (d + 1) g _ _ (by omega) ob' (by omega) (by omega) fun r s4 hr e4 f4 => ?_
        have e5 := f4.at e3 (by simp)
        have l5 : (Stm.flats (d + 1) b').length ≤ 1000 := by rw [Stm.flats_len]; omega
        have hjm : j * 1000 ≤ 1000 := by omega
        have ll : ((Stm.flats d (b.take i)).map rowD ++ rowD (d, x) :: ((x.ins.take j).flatMap (Stm.flats (d + 1))).map rowD).length + ((Stm.flats (d + 1) b').map rowD).length ≤ LIM := limB (by simp only [List.length_append, List.length_cons, List.length_map]; omega)
        simp only [WE_aNil, oExtend_lst e5 e4 ll, WO_some]
        refine ⟨some (blk b'), rfl, ?_, ?_, (f3.trans f4).set (Or.inr (Nat.le_refl _))⟩
        · rw [get_set_self e5, take_succ_get hb', List.flatMap_append]
          simp
        · rw [take_succ_get hb', List.flatMap_append, List.length_append]
          have : ([b'].flatMap (Stm.flats (d + 1))).length = (Stm.flats (d + 1) b').length := by simp
          rw [this, Nat.succ_mul]
          omega
      · rintro lo s3 ⟨x4, rfl, e3, l3, f3⟩
        refine ⟨_, _, rfl, ?_, f3⟩
        rw [e3, List.length_map, List.take_length, take_succ_get hx, Stm.flats_app]
        simp [Stm.flats, Stm.flat_eq]
    · rintro lo s1 ⟨x3, x4, rfl, e1, f1⟩
      rw [vls_len, List.take_length] at e1
      simp
      exact k _ s1 (Nat.le_refl _) e1 f1
end K79

/-! P7: places of statements, statements changed -/
namespace K79
open PySem L2 Sm
/-- the places of the rows with a word -/
def places (w : Str) (xs : List (Nat × Stm)) : List Int := (List.range xs.length).filterMap fun i => (xs[i]?).bind fun q => if q.2.word = w then some ((i : Nat) : Int) else none
theorem zip_range {α β : Type} {xs : List α} {F : α → Nat → Option β} : (xs.zipIdx).filterMap (fun p => F p.1 p.2) = (List.range xs.length).filterMap fun i => (xs[i]?).bind fun x => F x i := by
  have key : ∀ k, k ≤ xs.length → ((xs.take k).zipIdx).filterMap (fun p => F p.1 p.2) = (List.range k).filterMap fun i => (xs[i]?).bind fun x => F x i := by
    intro k
    induction k with
    | zero => intro _; simp
    | succ k ih =>
      intro hk
      have hv : xs[k]? = some xs[k] := List.getElem?_eq_getElem (by omega)
      rw [take_succ_get hv, List.zipIdx_append, List.filterMap_append, ih (by omega), List.range_succ, List.filterMap_append]
      have e : 0 + (xs.take k).length = k := by rw [List.length_take]; omega
      rw [e]
      congr 1
      simp only [List.zipIdx_cons, List.zipIdx_nil, List.filterMap_cons, List.filterMap_nil, hv, Option.bind]
  have := key xs.length (Nat.le_refl _)
  rwa [List.take_length] at this
theorem places_int {w : Str} {xs : List (Nat × Stm)} : (places w xs).map Vl.int = (List.range xs.length).filterMap fun i => (xs[i]?).bind fun q => if q.2.word = w then some (Vl.int ((i : Nat) : Int)) else none := by
  unfold places
  rw [List.map_filterMap]
  congr 1
  funext i
  cases xs[i]? with
  | none => rfl
  | some q =>
    by_cases e : q.2.word = w
    · simp [e]
    · simp [e]
theorem places_le {w : Str} {xs : List (Nat × Stm)} {n : Nat} (h : xs.length ≤ n) : (places w xs).length ≤ n ∧ ∀ x ∈ places w xs, x.natAbs < n := by
  refine ⟨Nat.le_trans (List.length_filterMap_le ..) (by simpa using h), fun x hx => ?_⟩
  unfold places at hx
  obtain ⟨i, hi, e⟩ := List.mem_filterMap.mp hx
  simp at hi
  cases q : xs[i]? with
  | none => rw [q] at e; cases e
  | some v =>
    rw [q] at e
    simp at e
    omega
def wordF (w : Str) (i : Nat) (v : Vl) : Option Vl := match v with
  | .tup (.str u :: _) => if u = w then some (.int (i : Nat)) else none
  | _ => none
section
variable {s : Sto} {Q : Vl → Sto → Prop} {E : Ex → Sto → Prop}
def progV (g : Nat) (b : List Stm) : Vl := .tup [.int (g : Nat), blk b]
theorem stmsOf {g gg n : Nat} {b : List Stm} (hn : n < 12) (ob : Stm.oks gg n b) (hb : Stm.cnts b ≤ 1000) (k : ∀ r s', s.length ≤ r → s'[r]? = some (.lst ((Stm.flats 0 b).map rowS)) → Fr [] s s' → Q (.ref r) s') : WE (m_statements_of [progV g b]) s Q E := by
  unfold m_statements_of b_statements_of progV
  simp
  refine listedS 12 (by omega) s b n 0 gg _ _ hn ob hb (by omega) fun r s1 hr e1 f1 => ?_
  have hl : (Stm.flats 0 b).length ≤ 1000 := by rw [Stm.flats_len]; omega
  simp [e1]
  refine lcL_p (xs := (Stm.flats 0 b).map rowD) s1 (fun v => match v with | .tup [_, x] => some x | _ => none) rfl rfl e1 (by simp; omega) ?_ ?_
  · intro v hv acc
    obtain ⟨q, hq, rfl⟩ := List.mem_map.mp hv
    unfold rowD
    refine ⟨_, rfl, ?_⟩
    simp [tTrue, wipeL]
  · have e : ((Stm.flats 0 b).map rowD).filterMap (fun v => match v with | .tup [_, x] => some x | _ => none) = (Stm.flats 0 b).map rowS := by
      rw [List.filterMap_map, ← List.filterMap_eq_map]
      rfl
    rw [e]
    exact k _ _ f1.le get_last (f1.push _)
theorem placesWith {g gg n : Nat} {b : List Stm} {w : Str} (hn : n < 12) (ob : Stm.oks gg n b) (hb : Stm.cnts b ≤ 1000) (k : ∀ s', Fr [] s s' → Q (.tup ((places w (Stm.flats 0 b)).map Vl.int)) s') : WE (m_places_with [progV g b, .str w]) s Q E := by
  unfold m_places_with b_places_with
  simp
  refine stmsOf hn ob hb fun r s1 hr e1 f1 => ?_
  have hl : (Stm.flats 0 b).length ≤ 1000 := by rw [Stm.flats_len]; omega
  simp [e1]
  refine lcE_p (xs := (Stm.flats 0 b).map rowS) s1 (wordF w) rfl rfl e1 (by simp; omega) ?_ ?_
  · intro i v hv acc
    obtain ⟨q, hq, rfl⟩ := get_map hv
    unfold rowS
    rw [Stm.vl_eq]
    refine ⟨_, rfl, ?_⟩
    by_cases e : q.2.word = w <;> simp [tTrue, wipeL, e, wordF]
  · have e : (((Stm.flats 0 b).map rowS).zipIdx).filterMap (fun p => wordF w p.2 p.1) = (places w (Stm.flats 0 b)).map Vl.int := by
      refine Eq.trans (zip_range (F := fun v i => wordF w i v)) ?_
      rw [places_int, List.length_map]
      congr 1
      funext i
      rw [List.getElem?_map]
      cases (Stm.flats 0 b)[i]? with
      | none => rfl
      | some q =>
        simp only [Option.map_some, Option.bind, rowS, Stm.vl_eq, wordF]
    rw [e]
    simp [oTuple_lst get_last]
    exact k _ (f1.push _)
theorem makeP {g gg n : Nat} {b : List Stm} (hn : n < 12) (ob : Stm.oks gg n b) (hb : Stm.cnts b ≤ 1000) (k : ∀ s', Fr [] s s' → Q (.tup ((places "make" (Stm.flats 0 b)).map Vl.int)) s') : WE (m_make_places [progV g b]) s Q E := by
  unfold m_make_places b_make_places
  simp
  exact placesWith hn ob hb k
theorem weakP {g gg n : Nat} {b : List Stm} (hn : n < 12) (ob : Stm.oks gg n b) (hb : Stm.cnts b ≤ 1000) (k : ∀ s', Fr [] s s' → Q (.tup ((places "weak" (Stm.flats 0 b)).map Vl.int)) s') : WE (m_weak_places [progV g b]) s Q E := by
  unfold m_weak_places b_weak_places
  simp
  exact placesWith hn ob hb k
def kept : Stm → List Stm
  | .make y => [.make y, .keep y]
  | x => [x]
def strong : Stm → List Stm
  | .weak x f y => [.hold x f y]
  | x => [x]
theorem keeps {o : Vl} (x : Stm) (k : Q (blk (kept x)) s) : WE (m_Keeps_changed [o, x.vl]) s Q E := by
  unfold m_Keeps_changed b_Keeps_changed
  cases x <;> simp [Stm.vl] <;> simpa [kept, blk, Stm.vls, Stm.vl] using k
theorem strongs {o : Vl} (x : Stm) (k : Q (blk (strong x)) s) : WE (m_Strongs_changed [o, x.vl]) s Q E := by
  unfold m_Strongs_changed b_Strongs_changed
  have c4 : ∀ a b c e : Vl, cutL [a, b, c, e] (some 1) none = [b, c, e] := fun a b c e => cutL_from (n := 1) (xs := [a, b, c, e])
  cases x <;> simp [Stm.vl, c4] <;> simpa [strong, blk, Stm.vls, Stm.vl] using k
theorem fixes {o : Vl} (x : Stm) (k : Q (blk [x]) s) : WE (m_Fix_changed [o, x.vl]) s Q E := by
  unfold m_Fix_changed b_Fix_changed
  simp
  simpa [blk, Stm.vls] using k
end
end K79

/-! S35: pure rules of S34 -/
namespace Sm
open PySem L2
section
variable {lo : Lo} {s : Sto} {QV : Vl → Sto → Prop} {E : Ex → Sto → Prop}
def fmtW (x : Vl) (P : Str → Prop) : Prop := match x with
  | .str y => y.length ≤ LIM ∧ P y
  | .int i => i.natAbs.log2 < 1920 ∧ P (Str.ofString (toString i))
  | _ => False
@[simp] theorem fmtW_str {y : Str} {P : Str → Prop} (h : y.length ≤ LIM) : fmtW (.str y) P = P y := by simp [fmtW, h]
@[simp] theorem fmtW_int {i : Int} {P : Str → Prop} (h : i.natAbs.log2 < 1920) : fmtW (.int i) P = P (Str.ofString (toString i)) := by simp [fmtW, h]
@[simp ↓] theorem WE_eFmt {m : EM} : WE (eFmt m lo) s QV E = WE (m lo) s (fun x s => fmtW x fun y => QV (.str y) s) E := by
  unfold eFmt
  rw [WE_bnd]
  refine WE_ext fun x s => ?_
  unfold fmtM
  cases x <;> try (simp only [WE_eq]; rfl)
  · rename_i i
    by_cases h : i.natAbs.log2 < 1920
    · simp only [WE_eq, if_pos h, fmtW, h, true_and]; rfl
    · simp only [WE_eq, if_neg h, fmtW, h, false_and]; rfl
  · rename_i y
    by_cases h : y.length ≤ LIM
    · simp only [WE_eq, if_pos h, fmtW, h, true_and]; rfl
    · simp only [WE_eq, if_neg h, fmtW, h, false_and]; rfl
def strW (x : Vl) (P : Str → Prop) : Prop := match x with
  | .str y => P y
  | _ => False
@[simp] theorem strW_str {y : Str} {P : Str → Prop} : strW (.str y) P = P y := rfl
theorem WE_jnd_nil {acc : Str} : WE (jnd [] acc lo) s QV E = QV (.str acc) s := by simp only [WE_eq]; rfl
theorem WE_jnd_cons {m : EM} {ms : List EM} {acc : Str} : WE (jnd (m :: ms) acc lo) s QV E = WE (m lo) s (fun x s => strW x fun y => (acc ++ y).length ≤ LIM ∧ WE (jnd ms (acc ++ y) lo) s QV E) E := by
  rw [jnd, WE_bnd]
  refine WE_ext fun x s => ?_
  cases x <;> try (simp only [WE_eq]; rfl)
  rename_i y
  by_cases h : (acc ++ y).length ≤ LIM
  · simp only [strW, h, true_and]
    rfl
  · simp only [strW, h, false_and, WE_eq, if_false]
    rfl
theorem WE_eJnd {ms : List EM} : WE (eJnd ms lo) s QV E = WE (jnd ms Str.empty lo) s QV E := rfl
@[simp ↓] theorem WE_eOrL {a b : EM} : WE (eOrL a b lo) s QV E = WE (a lo) s (fun x s => match lstOf x s with | some xs => if xs.isEmpty = true then WE (b lo) s QV E else QV x s | none => False) E := by
  unfold eOrL
  rw [WE_bnd]
  refine WE_ext fun x s => ?_
  simp only [WE_eq]
  unfold WE0
  cases h : lstOf x s with
  | none => simp only [h]
  | some xs =>
    by_cases q : xs.isEmpty = true
    · simp only [h, q, if_true]
    · simp only [h, q, if_false, Bool.false_eq_true]
@[simp] theorem lstOf_ref {j : Nat} {xs : List Vl} (h : s[j]? = some (.lst xs)) : lstOf (.ref j) s = some xs := by simp only [lstOf, h]
@[simp] theorem oSplit0_str {a : Str} (h : a.length + 2 ≤ LIM) : oSplit0 (.str a) [] s = some (.ref s.length, s ++ [.lst ((Txt.words a).map Vl.str)]) := by simp only [oSplit0, if_pos h]
@[simp] theorem oStrD_str {y : Str} : oStrD [.str y] s = some (.str y, s) := rfl
@[simp] theorem oStrD_int {i : Int} (h : i.natAbs.log2 < 1920) : oStrD [.int i] s = some (.str (Str.ofString (toString i)), s) := by simp only [oStrD, if_pos h]
/-- str of a plain tuple -/
theorem Pn.strD {n w : Nat} {xs : List Vl} (h : Pn n w (.tup xs)) (hn : n ≤ 40) (hw : w ≤ 2 ^ 20) : ∃ x, ∀ s, oStrD [.tup xs] s = some (.str x, s) := by
  obtain ⟨x, hx⟩ := h.repr hn hw
  refine ⟨x, fun s => ?_⟩
  have := hx s
  simp only [oRepr] at this
  simp only [oStrD]
  exact this
end
end Sm

/-! S36: programs of cells whose names and words are of a kind -/
namespace Sm
open PySem L2
section
variable (N W : Str → Prop)
def Tst.sat : Tst → Prop
  | .given _ => True
  | .set x => N x
  | .same x y => N x ∧ N y
  | .full x f => N x ∧ N f
  | .wished w => W w
  | .not t => t.sat
mutual
def Stm.sat : Stm → Prop
  | .make x => N x
  | .wish x w => N x ∧ W w
  | .keep x => N x
  | .name x y => N x ∧ N y
  | .drop x => N x
  | .hold x f y => N x ∧ N f ∧ N y
  | .weak x f y => N x ∧ N f ∧ N y
  | .cut x f => N x ∧ N f
  | .take z x f => N z ∧ N x ∧ N f
  | .say w => W w
  | .ask t => t.sat N W
  | .ife t a b => t.sat N W ∧ Stm.sats a ∧ Stm.sats b
  | .rep _ b => Stm.sats b
def Stm.sats : List Stm → Prop
  | [] => True
  | x :: xs => x.sat ∧ Stm.sats xs
end
end
theorem Stm.sats_app {N W : Str → Prop} : ∀ {xs ys : List Stm}, Stm.sats N W (xs ++ ys) ↔ Stm.sats N W xs ∧ Stm.sats N W ys
  | [], ys => by simp [Stm.sats]
  | x :: xs, ys => by simp only [List.cons_append, Stm.sats, Stm.sats_app (xs := xs) (ys := ys), and_assoc]
end Sm

/-! S37: the texts of tests, statements and blocks -/
namespace Sm
open PySem L2
def nums (i : Nat) : Str := Str.ofString (toString ((i : Nat) : Int))
def Tst.txt : Tst → Str
  | .given i => "given " ++ nums i
  | .set x => "set " ++ x
  | .same x y => x ++ " is " ++ y
  | .full x f => "full " ++ x ++ "." ++ f
  | .wished w => "wished " ++ w
  | .not t => "not " ++ t.txt
def Stm.line : Stm → Str
  | .make x => "make " ++ x
  | .wish x w => "wish " ++ x ++ " " ++ w
  | .keep x => "keep " ++ x
  | .name x y => x ++ " = " ++ y
  | .drop x => "drop " ++ x
  | .hold x f y => x ++ "." ++ f ++ " = " ++ y
  | .weak x f y => x ++ "." ++ f ++ " ~ " ++ y
  | .cut x f => "cut " ++ x ++ "." ++ f
  | .take z x f => z ++ " = " ++ x ++ "." ++ f
  | .say w => "say " ++ w
  | .ask t => "ask " ++ t.txt
  | .ife t _ _ => "if " ++ t.txt
  | .rep k _ => "repeat " ++ nums k
mutual
/-- the lines of a statement -/
def Stm.lines (a : Str) : Stm → List Str
  | .ife t x y => (a ++ (Stm.ife t x y).line) :: ((match Stm.liness (a ++ "  ") x with | [] => [a ++ "  pass"] | ls => ls) ++ (match Stm.liness (a ++ "  ") y with | [] => [] | ls => (a ++ "else") :: ls))
  | .rep k x => (a ++ (Stm.rep k x).line) :: (match Stm.liness (a ++ "  ") x with | [] => [a ++ "  pass"] | ls => ls)
  | x => [a ++ x.line]
def Stm.liness (a : Str) : List Stm → List Str
  | [] => []
  | x :: xs => x.lines a ++ Stm.liness a xs
end
end Sm

/-! S38: values that can be laid out (==); short loops unrolled; lines -/
namespace Sm
open PySem L2
def La (n : Nat) (v : Vl) : Prop := ∃ d : PyData, (∀ s m, n ≤ m → toD m s v = some d) ∧ d.canLay0 = true
theorem La.mono {n m : Nat} {v : Vl} (h : La n v) (h1 : n ≤ m) : La m v := by
  obtain ⟨d, a, b⟩ := h
  exact ⟨d, fun s k hk => a s k (Nat.le_trans h1 hk), b⟩
theorem La.int {i : Int} : La 1 (.int i) := by
  refine ⟨.int i, fun s m hm => ?_, rfl⟩
  obtain ⟨m, rfl⟩ : ∃ k, m = k + 1 := ⟨m - 1, by omega⟩
  rfl
theorem La.str {x : Str} (h : PyData.strOk x = true) : La 1 (.str x) := by
  refine ⟨.str x, fun s m hm => ?_, h⟩
  obtain ⟨m, rfl⟩ : ∃ k, m = k + 1 := ⟨m - 1, by omega⟩
  rfl
theorem La.lit {x : Str} (h : (x.cps.toList.all fun c => decide (c < 128)) = true := by decide) : La 1 (.str x) := La.str (by
  unfold PyData.strOk
  rw [← Array.all_toList, List.all_eq_true]
  intro c hc
  have := of_decide_eq_true (List.all_eq_true.mp h c hc)
  exact decide_eq_true (by omega))
theorem Nice.la {x : Str} (h : Nice x) : La 1 (.str x) := La.str h.strOk
theorem La.all {n : Nat} : ∀ {xs : List Vl}, (∀ x ∈ xs, La n x) → ∃ ds : List PyData, (∀ s m, n ≤ m → mapO (toD m s) xs = some ds) ∧ PyData.canLayAll0 ds = true
  | [], _ => ⟨[], fun _ _ _ => rfl, rfl⟩
  | x :: xs, h => by
    obtain ⟨d, a, b⟩ := h x (List.mem_cons_self ..)
    obtain ⟨ds, a', b'⟩ := La.all fun y hy => h y (List.mem_cons_of_mem _ hy)
    refine ⟨d :: ds, fun s m hm => ?_, ?_⟩
    · simp only [mapO, a s m hm, a' s m hm]
    · simp only [PyData.canLayAll0, b, b', Bool.and_self]
theorem La.tup {n : Nat} {xs : List Vl} (h : ∀ x ∈ xs, La n x) : La (n + 1) (.tup xs) := by
  obtain ⟨ds, a, b⟩ := La.all h
  refine ⟨.tuple ds, fun s m hm => ?_, ?_⟩
  · obtain ⟨m, rfl⟩ : ∃ k, m = k + 1 := ⟨m - 1, by omega⟩
    simp only [toD, a s m (by omega), Option.map]
  · simpa only [PyData.canLay0] using b
theorem La.tup2 {n : Nat} {a b : Vl} (h1 : La n a) (h2 : La n b) : La (n + 1) (.tup [a, b]) := La.tup fun x hx => by
  simp at hx; rcases hx with rfl | rfl <;> assumption
theorem La.tup3 {n : Nat} {a b c : Vl} (h1 : La n a) (h2 : La n b) (h3 : La n c) : La (n + 1) (.tup [a, b, c]) := La.tup fun x hx => by
  simp at hx; rcases hx with rfl | rfl | rfl <;> assumption
theorem La.tup4 {n : Nat} {a b c d : Vl} (h1 : La n a) (h2 : La n b) (h3 : La n c) (h4 : La n d) : La (n + 1) (.tup [a, b, c, d]) := La.tup fun x hx => by
  simp at hx; rcases hx with rfl | rfl | rfl | rfl <;> assumption
theorem isEmpty_map0 {xs : List Vl} {ds : List PyData} {f : Vl → Option PyData} (h : mapO f xs = some ds) : ds.isEmpty = xs.isEmpty := by
  cases xs with
  | nil => cases h; rfl
  | cons x xs =>
    unfold mapO at h
    cases q : f x with
    | none => simp only [q] at h; cases h
    | some d =>
      simp only [q] at h
      cases q2 : mapO f xs with
      | none => simp only [q2] at h; cases h
      | some r => simp only [q2] at h; cases h; rfl
theorem eqM_tup0 {s : Sto} {n : Nat} {xs : List Vl} (h : ∀ x ∈ xs, La n x) (hn : n ≤ 39) : eqM (.tup xs) (.tup []) s = some xs.isEmpty := by
  obtain ⟨ds, a, b⟩ := La.all h
  have a := a s 39 hn
  have e1 : toD 40 s (.tup xs) = some (.tuple ds) := by unfold toD; simp only [a, Option.map]
  have e2 : toD 40 s (.tup []) = some (.tuple []) := rfl
  have e3 : PyData.canLay0 (.tuple ds) = true := by simpa only [PyData.canLay0] using b
  have e4 : PyData.canLay0 (.tuple []) = true := rfl
  simp only [eqM, eqS, e1, e2, e3, e4, Bool.and_self, if_true, PyData.eqv]
  rw [← isEmpty_map0 a]
  cases ds <;> simp [PyData.eqvAll]
theorem opEq_tup0 {s : Sto} {n : Nat} {xs : List Vl} (h : ∀ x ∈ xs, La n x) (hn : n ≤ 39) : opEq (.tup xs) (.tup []) s = some (.bl xs.isEmpty, s) := by
  simp only [opEq, eqM_tup0 h hn]
theorem opNe_tup0 {s : Sto} {n : Nat} {xs : List Vl} (h : ∀ x ∈ xs, La n x) (hn : n ≤ 39) : opNe (.tup xs) (.tup []) s = some (.bl (!xs.isEmpty), s) := by
  simp only [opNe, eqM_tup0 h hn]
theorem eqM_lst0 {s : Sto} {n a b : Nat} {xs : List Vl} (h1 : s[a]? = some (.lst xs)) (h2 : s[b]? = some (.lst [])) (h : ∀ x ∈ xs, La n x) (hn : n ≤ 39) : eqM (.ref a) (.ref b) s = some xs.isEmpty := by
  obtain ⟨ds, q, r⟩ := La.all h
  exact eqM_lstN h1 h2 (q s 39 hn) r
theorem opEq_lst0 {s : Sto} {n a b : Nat} {xs : List Vl} (h1 : s[a]? = some (.lst xs)) (h2 : s[b]? = some (.lst [])) (h : ∀ x ∈ xs, La n x) (hn : n ≤ 39) : opEq (.ref a) (.ref b) s = some (.bl xs.isEmpty, s) := by
  simp only [opEq, eqM_lst0 h1 h2 h hn]
theorem opNe_lst0 {s : Sto} {n a b : Nat} {xs : List Vl} (h1 : s[a]? = some (.lst xs)) (h2 : s[b]? = some (.lst [])) (h : ∀ x ∈ xs, La n x) (hn : n ≤ 39) : opNe (.ref a) (.ref b) s = some (.bl (!xs.isEmpty), s) := by
  simp only [opNe, eqM_lst0 h1 h2 h hn]
theorem Tst.la {g : Nat} : ∀ {n : Nat} {t : Tst}, t.ok g n → La (2 + n) t.vl
  | n, .given i, h => (La.tup2 La.lit La.int).mono (by omega)
  | n, .set x, h => by
    have h : Nice x := by cases n <;> exact h
    exact (La.tup2 La.lit h.la).mono (by omega)
  | n, .same x y, h => by
    have h : Nice x ∧ Nice y := by cases n <;> exact h
    exact (La.tup3 La.lit h.1.la h.2.la).mono (by omega)
  | n, .full x y, h => by
    have h : Nice x ∧ Nice y := by cases n <;> exact h
    exact (La.tup3 La.lit h.1.la h.2.la).mono (by omega)
  | n, .wished x, h => by
    have h : Nice x := by cases n <;> exact h
    exact (La.tup2 La.lit h.la).mono (by omega)
  | n + 1, .not t, h => by
    have ih := Tst.la (n := n) (t := t) h
    exact (La.tup2 (La.mono La.lit (by omega)) ih).mono (by omega)
  | 0, .not t, h => h.elim
mutual
theorem Stm.la {g : Nat} : ∀ {n : Nat} {x : Stm}, x.ok g n → La (6 + 2 * n) x.vl
  | n, .make x, h => by unfold Stm.ok at h; unfold Stm.vl; exact (La.tup2 La.lit h.la).mono (by omega)
  | n, .wish x w, h => by unfold Stm.ok at h; unfold Stm.vl; exact (La.tup3 La.lit h.1.la h.2.la).mono (by omega)
  | n, .keep x, h => by unfold Stm.ok at h; unfold Stm.vl; exact (La.tup2 La.lit h.la).mono (by omega)
  | n, .name x y, h => by unfold Stm.ok at h; unfold Stm.vl; exact (La.tup3 La.lit h.1.la h.2.la).mono (by omega)
  | n, .drop x, h => by unfold Stm.ok at h; unfold Stm.vl; exact (La.tup2 La.lit h.la).mono (by omega)
  | n, .hold x f y, h => by unfold Stm.ok at h; unfold Stm.vl; exact (La.tup4 La.lit h.1.la h.2.1.la h.2.2.la).mono (by omega)
  | n, .weak x f y, h => by unfold Stm.ok at h; unfold Stm.vl; exact (La.tup4 La.lit h.1.la h.2.1.la h.2.2.la).mono (by omega)
  | n, .cut x f, h => by unfold Stm.ok at h; unfold Stm.vl; exact (La.tup3 La.lit h.1.la h.2.la).mono (by omega)
  | n, .take z x f, h => by unfold Stm.ok at h; unfold Stm.vl; exact (La.tup4 La.lit h.1.la h.2.1.la h.2.2.la).mono (by omega)
  | n, .say w, h => by unfold Stm.ok at h; unfold Stm.vl; exact (La.tup2 La.lit h.la).mono (by omega)
  | n, .ask t, h => by
    unfold Stm.ok at h; unfold Stm.vl
    exact (La.tup2 (La.mono La.lit (show 1 ≤ 5 by omega)) (Tst.la h)).mono (by omega)
  | n, .ife t a b, h => by
    unfold Stm.ok at h; unfold Stm.vl
    have h1 : La (6 + 2 * (n - 1) + 1) (.tup (Stm.vls a)) := La.tup (Stm.lam h.2.2.1)
    have h2 : La (6 + 2 * (n - 1) + 1) (.tup (Stm.vls b)) := La.tup (Stm.lam h.2.2.2)
    have h3 := Tst.la h.2.1
    have e : 6 + 2 * (n - 1) + 1 = 5 + 2 * n := by omega
    rw [e] at h1 h2
    exact (La.tup4 (La.mono La.lit (show 1 ≤ 5 + 2 * n by omega)) (h3.mono (by omega)) h1 h2).mono (by omega)
  | n, .rep k b, h => by
    unfold Stm.ok at h; unfold Stm.vl
    have h1 : La (6 + 2 * (n - 1) + 1) (.tup (Stm.vls b)) := La.tup (Stm.lam h.2.2)
    have e : 6 + 2 * (n - 1) + 1 = 5 + 2 * n := by omega
    rw [e] at h1
    exact (La.tup3 (La.mono La.lit (show 1 ≤ 5 + 2 * n by omega)) (La.int.mono (show 1 ≤ 5 + 2 * n by omega)) h1).mono (by omega)
theorem Stm.lam {g : Nat} : ∀ {n : Nat} {xs : List Stm}, Stm.oks g n xs → ∀ v ∈ Stm.vls xs, La (6 + 2 * n) v
  | n, [], _, v, hv => by simp [Stm.vls] at hv
  | n, x :: xs, h, v, hv => by
    simp only [Stm.vls, List.mem_cons] at hv
    rcases hv with rfl | hv
    · exact Stm.la h.1
    · exact Stm.lam h.2 v hv
end
theorem Stm.las {g n : Nat} {xs : List Stm} (h : Stm.oks g n xs) : La (7 + 2 * n) (blk xs) := (La.tup (Stm.lam h)).mono (by omega)
/-! ### short loops -/
section
variable {s : Sto} {lo : Lo} {K : RK} {g : GM} {b : SM}
theorem WS_loopX_nil : WS (loopX g b []) lo s K = K.nx lo s := by simp only [WS_eq]; rfl
theorem WS_loopX_cons {v : Vl} {vs : List Vl} : WS (loopX g b (v :: vs)) lo s K = WG g v lo s (fun lo s => WS b lo s ⟨fun lo s => WS (loopX g b vs) lo s K, K.rt, K.nx, fun lo s => WS (loopX g b vs) lo s K, K.ex⟩) (fun e s => K.ex e lo s) := by
  simp only [WS_eq, WG_eq, WE_eq]
  unfold WS0 WE0
  have e : loopX g b (v :: vs) lo s = match g v lo s with | .ok lo' s' => (match b lo' s' with | .nx lo2 s2 => loopX g b vs lo2 s2 | .ct lo2 s2 => loopX g b vs lo2 s2 | .bk lo2 s2 => .nx lo2 s2 | .rt v s2 => .rt v s2 | .exc z lo2 s2 => .exc z lo2 s2 | .fail => .fail) | .exc z s' => .exc z lo s' | .fail => .fail := by
    conv => lhs; unfold loopX
    cases g v lo s with
    | fail => rfl
    | exc z s' => rfl
    | ok lo' s' => rfl
  rw [e]
  cases g v lo s with
  | fail => rfl
  | exc z s' => rfl
  | ok lo' s' =>
    simp only [WS_eq]
    cases b lo' s' <;> rfl
theorem WO_addS {x y : Str} {Q : Vl → Sto → Prop} : WO (opAdd (.str x) (.str y) s) Q = (x.length + y.length ≤ LIM ∧ Q (.str (x ++ y)) s) := by
  by_cases h : x.length + y.length ≤ LIM
  · rw [opAdd_str h, WO_some]; exact propext ⟨fun z => ⟨h, z⟩, fun z => z.2⟩
  · have : opAdd (.str x) (.str y) s = none := by simp only [opAdd, if_neg h]
    rw [this, WO_none]; exact propext ⟨fun z => z.elim, fun z => h z.1⟩
end
section
variable {s : Sto} {xs : List Vl} {x : Str} {i : Int} {k : Bool}
@[simp] theorem oIsi_tup_tuple : oIsi [.tup xs, .ty "tuple"] s = some (.bl true, s) := rfl
@[simp] theorem oIsi_tup_str : oIsi [.tup xs, .ty "str"] s = some (.bl false, s) := rfl
@[simp] theorem oIsi_tup_int : oIsi [.tup xs, .ty "int"] s = some (.bl false, s) := rfl
@[simp] theorem oIsi_tup_bool : oIsi [.tup xs, .ty "bool"] s = some (.bl false, s) := rfl
@[simp] theorem oIsi_tup_list : oIsi [.tup xs, .ty "list"] s = some (.bl false, s) := rfl
@[simp] theorem oIsi_tup_dict : oIsi [.tup xs, .ty "dict"] s = some (.bl false, s) := rfl
@[simp] theorem oIsi_str_tuple : oIsi [.str x, .ty "tuple"] s = some (.bl false, s) := rfl
@[simp] theorem oIsi_str_str : oIsi [.str x, .ty "str"] s = some (.bl true, s) := rfl
@[simp] theorem oIsi_str_int : oIsi [.str x, .ty "int"] s = some (.bl false, s) := rfl
@[simp] theorem oIsi_str_bool : oIsi [.str x, .ty "bool"] s = some (.bl false, s) := rfl
@[simp] theorem oIsi_str_list : oIsi [.str x, .ty "list"] s = some (.bl false, s) := rfl
@[simp] theorem oIsi_str_dict : oIsi [.str x, .ty "dict"] s = some (.bl false, s) := rfl
@[simp] theorem oIsi_int_tuple : oIsi [.int i, .ty "tuple"] s = some (.bl false, s) := rfl
@[simp] theorem oIsi_int_str : oIsi [.int i, .ty "str"] s = some (.bl false, s) := rfl
@[simp] theorem oIsi_int_int : oIsi [.int i, .ty "int"] s = some (.bl true, s) := rfl
@[simp] theorem oIsi_int_bool : oIsi [.int i, .ty "bool"] s = some (.bl false, s) := rfl
@[simp] theorem oIsi_int_list : oIsi [.int i, .ty "list"] s = some (.bl false, s) := rfl
@[simp] theorem oIsi_int_dict : oIsi [.int i, .ty "dict"] s = some (.bl false, s) := rfl
@[simp] theorem oIsi_bl_tuple : oIsi [.bl k, .ty "tuple"] s = some (.bl false, s) := rfl
@[simp] theorem oIsi_bl_str : oIsi [.bl k, .ty "str"] s = some (.bl false, s) := rfl
@[simp] theorem oIsi_bl_int : oIsi [.bl k, .ty "int"] s = some (.bl true, s) := rfl
@[simp] theorem oIsi_bl_bool : oIsi [.bl k, .ty "bool"] s = some (.bl true, s) := rfl
@[simp] theorem oIsi_bl_list : oIsi [.bl k, .ty "list"] s = some (.bl false, s) := rfl
@[simp] theorem oIsi_bl_dict : oIsi [.bl k, .ty "dict"] s = some (.bl false, s) := rfl
@[simp] theorem oIsi_non_tuple : oIsi [.non, .ty "tuple"] s = some (.bl false, s) := rfl
@[simp] theorem oIsi_non_str : oIsi [.non, .ty "str"] s = some (.bl false, s) := rfl
@[simp] theorem oIsi_non_int : oIsi [.non, .ty "int"] s = some (.bl false, s) := rfl
@[simp] theorem oIsi_non_bool : oIsi [.non, .ty "bool"] s = some (.bl false, s) := rfl
@[simp] theorem oIsi_non_list : oIsi [.non, .ty "list"] s = some (.bl false, s) := rfl
@[simp] theorem oIsi_non_dict : oIsi [.non, .ty "dict"] s = some (.bl false, s) := rfl
end
/-! ### lines -/
def padL (a : Str) (p : List Stm) : List Str := match Stm.liness (a ++ "  ") p with | [] => [a ++ "  pass"] | ls => ls
def elsL (a : Str) (p : List Stm) : List Str := match Stm.liness (a ++ "  ") p with | [] => [] | ls => (a ++ "else") :: ls
theorem Stm.lines_eq (a : Str) (x : Stm) : x.lines a = (a ++ x.line) :: (match x.ins with | [] => [] | [p] => padL a p | p :: q :: _ => padL a p ++ elsL a q) := by
  cases x
  case ife t p q => simp only [Stm.lines, Stm.ins, padL, elsL] <;> cases Stm.liness (a ++ "  ") p <;> cases Stm.liness (a ++ "  ") q <;> rfl
  case rep k p => simp only [Stm.lines, Stm.ins, padL, elsL] <;> cases Stm.liness (a ++ "  ") p <;> rfl
  all_goals simp [Stm.lines, Stm.ins]
theorem Stm.liness_app {a : Str} : ∀ xs ys : List Stm, Stm.liness a (xs ++ ys) = Stm.liness a xs ++ Stm.liness a ys
  | [], ys => by simp [Stm.liness]
  | x :: xs, ys => by simp only [List.cons_append, Stm.liness, Stm.liness_app xs ys, List.append_assoc]
theorem Stm.lines_ne {a : Str} {x : Stm} : x.lines a ≠ [] := by rw [Stm.lines_eq]; simp
theorem Stm.liness_nil {a : Str} {b : List Stm} : Stm.liness a b = [] ↔ b = [] := by
  cases b with
  | nil => simp [Stm.liness]
  | cons x b => simp [Stm.liness, Stm.lines_ne]
theorem padL_nil {a : Str} : padL a [] = [a ++ "  pass"] := by simp [padL, Stm.liness]
theorem padL_ne {a : Str} {p : List Stm} (h : p ≠ []) : padL a p = Stm.liness (a ++ "  ") p := by
  unfold padL
  cases q : Stm.liness (a ++ "  ") p with
  | nil => exact absurd (Stm.liness_nil.mp q) h
  | cons _ _ => rfl
theorem elsL_nil {a : Str} : elsL a [] = [] := by simp [elsL, Stm.liness]
theorem elsL_ne {a : Str} {p : List Stm} (h : p ≠ []) : elsL a p = (a ++ "else") :: Stm.liness (a ++ "  ") p := by
  unfold elsL
  cases q : Stm.liness (a ++ "  ") p with
  | nil => exact absurd (Stm.liness_nil.mp q) h
  | cons _ _ => rfl
end Sm

/-! S53: programs with statements changed at some places -/
namespace Sm
open PySem L2
mutual
/-- what stands for a statement at the place p: ch at the places P -/
def Stm.rb (ch : Stm → List Stm) (P : List Int) : Nat → Stm → List Stm
  | p, .ife t a b => [.ife t (Stm.rbs ch P (p + 1) a) (Stm.rbs ch P (p + 1 + Stm.cnts a) b)]
  | p, .rep k b => [.rep k (Stm.rbs ch P (p + 1) b)]
  | p, x => if ((p : Nat) : Int) ∈ P then ch x else [x]
def Stm.rbs (ch : Stm → List Stm) (P : List Int) : Nat → List Stm → List Stm
  | _, [] => []
  | p, x :: xs => Stm.rb ch P p x ++ Stm.rbs ch P (p + x.cnt) xs
end
mutual
/-- no statement with blocks stands at one of the places -/
def Stm.noP (P : List Int) : Nat → Stm → Prop
  | p, .ife t a b => ((p : Nat) : Int) ∉ P ∧ Stm.nosP P (p + 1) a ∧ Stm.nosP P (p + 1 + Stm.cnts a) b
  | p, .rep k b => ((p : Nat) : Int) ∉ P ∧ Stm.nosP P (p + 1) b
  | _, _ => True
def Stm.nosP (P : List Int) : Nat → List Stm → Prop
  | _, [] => True
  | p, x :: xs => Stm.noP P p x ∧ Stm.nosP P (p + x.cnt) xs
end
section
variable {ch : Stm → List Stm} {P : List Int}
theorem Stm.rbs_app : ∀ {p : Nat} {xs ys : List Stm}, Stm.rbs ch P p (xs ++ ys) = Stm.rbs ch P p xs ++ Stm.rbs ch P (p + Stm.cnts xs) ys
  | p, [], ys => by simp [Stm.rbs, Stm.cnts]
  | p, x :: xs, ys => by simp only [List.cons_append, Stm.rbs, Stm.cnts, Stm.rbs_app (xs := xs) (ys := ys), List.append_assoc, Nat.add_assoc]
theorem Stm.rbs_take {p i : Nat} {b : List Stm} {x : Stm} (h : b[i]? = some x) : Stm.rbs ch P p (b.take (i + 1)) = Stm.rbs ch P p (b.take i) ++ Stm.rb ch P (p + Stm.cnts (b.take i)) x := by
  rw [take_succ_get h, Stm.rbs_app]
  simp [Stm.rbs]
theorem Stm.nosP_get : ∀ {p i : Nat} {b : List Stm} {x : Stm}, Stm.nosP P p b → b[i]? = some x → Stm.noP P (p + Stm.cnts (b.take i)) x
  | p, i, [], x, _, h => by simp at h
  | p, 0, y :: b, x, n, h => by
    simp at h
    subst h
    simpa [Stm.cnts] using n.1
  | p, i + 1, y :: b, x, n, h => by
    have := Stm.nosP_get (i := i) (b := b) (x := x) n.2 (by simpa using h)
    simpa [Stm.cnts, Nat.add_assoc] using this
theorem Stm.cnts_tk {b : List Stm} {i : Nat} {x : Stm} (h : b[i]? = some x) : Stm.cnts (b.take (i + 1)) = Stm.cnts (b.take i) + x.cnt := by
  rw [take_succ_get h, Stm.cnts_app]
  simp [Stm.cnts]
mutual
theorem Stm.rb_ok {g : Nat} (hc : ∀ n x, Stm.ok g n x → Stm.oks g n (ch x) ∧ Stm.cnts (ch x) ≤ x.cnt + 1) : ∀ {n p : Nat} {x : Stm}, x.ok g n → Stm.oks g n (Stm.rb ch P p x) ∧ Stm.cnts (Stm.rb ch P p x) ≤ 2 * x.cnt
  | n, p, .ife t a b, h => by
    have h0 := h
    unfold Stm.ok at h0
    obtain ⟨a1, a2⟩ := Stm.rbs_ok hc (n := n - 1) (p := p + 1) (xs := a) h0.2.2.1
    obtain ⟨b1, b2⟩ := Stm.rbs_ok hc (n := n - 1) (p := p + 1 + Stm.cnts a) (xs := b) h0.2.2.2
    unfold Stm.rb
    refine ⟨⟨?_, trivial⟩, ?_⟩
    · unfold Stm.ok
      exact ⟨h0.1, h0.2.1, a1, b1⟩
    · simp only [Stm.cnts, Stm.cnt]
      omega
  | n, p, .rep k b, h => by
    have h0 := h
    unfold Stm.ok at h0
    obtain ⟨b1, b2⟩ := Stm.rbs_ok hc (n := n - 1) (p := p + 1) (xs := b) h0.2.2
    unfold Stm.rb
    refine ⟨⟨?_, trivial⟩, ?_⟩
    · unfold Stm.ok
      exact ⟨h0.1, h0.2.1, b1⟩
    · simp only [Stm.cnts, Stm.cnt]
      omega
  | n, p, .make y, h => by
    obtain ⟨c1, c2⟩ := hc n _ h
    simp only [Stm.rb]; split
    · exact ⟨c1, by simp only [Stm.cnt] at c2 ⊢; omega⟩
    · exact ⟨⟨h, trivial⟩, by simp [Stm.cnts, Stm.cnt]⟩
  | n, p, .wish y z, h => by
    obtain ⟨c1, c2⟩ := hc n _ h
    simp only [Stm.rb]; split
    · exact ⟨c1, by simp only [Stm.cnt] at c2 ⊢; omega⟩
    · exact ⟨⟨h, trivial⟩, by simp [Stm.cnts, Stm.cnt]⟩
  | n, p, .keep y, h => by
    obtain ⟨c1, c2⟩ := hc n _ h
    simp only [Stm.rb]; split
    · exact ⟨c1, by simp only [Stm.cnt] at c2 ⊢; omega⟩
    · exact ⟨⟨h, trivial⟩, by simp [Stm.cnts, Stm.cnt]⟩
  | n, p, .name y z, h => by
    obtain ⟨c1, c2⟩ := hc n _ h
    simp only [Stm.rb]; split
    · exact ⟨c1, by simp only [Stm.cnt] at c2 ⊢; omega⟩
    · exact ⟨⟨h, trivial⟩, by simp [Stm.cnts, Stm.cnt]⟩
  | n, p, .drop y, h => by
    obtain ⟨c1, c2⟩ := hc n _ h
    simp only [Stm.rb]; split
    · exact ⟨c1, by simp only [Stm.cnt] at c2 ⊢; omega⟩
    · exact ⟨⟨h, trivial⟩, by simp [Stm.cnts, Stm.cnt]⟩
  | n, p, .hold y f z, h => by
    obtain ⟨c1, c2⟩ := hc n _ h
    simp only [Stm.rb]; split
    · exact ⟨c1, by simp only [Stm.cnt] at c2 ⊢; omega⟩
    · exact ⟨⟨h, trivial⟩, by simp [Stm.cnts, Stm.cnt]⟩
  | n, p, .weak y f z, h => by
    obtain ⟨c1, c2⟩ := hc n _ h
    simp only [Stm.rb]; split
    · exact ⟨c1, by simp only [Stm.cnt] at c2 ⊢; omega⟩
    · exact ⟨⟨h, trivial⟩, by simp [Stm.cnts, Stm.cnt]⟩
  | n, p, .cut y f, h => by
    obtain ⟨c1, c2⟩ := hc n _ h
    simp only [Stm.rb]; split
    · exact ⟨c1, by simp only [Stm.cnt] at c2 ⊢; omega⟩
    · exact ⟨⟨h, trivial⟩, by simp [Stm.cnts, Stm.cnt]⟩
  | n, p, .take y f z, h => by
    obtain ⟨c1, c2⟩ := hc n _ h
    simp only [Stm.rb]; split
    · exact ⟨c1, by simp only [Stm.cnt] at c2 ⊢; omega⟩
    · exact ⟨⟨h, trivial⟩, by simp [Stm.cnts, Stm.cnt]⟩
  | n, p, .say y, h => by
    obtain ⟨c1, c2⟩ := hc n _ h
    simp only [Stm.rb]; split
    · exact ⟨c1, by simp only [Stm.cnt] at c2 ⊢; omega⟩
    · exact ⟨⟨h, trivial⟩, by simp [Stm.cnts, Stm.cnt]⟩
  | n, p, .ask t, h => by
    obtain ⟨c1, c2⟩ := hc n _ h
    simp only [Stm.rb]; split
    · exact ⟨c1, by simp only [Stm.cnt] at c2 ⊢; omega⟩
    · exact ⟨⟨h, trivial⟩, by simp [Stm.cnts, Stm.cnt]⟩
theorem Stm.rbs_ok {g : Nat} (hc : ∀ n x, Stm.ok g n x → Stm.oks g n (ch x) ∧ Stm.cnts (ch x) ≤ x.cnt + 1) : ∀ {n p : Nat} {xs : List Stm}, Stm.oks g n xs → Stm.oks g n (Stm.rbs ch P p xs) ∧ Stm.cnts (Stm.rbs ch P p xs) ≤ 2 * Stm.cnts xs
  | n, p, [], _ => ⟨trivial, by simp [Stm.rbs, Stm.cnts]⟩
  | n, p, x :: xs, h => by
    obtain ⟨a1, a2⟩ := Stm.rb_ok hc (n := n) (p := p) (x := x) h.1
    obtain ⟨b1, b2⟩ := Stm.rbs_ok hc (n := n) (p := p + x.cnt) (xs := xs) h.2
    unfold Stm.rbs
    exact ⟨Stm.oks_app.mpr ⟨a1, b1⟩, by rw [Stm.cnts_app]; simp only [Stm.cnts]; omega⟩
end
mutual
theorem Stm.noP_of : ∀ {d p : Nat} {x : Stm}, (∀ i q, (Stm.flat d x)[i]? = some q → ((p + i : Nat) : Int) ∈ P → q.2.ins = []) → Stm.noP P p x
  | d, p, .ife t a b, h => by
    unfold Stm.noP
    refine ⟨fun hp => ?_, Stm.nosP_of (d := d + 1) fun i q hq hp => ?_, Stm.nosP_of (d := d + 1) fun i q hq hp => ?_⟩
    · have := h 0 (d, .ife t a b) (by simp [Stm.flat]) (by simpa using hp)
      simp [Stm.ins] at this
    · refine h (i + 1) q ?_ (by rw [show p + (i + 1) = p + 1 + i by omega]; exact hp)
      have hi := (List.getElem?_eq_some_iff.mp hq).1
      simp only [Stm.flat, List.getElem?_cons_succ]
      rw [List.getElem?_append_left hi]
      exact hq
    · refine h (1 + Stm.cnts a + i) q ?_ (by rw [show p + (1 + Stm.cnts a + i) = p + 1 + Stm.cnts a + i by omega]; exact hp)
      have e : 1 + Stm.cnts a + i = (Stm.cnts a + i) + 1 := by omega
      have l := Stm.flats_len (d + 1) a
      rw [e]
      simp only [Stm.flat, List.getElem?_cons_succ]
      rw [List.getElem?_append_right (by omega), l]
      simpa using hq
  | d, p, .rep k b, h => by
    unfold Stm.noP
    refine ⟨fun hp => ?_, Stm.nosP_of (d := d + 1) fun i q hq hp => ?_⟩
    · have := h 0 (d, .rep k b) (by simp [Stm.flat]) (by simpa using hp)
      simp [Stm.ins] at this
    · refine h (i + 1) q ?_ (by rw [show p + (i + 1) = p + 1 + i by omega]; exact hp)
      simp only [Stm.flat, List.getElem?_cons_succ]
      exact hq
  | d, p, .make x, _ => by unfold Stm.noP; trivial
  | d, p, .wish x w, _ => by unfold Stm.noP; trivial
  | d, p, .keep x, _ => by unfold Stm.noP; trivial
  | d, p, .name x w, _ => by unfold Stm.noP; trivial
  | d, p, .drop x, _ => by unfold Stm.noP; trivial
  | d, p, .hold x f y, _ => by unfold Stm.noP; trivial
  | d, p, .weak x f y, _ => by unfold Stm.noP; trivial
  | d, p, .cut x f, _ => by unfold Stm.noP; trivial
  | d, p, .take z x f, _ => by unfold Stm.noP; trivial
  | d, p, .say w, _ => by unfold Stm.noP; trivial
  | d, p, .ask t, _ => by unfold Stm.noP; trivial
theorem Stm.nosP_of : ∀ {d p : Nat} {b : List Stm}, (∀ i q, (Stm.flats d b)[i]? = some q → ((p + i : Nat) : Int) ∈ P → q.2.ins = []) → Stm.nosP P p b
  | d, p, [], _ => by unfold Stm.nosP; trivial
  | d, p, x :: b, h => by
    unfold Stm.nosP
    have l := Stm.flat_len d x
    refine ⟨Stm.noP_of (d := d) fun i q hq hp => h i q ?_ hp, Stm.nosP_of (d := d) fun i q hq hp => h (x.cnt + i) q ?_ (by rw [← Nat.add_assoc]; exact hp)⟩
    · simp only [Stm.flats]
      rw [List.getElem?_append_left (List.getElem?_eq_some_iff.mp hq).1]
      exact hq
    · simp only [Stm.flats]
      rw [List.getElem?_append_right (by omega), l]
      simpa using hq
end
end
/-- a leaf statement changed -/
theorem Stm.rb_leaf {ch : Stm → List Stm} {P : List Int} {p : Nat} {x : Stm} (h : x.ins = []) : Stm.rb ch P p x = if ((p : Nat) : Int) ∈ P then ch x else [x] := by
  cases x <;> first | rfl | simp [Stm.ins] at h
end Sm

/-! S39: range(a, b), len of own objects; small helpers -/
namespace Sm
open PySem L2
section
variable {s : Sto} {lo : Lo} {QV : Vl → Sto → Prop} {QA : List Vl → Sto → Prop} {E : Ex → Sto → Prop}
def rng2W (xs : List Vl) (s : Sto) (QA : List Vl → Sto → Prop) : Prop := match xs with
  | [.int i, .int j] => (-(2 ^ 62) ≤ i ∧ i < 2 ^ 62 ∧ -(2 ^ 62) ≤ j ∧ j < 2 ^ 62) ∧ QA (rng i (j - i).toNat) s
  | _ => False
@[simp ↓] theorem WE_aRng2 {a : AM} : WE (aRng2 a lo) s QA E = WE (a lo) s (fun xs s => rng2W xs s QA) E := by
  unfold aRng2
  rw [WE_bnd]
  refine WE_ext fun xs s => ?_
  unfold rng2W
  split
  · rename_i i j
    by_cases h : -(2 ^ 62) ≤ i ∧ i < 2 ^ 62 ∧ -(2 ^ 62) ≤ j ∧ j < 2 ^ 62
    · rw [if_pos h]; simp only [h, and_self, true_and, WE_ret]
    · rw [if_neg h, WE_fail]
      exact (propext ⟨fun z => z.elim, fun z => absurd z.1 h⟩)
  · simp only [WE_eq]; rfl
theorem rng2W_int {i j : Int} (h1 : -1000000 ≤ i) (h2 : i ≤ 1000000) (h3 : -1000000 ≤ j) (h4 : j ≤ 1000000) : rng2W [.int i, .int j] s QA = QA (rng i (j - i).toNat) s := by
  unfold rng2W
  exact propext ⟨fun z => z.2, fun z => ⟨⟨by omega, by omega, by omega, by omega⟩, z⟩⟩
theorem WE_eLenO {tab : MTab} {o : EM} : WE (eLenO tab o lo) s QV E = WE (o lo) s (fun x s => match x with | .ref j => (match s[j]? with | some (.ins c fs) => (match tab c with | some mf => WE (mf [.ref j]) s (fun v s' => match v with | .int n => (0 ≤ n ∧ n < 2 ^ 62) ∧ QV (.int n) s' | _ => False) E | none => False) | _ => False) | _ => False) E := by
  unfold eLenO
  rw [WE_bnd]
  refine WE_ext fun x s => ?_
  cases x <;> try (simp only [WE_eq]; rfl)
  rename_i j
  simp only [WE_eq]
  unfold WE0
  dsimp only
  cases h : s[j]? with
  | none => rfl
  | some ob =>
    cases ob <;> try rfl
    rename_i c fs
    dsimp only
    cases h1 : tab c with
    | none => rfl
    | some mf =>
      dsimp only
      cases h2 : mf [.ref j] s with
      | fail => rfl
      | exc e s' => rfl
      | ok v s' =>
        cases v <;> try rfl
        rename_i n
        dsimp only
        by_cases q : 0 ≤ n ∧ n < 2 ^ 62
        · rw [if_pos q]; exact propext ⟨fun z => ⟨q, z⟩, fun z => z.2⟩
        · rw [if_neg q]; exact propext ⟨fun z => z.elim, fun z => q z.1⟩
end
theorem rng_get2 {a : Int} {n i : Nat} {v : Vl} (h : (rng a n)[i]? = some v) : i < n ∧ v = .int (a + (i : Nat)) := by
  have h1 := (List.getElem?_eq_some_iff.mp h).1
  have h2 : i < n := by simpa [rng] using h1
  refine ⟨h2, ?_⟩
  simp [rng, h2] at h
  exact h.symm
@[simp] theorem rng_len2 {a : Int} {n : Nat} : (rng a n).length = n := by simp [rng]
theorem rep_flat {α : Type} {x : α} {n : Nat} : (List.replicate n [x]).flatten = List.replicate n x := by
  induction n with
  | zero => rfl
  | succ n ih => rw [List.replicate_succ, List.flatten_cons, ih]; rfl
theorem opMul_one {s : Sto} {a : Nat} {x : Vl} {n : Nat} (h1 : s[a]? = some (.lst [x])) (hn : n ≤ 100000) : opMul (.ref a) (.int (n : Nat)) s = some (.ref s.length, s ++ [.lst (List.replicate n x)]) := by
  have := opMul_lst (i := (n : Nat)) h1 ⟨by omega, by omega, limB (by simp; omega)⟩
  rw [this]
  have e : ((n : Nat) : Int).toNat = n := by omega
  rw [e, rep_flat]
end Sm

/-! S47: how raise, try, super, written dicts, keywords are computed -/
namespace Sm
open PySem L2
section
variable {s : Sto} {lo : Lo} {QV : Vl → Sto → Prop} {E : Ex → Sto → Prop} {K : RK}
@[simp ↓] theorem WS_sRaise {c : Nat} {f : Str} {e : EM} : WS (sRaise c f e) lo s K = WE (e lo) s (fun v s => K.ex ⟨c, some [(f, v)]⟩ lo s) (fun x s => K.ex x lo s) := by unfold sRaise; rw [WS_bndS]
def tryK (hit : Nat → Option Bool) (i : Nat) (su : Ex → SM) (K : RK) (e : Ex) (lo : Lo) (s : Sto) : Prop := match hit e.c with
  | some true => match e.fs with
    | some _ => WS (su e) (lo.set i none) s ⟨fun lo s => K.nx (lo.set i none) s, K.rt, fun lo s => K.bk (lo.set i none) s, fun lo s => K.ct (lo.set i none) s, fun _ _ _ => False⟩
    | none => False
  | some false => K.ex e lo s
  | none => False
@[simp ↓] theorem WS_sTryAs {hit : Nat → Option Bool} {i : Nat} {b : SM} {su : Ex → SM} : WS (sTryAs hit i b su) lo s K = WS b lo s ⟨K.nx, K.rt, K.bk, K.ct, tryK hit i su K⟩ := by
  simp only [WS_eq]
  unfold WS0 sTryAs
  cases b lo s with
  | exc e lo' s' =>
    simp only [tryK, WS_eq, WS0]
    cases hit e.c with
    | none => rfl
    | some t =>
      cases t with
      | false => rfl
      | true =>
        cases e.fs with
        | none => rfl
        | some fs => cases su e (lo'.set i none) s' <;> rfl
  | _ => rfl
@[simp ↓] theorem WE_eXf {i : Nat} {e : Ex} {f : Str} : WE (eXf i e f lo) s QV E = (match lo[i]?, e.fs with
  | some none, some fs => (match getS fs f with | some v => QV v s | none => False)
  | _, _ => False) := by
  simp only [WE_eq]
  unfold WE0 eXf
  cases lo[i]? with
  | none => rfl
  | some o =>
    cases o with
    | some v => rfl
    | none =>
      cases e.fs with
      | none => rfl
      | some fs =>
        simp only
        cases getS fs f <;> rfl
theorem WE_eSup {tab : MTab} {a : AM} {j c : Nat} {fs : List (Str × Vl)} {mf : List Vl → M Vl} (h0 : lo[0]? = some (some (.ref j))) (hj : s[j]? = some (.ins c fs)) (ht : tab c = some mf) : WE (eSup tab a lo) s QV E = WE (a lo) s (fun as s => WE (mf (.ref j :: as)) s QV E) E := by
  have key : WE (a lo) s (fun as s => WE (mf (.ref j :: as)) s QV E) E = WE (bnd (a lo) (fun as => mf (.ref j :: as))) s QV E := by rw [WE_bnd]
  rw [key]
  simp only [WE_eq]
  unfold WE0 eSup
  simp only [h0, hj, ht]
@[simp ↓] theorem WE_eKix {tbl : List (Str × Vl)} {e : EM} : WE (eKix tbl e lo) s QV E = WE (e lo) s (fun v s => match v with
  | .str z => (match getS tbl z with | some u => QV u s | none => False)
  | _ => False) E := by
  unfold eKix
  rw [WE_bnd]
  refine WE_ext fun v s => ?_
  simp only [WE_eq]
  unfold WE0
  cases v <;> try rfl
  rename_i z
  simp only
  cases getS tbl z <;> rfl
theorem WE_eCallF {i j : Nat} {tab : MTab} {a : AM} {mf : List Vl → M Vl} (h : lo[i]? = some (some (.fn j))) (ht : tab j = some mf) : WE (eCallF i tab a lo) s QV E = WE (a lo) s (fun as s => WE (mf as) s QV E) E := by
  rw [← WE_bnd]
  simp only [WE_eq]
  unfold WE0 eCallF
  simp only [h, ht]
@[simp ↓] theorem WE_eCallK {n m : Nat} {das : List Vl} {mf : List Vl → M Vl} {a k : AM} : WE (eCallK n das m mf a k lo) s QV E = WE (a lo) s (fun as s => WE (k lo) s (fun zs s => if as.length = n ∧ zs.length = m then WE (mf (as ++ das ++ zs)) s QV E else False) E) E := by
  unfold eCallK
  rw [WE_bnd]
  refine WE_ext fun as s => ?_
  rw [WE_bnd]
  refine WE_ext fun zs s => ?_
  by_cases h : as.length = n ∧ zs.length = m
  · simp only [WE_eq, WE0, if_pos h]
  · simp only [WE_eq, WE0, if_neg h]
end
end Sm

/-! FX: programs rebuilt by a fix -/
namespace K79
open PySem L2 Sm
/-- what a fix of the class c makes of a statement -/
structure ChOk (c : Nat) (ch : Stm → List Stm) (mc : List Vl → M Vl) : Prop where
  tab : tab_changed c = some mc
  run : ∀ {o : Vl} {x : Stm} {s : Sto} {Q : Vl → Sto → Prop} {E : Ex → Sto → Prop}, Q (blk (ch x)) s → WE (mc [o, x.vl]) s Q E
  ok : ∀ g n x, Stm.ok g n x → Stm.oks g n (ch x) ∧ Stm.cnts (ch x) ≤ x.cnt + 1
  reb : tab_rebuilt c = some m_Fix_rebuilt
  rebR : ∀ R, tabR1_rebuilt R c = some (R 0)
theorem kept_ok {g n : Nat} {x : Stm} (h : x.ok g n) : Stm.oks g n (kept x) ∧ Stm.cnts (kept x) ≤ x.cnt + 1 := by
  cases x
  case make y => unfold Stm.ok at h; exact ⟨⟨by unfold Stm.ok; exact h, by unfold Stm.ok; exact h, trivial⟩, by simp [kept, Stm.cnts, Stm.cnt]⟩
  all_goals exact ⟨⟨h, trivial⟩, by simp [kept, Stm.cnts]⟩
theorem strong_ok {g n : Nat} {x : Stm} (h : x.ok g n) : Stm.oks g n (strong x) ∧ Stm.cnts (strong x) ≤ x.cnt + 1 := by
  cases x
  case weak x f y => unfold Stm.ok at h; exact ⟨⟨by unfold Stm.ok; exact h, trivial⟩, by simp [strong, Stm.cnts, Stm.cnt]⟩
  all_goals exact ⟨⟨h, trivial⟩, by simp [strong, Stm.cnts]⟩
theorem ch_keeps : ChOk 4 kept m_Keeps_changed := ⟨rfl, fun k => keeps _ k, fun _ _ _ h => kept_ok h, rfl, fun _ => rfl⟩
theorem ch_strongs : ChOk 5 strong m_Strongs_changed := ⟨rfl, fun k => strongs _ k, fun _ _ _ h => strong_ok h, rfl, fun _ => rfl⟩
theorem ch_fix : ChOk 3 (fun x => [x]) m_Fix_changed := ⟨rfl, fun k => fixes _ k, fun _ _ _ h => ⟨⟨h, trivial⟩, by simp [Stm.cnts]⟩, rfl, fun _ => rfl⟩
theorem cnts_len : ∀ ys : List Stm, ys.length ≤ Stm.cnts ys
  | [] => Nat.zero_le _
  | y :: ys => by
    have := cnts_len ys
    have : 1 ≤ y.cnt := by cases y <;> unfold Stm.cnt <;> omega
    simp only [List.length_cons, Stm.cnts]
    omega
def partB (R : Nat → List Vl → M Vl) : SM := (sSeq (sExpr (eBm .list oAppend (eVar 7) (aCons (eMeth "rebuilt" (tabA 3 (tabR1_rebuilt R)) (eVar 0) (aCons (eVar 8) (aCons (eVar 2) (aCons (eVar 3) aNil)))) aNil)))
  (sAug 2 opIAdd (eCB oLen (aCons (eCall (arg 2 m_listed) (aCons (eVar 8) (aCons (eC (.int 0)) aNil))) aNil))))
def chgE : EM := (eIfM (tVal (eOp opIn (eVar 6) (eVar 3))) (eMeth "changed" (tabA 1 tab_changed) (eVar 0) (aCons (eVar 5) aNil)) (eCB oTup (aCons (eVar 5) aNil)))
def RebS (mf : List Vl → M Vl) (M : Nat) : Prop := ∀ (s : Sto) (b : List Stm) (n g p o c : Nat) (ch : Stm → List Stm) (mc : List Vl → Sm.M Vl) (P : List Int) (Q : Vl → Sto → Prop) (E : Ex → Sto → Prop), n < M → n ≤ 12 → Stm.oks g n b → Stm.cnts b ≤ 1000 → Stm.nosP P p b → ChOk c ch mc → s[o]? = some (.ins c []) →
  (∀ s', Fr [] s s' → Q (blk (Stm.rbs ch P p b)) s') → WE (mf [.ref o, blk b, .int (p : Nat), .tup (P.map Vl.int)]) s Q E
def FXI (s : Sto) (b : List Stm) (p o : Nat) (ch : Stm → List Stm) (P : List Int) (i : Nat) (lo : Lo) (s' : Sto) : Prop := ∃ x5 x6 x7 x8 : Option Vl, lo = [some (.ref o), some (blk b), some (.int ((p + Stm.cnts (b.take i) : Nat) : Int)), some (.tup (P.map Vl.int)), some (.ref s.length), x5, x6, x7, x8] ∧ s'[s.length]? = some (.lst (Stm.vls (Stm.rbs ch P p (b.take i)))) ∧ Fr [] s s'
theorem rebuiltS : ∀ M : Nat, M ≤ 1000 → RebS (R1 M 0) M
  | 0, _ => fun s b n g p o c ch mc P Q E hn => by omega
  | M + 1, hM => fun s b n g p o c ch mc P Q E hn h12 ob hb hP hC ho k => by
    have ih := rebuiltS M (by omega)
    show WE (fnM 9 (b_Fix_rebuilt (R1 M)) _) _ _ _
    unfold b_Fix_rebuilt
    have part : ∀ {sA : Sto} {b' : List Stm} {q r : Nat} {L : List Vl} {x1 x4 x5 x6 : Option Vl} {KK : RK}, Stm.oks g (n - 1) b' → n - 1 < M → Stm.cnts b' ≤ 1000 → L.length ≤ 1000 → Stm.nosP P q b' → Fr [] s sA → r ≠ s.length → s.length ≤ r → sA[r]? = some (.lst L) →
        (∀ sB, Fr [] s sB → sB[r]? = some (.lst (L ++ [blk (Stm.rbs ch P q b')])) → (∀ i o, i ≠ r → sA[i]? = some o → sB[i]? = some o) → KK.nx [some (.ref o), x1, some (.int ((q + Stm.cnts b' : Nat) : Int)), some (.tup (P.map Vl.int)), x4, x5, x6, some (.ref r), some (blk b')] sB) →
        WS (partB (R1 M)) [some (.ref o), x1, some (.int (q : Nat)), some (.tup (P.map Vl.int)), x4, x5, x6, some (.ref r), some (blk b')] sA KK := by
      intro sA b' q r L x1 x4 x5 x6 KK ob' hn' hb' hL hP' fA hr hr2 eA kk
      have eo := fA.at ho (by simp)
      unfold partB
      simp [kd_lst eA, WE_eMeth]
      rw [methW_ins (m := "rebuilt") (tab := tabA 3 (tabR1_rebuilt (R1 M))) (mf := arg 4 (R1 M 0)) eo (by unfold tabA; rw [hC.rebR]; rfl) rfl]
      simp
      refine ih sA b' (n - 1) g q o c ch mc P _ _ hn' (by omega) ob' hb' hP' hC eo fun s1 f1 => ?_
      have e1 := f1.at eA (by simp)
      simp only [WE_aNil, oAppend_lst e1 (limC (by omega)), WO_some]
      have f2 : Fr [] s (s1.set r (.lst (L ++ [blk (Stm.rbs ch P q b')]))) := (fA.trans f1).set (Or.inr hr2)
      have e2 : (s1.set r (.lst (L ++ [blk (Stm.rbs ch P q b')])))[r]? = some (.lst (L ++ [blk (Stm.rbs ch P q b')])) := get_set_self e1
      have o2 : ∀ i u, i ≠ r → sA[i]? = some u → (s1.set r (.lst (L ++ [blk (Stm.rbs ch P q b')])))[i]? = some u := fun i u hi h => by rw [get_set_ne (Ne.symm hi)]; exact f1.at h (by simp)
      generalize s1.set r (.lst (L ++ [blk (Stm.rbs ch P q b')])) = s2 at f2 e2 o2
      simp
      refine listedS 12 (by omega) s2 b' (n - 1) 0 g _ _ (by omega) ob' hb' (by omega) fun rl s3 hrl el fl => ?_
      have l3 : ((Stm.flats 0 b').map rowD).length = Stm.cnts b' := by rw [List.length_map, Stm.flats_len]
      simp only [WE_aNil, oLen_lst el, WO_some, opIAdd_int]
      rw [l3]
      have := kk s3 (f2.trans fl) (fl.at e2 (by simp)) (fun i u hi h => fl.at (o2 i u hi h) (by simp))
      simpa using this
    have chg : ∀ {sA : Sto} {x : Stm} {q : Nat} {x1 x2 x4 x7 x8 : Option Vl} {Q : Vl → Sto → Prop} {E : Ex → Sto → Prop}, Fr [] s sA → Q (if ((q : Nat) : Int) ∈ P then blk (ch x) else blk [x]) sA →
        WE (chgE [some (.ref o), x1, x2, some (.tup (P.map Vl.int)), x4, some x.vl, some (.int (q : Nat)), x7, x8]) sA Q E := by
      intro sA x q x1 x2 x4 x7 x8 Q E fA kk
      have eo := fA.at ho (by simp)
      have bx : blk [x] = .tup [x.vl] := by simp [blk, Stm.vls]
      unfold chgE
      by_cases h : ((q : Nat) : Int) ∈ P
      · simp [h, WE_eMeth] at kk ⊢
        rw [methW_ins (m := "changed") (tab := tabA 1 tab_changed) (mf := arg 2 mc) eo (by unfold tabA; rw [hC.tab]; rfl) rfl]
        simp
        exact hC.run kk
      · simp [h, bx] at kk ⊢
        exact kk
    generalize hB : (sSeq (sExpr (eBm .list oAppend (eVar 7) (aCons (eMeth "rebuilt" (tabA 3 (tabR1_rebuilt (R1 M))) (eVar 0) (aCons (eVar 8) (aCons (eVar 2) (aCons (eVar 3) aNil)))) aNil)))
      (sAug 2 opIAdd (eCB oLen (aCons (eCall (arg 2 m_listed) (aCons (eVar 8) (aCons (eC (.int 0)) aNil))) aNil)))) = pB
    have hB' : partB (R1 M) = pB := hB
    rw [hB'] at part
    generalize hE : (eIfM (tVal (eOp opIn (eVar 6) (eVar 3))) (eMeth "changed" (tabA 1 tab_changed) (eVar 0) (aCons (eVar 5) aNil)) (eCB oTup (aCons (eVar 5) aNil))) = cE
    have hE' : chgE = cE := hE
    rw [hE'] at chg
    clear hB hE hB' hE'
    generalize hF : (sExpr (eBm .list oExtend (eVar 4) (aCons cE aNil))) = fS
    simp
    show match blk b with | .tup xs => _ | _ => False
    simp only [blk]
    refine loopX_inv (FXI s b p o ch P) ?_ ?_ ?_
    · exact ⟨none, none, none, none, by simp [Stm.cnts, blk], by simp [Stm.rbs, Stm.vls], Fr.refl.push _⟩
    · rintro i v lo s1 hv ⟨x5, x6, x7, x8, rfl, e1, f1⟩
      obtain ⟨x, hx, rfl⟩ := vls_get hv
      have hxm := List.mem_of_getElem? hx
      have okx := Stm.oks_mem ob x hxm
      have cx := Stm.cnts_mem x hxm
      have ct := Stm.cnts_take (b := b) (i := i)
      have ck := Stm.cnts_tk hx
      have cs := Stm.cnts_take (b := b) (i := i + 1)
      have nx := Stm.nosP_get hP hx
      have rt := Stm.rbs_take (ch := ch) (P := P) (p := p) hx
      have obT : Stm.oks g n (b.take i) := by
        have := ob
        rw [← List.take_append_drop i b] at this
        exact (Stm.oks_app.mp this).1
      obtain ⟨ro1, ro2⟩ := Stm.rbs_ok (ch := ch) (P := P) (fun n x h => hC.ok g n x h) (p := p) obT
      have hl : (Stm.vls (Stm.rbs ch P p (b.take i))).length ≤ 2000 := by
        rw [vls_len]
        have := cnts_len (Stm.rbs ch P p (b.take i))
        omega
      generalize hq : p + Stm.cnts (b.take i) = q at nx rt
      have eq2 : p + Stm.cnts (b.take (i + 1)) = q + x.cnt := by omega
      simp
      have f2 : Fr [] s (s1 ++ [Ob.lst []]) := f1.push _
      have e2 : (s1 ++ [Ob.lst []])[s.length]? = some (.lst (Stm.vls (Stm.rbs ch P p (b.take i)))) := get_push e1
      have e2r : (s1 ++ [Ob.lst []])[s1.length]? = some (.lst []) := get_last
      have hr : s1.length ≠ s.length := by have := lt_of_get e1; omega
      have hr2 : s.length ≤ s1.length := f1.le
      generalize s1 ++ [Ob.lst []] = s2 at f2 e2 e2r
      generalize s1.length = r at e2r hr hr2
      refine inner x ?_
      have fin : ∀ {s3 : Sto} {y : Stm} {q' : Nat} {x7 x8 : Option Vl} {KK : RK}, Fr [] s s3 → s3[s.length]? = some (.lst (Stm.vls (Stm.rbs ch P p (b.take i)))) → q' = q + x.cnt → (if ((q : Nat) : Int) ∈ P then blk (ch y) else blk [y]) = blk (Stm.rb ch P q x) → (∀ lo s', FXI s b p o ch P (i + 1) lo s' → KK.nx lo s') →
          WS fS [some (.ref o), some (blk b), some (.int (q' : Nat)), some (.tup (P.map Vl.int)), some (.ref s.length), some y.vl, some (.int (q : Nat)), x7, x8] s3 KK := by
        intro s3 y q' x7 x8 KK f3 e3 hq' hy kk
        subst hq'
        rw [← hF]
        simp [kd_lst e3]
        refine chg f3 ?_
        rw [hy]
        obtain ⟨rx1, rx2⟩ := Stm.rb_ok (ch := ch) (P := P) (fun n x h => hC.ok g n x h) (p := q) okx
        have hl2 : (Stm.vls (Stm.rb ch P q x)).length ≤ 2000 := by
          rw [vls_len]
          have := cnts_len (Stm.rb ch P q x)
          omega
        have hadd : (Stm.vls (Stm.rbs ch P p (b.take i))).length + (Stm.vls (Stm.rb ch P q x)).length ≤ LIM := limB (by omega)
        simp only [blk, WE_aNil, oExtend_tup e3 hadd, WO_some]
        refine kk _ _ ⟨some y.vl, some (.int (q : Nat)), x7, x8, by rw [eq2]; rfl, ?_, f3.set (Or.inr (Nat.le_refl _))⟩
        rw [get_set_self e3, rt, Stm.vls_map, Stm.vls_map, Stm.vls_map, List.map_append]
      by_cases hi : x.ins = []
      · have c1 : x.cnt = 1 := by rw [Stm.cnt_ins, hi]; rfl
        simp only [hi, List.map_nil]
        rw [WS_loopX_nil]
        simp [opNe_lst0 (get_push e2r) get_last (by simp : ∀ x ∈ ([] : List Vl), La 1 x) (by omega)]
        have ec : ((q : Nat) : Int) + 1 = ((q + x.cnt : Nat) : Int) := by omega
        rw [ec]
        exact fin (f2.push (.lst [])) (get_push e2) rfl (by rw [Stm.rb_leaf hi]; split <;> rfl) fun _ _ h => h
      · cases x <;> try (exact absurd rfl hi)
        case ife t a b2 =>
          have hN := nx
          unfold Stm.noP at hN
          have hO := okx
          unfold Stm.ok at hO
          have hcnt : Stm.cnt (.ife t a b2) = 1 + Stm.cnts a + Stm.cnts b2 := by simp [Stm.cnt]
          simp only [Stm.ins, List.map_cons, List.map_nil]
          rw [WS_loopX_cons]
          simp
          have eq1 : ((q : Nat) : Int) + 1 = ((q + 1 : Nat) : Int) := by omega
          rw [eq1]
          refine part hO.2.2.1 (by omega) (by omega) (by simp) hN.2.1 f2 hr hr2 e2r fun s3 f3 e3 o3 => ?_
          simp only [List.nil_append] at e3
          dsimp only
          rw [WS_loopX_cons]
          simp
          refine part hO.2.2.2 (by omega) (by omega) (by simp) hN.2.2 f3 hr hr2 e3 fun s4 f4 e4 o4 => ?_
          have e4s := o4 _ _ (Ne.symm hr) (o3 _ _ (Ne.symm hr) e2)
          dsimp only
          rw [WS_loopX_nil]
          obtain ⟨ra1, ra2⟩ := Stm.rbs_ok (ch := ch) (P := P) (fun n x h => hC.ok g n x h) (p := q + 1) hO.2.2.1
          obtain ⟨rb1, rb2⟩ := Stm.rbs_ok (ch := ch) (P := P) (fun n x h => hC.ok g n x h) (p := q + 1 + Stm.cnts a) hO.2.2.2
          have hLa : ∀ v ∈ [blk (Stm.rbs ch P (q + 1) a), blk (Stm.rbs ch P (q + 1 + Stm.cnts a) b2)], La 36 v := by
            intro v hv
            simp at hv
            rcases hv with rfl | rfl
            · exact (Stm.las ra1).mono (by omega)
            · exact (Stm.las rb1).mono (by omega)
          simp [opNe_lst0 (get_push e4) get_last hLa (by omega)]
          have hv1 : (Stm.ife t a b2).vl = .tup [.str "if", t.vl, blk a, blk b2] := by simp [Stm.vl, blk]
          have c4 : cutL [Vl.str "if", t.vl, blk a, blk b2] none (some 2) = [.str "if", t.vl] := cutL_to (n := 2)
          rw [hv1]
          simp [c4, oTuple_lst (get_push e4)]
          have ec : ((q : Nat) : Int) + 1 + ((Stm.cnts a : Nat) : Int) + ((Stm.cnts b2 : Nat) : Int) = ((q + (Stm.ife t a b2).cnt : Nat) : Int) := by omega
          have ey : Vl.tup [.str "if", t.vl, blk (Stm.rbs ch P (q + 1) a), blk (Stm.rbs ch P (q + 1 + Stm.cnts a) b2)] = (Stm.ife t (Stm.rbs ch P (q + 1) a) (Stm.rbs ch P (q + 1 + Stm.cnts a) b2)).vl := by simp [Stm.vl, blk]
          rw [ec, ey]
          exact fin (f4.push (.lst [])) (get_push e4s) rfl (by rw [if_neg hN.1]; rfl) fun _ _ h => h
        case rep kk b2 =>
          have hN := nx
          unfold Stm.noP at hN
          have hO := okx
          unfold Stm.ok at hO
          have hcnt : Stm.cnt (.rep kk b2) = 1 + Stm.cnts b2 := by simp [Stm.cnt]
          simp only [Stm.ins, List.map_cons, List.map_nil]
          rw [WS_loopX_cons]
          simp
          have eq1 : ((q : Nat) : Int) + 1 = ((q + 1 : Nat) : Int) := by omega
          rw [eq1]
          refine part hO.2.2 (by omega) (by omega) (by simp) hN.2 f2 hr hr2 e2r fun s3 f3 e3 o3 => ?_
          simp only [List.nil_append] at e3
          dsimp only
          have e3s := o3 _ _ (Ne.symm hr) e2
          rw [WS_loopX_nil]
          obtain ⟨ra1, ra2⟩ := Stm.rbs_ok (ch := ch) (P := P) (fun n x h => hC.ok g n x h) (p := q + 1) hO.2.2
          have hLa : ∀ v ∈ [blk (Stm.rbs ch P (q + 1) b2)], La 36 v := by
            intro v hv
            simp at hv
            subst hv
            exact (Stm.las ra1).mono (by omega)
          simp [opNe_lst0 (get_push e3) get_last hLa (by omega)]
          have hv1 : (Stm.rep kk b2).vl = .tup [.str "repeat", .int (kk : Nat), blk b2] := by simp [Stm.vl, blk]
          have c4 : cutL [Vl.str "repeat", .int (kk : Nat), blk b2] none (some 2) = [.str "repeat", .int (kk : Nat)] := cutL_to (n := 2)
          rw [hv1]
          simp [c4, oTuple_lst (get_push e3)]
          have ec : ((q : Nat) : Int) + 1 + ((Stm.cnts b2 : Nat) : Int) = ((q + (Stm.rep kk b2).cnt : Nat) : Int) := by omega
          have ey : Vl.tup [.str "repeat", .int (kk : Nat), blk (Stm.rbs ch P (q + 1) b2)] = (Stm.rep kk (Stm.rbs ch P (q + 1) b2)).vl := by simp [Stm.vl, blk]
          rw [ec, ey]
          exact fin (f3.push (.lst [])) (get_push e3s) rfl (by rw [if_neg hN.1]; rfl) fun _ _ h => h
    · rintro lo s1 ⟨x5, x6, x7, x8, rfl, e1, f1⟩
      rw [vls_len, List.take_length] at e1
      simp [oTuple_lst e1]
      exact k s1 f1
end K79

/-! FX2: a fix applied -/
namespace K79
open PySem L2 Sm
/-- the places of a fix -/
structure PlOk (c : Nat) (pv : Vl) (kn : List Int) (mp : List Vl → M Vl) : Prop where
  tab : tab_places_of c = some mp
  run : ∀ {o : Vl} {s : Sto} {Q : Vl → Sto → Prop} {E : Ex → Sto → Prop}, (∀ s', Fr [] s s' → Q (.tup (kn.map Vl.int)) s') → WE (mp [o, pv]) s Q E
section
variable {s : Sto} {Q : Vl → Sto → Prop} {E : Ex → Sto → Prop} {o c g : Nat} {b : List Stm} {ch : Stm → List Stm} {mc mp : List Vl → M Vl} {kn P : List Int}
theorem appliedOk {n gg : Nat} (hC : ChOk c ch mc) (hp : PlOk c (progV g b) kn mp) (hk : ∀ x ∈ P, x ∈ kn) (h12 : n < 12) (ob : Stm.oks gg n b) (hb : Stm.cnts b ≤ 1000) (hN : Stm.nosP P 0 b) (ho : s[o]? = some (.ins c [])) (k : ∀ s', Fr [] s s' → Q (progV g (Stm.rbs ch P 0 b)) s') :
    WE (m_Fix_applied [.ref o, progV g b, .tup (P.map Vl.int)]) s Q E := by
  unfold m_Fix_applied b_Fix_applied
  simp [WE_eMeth]
  rw [methW_ins (m := "places_of") (tab := tabA 1 tab_places_of) (mf := arg 2 mp) ho (by unfold tabA; rw [hp.tab]; rfl) rfl]
  simp
  refine hp.run fun s1 f1 => ?_
  simp
  refine loopX_inv (fun i lo s' => ∃ x4 : Option Vl, lo = [some (.ref o), some (progV g b), some (.tup (P.map Vl.int)), some (.tup (kn.map Vl.int)), x4] ∧ s' = s1) ⟨none, rfl, rfl⟩ ?_ ?_
  · rintro i v lo s2 hv ⟨x4, rfl, rfl⟩
    obtain ⟨x, hx, rfl⟩ := get_map hv
    have hm := hk x (List.mem_of_getElem? hx)
    simp [hm]
  · rintro lo s2 ⟨x4, rfl, rfl⟩
    unfold progV
    have o1 := f1.at ho (by simp)
    simp [WE_eMeth]
    rw [methW_ins (m := "rebuilt") (tab := tabA 3 tab_rebuilt) (mf := arg 4 m_Fix_rebuilt) o1 (by unfold tabA; rw [hC.reb]; rfl) rfl]
    simp
    refine rebuiltS 12 (by omega) s2 b n gg 0 o c ch mc P _ _ (by omega) (by omega) ob hb hN hC o1 fun s3 f3 => ?_
    simp
    exact k s3 (f1.trans f3)
theorem appliedNo {w : Int} {P1 P2 : List Int} (hp : PlOk c (progV g b) kn mp) (e : P = P1 ++ w :: P2) (hk : ∀ x ∈ P1, x ∈ kn) (hw : w ∉ kn) (ho : s[o]? = some (.ins c [])) (k : ∀ s', Fr [] s s' → E ⟨1, some [("place", .int w)]⟩ s') :
    WE (m_Fix_applied [.ref o, progV g b, .tup (P.map Vl.int)]) s Q E := by
  unfold m_Fix_applied b_Fix_applied
  simp [WE_eMeth]
  rw [methW_ins (m := "places_of") (tab := tabA 1 tab_places_of) (mf := arg 2 mp) ho (by unfold tabA; rw [hp.tab]; rfl) rfl]
  simp
  refine hp.run fun s1 f1 => ?_
  simp
  refine loopX_inv (fun i lo s' => i ≤ P1.length ∧ ∃ x4 : Option Vl, lo = [some (.ref o), some (progV g b), some (.tup (P.map Vl.int)), some (.tup (kn.map Vl.int)), x4] ∧ s' = s1) ⟨Nat.zero_le _, none, rfl, rfl⟩ ?_ ?_
  · rintro i v lo s2 hv ⟨hi, x4, rfl, rfl⟩
    obtain ⟨x, hx, rfl⟩ := get_map hv
    rcases Nat.lt_or_ge i P1.length with q | q
    · rw [e, List.getElem?_append_left q] at hx
      have hm := hk x (List.mem_of_getElem? hx)
      simp [hm]
      omega
    · have : i = P1.length := by omega
      subst this
      rw [e, List.getElem?_append_right (Nat.le_refl _)] at hx
      simp at hx
      subst hx
      simp [hw]
      exact k _ f1
  · rintro lo s2 ⟨hi, x4, rfl, rfl⟩
    rw [List.length_map, e, List.length_append, List.length_cons] at hi
    omega
end
theorem pl_keeps {g gg n : Nat} {b : List Stm} (hn : n < 12) (ob : Stm.oks gg n b) (hb : Stm.cnts b ≤ 1000) : PlOk 4 (progV g b) (places "make" (Stm.flats 0 b)) m_Keeps_places_of := ⟨rfl, fun k => by
  unfold m_Keeps_places_of b_Keeps_places_of
  simp
  exact makeP hn ob hb k⟩
theorem pl_strongs {g gg n : Nat} {b : List Stm} (hn : n < 12) (ob : Stm.oks gg n b) (hb : Stm.cnts b ≤ 1000) : PlOk 5 (progV g b) (places "weak" (Stm.flats 0 b)) m_Strongs_places_of := ⟨rfl, fun k => by
  unfold m_Strongs_places_of b_Strongs_places_of
  simp
  exact weakP hn ob hb k⟩
theorem pl_fix {pv : Vl} : PlOk 3 pv [] m_Fix_places_of := ⟨rfl, fun k => by
  unfold m_Fix_places_of b_Fix_places_of
  simp
  exact k _ Fr.refl⟩
theorem nosP_places {w : Str} {b : List Stm} {P : List Int} (h1 : w ≠ "if") (h2 : w ≠ "repeat") (hP : ∀ x ∈ P, x ∈ places w (Stm.flats 0 b)) : Stm.nosP P 0 b := by
  refine Stm.nosP_of (d := 0) fun i q hq hp => ?_
  have h := hP _ hp
  unfold places at h
  obtain ⟨j, hj, e⟩ := List.mem_filterMap.mp h
  cases hv : (Stm.flats 0 b)[j]? with
  | none => rw [hv] at e; cases e
  | some v =>
    rw [hv] at e
    simp at e
    have : j = i := by omega
    subst this
    rw [hq] at hv
    cases hv
    have ew := e.1
    cases hh : q.2 <;> rw [hh] at ew <;> simp [Stm.ins] <;> simp [Stm.word] at ew <;> first | exact absurd ew.symm h1 | exact absurd ew.symm h2
end K79

/-! FY: the law's own count and its own rebuilt programs -/
namespace K79
open PySem L2 Sm
theorem word_if (x : Stm) : (("if" : Str) == x.word || ((("repeat" : Str) == x.word) || false)) = !x.ins.isEmpty := by
  cases x <;> simp [Stm.word, Stm.ins]
theorem cut2 {x : Stm} (h : x.ins ≠ []) : cutL (.str x.word :: x.args) (some 2) none = x.ins.map blk := by
  have c : ∀ (xs : List Vl), cutL xs (some 2) none = xs.drop 2 := fun xs => cutL_from (n := 2) (xs := xs)
  rw [c]
  cases x <;> simp [Stm.ins] at h <;> simp [Stm.args, Stm.ins]
def CntS (mf : List Vl → M Vl) (M : Nat) : Prop := ∀ (s : Sto) (b : List Stm) (n g : Nat) (Q : Vl → Sto → Prop) (E : Ex → Sto → Prop), n < M → Stm.oks g n b → Stm.cnts b ≤ 1000 → (∀ s', Fr [] s s' → Q (.int (Stm.cnts b : Nat)) s') → WE (mf [blk b]) s Q E
theorem sum_cnts : ∀ bs : List (List Stm), (bs.map fun b => ((Stm.cnts b : Nat) : Int)).sum = (((bs.map Stm.cnts).sum : Nat) : Int)
  | [] => rfl
  | b :: bs => by simp [sum_cnts bs]
theorem sum_cnt : ∀ b : List Stm, (b.map fun x => ((x.cnt : Nat) : Int)).sum = ((Stm.cnts b : Nat) : Int)
  | [] => rfl
  | x :: b => by simp [Stm.cnts, sum_cnt b]
theorem countS : ∀ M : Nat, CntS (R3 M 0) M
  | 0 => fun s b n g Q E hn => by omega
  | M + 1 => fun s b n g Q E hn ob hb k => by
    have ih := countS M
    show WE (fnM 3 (b__law_count (R3 M)) _) _ _ _
    unfold b__law_count
    simp
    show match blk b with | .tup xs => _ | _ => False
    simp only [blk]
    refine lcX_inv (fun i s' => s'[s.length]? = some (.lst ((b.take i).map fun x => .int ((x.cnt : Nat) : Int))) ∧ Fr [] s s') ⟨by simp, Fr.refl.push _⟩ ?_ ?_
    · rintro i v s1 hv ⟨e1, f1⟩
      obtain ⟨x, hx, rfl⟩ := vls_get hv
      have hxm := List.mem_of_getElem? hx
      have okx := Stm.oks_mem ob x hxm
      have cx := Stm.cnts_mem x hxm
      have hbl := cnts_len b
      refine ⟨_, rfl, ?_⟩
      have hlt : ((b.take i).map fun x => Vl.int ((x.cnt : Nat) : Int)).length < LIM := limC (by simp; omega)
      have etk : (b.take (i + 1)).map (fun x => Vl.int ((x.cnt : Nat) : Int)) = (b.take i).map (fun x => Vl.int ((x.cnt : Nat) : Int)) ++ [.int ((x.cnt : Nat) : Int)] := by rw [take_succ_get hx, List.map_append]; rfl
      unfold LcT
      have tst : ∀ {s2 : Sto} {v : Vl} {Q2 : Bool → Sto → Prop} {E2 : Ex → Sto → Prop} {x0 : Option Vl}, (∀ s', Fr [] s2 s' → Q2 (!x.ins.isEmpty) s') →
          WE (tVal (eOp opIn (eOp opIx (eVar 1) (eC (.int 0))) (eCB oLst (aCons (eC (.str "if")) (aCons (eC (.str "repeat")) aNil)))) [x0, some x.vl, some v]) s2 Q2 E2 := by
        intro s2 v Q2 E2 x0 kk
        have := kk _ (Fr.refl.push (.lst [.str "if", .str "repeat"]))
        rw [Stm.vl_eq]
        simp [opIn_lstS get_last]
        have w := word_if x
        simp at w
        rw [w]
        simpa using this
      generalize hT : (tVal (eOp opIn (eOp opIx (eVar 1) (eC (.int 0))) (eCB oLst (aCons (eC (.str "if")) (aCons (eC (.str "repeat")) aNil))))) = tt
      rw [hT] at tst
      simp [tTrue, wipeL]
      rw [Stm.vl_eq]
      simp
      by_cases hi : x.ins = []
      · have c1 : x.cnt = 1 := by rw [Stm.cnt_ins, hi]; rfl
        refine lcX_inv (fun j s' => s'[s1.length]? = some (.lst []) ∧ Fr [] s1 s') ⟨by simp, Fr.refl.push _⟩ ?_ ?_
        · rintro j v s2 hv ⟨e2, f2⟩
          refine ⟨_, rfl, ?_⟩
          unfold LcT
          rw [← Stm.vl_eq]
          refine tst fun s3 f3 => ?_
          simp [hi]
          exact ⟨f3.at e2 (by simp), f2.trans f3⟩
        · rintro s2 ⟨e2, f2⟩
          have e2' : s2[s1.length]? = some (.lst (([] : List Int).map Vl.int)) := e2
          simp [oSum_ints e2']
          have e3 := f2.at e1 (by simp)
          simp [e3]
          refine ⟨by simpa using hlt, ?_, (f1.trans f2).set (Or.inr (Nat.le_refl _))⟩
          rw [take_succ_get (show (b.map fun x => Vl.int ((x.cnt : Nat) : Int))[i]? = some (.int ((x.cnt : Nat) : Int)) by rw [List.getElem?_map, hx]; rfl), c1]
          rfl
      · rw [cut2 hi]
        refine lcX_inv (fun j s' => s'[s1.length]? = some (.lst ((x.ins.take j).map fun b => .int ((Stm.cnts b : Nat) : Int))) ∧ Fr [] s1 s') ⟨by simp, Fr.refl.push _⟩ ?_ ?_
        · rintro j v s2 hv ⟨e2, f2⟩
          obtain ⟨b', hb', rfl⟩ := get_map hv
          have hbm := List.mem_of_getElem? hb'
          obtain ⟨n0, ob'⟩ := Stm.ok_ins okx b' hbm
          have cb := Stm.cnt_in (x := x) b' hbm
          refine ⟨_, rfl, ?_⟩
          unfold LcT
          rw [← Stm.vl_eq]
          refine tst fun s3 f3 => ?_
          have hne : x.ins.isEmpty = false := by cases h : x.ins with
            | nil => exact absurd h hi
            | cons _ _ => rfl
          simp [hne]
          refine ih s3 b' (n - 1) g _ _ (by omega) ob' (by omega) fun s4 f4 => ?_
          have e4 := f4.at (f3.at e2 (by simp)) (by simp)
          have hil := Stm.ins_len x
          simp [e4]
          refine ⟨limC (by omega), ?_, ((f2.trans f3).trans f4).set (Or.inr (Nat.le_refl _))⟩
          rw [take_succ_get (show (x.ins.map fun b => Vl.int ((Stm.cnts b : Nat) : Int))[j]? = some (.int ((Stm.cnts b' : Nat) : Int)) by rw [List.getElem?_map, hb']; rfl)]
        · rintro s2 ⟨e2, f2⟩
          rw [List.length_map, List.take_length] at e2
          have e2' : s2[s1.length]? = some (.lst ((x.ins.map fun b => ((Stm.cnts b : Nat) : Int)).map Vl.int)) := by rw [e2, List.map_map]; rfl
          simp [oSum_ints e2', sum_cnts]
          have e3 := f2.at e1 (by simp)
          have ec : (1 : Int) + (((x.ins.map Stm.cnts).sum : Nat) : Int) = ((x.cnt : Nat) : Int) := by rw [Stm.cnt_ins]; omega
          rw [ec]
          simp [e3]
          refine ⟨by simpa using hlt, ?_, (f1.trans f2).set (Or.inr (Nat.le_refl _))⟩
          rw [take_succ_get (show (b.map fun x => Vl.int ((x.cnt : Nat) : Int))[i]? = some (.int ((x.cnt : Nat) : Int)) by rw [List.getElem?_map, hx]; rfl)]
    · rintro s1 ⟨e1, f1⟩
      rw [vls_len, List.take_length] at e1
      have e2 : s1[s.length]? = some (.lst ((b.map fun x => ((x.cnt : Nat) : Int)).map Vl.int)) := by rw [e1, List.map_map]; rfl
      simp [oSum_ints e2, sum_cnt]
      exact k s1 f1
theorem countA {s : Sto} {b : List Stm} {n g : Nat} {Q : Vl → Sto → Prop} {E : Ex → Sto → Prop} (hn : n < 12) (ob : Stm.oks g n b) (hb : Stm.cnts b ≤ 1000) (k : ∀ s', Fr [] s s' → Q (.int (Stm.cnts b : Nat)) s') : WE (m__law_count [blk b]) s Q E := countS 12 s b n g Q E hn ob hb k
def FixS (mf : List Vl → M Vl) (M : Nat) : Prop := ∀ (s : Sto) (b : List Stm) (n g p o c : Nat) (ch : Stm → List Stm) (mc : List Vl → Sm.M Vl) (P : List Int) (Q : Vl → Sto → Prop) (E : Ex → Sto → Prop), n < M → n < 12 → Stm.oks g n b → Stm.cnts b ≤ 1000 → Stm.nosP P p b → ChOk c ch mc → s[o]? = some (.ins c []) →
  (∀ s', Fr [] s s' → Q (blk (Stm.rbs ch P p b)) s') → WE (mf [.ref o, blk b, .int (p : Nat), .tup (P.map Vl.int)]) s Q E
def FYI (s : Sto) (b : List Stm) (p o : Nat) (ch : Stm → List Stm) (P : List Int) (i : Nat) (lo : Lo) (s' : Sto) : Prop := ∃ (r : Nat) (x5 x6 x7 x8 x9 : Option Vl), lo = [some (.ref o), some (blk b), some (.int ((p + Stm.cnts (b.take i) : Nat) : Int)), some (.tup (P.map Vl.int)), some (.ref r), x5, x6, x7, x8, x9] ∧ s.length ≤ r ∧ s'[r]? = some (.lst (Stm.vls (Stm.rbs ch P p (b.take i)))) ∧ Fr [] s s'
theorem fixedS : ∀ M : Nat, FixS (R4 M 0) M
  | 0 => fun s b n g p o c ch mc P Q E hn => by omega
  | M + 1 => fun s b n g p o c ch mc P Q E hn h12 ob hb hP hC ho k => by
    have ih := fixedS M
    show WE (fnM 10 (b__law_fixed (R4 M)) _) _ _ _
    unfold b__law_fixed
    generalize hB : (sSeq (sExpr (eBm .list oAppend (eVar 8) (aCons (eCall (arg 4 (R4 M 0)) (aCons (eVar 0) (aCons (eVar 7) (aCons (eVar 9) (aCons (eVar 3) aNil))))) aNil)))
      (sSet 9 (eOp opAdd (eVar 9) (eCall (arg 1 m__law_count) (aCons (eVar 7) aNil))))) = pB
    have part : ∀ {sA : Sto} {b' : List Stm} {q r : Nat} {L : List Vl} {x1 x2 x4 x5 x6 : Option Vl} {KK : RK}, Stm.oks g (n - 1) b' → n - 1 < M → Stm.cnts b' ≤ 1000 → L.length ≤ 1000 → Stm.nosP P q b' → Fr [] s sA → s.length ≤ r → sA[r]? = some (.lst L) →
        (∀ sB, Fr [] s sB → sB[r]? = some (.lst (L ++ [blk (Stm.rbs ch P q b')])) → (∀ i o, i ≠ r → sA[i]? = some o → sB[i]? = some o) → KK.nx [some (.ref o), x1, x2, some (.tup (P.map Vl.int)), x4, x5, x6, some (blk b'), some (.ref r), some (.int ((q + Stm.cnts b' : Nat) : Int))] sB) →
        WS pB [some (.ref o), x1, x2, some (.tup (P.map Vl.int)), x4, x5, x6, some (blk b'), some (.ref r), some (.int (q : Nat))] sA KK := by
      intro sA b' q r L x1 x2 x4 x5 x6 KK ob' hn' hb' hL hP' fA hr2 eA kk
      have eo := fA.at ho (by simp)
      rw [← hB]
      simp [kd_lst eA]
      refine ih sA b' (n - 1) g q o c ch mc P _ _ hn' (by omega) ob' hb' hP' hC eo fun s1 f1 => ?_
      have e1 := f1.at eA (by simp)
      simp only [WE_aNil, oAppend_lst e1 (limC (by omega)), WO_some]
      have f2 : Fr [] s (s1.set r (.lst (L ++ [blk (Stm.rbs ch P q b')]))) := (fA.trans f1).set (Or.inr hr2)
      have e2 : (s1.set r (.lst (L ++ [blk (Stm.rbs ch P q b')])))[r]? = some (.lst (L ++ [blk (Stm.rbs ch P q b')])) := get_set_self e1
      have o2 : ∀ i u, i ≠ r → sA[i]? = some u → (s1.set r (.lst (L ++ [blk (Stm.rbs ch P q b')])))[i]? = some u := fun i u hi h => by rw [get_set_ne (Ne.symm hi)]; exact f1.at h (by simp)
      generalize s1.set r (.lst (L ++ [blk (Stm.rbs ch P q b')])) = s2 at f2 e2 o2
      simp
      refine countA (n := n - 1) (by omega) ob' hb' fun s3 fl => ?_
      have := kk s3 (f2.trans fl) (fl.at e2 (by simp)) (fun i u hi h => fl.at (o2 i u hi h) (by simp))
      simpa using this
    generalize hF : (sSeq (sSet 4 (eOp opAdd (eVar 4) (eIfM (tVal (eOp opIn (eVar 2) (eVar 3))) (eCB oList (aCons (eMeth "changed" (tabA 1 tab_changed) (eVar 0) (aCons (eVar 5) aNil)) aNil)) (eCB oLst (aCons (eVar 6) aNil)))))
      (sSet 2 (eOp opAdd (eVar 2) (eCall (arg 1 m__law_count) (aCons (eCB oTup (aCons (eVar 5) aNil)) aNil))))) = fS
    clear hB
    simp
    show match blk b with | .tup xs => _ | _ => False
    simp only [blk]
    refine loopX_inv (FYI s b p o ch P) ?_ ?_ ?_
    · exact ⟨s.length, none, none, none, none, none, by simp [Stm.cnts, blk], Nat.le_refl _, by simp [Stm.rbs, Stm.vls], Fr.refl.push _⟩
    · rintro i v lo s1 hv ⟨r, x5, x6, x7, x8, x9, rfl, hr, e1, f1⟩
      obtain ⟨x, hx, rfl⟩ := vls_get hv
      have hxm := List.mem_of_getElem? hx
      have okx := Stm.oks_mem ob x hxm
      have cx := Stm.cnts_mem x hxm
      have ct := Stm.cnts_take (b := b) (i := i)
      have ck := Stm.cnts_tk hx
      have cs := Stm.cnts_take (b := b) (i := i + 1)
      have nx := Stm.nosP_get hP hx
      have rt := Stm.rbs_take (ch := ch) (P := P) (p := p) hx
      have obT : Stm.oks g n (b.take i) := by
        have := ob
        rw [← List.take_append_drop i b] at this
        exact (Stm.oks_app.mp this).1
      obtain ⟨ro1, ro2⟩ := Stm.rbs_ok (ch := ch) (P := P) (fun n x h => hC.ok g n x h) (p := p) obT
      have hl : (Stm.vls (Stm.rbs ch P p (b.take i))).length ≤ 2000 := by
        rw [vls_len]
        have := cnts_len (Stm.rbs ch P p (b.take i))
        omega
      obtain ⟨rx1, rx2⟩ := Stm.rb_ok (ch := ch) (P := P) (fun n x h => hC.ok g n x h) (p := p + Stm.cnts (b.take i)) okx
      generalize hq : p + Stm.cnts (b.take i) = q at nx rt rx1 rx2
      have eq2 : p + Stm.cnts (b.take (i + 1)) = q + x.cnt := by omega
      have hl2 : (Stm.vls (Stm.rb ch P q x)).length ≤ 2000 := by
        rw [vls_len]
        have := cnts_len (Stm.rb ch P q x)
        omega
      have fin : ∀ {s3 : Sto} {y : Stm} {x7 x8 x9 : Option Vl} {KK : RK}, Fr [] s s3 → s3[r]? = some (.lst (Stm.vls (Stm.rbs ch P p (b.take i)))) → (if ((q : Nat) : Int) ∈ P then blk (ch x) else blk [y]) = blk (Stm.rb ch P q x) → (∀ lo s', FYI s b p o ch P (i + 1) lo s' → KK.nx lo s') →
          WS fS [some (.ref o), some (blk b), some (.int (q : Nat)), some (.tup (P.map Vl.int)), some (.ref r), some x.vl, some y.vl, x7, x8, x9] s3 KK := by
        intro s3 y x7 x8 x9 KK f3 e3 hy kk
        have eo := f3.at ho (by simp)
        have hadd : (Stm.vls (Stm.rbs ch P p (b.take i))).length + (Stm.vls (Stm.rb ch P q x)).length ≤ LIM := limB (by omega)
        have bx : ∀ z : Stm, blk [z] = .tup [z.vl] := fun z => by simp [blk, Stm.vls]
        have tail : ∀ {s4 : Sto} {r4 : Nat}, Fr [] s s4 → s4[r]? = some (.lst (Stm.vls (Stm.rbs ch P p (b.take i)))) → s4[r4]? = some (.lst (Stm.vls (Stm.rb ch P q x))) →
            WO (opAdd (.ref r) (.ref r4) s4) fun v s5 => WS (sSet 2 (eOp opAdd (eVar 2) (eCall (arg 1 m__law_count) (aCons (eCB oTup (aCons (eVar 5) aNil)) aNil)))) [some (.ref o), some (blk b), some (.int (q : Nat)), some (.tup (P.map Vl.int)), some v, some x.vl, some y.vl, x7, x8, x9] s5 KK := by
          intro s4 r4 f4 e4 e5
          rw [opAdd_lst e4 e5 hadd, WO_some]
          simp
          rw [← bx]
          have f5 := f4.push (Ob.lst (Stm.vls (Stm.rbs ch P p (b.take i)) ++ Stm.vls (Stm.rb ch P q x)))
          refine countA (n := n) (by omega) ⟨okx, trivial⟩ (by simp [Stm.cnts]; omega) fun s6 f6 => ?_
          simp only [opAdd_int, WO_some]
          refine kk _ _ ⟨s4.length, some x.vl, some y.vl, x7, x8, x9, by rw [eq2]; simp [Stm.cnts], f4.le, ?_, f5.trans f6⟩
          rw [f6.at get_last (by simp), rt, Stm.vls_map, Stm.vls_map, Stm.vls_map, List.map_append]
        rw [← hF]
        by_cases h : ((q : Nat) : Int) ∈ P
        · rw [if_pos h] at hy
          simp [h, WE_eMeth]
          rw [methW_ins (m := "changed") (tab := tabA 1 tab_changed) (mf := arg 2 mc) eo (by unfold tabA; rw [hC.tab]; rfl) rfl]
          simp
          refine hC.run ?_
          rw [hy, show blk (Stm.rb ch P q x) = .tup (Stm.vls (Stm.rb ch P q x)) from rfl]
          simp
          exact tail (f3.push _) (get_push e3) get_last
        · rw [if_neg h] at hy
          simp [h]
          have hy2 : [y.vl] = Stm.vls (Stm.rb ch P q x) := by
            rw [bx] at hy
            unfold blk at hy
            injection hy
          rw [hy2]
          exact tail (f3.push _) (get_push e3) get_last
      clear hF
      have w := word_if x
      have hvl := Stm.vl_eq x
      simp at w
      by_cases hi : x.ins = []
      · have w1 : ¬ (Str.ofString "if" = x.word ∨ Str.ofString "repeat" = x.word) := by
          rw [hi] at w
          simpa using w
        rw [hvl]
        simp [opIn_lstS get_last, w1]
        rw [← hvl]
        exact fin (f1.push _) (get_push e1) (by rw [Stm.rb_leaf hi]; split <;> rfl) fun _ _ h => h
      · have w1 : (Str.ofString "if" = x.word ∨ Str.ofString "repeat" = x.word) := by
          cases h : x.ins with
          | nil => exact absurd h hi
          | cons _ _ => rw [h] at w; simpa using w
        rw [hvl]
        simp [opIn_lstS get_last, w1]
        rw [cut2 hi, ← hvl]
        have f2 : Fr [] s (s1 ++ [Ob.lst [Vl.str "if", Vl.str "repeat"], Ob.lst []]) := by
          have := (f1.push (Ob.lst [Vl.str "if", Vl.str "repeat"])).push (Ob.lst [])
          simpa using this
        have e2 : (s1 ++ [Ob.lst [Vl.str "if", Vl.str "repeat"], Ob.lst []])[r]? = some (.lst (Stm.vls (Stm.rbs ch P p (b.take i)))) := get_app e1
        have e2r : (s1 ++ [Ob.lst [Vl.str "if", Vl.str "repeat"], Ob.lst []])[s1.length + 1]? = some (.lst []) := by
          rw [List.getElem?_append_right (by omega)]
          simp
        have hrr : s1.length + 1 ≠ r := by have := lt_of_get e1; omega
        have hr2 : s.length ≤ s1.length + 1 := by have := f1.le; omega
        trace_state
        generalize (s1 ++ [Ob.lst [Vl.str "if", Vl.str "repeat"], Ob.lst []]) = s2 at f2 e2 e2r
        generalize s1.length + 1 = r2 at e2r hrr hr2
        have eq1 : ((q : Nat) : Int) + 1 = ((q + 1 : Nat) : Int) := by omega
        rw [eq1]
        clear hvl w w1
        cases x <;> try (exact absurd rfl hi)
        case ife t a b2 =>
          have hN := nx
          unfold Stm.noP at hN
          have hO := okx
          unfold Stm.ok at hO
          have hcnt : Stm.cnt (.ife t a b2) = 1 + Stm.cnts a + Stm.cnts b2 := by simp [Stm.cnt]
          simp only [Stm.ins, List.map_cons, List.map_nil]
          rw [WS_loopX_cons]
          simp
          refine part hO.2.2.1 (by omega) (by omega) (by simp) hN.2.1 f2 hr2 e2r fun s3 f3 e3 o3 => ?_
          simp only [List.nil_append] at e3
          dsimp only
          rw [WS_loopX_cons]
          simp
          refine part hO.2.2.2 (by omega) (by omega) (by simp) hN.2.2 f3 hr2 e3 fun s4 f4 e4 o4 => ?_
          have e4s := o4 _ _ (Ne.symm hrr) (o3 _ _ (Ne.symm hrr) e2)
          dsimp only
          rw [WS_loopX_nil]
          have hv1 : (Stm.ife t a b2).vl = .tup [.str "if", t.vl, blk a, blk b2] := by simp [Stm.vl, blk]
          have c4 : cutL [Vl.str "if", t.vl, blk a, blk b2] none (some 2) = [.str "if", t.vl] := cutL_to (n := 2)
          simp
          rw [hv1]
          simp [c4, oTuple_lst e4]
          have ey : Vl.tup [.str "if", t.vl, blk (Stm.rbs ch P (q + 1) a), blk (Stm.rbs ch P (q + 1 + Stm.cnts a) b2)] = (Stm.ife t (Stm.rbs ch P (q + 1) a) (Stm.rbs ch P (q + 1 + Stm.cnts a) b2)).vl := by simp [Stm.vl, blk]
          rw [ey, ← hv1]
          exact fin f4 e4s (by rw [if_neg hN.1]; rfl) fun _ _ h => h
        case rep kk b2 =>
          have hN := nx
          unfold Stm.noP at hN
          have hO := okx
          unfold Stm.ok at hO
          have hcnt : Stm.cnt (.rep kk b2) = 1 + Stm.cnts b2 := by simp [Stm.cnt]
          simp only [Stm.ins, List.map_cons, List.map_nil]
          rw [WS_loopX_cons]
          simp
          refine part hO.2.2 (by omega) (by omega) (by simp) hN.2 f2 hr2 e2r fun s3 f3 e3 o3 => ?_
          simp only [List.nil_append] at e3
          dsimp only
          have e3s := o3 _ _ (Ne.symm hrr) e2
          rw [WS_loopX_nil]
          have hv1 : (Stm.rep kk b2).vl = .tup [.str "repeat", .int (kk : Nat), blk b2] := by simp [Stm.vl, blk]
          have c4 : cutL [Vl.str "repeat", .int (kk : Nat), blk b2] none (some 2) = [.str "repeat", .int (kk : Nat)] := cutL_to (n := 2)
          simp
          rw [hv1]
          simp [c4, oTuple_lst e3]
          have ey : Vl.tup [.str "repeat", .int (kk : Nat), blk (Stm.rbs ch P (q + 1) b2)] = (Stm.rep kk (Stm.rbs ch P (q + 1) b2)).vl := by simp [Stm.vl, blk]
          rw [ey, ← hv1]
          exact fin f3 e3s (by rw [if_neg hN.1]; rfl) fun _ _ h => h
    · rintro lo s1 ⟨r, x5, x6, x7, x8, x9, rfl, hr, e1, f1⟩
      rw [vls_len, List.take_length] at e1
      simp [oTuple_lst e1]
      exact k s1 f1
end K79

/-! S54: isinstance of the handled exception; texts of great ints; sorted lists with a stranger -/
namespace Sm
open PySem L2
section
variable {s : Sto} {lo : Lo} {QV : Vl → Sto → Prop} {E : Ex → Sto → Prop}
@[simp ↓] theorem WE_eIsX {i : Nat} {e : Ex} {ans : Nat → Option Bool} : WE (eIsX i e ans lo) s QV E = (match lo[i]?, ans e.c with
  | some none, some b => QV (.bl b) s
  | _, _ => False) := by
  simp only [WE_eq]
  unfold WE0 eIsX
  cases lo[i]? with
  | none => rfl
  | some o =>
    cases o with
    | some v => rfl
    | none => cases ans e.c <;> rfl
end
/-- the text of an int of up to nineteen digits -/
theorem repr_int {i : Int} (h : i.natAbs < 10 ^ 19) : ∃ x, ∀ s, oRepr [.int i] s = some (.str x, s) := by
  refine ⟨(PyData.int i).shown, fun s => ?_⟩
  have h1 : (PyData.int i).showable = true := by
    simp only [PyData.showable, decide_eq_true_eq]
    rcases Nat.eq_zero_or_pos i.natAbs with z | z
    · rw [z]; decide
    · have : i.natAbs.log2 < 64 := by
        rw [Nat.log2_lt (by omega)]
        exact Nat.lt_of_lt_of_le h (by decide)
      omega
  have h2 : (PyData.int i).shown.length ≤ LIM := by
    have := int_text_length_le10 (a := i) (k := 19) (by omega) h
    simp only [PyData.shown]
    have e : (Str.ofString (toString i)).length = (toString i).length := ofString_length _
    rw [e]
    exact Nat.le_trans this (by decide)
  have h3 : toD 40 s (.int i) = some (.int i) := rfl
  simp only [oRepr, h3, h1, h2, decide_true, Bool.and_self, if_true]
/-- the first stranger in a sorted list -/
theorem srt_first {A W kn : List Int} {w : Int} (hA : ∀ x ∈ A, x ∈ kn) (inc : ∀ x ∈ W, w < x) : ∃ P1 P2, srt (A ++ w :: W) = P1 ++ w :: P2 ∧ ∀ x ∈ P1, x ∈ kn := by
  have hm : w ∈ srt (A ++ w :: W) := srt_mem.mpr (by simp)
  obtain ⟨P1, P2, e, hn⟩ := List.eq_append_cons_of_mem hm
  refine ⟨P1, P2, e, fun x hx => ?_⟩
  have hs := srt_sorted (A ++ w :: W)
  rw [e] at hs
  have hle := (List.pairwise_append.mp hs).2.2 x hx w (List.mem_cons_self ..)
  have hmx : x ∈ srt (A ++ w :: W) := by rw [e]; exact List.mem_append_left _ hx
  have hmx := srt_mem.mp hmx
  rcases List.mem_append.mp hmx with h | h
  · exact hA x h
  · rcases List.mem_cons.mp h with rfl | h
    · exact absurd hx hn
    · have := inc x h
      omega
end Sm

/-! L79: the law -/
namespace K79
open PySem L2 Sm
section
variable {s : Sto} {Q : Vl → Sto → Prop} {E : Ex → Sto → Prop}
theorem refused {o c g : Nat} {b : List Stm} {mp : List Vl → M Vl} {kn P P1 P2 : List Int} {w : Int} (happ : tab_applied c = some m_Fix_applied) (hp : PlOk c (progV g b) kn mp) (e : P = P1 ++ w :: P2) (hk : ∀ x ∈ P1, x ∈ kn) (hw : w ∉ kn) (ho : s[o]? = some (.ins c [])) (k : ∀ s', Fr [] s s' → Q (.int w) s') :
    WE (m__law_refused [.ref o, progV g b, .tup (P.map Vl.int)]) s Q E := by
  unfold m__law_refused b__law_refused
  simp [WE_eMeth]
  rw [methW_ins (m := "applied") (tab := tabA 2 tab_applied) (mf := arg 3 m_Fix_applied) ho (by unfold tabA; rw [happ]; rfl) rfl]
  simp
  refine appliedNo hp e hk hw ho fun s1 f1 => ?_
  unfold tryK
  simp [hit_NoPlace, ans_0, ans_1, getS]
  exact k s1 f1
/-- some of the numbers, drawn -/
theorem pick {xs : List Int} {lo : Lo} {d l c : Nat} {tt : TM} {R : Int → Prop} {QS : Sto → Prop} (D : Dk s d l c) (hx : xs.length ≤ 40) (hc : c + 100 < CM) (h11 : 11 < lo.length)
    (ht : ∀ (x : Int) (s' : Sto) (c' : Nat) (Q' : Bool → Sto → Prop) (E' : Ex → Sto → Prop), x ∈ xs → Dk s' d l c' → c' < CM → Fr [d, l] s s' → (∀ bb s'', (bb = true → R x) → Dk s'' d l (c' + 1) → Fr [d, l] s' s'' → Q' bb s'') → WE (tt (lo.set 11 (some (.int x)))) s' Q' E')
    (k : ∀ (P : List Int) s', P.Sublist xs → (∀ x ∈ P, R x) → s'[s.length]? = some (.lst (P.map Vl.int)) → Dk s' d l (c + 40) → Fr [d, l] s s' → QS s') :
    WL (lcX (glN 11) tt (eVar 11) s.length lo (xs.map Vl.int) (s ++ [.lst []])) QS := by
  have lt := D.lt
  have hnd : s.length ∉ [d, l] := by simp; omega
  refine lcX_inv (fun i s' => ∃ P : List Int, P.Sublist (xs.take i) ∧ (∀ x ∈ P, R x) ∧ s'[s.length]? = some (.lst (P.map Vl.int)) ∧ Dk s' d l (c + i) ∧ Fr [d, l] s s') ⟨[], by simp, by simp, by simp, D.new (Fr.refl.push _), Fr.refl.push _⟩ ?_ ?_
  · rintro i v s1 hv ⟨P, hP, hR, e1, D1, f1⟩
    obtain ⟨x, hx', rfl⟩ := get_map hv
    have hi := (List.getElem?_eq_some_iff.mp hx').1
    refine ⟨_, rfl, ?_⟩
    unfold LcT
    refine ht x s1 (c + i) _ _ (List.mem_of_getElem? hx') D1 (by omega) f1 fun bb s2 hb D2 f2 => ?_
    have e2 := f2.at e1 hnd
    have hl : P.length ≤ 40 := by have := hP.length_le; simp at this; omega
    cases bb with
    | false =>
      simp
      refine ⟨P, hP.trans ?_, hR, e2, D2.mono (by omega), f1.trans f2⟩
      rw [take_succ_get hx']
      exact List.sublist_append_left _ _
    | true =>
      have e11 : (lo.set 11 (some (Vl.int x)))[11]? = some (some (.int x)) := by rw [List.getElem?_set_self h11]
      simp [e11, e2]
      refine ⟨limC (by omega), P ++ [x], ?_, ?_, ?_, ?_, (f1.trans f2).set (Or.inr (Nat.le_refl _))⟩
      · rw [take_succ_get hx']
        exact hP.append_right [x]
      · intro y hy
        rcases List.mem_append.mp hy with h | h
        · exact hR y h
        · simp at h; subst h; exact hb rfl
      · rw [List.map_append]; rfl
      · have D3 := D2.fr (X := [s.length]) (s' := s2.set s.length (.lst (P.map Vl.int ++ [.int x]))) (Fr.refl.set (by simp)) (by simp; omega) (by simp; omega)
        exact D3.mono (by omega)
  · rintro s1 ⟨P, hP, hR, e1, D1, f1⟩
    rw [List.length_map, List.take_length] at hP
    rw [List.length_map] at D1
    exact k P s1 hP hR e1 (D1.mono (by omega)) f1
end
/-- the body of the law's loop over the fixes -/
def fixB : SM := (sSeq (sSet 6 (eMeth "places_of" (tabA 1 tab_places_of) (eVar 3) (aCons (eVar 4) aNil)))
  (sSeq (sFor 100000 (iLst (eCB oLst (aCons (eC (.int 1)) (aCons (eC (.int 2)) (aCons (eC (.int 3)) aNil))))) (gNm 7)
  (sSeq (sSet 9 (eCB oTuple (aCons (eLcX (aTup (eVar 6)) (glN 11) (tVal (eOp opEq (eCall (arg 2 m__law_draw) (aCons (eVar 1) (aCons (eVar 7) aNil))) (eC (.int 0)))) (eVar 11) [11]) aNil)))
  (sSeq (sSet 10 (eCB oTup (aCons (eOp opIx (eVar 4) (eC (.int 0))) (aCons (eCall (arg 4 m__law_fixed) (aCons (eVar 3) (aCons (eOp opIx (eVar 4) (eC (.int 1))) (aCons (eC (.int 0)) (aCons (eVar 9) aNil))))) aNil))))
  (sIf (tVal (eOp opNe (eCB oRepr (aCons (eMeth "applied" (tabA 2 tab_applied) (eVar 3) (aCons (eVar 4) (aCons (eVar 9) aNil))) aNil)) (eCB oRepr (aCons (eVar 10) aNil)))) (sRet (eC (.bl false))) sNil))))
  (sSeq (sSet 8 (eLcX (aRng (aCons (eVar 2) aNil)) (glN 11) (tAndM (tVal (eOp opNotIn (eVar 11) (eVar 6))) (tVal (eOp opEq (eCall (arg 2 m__law_draw) (aCons (eVar 1) (aCons (eC (.int 5)) aNil))) (eC (.int 0))))) (eVar 11) [11]))
  (sSeq (sExpr (eBm .list oAppend (eVar 8) (aCons (eOp opAdd (eVar 2) (eCall (arg 2 m__law_draw) (aCons (eVar 1) (aCons (eOp opPow (eC (.int 10)) (eC (.int 18))) aNil)))) aNil)))
  (sSeq (sIf (tVal (eOp opEq (eCall (arg 2 m__law_draw) (aCons (eVar 1) (aCons (eC (.int 3)) aNil))) (eC (.int 0)))) (sSet 8 (eOp opAdd (eCB oLst (aCons (eOp opSub (eOp opSub (eC (.int 0)) (eC (.int 1))) (eCall (arg 2 m__law_draw) (aCons (eVar 1) (aCons (eC (.int 50)) aNil)))) aNil)) (eVar 8))) sNil)
  (sSeq (sSet 9 (eCB oTuple (aCons (eCB oSortS (aCons (eOp opAdd (eLcX (aTup (eVar 6)) (glN 11) (tVal (eOp opEq (eCall (arg 2 m__law_draw) (aCons (eVar 1) (aCons (eC (.int 2)) aNil))) (eC (.int 0)))) (eVar 11) [11]) (eVar 8)) aNil)) aNil)))
  (sIf (tVal (eOp opNe (eCB oRepr (aCons (eCall (arg 3 m__law_refused) (aCons (eVar 3) (aCons (eVar 4) (aCons (eVar 9) aNil)))) aNil)) (eCB oRepr (aCons (eOp opIx (eVar 8) (eC (.int 0))) aNil)))) (sRet (eC (.bl false))) sNil)))))))
def fixI : SM := (sSeq (sSet 9 (eCB oTuple (aCons (eLcX (aTup (eVar 6)) (glN 11) (tVal (eOp opEq (eCall (arg 2 m__law_draw) (aCons (eVar 1) (aCons (eVar 7) aNil))) (eC (.int 0)))) (eVar 11) [11]) aNil)))
  (sSeq (sSet 10 (eCB oTup (aCons (eOp opIx (eVar 4) (eC (.int 0))) (aCons (eCall (arg 4 m__law_fixed) (aCons (eVar 3) (aCons (eOp opIx (eVar 4) (eC (.int 1))) (aCons (eC (.int 0)) (aCons (eVar 9) aNil))))) aNil))))
  (sIf (tVal (eOp opNe (eCB oRepr (aCons (eMeth "applied" (tabA 2 tab_applied) (eVar 3) (aCons (eVar 4) (aCons (eVar 9) aNil))) aNil)) (eCB oRepr (aCons (eVar 10) aNil)))) (sRet (eC (.bl false))) sNil)))
/-- what is known of one fix -/
structure FixOk (o cl d l : Nat) (ch : Stm → List Stm) (mc mp : List Vl → M Vl) (kn : List Int) (g : Nat) (b : List Stm) (s : Sto) : Prop where
  hC : ChOk cl ch mc
  hp : PlOk cl (progV g b) kn mp
  app : tab_applied cl = some m_Fix_applied
  kl : kn.length ≤ 29
  kr : ∀ x ∈ kn, 0 ≤ x ∧ x < ((Stm.cnts b : Nat) : Int)
  no : ∀ P : List Int, (∀ x ∈ P, x ∈ kn) → Stm.nosP P 0 b
  hg : g < 4
  ob : Stm.oks g 4 b
  cb : Stm.cnts b ≤ 29
  ho : s[o]? = some (.ins cl [])
  od : o ∉ [d, l]
theorem FixOk.fr {o cl d l g : Nat} {ch : Stm → List Stm} {mc mp : List Vl → M Vl} {kn : List Int} {b : List Stm} {s s' : Sto} (F : FixOk o cl d l ch mc mp kn g b s) (f : Fr [d, l] s s') : FixOk o cl d l ch mc mp kn g b s' :=
  ⟨F.hC, F.hp, F.app, F.kl, F.kr, F.no, F.hg, F.ob, F.cb, f.at F.ho F.od, F.od⟩
section
variable {s : Sto} {KK : RK} {o cl d l c g : Nat} {ch : Stm → List Stm} {mc mp : List Vl → M Vl} {kn : List Int} {b : List Stm} {x0 x2 x5 x8 x9 x10 x11 : Option Vl}
theorem innerF {q : Nat} (F : FixOk o cl d l ch mc mp kn g b s) (D : Dk s d l c) (hc : c + 1000 < CM) (hq : 0 < q ∧ q < 10)
    (k : ∀ y9 y10 s', Dk s' d l (c + 40) → Fr [d, l] s s' → KK.nx [x0, some (.ref d), x2, some (.ref o), some (progV g b), x5, some (.tup (kn.map Vl.int)), some (.int (q : Nat)), x8, y9, y10, x11] s') :
    WS fixI [x0, some (.ref d), x2, some (.ref o), some (progV g b), x5, some (.tup (kn.map Vl.int)), some (.int (q : Nat)), x8, x9, x10, x11] s KK := by
  unfold fixI
  simp
  refine pick (R := fun _ => True) D (by have := F.kl; omega) (by omega) (by simp [wipeL]) (fun x s' c' Q' E' hx D' hc' f' kk => ?_) fun P s1 hP _ e1 D1 f1 => ?_
  · simp [wipeL]
    refine draw D' (by omega) (by omega) hc' fun r s2 hr D2 f2 => ?_
    simp
    exact kk _ s2 (fun _ => trivial) D2 f2
  · have F1 := F.fr f1
    have hk : ∀ x ∈ P, x ∈ kn := fun x hx => hP.subset hx
    have hN := F.no P hk
    have hb1 := F.cb
    simp [oTuple_lst e1]
    unfold progV
    simp
    refine fixedS 12 s1 b 4 g 0 o cl ch mc P _ _ (by omega) (by omega) F.ob (by omega) hN F.hC F1.ho fun s2 f2 => ?_
    simp [WE_eMeth]
    have F2 := F1.fr (f2.mono (by simp))
    rw [methW_ins (m := "applied") (tab := tabA 2 tab_applied) (mf := arg 3 m_Fix_applied) F2.ho (by unfold tabA; rw [F.app]; rfl) rfl]
    simp
    refine appliedOk (c := cl) F.hC F.hp hk (n := 4) (by omega) F.ob (by omega) hN F2.ho fun s3 f3 => ?_
    obtain ⟨r1, r2⟩ := Stm.rbs_ok (ch := ch) (P := P) (fun n x h => F.hC.ok g n x h) (p := 0) F.ob
    have hP1 : Pn 16 200000 (.tup [.int (g : Nat), blk (Stm.rbs ch P 0 b)]) := (Pn.tup2 ((Pn.int (by have := F.hg; omega)).mono (show 1 ≤ 15 by omega) (Nat.le_refl _)) (Stm.pns (by have := F.hg; omega) r1)).mono (by omega) (by omega)
    obtain ⟨y, hy⟩ := hP1.repr (by omega) (by omega)
    unfold progV
    simp [hy]
    exact k _ _ s3 (D1.new (f2.trans f3)) ((f1.trans (f2.mono (by simp))).trans (f3.mono (by simp)))
theorem bodyF {x6 x7 : Option Vl} (F : FixOk o cl d l ch mc mp kn g b s) (D : Dk s d l c) (hc : c + 2000 < CM)
    (k : ∀ y6 y7 y8 y9 y10 y11 s', Dk s' d l (c + 1000) → Fr [d, l] s s' → KK.nx [x0, some (.ref d), some (.int (Stm.cnts b : Nat)), some (.ref o), some (progV g b), x5, y6, y7, y8, y9, y10, y11] s') :
    WS fixB [x0, some (.ref d), some (.int (Stm.cnts b : Nat)), some (.ref o), some (progV g b), x5, x6, x7, x8, x9, x10, x11] s KK := by
  have lt := D.lt
  unfold fixB
  generalize hI : (sSeq (sSet 9 (eCB oTuple (aCons (eLcX (aTup (eVar 6)) (glN 11) (tVal (eOp opEq (eCall (arg 2 m__law_draw) (aCons (eVar 1) (aCons (eVar 7) aNil))) (eC (.int 0)))) (eVar 11) [11]) aNil)))
    (sSeq (sSet 10 (eCB oTup (aCons (eOp opIx (eVar 4) (eC (.int 0))) (aCons (eCall (arg 4 m__law_fixed) (aCons (eVar 3) (aCons (eOp opIx (eVar 4) (eC (.int 1))) (aCons (eC (.int 0)) (aCons (eVar 9) aNil))))) aNil))))
    (sIf (tVal (eOp opNe (eCB oRepr (aCons (eMeth "applied" (tabA 2 tab_applied) (eVar 3) (aCons (eVar 4) (aCons (eVar 9) aNil))) aNil)) (eCB oRepr (aCons (eVar 10) aNil)))) (sRet (eC (.bl false))) sNil))) = iB
  have inn : ∀ {sA : Sto} {c' q : Nat} {y8 y9 y10 y11 : Option Vl} {KA : RK}, FixOk o cl d l ch mc mp kn g b sA → Dk sA d l c' → c' + 1000 < CM → 0 < q ∧ q < 10 →
      (∀ z9 z10 s', Dk s' d l (c' + 40) → Fr [d, l] sA s' → KA.nx [x0, some (.ref d), some (.int (Stm.cnts b : Nat)), some (.ref o), some (progV g b), x5, some (.tup (kn.map Vl.int)), some (.int (q : Nat)), y8, z9, z10, y11] s') →
      WS iB [x0, some (.ref d), some (.int (Stm.cnts b : Nat)), some (.ref o), some (progV g b), x5, some (.tup (kn.map Vl.int)), some (.int (q : Nat)), y8, y9, y10, y11] sA KA := fun F D hc hq kk => by
    rw [← hI]
    exact innerF F D hc hq kk
  clear hI
  generalize hT : (sSeq (sSet 9 (eCB oTuple (aCons (eCB oSortS (aCons (eOp opAdd (eLcX (aTup (eVar 6)) (glN 11) (tVal (eOp opEq (eCall (arg 2 m__law_draw) (aCons (eVar 1) (aCons (eC (.int 2)) aNil))) (eC (.int 0)))) (eVar 11) [11]) (eVar 8)) aNil)) aNil)))
    (sIf (tVal (eOp opNe (eCB oRepr (aCons (eCall (arg 3 m__law_refused) (aCons (eVar 3) (aCons (eVar 4) (aCons (eVar 9) aNil)))) aNil)) (eCB oRepr (aCons (eOp opIx (eVar 8) (eC (.int 0))) aNil)))) (sRet (eC (.bl false))) sNil)) = tB
  have tail : ∀ {sA : Sto} {c' rw : Nat} {w : Int} {W' : List Int} {y7 y9 y10 y11 : Option Vl}, FixOk o cl d l ch mc mp kn g b sA → Dk sA d l c' → c' + 500 < c + 1000 → sA[rw]? = some (.lst ((w :: W').map Vl.int)) → W'.length ≤ 40 → (∀ x ∈ W', w < x) → w ∉ kn → w.natAbs < 10 ^ 19 → rw ∉ [d, l] → Fr [d, l] s sA →
      WS tB [x0, some (.ref d), some (.int (Stm.cnts b : Nat)), some (.ref o), some (progV g b), x5, some (.tup (kn.map Vl.int)), y7, some (.ref rw), y9, y10, y11] sA KK := by
    intro sA c' rw w W' y7 y9 y10 y11 FA DA hcA eW hW inc hw hwb hrw fA
    have ltA := DA.lt
    rw [← hT]
    simp
    refine pick (R := fun _ => True) DA (by have := F.kl; omega) (by omega) (by simp [wipeL]) (fun x s' c' Q' E' hx D' hc' f' kk => ?_) fun P s1 hP _ e1 D1 f1 => ?_
    · simp [wipeL]
      refine draw D' (by omega) (by omega) hc' fun r s2 hr D2 f2 => ?_
      simp
      exact kk _ s2 (fun _ => trivial) D2 f2
    · have hk : ∀ x ∈ P, x ∈ kn := fun x hx => hP.subset hx
      have hPl : P.length ≤ 29 := Nat.le_trans hP.length_le F.kl
      have e2 := f1.at eW hrw
      have hadd : (P.map Vl.int).length + ((w :: W').map Vl.int).length ≤ LIM := limB (by simp; omega)
      simp only [WE_eVar', List.getElem?_cons_succ, List.getElem?_cons_zero]
      rw [opAdd_lst e1 e2 hadd]
      have em : P.map Vl.int ++ (w :: W').map Vl.int = (P ++ w :: W').map Vl.int := by rw [List.map_append]
      rw [em]
      obtain ⟨P1, P2, eS, hS⟩ := srt_first (W := W') hk inc
      have f2 : Fr [] s1 (s1 ++ [Ob.lst ((P ++ w :: W').map Vl.int)]) := Fr.refl.push _
      have l2 : (s1 ++ [Ob.lst ((P ++ w :: W').map Vl.int)])[s1.length]? = some (.lst ((P ++ w :: W').map Vl.int)) := get_last
      generalize s1 ++ [Ob.lst ((P ++ w :: W').map Vl.int)] = s2 at f2 l2
      simp only [WO_some, WE_aNil, oSortS_ints l2]
      have f3 : Fr [] s2 (s2 ++ [Ob.lst ((srt (P ++ w :: W')).map Vl.int)]) := Fr.refl.push _
      have l3 : (s2 ++ [Ob.lst ((srt (P ++ w :: W')).map Vl.int)])[s2.length]? = some (.lst ((srt (P ++ w :: W')).map Vl.int)) := get_last
      generalize s2 ++ [Ob.lst ((srt (P ++ w :: W')).map Vl.int)] = s3 at f3 l3
      simp [oTuple_lst l3]
      have F3 := (FA.fr f1).fr ((f2.trans f3).mono (by simp))
      refine refused F.app F.hp eS hS hw F3.ho fun s4 f4 => ?_
      obtain ⟨y, hy⟩ := repr_int hwb
      have e5 := ((f2.trans f3).trans f4).at e2 (by simp)
      simp at e5
      simp [hy, opIx_lst e5]
      exact k _ _ _ _ _ _ s4 ((D1.new ((f2.trans f3).trans f4)).mono (by omega)) ((fA.trans f1).trans (((f2.trans f3).trans f4).mono (by simp)))
  clear hT
  simp [WE_eMeth]
  rw [methW_ins (m := "places_of") (tab := tabA 1 tab_places_of) (mf := arg 2 mp) F.ho (by unfold tabA; rw [F.hp.tab]; rfl) rfl]
  simp
  refine F.hp.run fun s1 f1 => ?_
  simp
  have F1 := F.fr (f1.mono (by simp))
  have D1 := D.new f1
  have g2 : Fr [] s (s1 ++ [Ob.lst [Vl.int 1, Vl.int 2, Vl.int 3]]) := f1.push _
  have F2 := F.fr (g2.mono (by simp))
  have D2 := D.new g2
  have e2 : (s1 ++ [Ob.lst [Vl.int 1, Vl.int 2, Vl.int 3]])[s1.length]? = some (.lst [Vl.int 1, Vl.int 2, Vl.int 3]) := get_last
  have hr : s1.length ∉ [d, l] := by have := f1.le; simp; omega
  generalize s1 ++ [Ob.lst [Vl.int 1, Vl.int 2, Vl.int 3]] = s2 at g2 F2 D2 e2
  generalize s1.length = r2 at e2 hr
  refine loopL_inv (xs := [Vl.int 1, Vl.int 2, Vl.int 3]) (fun i lo s' => ∃ y7 y9 y10 : Option Vl, lo = [x0, some (.ref d), some (.int (Stm.cnts b : Nat)), some (.ref o), some (progV g b), x5, some (.tup (kn.map Vl.int)), y7, x8, y9, y10, x11] ∧ s'[r2]? = some (.lst [Vl.int 1, Vl.int 2, Vl.int 3]) ∧ Dk s' d l (c + 40 * i) ∧ Fr [d, l] s s') (by simp)
    ⟨x7, x9, x10, rfl, e2, D2, g2.mono (by simp)⟩ (fun i lo s' h => by obtain ⟨_, _, _, _, h, _⟩ := h; exact h) ?_ ?_
  · rintro i v lo s3 hv ⟨y7, y9, y10, rfl, e3, D3, f3⟩
    have hi := (List.getElem?_eq_some_iff.mp hv).1
    simp at hi
    have hv' : v = .int ((i + 1 : Nat) : Int) := by
      match i, hi with
      | 0, _ => simp at hv; exact hv.symm
      | 1, _ => simp at hv; exact hv.symm
      | 2, _ => simp at hv; exact hv.symm
    subst hv'
    simp only [WG_gNm, List.set_cons_succ, List.set_cons_zero]
    refine inn (F.fr f3) D3 (by omega) (by omega) fun z9 z10 s4 D4 f4 => ?_
    exact ⟨_, z9, z10, rfl, f4.at e3 hr, D4.mono (by omega), f3.trans f4⟩
  · rintro lo s3 ⟨y7, y9, y10, rfl, e3, D3, f3⟩
    have F3 := F.fr f3
    have hcb := F.cb
    have lt3 := D3.lt
    simp at D3
    simp
    rw [rngW_nat (by omega)]
    have er : rng 0 (Stm.cnts b) = ((List.range (Stm.cnts b)).map fun i => ((i : Nat) : Int)).map Vl.int := by unfold rng; rw [List.map_map]; simp [Function.comp_def]
    rw [er]
    refine pick (R := fun x => x ∉ kn) D3 (by simp; omega) (by omega) (by simp [wipeL]) (fun x s' c' Q' E' hx D' hc' f' kk => ?_) fun W0 s4 hW hW2 e4 D4 f4 => ?_
    · simp [wipeL]
      by_cases hm : x ∈ kn
      · simp [hm]
        exact kk false s' (fun z => by cases z) (D'.mono (by omega)) Fr.refl
      · simp [hm]
        refine draw D' (by omega) (by omega) hc' fun r s2 hr D2 f2 => ?_
        simp
        exact kk _ s2 (fun _ => hm) D2 f2
    · have lt4 := D4.lt
      have hr3 : s3.length ∉ [d, l] := by simp; omega
      simp [kd_lst e4]
      refine draw D4 (by omega) (by omega) (by omega) fun r s5 hr5 D5 f5 => ?_
      have e5 := f5.at e4 hr3
      have hl0 : W0.length ≤ 29 := by have := hW.length_le; simp at this; omega
      simp [oAppend_lst e5 (limC (by simp; omega))]
      have inc0 : W0.Pairwise (· < ·) := List.Pairwise.sublist hW (List.pairwise_map.mpr (List.pairwise_lt_range.imp (by intro a b h; omega)))
      have rng0 : ∀ x ∈ W0, 0 ≤ x ∧ x < ((Stm.cnts b : Nat) : Int) := fun x hx => by
        have := hW.subset hx
        simp at this
        obtain ⟨a, h1, h2⟩ := this
        omega
      have F5 := (F3.fr f4).fr f5
      have lt5 := D5.lt
      have f6 : Fr [s3.length] s5 (s5.set s3.length (.lst (W0.map Vl.int ++ [.int (((Stm.cnts b : Nat) : Int) + (r : Nat))]))) := Fr.refl.set (by simp)
      have D6 := D5.fr f6 (by simp at hr3 ⊢; omega) (by simp at hr3 ⊢; omega)
      have f36 : Fr [d, l] s3 (s5.set s3.length (.lst (W0.map Vl.int ++ [.int (((Stm.cnts b : Nat) : Int) + (r : Nat))]))) := (f4.trans f5).trans' f6 (fun i hi => by simp at hi; subst hi; exact Or.inr (Nat.le_refl _))
      have F6 := F3.fr f36
      have e6 : (s5.set s3.length (.lst (W0.map Vl.int ++ [.int (((Stm.cnts b : Nat) : Int) + (r : Nat))])))[s3.length]? = some (.lst ((W0 ++ [((Stm.cnts b : Nat) : Int) + (r : Nat)]).map Vl.int)) := by rw [get_set_self e5, List.map_append]; rfl
      generalize (s5.set s3.length (.lst (W0.map Vl.int ++ [.int (((Stm.cnts b : Nat) : Int) + (r : Nat))]))) = s6 at D6 f36 F6 e6
      have f06 : Fr [d, l] s s6 := f3.trans f36
      have inc1 : (W0 ++ [((Stm.cnts b : Nat) : Int) + (r : Nat)]).Pairwise (· < ·) := by
        rw [List.pairwise_append]
        refine ⟨inc0, by simp, fun a ha y hy => ?_⟩
        simp at hy
        subst hy
        have := rng0 a ha
        omega
      have nk1 : ∀ x ∈ W0 ++ [((Stm.cnts b : Nat) : Int) + (r : Nat)], x ∉ kn ∧ 0 ≤ x ∧ x.natAbs < 10 ^ 19 := by
        intro x hx
        rcases List.mem_append.mp hx with h | h
        · have := rng0 x h
          exact ⟨hW2 x h, this.1, by omega⟩
        · simp at h
          subst h
          exact ⟨fun z => by have := F.kr _ z; omega, by omega, by omega⟩
      have len1 : (W0 ++ [((Stm.cnts b : Nat) : Int) + (r : Nat)]).length ≤ 30 := by simp; omega
      have ne1 : (W0 ++ [((Stm.cnts b : Nat) : Int) + (r : Nat)]) ≠ [] := by simp
      generalize (W0 ++ [((Stm.cnts b : Nat) : Int) + (r : Nat)]) = W1 at e6 inc1 nk1 len1 ne1
      refine draw D6 (by omega) (by omega) (by omega) fun r7 s7 hr7 D7 f7 => ?_
      have e7 := f7.at e6 hr3
      have F7 := F6.fr f7
      by_cases h0 : r7 = 0
      · subst h0
        simp
        refine draw D7 (by omega) (by omega) (by omega) fun r8 s8 hr8 D8 f8 => ?_
        have e8 := f8.at e7 hr3
        have F8 := F7.fr f8
        simp
        have f9 : Fr [] s8 (s8 ++ [Ob.lst [Vl.int (-1 - (r8 : Nat))]]) := Fr.refl.push _
        have l9 : (s8 ++ [Ob.lst [Vl.int (-1 - (r8 : Nat))]])[s8.length]? = some (.lst [Vl.int (-1 - (r8 : Nat))]) := get_last
        generalize s8 ++ [Ob.lst [Vl.int (-1 - (r8 : Nat))]] = s9 at f9 l9
        have e9 := f9.at e8 (by simp)
        have lt8 := D8.lt
        have hadd : [Vl.int (-1 - (r8 : Nat))].length + (W1.map Vl.int).length ≤ LIM := limB (by simp; omega)
        rw [opAdd_lst l9 e9 hadd]
        simp only [WO_some]
        have f10 := f9.push (Ob.lst ([Vl.int (-1 - (r8 : Nat))] ++ W1.map Vl.int))
        have le9 := f9.le
        refine tail (w := -1 - (r8 : Nat)) (W' := W1) (F8.fr (f10.mono (by simp))) (D8.new f10) (by omega) get_last (by omega) (fun x hx => by have := (nk1 x hx).2.1; omega) (fun z => by have := F.kr _ z; omega) (by omega) (by simp; omega) (((f06.trans f7).trans f8).trans (f10.mono (by simp)))
      · have h0' : ¬ ((r7 : Nat) : Int) = 0 := by omega
        simp [h0]
        cases W1 with
        | nil => exact absurd rfl ne1
        | cons w W' =>
          have hw := nk1 w (List.mem_cons_self ..)
          exact tail (w := w) (W' := W') F7 D7 (by omega) e7 (by simp at len1; omega) (fun x hx => (List.pairwise_cons.mp inc1).1 x hx) hw.1 hw.2.2 hr3 (f06.trans f7)
end
theorem law_eq : b_law = (sSeq (sSet 1 (eCall (arg 1 m__law_deck) (aCons (eVar 0) aNil)))
  (sSeq (sAsg (gTp [4, 5]) (eCall (arg 2 m__law_program) (aCons (eVar 1) (aCons (eCB oLst (aCons (eC (.int 12)) (aCons (eC (.int 4)) (aCons (eC (.int 1)) aNil)))) aNil))))
  (sSeq (sSet 2 (eCall (arg 1 m__law_count) (aCons (eOp opIx (eVar 4) (eC (.int 1))) aNil)))
  (sSeq (sFor 100000 (iLst (eCB oLst (aCons (eMakeB 4) (aCons (eMakeB 5) (aCons (eMakeB 3) aNil))))) (gNm 3) fixB)
  (sRet (eC (.bl true))))))) := rfl
theorem pure_law : ∀ ns : List Int, ns.length ≤ 63 → ∃ st, m_law [.scr ns] [] = .ok (.bl true) st := by
  intro ns hns
  have X4 : X 4 = 1000000000000 := by decide
  have hCM : CM = 1000000000000000 := rfl
  have key : WE (m_law [.scr ns]) [] (fun v _ => v = .bl true) NoX := by
    unfold m_law
    rw [law_eq]
    simp
    refine deck hns fun d l s1 D1 f1 => ?_
    have lt1 := D1.lt
    simp
    refine progS (A := 12) (Dp := 4) (D1.new (Fr.refl.push _)) get_last (by simp; omega) (by omega) (by omega) (by omega) (by omega) fun g b ins s2 hg ob cb wb il ib D2 f2 => ?_
    simp
    refine countA (n := 4) (by omega) ob (by omega) fun s3 f3 => ?_
    have D3 := D2.new f3
    have lt3 := D3.lt
    have hlen : (Stm.flats 0 b).length ≤ 29 := by rw [Stm.flats_len]; omega
    have hkr : ∀ w : Str, ∀ x ∈ places w (Stm.flats 0 b), 0 ≤ x ∧ x < ((Stm.cnts b : Nat) : Int) := fun w x hx => by
      unfold places at hx
      obtain ⟨i, hi, e⟩ := List.mem_filterMap.mp hx
      rw [List.mem_range, Stm.flats_len] at hi
      cases q : (Stm.flats 0 b)[i]? with
      | none => rw [q] at e; cases e
      | some v =>
        rw [q] at e
        simp at e
        omega
    simp
    have o1 : (s3 ++ [Ob.ins 4 [], Ob.ins 5 [], Ob.ins 3 [], Ob.lst [.ref s3.length, .ref (s3.length + 1), .ref (s3.length + 2)]])[s3.length]? = some (.ins 4 []) := by
      rw [List.getElem?_append_right (by omega)]; simp
    have o2 : (s3 ++ [Ob.ins 4 [], Ob.ins 5 [], Ob.ins 3 [], Ob.lst [.ref s3.length, .ref (s3.length + 1), .ref (s3.length + 2)]])[s3.length + 1]? = some (.ins 5 []) := by
      rw [List.getElem?_append_right (by omega), show s3.length + 1 - s3.length = 1 by omega]; rfl
    have o3 : (s3 ++ [Ob.ins 4 [], Ob.ins 5 [], Ob.ins 3 [], Ob.lst [.ref s3.length, .ref (s3.length + 1), .ref (s3.length + 2)]])[s3.length + 2]? = some (.ins 3 []) := by
      rw [List.getElem?_append_right (by omega), show s3.length + 2 - s3.length = 2 by omega]; rfl
    have ol : (s3 ++ [Ob.ins 4 [], Ob.ins 5 [], Ob.ins 3 [], Ob.lst [.ref s3.length, .ref (s3.length + 1), .ref (s3.length + 2)]])[s3.length + 3]? = some (.lst [.ref s3.length, .ref (s3.length + 1), .ref (s3.length + 2)]) := by
      rw [List.getElem?_append_right (by omega), show s3.length + 3 - s3.length = 3 by omega]; rfl
    have f4 : Fr [] s3 (s3 ++ [Ob.ins 4 [], Ob.ins 5 [], Ob.ins 3 [], Ob.lst [.ref s3.length, .ref (s3.length + 1), .ref (s3.length + 2)]]) := Fr.refl.app _
    have D4 := D3.new f4
    generalize (s3 ++ [Ob.ins 4 [], Ob.ins 5 [], Ob.ins 3 [], Ob.lst [.ref s3.length, .ref (s3.length + 1), .ref (s3.length + 2)]]) = s4 at o1 o2 o3 ol f4 D4
    have nd : ∀ j, s3.length ≤ j → j ∉ [d, l] := fun j hj => by simp; omega
    have K1 : FixOk s3.length 4 d l kept m_Keeps_changed m_Keeps_places_of (places "make" (Stm.flats 0 b)) g b s4 :=
      ⟨ch_keeps, pl_keeps (n := 4) (by omega) ob (by omega), rfl, (places_le hlen).1, hkr _, fun P hP => nosP_places (by decide) (by decide) hP, hg, ob, cb, o1, nd _ (by omega)⟩
    have K2 : FixOk (s3.length + 1) 5 d l strong m_Strongs_changed m_Strongs_places_of (places "weak" (Stm.flats 0 b)) g b s4 :=
      ⟨ch_strongs, pl_strongs (n := 4) (by omega) ob (by omega), rfl, (places_le hlen).1, hkr _, fun P hP => nosP_places (by decide) (by decide) hP, hg, ob, cb, o2, nd _ (by omega)⟩
    have K3 : FixOk (s3.length + 2) 3 d l (fun x => [x]) m_Fix_changed m_Fix_places_of [] g b s4 :=
      ⟨ch_fix, pl_fix, rfl, by simp, by simp, fun P hP => nosP_places (w := "make") (by decide) (by decide) (fun x hx => absurd (hP x hx) (by simp)), hg, ob, cb, o3, nd _ (by omega)⟩
    have hl3 := nd (s3.length + 3) (by omega)
    generalize s3.length + 3 = rl at ol hl3
    generalize s3.length = q1 at ol K1 K2 K3
    refine loopL_inv (xs := [Vl.ref q1, Vl.ref (q1 + 1), Vl.ref (q1 + 2)]) (fun i lo s' => ∃ y3 y5 y6 y7 y8 y9 y10 y11 : Option Vl, lo = [some (.scr ns), some (.ref d), some (.int (Stm.cnts b : Nat)), y3, some (progV g b), y5, y6, y7, y8, y9, y10, y11] ∧ Dk s' d l (2000000000000 + 2000000000 + i * 1000) ∧ Fr [d, l] s4 s') (by simp)
      ⟨_, _, _, _, _, _, _, _, rfl, D4.mono (by omega), Fr.refl⟩ (fun i lo s' h => by obtain ⟨_, _, _, _, _, _, _, _, _, _, h⟩ := h; exact h.at ol hl3) ?_ ?_
    · rintro i v lo s5 hv ⟨y3, y5, y6, y7, y8, y9, y10, y11, rfl, D5, f5⟩
      have hi := (List.getElem?_eq_some_iff.mp hv).1
      simp at hi
      simp only [WG_gNm, List.set_cons_succ, List.set_cons_zero]
      match i, hi with
      | 0, _ =>
        simp at hv; subst hv
        exact bodyF (K1.fr f5) D5 (by omega) fun z6 z7 z8 z9 z10 z11 s6 D6 f6 => ⟨_, _, z6, z7, z8, z9, z10, z11, rfl, D6.mono (by omega), f5.trans f6⟩
      | 1, _ =>
        simp at hv; subst hv
        exact bodyF (K2.fr f5) D5 (by omega) fun z6 z7 z8 z9 z10 z11 s6 D6 f6 => ⟨_, _, z6, z7, z8, z9, z10, z11, rfl, D6.mono (by omega), f5.trans f6⟩
      | 2, _ =>
        simp at hv; subst hv
        exact bodyF (K3.fr f5) D5 (by omega) fun z6 z7 z8 z9 z10 z11 s6 D6 f6 => ⟨_, _, z6, z7, z8, z9, z10, z11, rfl, D6.mono (by omega), f5.trans f6⟩
    · rintro lo s5 ⟨y3, y5, y6, y7, y8, y9, y10, y11, rfl, D5, f5⟩
      simp
  obtain ⟨a, s', e, rfl⟩ := key.get
  exact ⟨s', e⟩
end K79

open PySem PySem.W PyProof.Rows
set_option maxRecDepth 100000 in
set_option maxHeartbeats 0 in
theorem PySem.Challenge.cw_maybegone_k79_programs_fixed_holds : PySem.Challenge.rw_maybegone_k79_programs_fixed.Holds := by
  w_on; o_law; k_head; (case hw => w_witness2)
  k_fill
  refine Sm.walk_G (l := PySem.Challenge.rw_maybegone_k79_programs_fixed) (n := 63) (k := 28) (x := "_law_script") (m := K79.m_law) rfl (by decide) rfl ⟨rfl, by decide, by decide⟩ (fun w h Y => PySem.W.kIn_of Y) ?F K79.pure_law
  case F =>
    intro w mg fa h KX G hmg
    refine' K79.all_mk KX G hmg ?aC_Fix ?aC_Keeps ?aC_Strongs ?aC_GoneError ?aC_NoVersion ?aC_NoPlace ?a_inner_blocks ?a_listed ?a_statements_of ?a_places_with ?a_make_places ?a_weak_places ?a__law_deck ?a__law_draw ?a__law_one ?a__law_names ?a__law_words ?a__law_test ?a__law_plain ?a__law_body ?a__law_program ?a__law_count ?a__law_fixed ?a__law_refused ?a_law ?ma_Fix_applied ?ma_Fix_changed ?ma_Fix_places_of ?ma_Fix_rebuilt ?ma_Keeps_applied ?ma_Keeps_changed ?ma_Keeps_places_of ?ma_Keeps_rebuilt ?ma_Strongs_applied ?ma_Strongs_changed ?ma_Strongs_places_of ?ma_Strongs_rebuilt ?in_X_NoPlace ?l_inner_blocks ?c_inner_blocks ?k_inner_blocks ?l_listed ?c_listed ?k_listed ?l_statements_of ?c_statements_of ?k_statements_of ?l_places_with ?c_places_with ?k_places_with ?l_make_places ?c_make_places ?k_make_places ?l_weak_places ?c_weak_places ?k_weak_places ?l_Fix_places_of ?c_Fix_places_of ?k_Fix_places_of ?l_Fix_changed ?c_Fix_changed ?k_Fix_changed ?l_Keeps_changed ?c_Keeps_changed ?k_Keeps_changed ?l_Strongs_changed ?c_Strongs_changed ?k_Strongs_changed ?l_Fix_rebuilt ?c_Fix_rebuilt ?k_Fix_rebuilt ?l_Keeps_places_of ?c_Keeps_places_of ?k_Keeps_places_of ?l_Strongs_places_of ?c_Strongs_places_of ?k_Strongs_places_of ?l_Fix_applied ?c_Fix_applied ?k_Fix_applied ?l__law_deck ?c__law_deck ?k__law_deck ?l__law_draw ?c__law_draw ?k__law_draw ?l__law_one ?c__law_one ?k__law_one ?l__law_names ?c__law_names ?k__law_names ?l__law_words ?c__law_words ?k__law_words ?l__law_test ?c__law_test ?k__law_test ?l__law_plain ?c__law_plain ?k__law_plain ?l__law_body ?c__law_body ?k__law_body ?l__law_program ?c__law_program ?k__law_program ?l__law_count ?c__law_count ?k__law_count ?l__law_fixed ?c__law_fixed ?k__law_fixed ?l__law_refused ?c__law_refused ?k__law_refused ?l_law ?c_law ?k_law ?l_NoPlaceU_initU ?c_NoPlaceU_initU ?k_NoPlaceU_initU ?pg_Fix ?hd_Fix ?po_Fix ?sa_Fix ?mm_Fix ?kc_Fix ?ib_Fix ?mo_Fix ?mi_Fix_applied ?mi_Fix_changed ?mi_Fix_places_of ?mi_Fix_rebuilt ?pg_Keeps ?hd_Keeps ?po_Keeps ?sa_Keeps ?mm_Keeps ?kc_Keeps ?ib_Keeps ?mo_Keeps ?mi_Keeps_applied ?mi_Keeps_changed ?mi_Keeps_places_of ?mi_Keeps_rebuilt ?pg_Strongs ?hd_Strongs ?po_Strongs ?sa_Strongs ?mm_Strongs ?kc_Strongs ?ib_Strongs ?mo_Strongs ?mi_Strongs_applied ?mi_Strongs_changed ?mi_Strongs_places_of ?mi_Strongs_rebuilt ?xl_NoPlace ?xsa_NoPlace ?xga_NoPlace ?xgg_NoPlace ?xno_NoPlace ?xkc_NoPlace ?xex_NoPlace ?xty_NoPlace ?xhd_NoPlace ?xti_NoPlace ?em_NoPlace_NoPlace ?nf_NoPlace_NoPlace_place ?xca_NoPlace ?xmr_NoPlace ?xgs ?xtk ?ki_0_NoPlace ?ki_1_NoPlace ?z_LookupError ?z_ValueError ?z_abs ?z_dict ?z_enumerate ?z_int ?z_isinstance ?z_len ?z_list ?z_range ?z_repr ?z_sorted ?z_str ?z_sum ?z_tuple
    (case aC_Fix => k_is)
    (case aC_Keeps => k_is)
    (case aC_Strongs => k_is)
    (case aC_GoneError => k_is)
    (case aC_NoVersion => k_is)
    (case aC_NoPlace => k_is)
    (case a_inner_blocks => k_is)
    (case a_listed => k_is)
    (case a_statements_of => k_is)
    (case a_places_with => k_is)
    (case a_make_places => k_is)
    (case a_weak_places => k_is)
    (case a__law_deck => k_is)
    (case a__law_draw => k_is)
    (case a__law_one => k_is)
    (case a__law_names => k_is)
    (case a__law_words => k_is)
    (case a__law_test => k_is)
    (case a__law_plain => k_is)
    (case a__law_body => k_is)
    (case a__law_program => k_is)
    (case a__law_count => k_is)
    (case a__law_fixed => k_is)
    (case a__law_refused => k_is)
    (case a_law => k_is)
    (case ma_Fix_applied => k_is)
    (case ma_Fix_changed => k_is)
    (case ma_Fix_places_of => k_is)
    (case ma_Fix_rebuilt => k_is)
    (case ma_Keeps_applied => k_is)
    (case ma_Keeps_changed => k_is)
    (case ma_Keeps_places_of => k_is)
    (case ma_Keeps_rebuilt => k_is)
    (case ma_Strongs_applied => k_is)
    (case ma_Strongs_changed => k_is)
    (case ma_Strongs_places_of => k_is)
    (case ma_Strongs_rebuilt => k_is)
    (case in_X_NoPlace => k_is)
    (case l_inner_blocks => k_is)
    (case c_inner_blocks => k_is)
    (case k_inner_blocks => k_is)
    (case l_listed => k_is)
    (case c_listed => k_is)
    (case k_listed => k_is)
    (case l_statements_of => k_is)
    (case c_statements_of => k_is)
    (case k_statements_of => k_is)
    (case l_places_with => k_is)
    (case c_places_with => k_is)
    (case k_places_with => k_is)
    (case l_make_places => k_is)
    (case c_make_places => k_is)
    (case k_make_places => k_is)
    (case l_weak_places => k_is)
    (case c_weak_places => k_is)
    (case k_weak_places => k_is)
    (case l_Fix_places_of => k_is)
    (case c_Fix_places_of => k_is)
    (case k_Fix_places_of => k_is)
    (case l_Fix_changed => k_is)
    (case c_Fix_changed => k_is)
    (case k_Fix_changed => k_is)
    (case l_Keeps_changed => k_is)
    (case c_Keeps_changed => k_is)
    (case k_Keeps_changed => k_is)
    (case l_Strongs_changed => k_is)
    (case c_Strongs_changed => k_is)
    (case k_Strongs_changed => k_is)
    (case l_Fix_rebuilt => k_is)
    (case c_Fix_rebuilt => k_is)
    (case k_Fix_rebuilt => k_is)
    (case l_Keeps_places_of => k_is)
    (case c_Keeps_places_of => k_is)
    (case k_Keeps_places_of => k_is)
    (case l_Strongs_places_of => k_is)
    (case c_Strongs_places_of => k_is)
    (case k_Strongs_places_of => k_is)
    (case l_Fix_applied => k_is)
    (case c_Fix_applied => k_is)
    (case k_Fix_applied => k_is)
    (case l__law_deck => k_is)
    (case c__law_deck => k_is)
    (case k__law_deck => k_is)
    (case l__law_draw => k_is)
    (case c__law_draw => k_is)
    (case k__law_draw => k_is)
    (case l__law_one => k_is)
    (case c__law_one => k_is)
    (case k__law_one => k_is)
    (case l__law_names => k_is)
    (case c__law_names => k_is)
    (case k__law_names => k_is)
    (case l__law_words => k_is)
    (case c__law_words => k_is)
    (case k__law_words => k_is)
    (case l__law_test => k_is)
    (case c__law_test => k_is)
    (case k__law_test => k_is)
    (case l__law_plain => k_is)
    (case c__law_plain => k_is)
    (case k__law_plain => k_is)
    (case l__law_body => k_is)
    (case c__law_body => k_is)
    (case k__law_body => k_is)
    (case l__law_program => k_is)
    (case c__law_program => k_is)
    (case k__law_program => k_is)
    (case l__law_count => k_is)
    (case c__law_count => k_is)
    (case k__law_count => k_is)
    (case l__law_fixed => k_is)
    (case c__law_fixed => k_is)
    (case k__law_fixed => k_is)
    (case l__law_refused => k_is)
    (case c__law_refused => k_is)
    (case k__law_refused => k_is)
    (case l_law => k_is)
    (case c_law => k_is)
    (case k_law => k_is)
    (case l_NoPlaceU_initU => k_is)
    (case c_NoPlaceU_initU => k_is)
    (case k_NoPlaceU_initU => k_is)
    (case pg_Fix => k_is)
    (case hd_Fix => k_is)
    (case po_Fix => k_is)
    (case sa_Fix => k_is)
    (case mm_Fix => k_is)
    (case kc_Fix => k_is)
    (case ib_Fix => k_is)
    (case mo_Fix => k_is)
    (case mi_Fix_applied => k_is)
    (case mi_Fix_changed => k_is)
    (case mi_Fix_places_of => k_is)
    (case mi_Fix_rebuilt => k_is)
    (case pg_Keeps => k_is)
    (case hd_Keeps => k_is)
    (case po_Keeps => k_is)
    (case sa_Keeps => k_is)
    (case mm_Keeps => k_is)
    (case kc_Keeps => k_is)
    (case ib_Keeps => k_is)
    (case mo_Keeps => k_is)
    (case mi_Keeps_applied => k_is)
    (case mi_Keeps_changed => k_is)
    (case mi_Keeps_places_of => k_is)
    (case mi_Keeps_rebuilt => k_is)
    (case pg_Strongs => k_is)
    (case hd_Strongs => k_is)
    (case po_Strongs => k_is)
    (case sa_Strongs => k_is)
    (case mm_Strongs => k_is)
    (case kc_Strongs => k_is)
    (case ib_Strongs => k_is)
    (case mo_Strongs => k_is)
    (case mi_Strongs_applied => k_is)
    (case mi_Strongs_changed => k_is)
    (case mi_Strongs_places_of => k_is)
    (case mi_Strongs_rebuilt => k_is)
    (case xl_NoPlace => k_is)
    (case xsa_NoPlace => k_is)
    (case xga_NoPlace => k_is)
    (case xgg_NoPlace => k_is)
    (case xno_NoPlace => k_is)
    (case xkc_NoPlace => k_is)
    (case xex_NoPlace => k_is)
    (case xty_NoPlace => k_is)
    (case xhd_NoPlace => k_is)
    (case xti_NoPlace => k_is)
    (case em_NoPlace_NoPlace => kts_exm)
    (case nf_NoPlace_NoPlace_place => k_is)
    (case xca_NoPlace => k_is)
    (case xmr_NoPlace => k_is)
    (case xgs => k_is)
    (case xtk => k_is)
    (case ki_0_NoPlace => kit_is)
    (case ki_1_NoPlace => kit_is)
    (case z_LookupError => k_is)
    (case z_ValueError => k_is)
    (case z_abs => k_is)
    (case z_dict => k_is)
    (case z_enumerate => k_is)
    (case z_int => k_is)
    (case z_isinstance => k_is)
    (case z_len => k_is)
    (case z_list => k_is)
    (case z_range => k_is)
    (case z_repr => k_is)
    (case z_sorted => k_is)
    (case z_str => k_is)
    (case z_sum => k_is)
    (case z_tuple => k_is)
