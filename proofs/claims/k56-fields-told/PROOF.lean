import PyProof.Rows.All
import Wide.All
import OpenK.AllK
import Wide.FinOn
import HandS.ForMost
import HandS.ForExc
import HandS.CallSlots
import HandS.Wide
import HandS.Strs
import HandS.TupAny
import HandS.Deep
import HandS.Conv
import HandS.SortInts
import PyProof.ReprRoads
import HandS.Style
import HandS.ExcOwn
import HandS.ExcCtx
import HandS.SetFor
import HandS.New0
import HandS.Star
import HandS.Text
import HandS.More
import HandS.IsInst
import HandS.SetKeys
import KE.GoesMore
import HandS.Defaults
import HandS.NoneIn
import HandS.FStr
import HandS.Flow
import HandS.RaiseMore
import HandS.ExcField
import HandS.ExcSuper
import HandS.HotCalls
import KE.KExcInit
import HandS.TryOnly
import HandS.ExcInitHot
import KE.KSuper
import HandS.Nested
import HandS.Small
import PySem.Challenge.RW_maybegone_k56_fields_told
import KE.RegKSuper
import KE.RegKTryMore
import PyProof.ReprLen
import HandS.SortRule
set_option Elab.async false
set_option linter.all false
set_option maxRecDepth 100000
set_option maxHeartbeats 4000000
/-! S0: a pure world beside the abstract heap: values, objects, stores, results; how they stand for each other -/
namespace Sm
open PySem L2

/-- pure values: a tuple is its items, a mutable object is its number -/
inductive Vl where
  | non | bl (b : Bool) | int (i : Int) | str (x : Str) | tup (xs : List Vl) | ref (i : Nat) | scr (ns : List Int) | ty (n : String) | fn (i : Nat)
/-- mutable objects -/
inductive Ob where
  | lst (xs : List Vl)
  | dic (kvs : List (Key × Vl))
  | dit (kvs : List (List Key × Vl))
  | fdic (kvs : List (Key × Vl))
  | ins (c : Nat) (fs : List (Str × Vl))
  | set (xs : List Int)
abbrev Sto := List Ob
/-- an exception: its class, its fields (none: it has no dict) -/
structure Ex where
  c : Nat
  fs : Option (List (Str × Vl))
inductive Res (α : Type) where
  | ok (a : α) (s : Sto) | exc (e : Ex) (s : Sto) | fail
abbrev M (α : Type) := Sto → Res α
abbrev Lo := List (Option Vl)
def bnd {α β : Type} (m : M α) (f : α → M β) : M β := fun s => match m s with
  | .ok a s' => f a s'
  | .exc e s' => .exc e s'
  | .fail => .fail
def ret {α : Type} (a : α) : M α := fun s => .ok a s
def failM {α : Type} : M α := fun _ => .fail
def lift {α : Type} (f : Sto → Option (α × Sto)) : M α := fun s => match f s with
  | some (a, s') => .ok a s'
  | none => .fail

/-- the exception that an except suite handles: its slot, its address, its dict's address, its fields -/
structure XI where
  i : Nat
  a : Addr
  d : Addr
  ns : List Str
  xs : List Vl
/-- the tables: the written part, the classes, the defs held as values -/
structure Tb where
  K : PySem.W.Frag
  w : World
  cl : List Addr
  fns : List Addr
  xs : List XI := []

mutual
inductive RV (T : Tb) (ρ : List Addr) (H : Hp) : Vl → V → Prop
  | non : RV T ρ H .non .non
  | bl (b : Bool) : RV T ρ H (.bl b) (.bl b)
  | int (i : Int) : RV T ρ H (.int i) (.int i)
  | str (x : Str) : RV T ρ H (.str x) (.str x)
  | tup {a : Addr} {vs : List V} {xs : List Vl} : SqT T.K H a vs → RVs T ρ H xs vs → RV T ρ H (.tup xs) (.ref a)
  | ref {i : Nat} {a : Addr} : ρ[i]? = some a → RV T ρ H (.ref i) (.ref a)
  | scr {ns : List Int} {a : Addr} {o : Obj} : H a = some (.frz o (.lst (ns.map V.int))) → RV T ρ H (.scr ns) (.ref a)
  | scrK {ns : List Int} {a : Addr} : (∀ H' : Hp, SqL T.K H' a (ns.map V.int)) → RV T ρ H (.scr ns) (.ref a)
  | ty (n : String) : RV T ρ H (.ty n) (.ty n)
  | fn {i : Nat} {a : Addr} : T.fns[i]? = some a → RV T ρ H (.fn i) (.ref a)
inductive RVs (T : Tb) (ρ : List Addr) (H : Hp) : List Vl → List V → Prop
  | nil : RVs T ρ H [] []
  | cons {x : Vl} {v : V} {xs : List Vl} {vs : List V} : RV T ρ H x v → RVs T ρ H xs vs → RVs T ρ H (x :: xs) (v :: vs)
end

/-- more is known, nothing that cannot change has changed -/
structure Ext0 (T : Tb) (ρ : List Addr) (H : Hp) (ρ' : List Addr) (H' : Hp) : Prop where
  pre : ∀ (i : Nat) (a : Addr), ρ[i]? = some a → ρ'[i]? = some a
  tup : ∀ a vs, SqT T.K H a vs → SqT T.K H' a vs
  frz : ∀ a o u, H a = some (.frz o (.lst u)) → H' a = some (.frz o (.lst u))
  xd : ∀ a u, H a = some (.xd u) → H' a = some (.xd u)
structure Ext (T : Tb) (ρ : List Addr) (H : Hp) (ρ' : List Addr) (H' : Hp) : Prop extends Ext0 T ρ H ρ' H' where
  frd : ∀ a o u, H a = some (.frz o (.dK u)) → H' a = some (.frz o (.dK u))
theorem Ext.refl {T : Tb} {ρ : List Addr} {H : Hp} : Ext T ρ H ρ H := ⟨⟨fun _ _ h => h, fun _ _ h => h, fun _ _ _ h => h, fun _ _ h => h⟩, fun _ _ _ h => h⟩
theorem Ext.trans {T : Tb} {ρ ρ1 ρ2 : List Addr} {H H1 H2 : Hp} (a : Ext T ρ H ρ1 H1) (b : Ext T ρ1 H1 ρ2 H2) : Ext T ρ H ρ2 H2 :=
  ⟨⟨fun i x h => b.pre i x (a.pre i x h), fun x vs h => b.tup x vs (a.tup x vs h), fun x o u h => b.frz x o u (a.frz x o u h), fun x u h => b.xd x u (a.xd x u h)⟩, fun x o u h => b.frd x o u (a.frd x o u h)⟩

section
variable {T : Tb} {ρ ρ' : List Addr} {H H' : Hp}
mutual
theorem RV.mono0 (e : Ext0 T ρ H ρ' H') : ∀ {x : Vl} {v : V}, RV T ρ H x v → RV T ρ' H' x v
  | _, _, .non => .non
  | _, _, .bl b => .bl b
  | _, _, .int i => .int i
  | _, _, .str x => .str x
  | _, _, .tup h hs => .tup (e.tup _ _ h) (RVs.mono0 e hs)
  | _, _, .ref h => .ref (e.pre _ _ h)
  | _, _, .scr h => .scr (e.frz _ _ _ h)
  | _, _, .scrK h => .scrK h
  | _, _, .ty n => .ty n
  | _, _, .fn h => .fn h
theorem RVs.mono0 (e : Ext0 T ρ H ρ' H') : ∀ {xs : List Vl} {vs : List V}, RVs T ρ H xs vs → RVs T ρ' H' xs vs
  | _, _, .nil => .nil
  | _, _, .cons h hs => .cons (RV.mono0 e h) (RVs.mono0 e hs)
end
theorem RV.mono {x : Vl} {v : V} (h : RV T ρ H x v) (e : Ext T ρ H ρ' H') : RV T ρ' H' x v := h.mono0 e.toExt0
theorem RVs.mono {xs : List Vl} {vs : List V} (h : RVs T ρ H xs vs) (e : Ext T ρ H ρ' H') : RVs T ρ' H' xs vs := h.mono0 e.toExt0
theorem RVs.length : ∀ {xs : List Vl} {vs : List V}, RVs T ρ H xs vs → xs.length = vs.length
  | _, _, .nil => rfl
  | _, _, .cons _ hs => by
    rw [List.length_cons, List.length_cons, RVs.length hs]
theorem RVs.append : ∀ {xs ys : List Vl} {vs us : List V}, RVs T ρ H xs vs → RVs T ρ H ys us → RVs T ρ H (xs ++ ys) (vs ++ us)
  | _, _, _, _, .nil, h => h
  | _, _, _, _, .cons a b, h => .cons a (RVs.append b h)
theorem RVs.get : ∀ {xs : List Vl} {vs : List V} {i : Nat} {x : Vl}, RVs T ρ H xs vs → xs[i]? = some x → ∃ v, vs[i]? = some v ∧ RV T ρ H x v
  | _, _, _, _, .nil, e => by simp at e
  | _, _, 0, _, .cons a _, e => by simp at e; subst e; exact ⟨_, rfl, a⟩
  | _, _, i + 1, x, .cons _ b, e => by
    obtain ⟨v, h1, h2⟩ := RVs.get (i := i) (x := x) b (by simpa using e)
    exact ⟨v, by simpa using h1, h2⟩
theorem RVs.set {x : Vl} {v : V} (r : RV T ρ H x v) : ∀ {xs : List Vl} {vs : List V} (i : Nat), RVs T ρ H xs vs → RVs T ρ H (xs.set i x) (vs.set i v)
  | _, _, _, .nil => .nil
  | _, _, 0, .cons _ t => .cons r t
  | _, _, i + 1, .cons q t => .cons q (RVs.set r i t)
theorem RVs.take : ∀ {xs : List Vl} {vs : List V} (n : Nat), RVs T ρ H xs vs → RVs T ρ H (xs.take n) (vs.take n)
  | _, _, 0, _ => .nil
  | _, _, _ + 1, .nil => .nil
  | _, _, n + 1, .cons r t => .cons r (RVs.take n t)
theorem RVs.drop : ∀ {xs : List Vl} {vs : List V} (n : Nat), RVs T ρ H xs vs → RVs T ρ H (xs.drop n) (vs.drop n)
  | _, _, 0, r => r
  | _, _, _ + 1, .nil => .nil
  | _, _, n + 1, .cons _ t => RVs.drop n t
end

/-- an object of the store and what stands at its address -/
def RO (T : Tb) (ρ : List Addr) (H : Hp) : Ob → Addr → Prop
  | .lst xs, a => ∃ vs, H a = some (.lst vs) ∧ RVs T ρ H xs vs
  | .dic kvs, a => ∃ vs : List (Key × V), H a = some (.dK vs) ∧ vs.map (·.1) = kvs.map (·.1) ∧ RVs T ρ H (kvs.map (·.2)) (vs.map (·.2))
  | .dit kvs, a => ∃ vs : List (List Key × V), H a = some (.dT vs) ∧ vs.map (·.1) = kvs.map (·.1) ∧ RVs T ρ H (kvs.map (·.2)) (vs.map (·.2))
  | .fdic kvs, a => ∃ (o : Obj) (vs : List (Key × V)), H a = some (.frz o (.dK vs)) ∧ vs.map (·.1) = kvs.map (·.1) ∧ RVs T ρ H (kvs.map (·.2)) (vs.map (·.2))
  | .set xs, a => xs.Nodup ∧ ∃ S : Int → Bool, (∀ k, S k = true ↔ k ∈ xs) ∧ H a = some (SetO T.w a S xs.length)
  | .ins c fs, a => ∃ (C dx : Addr) (vs : List (Str × V)), T.cl[c]? = some C ∧ H a = some (.ins C dx vs) ∧ vs.map (·.1) = fs.map (·.1) ∧ RVs T ρ H (fs.map (·.2)) (vs.map (·.2))
/-- what never stands at a store's address -/
def Fixd : HO → Prop
  | .tup _ => True
  | .xd _ => True
  | .frz _ _ => True
  | _ => False
/-- what a store's address never holds -/
def FixT : HO → Prop
  | .tup _ => True
  | .xd _ => True
  | .frz _ (.lst _) => True
  | .frz _ (.tup _) => True
  | _ => False
theorem RO.some {T : Tb} {ρ : List Addr} {H : Hp} {o : Ob} {a : Addr} (h : RO T ρ H o a) : ∃ u, H a = some u ∧ ¬ FixT u := by
  cases o with
  | lst xs => obtain ⟨vs, h, _⟩ := h; exact ⟨_, h, fun z => z⟩
  | dic xs => obtain ⟨vs, h, _⟩ := h; exact ⟨_, h, fun z => z⟩
  | dit xs => obtain ⟨vs, h, _⟩ := h; exact ⟨_, h, fun z => z⟩
  | fdic xs => obtain ⟨o, vs, h, _⟩ := h; exact ⟨_, h, fun z => z⟩
  | set xs => obtain ⟨_, S, _, h⟩ := h; exact ⟨_, h, fun z => z⟩
  | ins c xs => obtain ⟨C, dx, vs, _, h, _⟩ := h; exact ⟨_, h, fun z => z⟩
theorem RO.mono {T : Tb} {ρ ρ' : List Addr} {H H' : Hp} {o : Ob} {a : Addr} (h : RO T ρ H o a) (e : Ext0 T ρ H ρ' H') (k : H' a = H a) : RO T ρ' H' o a := by
  cases o with
  | lst xs => obtain ⟨vs, h, r⟩ := h; exact ⟨vs, k.trans h, r.mono0 e⟩
  | dic xs => obtain ⟨vs, h, n, r⟩ := h; exact ⟨vs, k.trans h, n, r.mono0 e⟩
  | dit xs => obtain ⟨vs, h, n, r⟩ := h; exact ⟨vs, k.trans h, n, r.mono0 e⟩
  | fdic xs => obtain ⟨o, vs, h, n, r⟩ := h; exact ⟨o, vs, k.trans h, n, r.mono0 e⟩
  | set xs => obtain ⟨n, S, q, h⟩ := h; exact ⟨n, S, q, k.trans h⟩
  | ins c xs => obtain ⟨C, dx, vs, hc, h, n, r⟩ := h; exact ⟨C, dx, vs, hc, k.trans h, n, r.mono0 e⟩

structure Rel (T : Tb) (ρ : List Addr) (H : Hp) (s : Sto) : Prop where
  len : ρ.length = s.length
  nd : ρ.Nodup
  ob : ∀ (i : Nat) (a : Addr) (o : Ob), ρ[i]? = some a → s[i]? = some o → RO T ρ H o a

section
variable {T : Tb} {ρ ρ' : List Addr} {H H' : Hp} {s : Sto}
theorem Rel.at (r : Rel T ρ H s) {i : Nat} {o : Ob} (h : s[i]? = some o) : ∃ a, ρ[i]? = some a ∧ RO T ρ H o a := by
  have hi : i < ρ.length := by
    have := (List.getElem?_eq_some_iff.mp h).1
    rw [r.len]; exact this
  exact ⟨ρ[i], List.getElem?_eq_getElem hi, r.ob i _ o (List.getElem?_eq_getElem hi) h⟩
theorem Rel.tracked (r : Rel T ρ H s) {i : Nat} {a : Addr} (h : ρ[i]? = some a) : ∃ u, H a = some u ∧ ¬ FixT u := by
  have hi : i < s.length := by
    have := (List.getElem?_eq_some_iff.mp h).1
    rw [← r.len]; exact this
  exact (r.ob i a _ h (List.getElem?_eq_getElem hi)).some
theorem rd_ne {H : Hp} {a p : Addr} {u o : HO} (h : Rd H a u) (hp : H p = none) : Rd (upd H p o) a u := by
  rcases h with h | ⟨z, h⟩
  · exact .inl (by rw [upd_ne (ne_of_none h hp)]; exact h)
  · exact .inr ⟨z, by rw [upd_ne (ne_of_none h hp)]; exact h⟩
/-- a new address -/
theorem ext_upd {p : Addr} {o : HO} (hp : H p = none) : Ext T ρ H ρ (upd H p o) :=
  ⟨⟨fun _ _ h => h, fun a vs h => h.elim (fun q => .inl (rd_ne q hp)) .inr, fun a z u h => by rw [upd_ne (ne_of_none h hp)]; exact h, fun a u h => by rw [upd_ne (ne_of_none h hp)]; exact h⟩, fun a z u h => by rw [upd_ne (ne_of_none h hp)]; exact h⟩
theorem ext_push {p : Addr} : Ext T ρ H (ρ ++ [p]) H :=
  ⟨⟨fun i a h => by rw [List.getElem?_append_left (List.getElem?_eq_some_iff.mp h).1]; exact h, fun _ _ h => h, fun _ _ _ h => h, fun _ _ h => h⟩, fun _ _ _ h => h⟩
/-- a change where nothing fixed stands -/
theorem ext0_set {a : Addr} {u o : HO} (ha : H a = some u) (hu : ¬ FixT u) : Ext0 T ρ H ρ (upd H a o) := by
  refine ⟨fun _ _ h => h, fun b vs h => ?_, fun b z w h => ?_, fun b w h => ?_⟩
  · rcases h with (h | ⟨z, h⟩) | h
    · have : b ≠ a := fun e => by subst e; rw [h] at ha; cases ha; exact hu trivial
      exact .inl (.inl (by rw [upd_ne this]; exact h))
    · have : b ≠ a := fun e => by subst e; rw [h] at ha; cases ha; exact hu trivial
      exact .inl (.inr ⟨z, by rw [upd_ne this]; exact h⟩)
    · exact .inr h
  · have : b ≠ a := fun e => by subst e; rw [h] at ha; cases ha; exact hu trivial
    rw [upd_ne this]; exact h
  · have : b ≠ a := fun e => by subst e; rw [h] at ha; cases ha; exact hu trivial
    rw [upd_ne this]; exact h
theorem FixT.fixd {u : HO} (h : FixT u) : Fixd u := by
  cases u <;> first | exact trivial | exact h
theorem ext_set {a : Addr} {u o : HO} (ha : H a = some u) (hu : ¬ Fixd u) : Ext T ρ H ρ (upd H a o) :=
  ⟨ext0_set ha fun z => hu z.fixd, fun b z w h => by
    have : b ≠ a := fun e => by subst e; rw [h] at ha; cases ha; exact hu trivial
    rw [upd_ne this]; exact h⟩
/-- something that the store does not know is laid -/
theorem Rel.laid (r : Rel T ρ H s) {p : Addr} {o : HO} (hp : H p = none) : Rel T ρ (upd H p o) s :=
  ⟨r.len, r.nd, fun i a o h1 h2 => (r.ob i a o h1 h2).mono (ext_upd hp).toExt0 (by
    obtain ⟨u, hu, _⟩ := r.tracked h1
    exact upd_ne (ne_of_none hu hp))⟩
theorem getElem?_snoc {α : Type} {l : List α} {x y : α} {i : Nat} (h : (l ++ [x])[i]? = some y) : l[i]? = some y ∨ (i = l.length ∧ y = x) := by
  by_cases hi : i < l.length
  · rw [List.getElem?_append_left hi] at h; exact .inl h
  · rw [List.getElem?_append_right (by omega)] at h
    have h' := h
    have : i - l.length = 0 := by
      cases e : i - l.length with
      | zero => rfl
      | succ n => rw [e] at h; simp at h
    rw [this] at h
    simp at h
    exact .inr ⟨by omega, h.symm⟩
/-- a new object -/
theorem Rel.new (r : Rel T ρ H s) {p : Addr} {o : HO} {b : Ob} (hp : H p = none) (hb : RO T (ρ ++ [p]) (upd H p o) b p) : Rel T (ρ ++ [p]) (upd H p o) (s ++ [b]) := by
  refine ⟨by rw [List.length_append, List.length_append, r.len]; rfl, ?_, fun i a o' h1 h2 => ?_⟩
  · rw [List.nodup_append]
    refine ⟨r.nd, by simp, fun x hx y hy => ?_⟩
    simp at hy
    subst hy
    obtain ⟨i, hi⟩ := List.getElem?_of_mem hx
    obtain ⟨u, hu, _⟩ := r.tracked hi
    exact ne_of_none hu hp
  · rcases getElem?_snoc h1 with q1 | ⟨e1, e2⟩
    · rcases getElem?_snoc h2 with q2 | ⟨e3, e4⟩
      · obtain ⟨u, hu, _⟩ := r.tracked q1
        exact (r.ob i a o' q1 q2).mono ((ext_upd hp).trans ext_push).toExt0 (upd_ne (ne_of_none hu hp))
      · exfalso
        have := (List.getElem?_eq_some_iff.mp q1).1
        have := r.len
        omega
    · rcases getElem?_snoc h2 with q2 | ⟨e3, e4⟩
      · exfalso
        have := (List.getElem?_eq_some_iff.mp q2).1
        have := r.len
        omega
      · subst e2 e4
        exact hb
theorem Rel.newExt (r : Rel T ρ H s) {p : Addr} {o : HO} (hp : H p = none) : Ext T ρ H (ρ ++ [p]) (upd H p o) := (ext_upd hp).trans ext_push
theorem Rel.newRef (r : Rel T ρ H s) {p : Addr} {H1 : Hp} : RV T (ρ ++ [p]) H1 (.ref s.length) (.ref p) :=
  .ref (by rw [← r.len, List.getElem?_append_right (Nat.le_refl _)]; simp)
/-- an object changed -/
theorem Rel.set (r : Rel T ρ H s) {i : Nat} {a : Addr} {o : HO} {b : Ob} (ha : ρ[i]? = some a) (hb : RO T ρ (upd H a o) b a) : Rel T ρ (upd H a o) (s.set i b) := by
  obtain ⟨u, hu, nf⟩ := r.tracked ha
  refine ⟨by rw [List.length_set]; exact r.len, r.nd, fun j c o' h1 h2 => ?_⟩
  by_cases e : j = i
  · subst e
    have ec : c = a := Option.some.inj (h1.symm.trans ha)
    subst ec
    have hl : j < s.length := by rw [← r.len]; exact (List.getElem?_eq_some_iff.mp h1).1
    rw [List.getElem?_set_self hl] at h2
    cases h2
    exact hb
  · rw [List.getElem?_set_ne (fun z => e z.symm)] at h2
    have nc : c ≠ a := fun z => by
      subst z
      exact e (nodup_at r.nd h1 ha)
    exact (r.ob j c o' h1 h2).mono (ext0_set hu nf) (upd_ne nc)
where
  nodup_at {α : Type} {l : List α} {x : α} {i j : Nat} (nd : l.Nodup) (a : l[i]? = some x) (b : l[j]? = some x) : i = j := by
    exact (List.getElem?_inj (List.getElem?_eq_some_iff.mp a).1 nd).mp (a.trans b.symm)
theorem Rel.setExt (r : Rel T ρ H s) {i : Nat} {a : Addr} {o u : HO} (ha : ρ[i]? = some a) (hu : H a = some u) (nf : ¬ Fixd u := by exact fun z => z) : Ext T ρ H ρ (upd H a o) := ext_set hu nf
end

/-- the frame's slots -/
structure RL (T : Tb) (ρ : List Addr) (H : Hp) (lo : Lo) (σ : St) : Prop where
  len : lo.length = σ.length
  at_ : ∀ (i : Nat) (x : Vl), lo[i]? = some (some x) → ∃ v, σ[i]? = some (some v) ∧ RV T ρ H x v
  xc : ∀ p ∈ T.xs, lo[p.i]? = some none → σ[p.i]? = some (some (.ref p.a)) ∧ ∃ vs : List (Str × V), H p.d = some (.xd vs) ∧ vs.map (·.1) = p.ns ∧ RVs T ρ H p.xs (vs.map (·.2))
theorem RL.mono {T : Tb} {ρ ρ' : List Addr} {H H' : Hp} {lo : Lo} {σ : St} (r : RL T ρ H lo σ) (e : Ext T ρ H ρ' H') : RL T ρ' H' lo σ :=
  ⟨r.len, fun i x h => let ⟨v, h1, h2⟩ := r.at_ i x h; ⟨v, h1, h2.mono e⟩, fun p hp h => let ⟨h1, vs, h2, h3, h4⟩ := r.xc p hp h; ⟨h1, vs, e.xd _ _ h2, h3, h4.mono e⟩⟩
theorem RL.set {T : Tb} {ρ : List Addr} {H : Hp} {lo : Lo} {σ : St} (r : RL T ρ H lo σ) {x : Vl} {v : V} (i : Nat) (h : RV T ρ H x v) : RL T ρ H (lo.set i (some x)) (σ.set i (some v)) := by
  refine ⟨by rw [List.length_set, List.length_set]; exact r.len, fun j y hj => ?_, fun p hp hj => ?_⟩
  rotate_left
  · by_cases e : p.i = i
    · exfalso
      rw [e] at hj
      by_cases hl : i < lo.length
      · rw [List.getElem?_set_self hl] at hj; cases hj
      · rw [List.getElem?_eq_none (by rw [List.length_set]; omega)] at hj; cases hj
    · rw [List.getElem?_set_ne (fun z => e z.symm)] at hj ⊢
      exact r.xc p hp hj
  by_cases e : j = i
  · subst e
    have hl : j < lo.length := by have := (List.getElem?_eq_some_iff.mp hj).1; rw [List.length_set] at this; exact this
    rw [List.getElem?_set_self hl] at hj
    cases hj
    exact ⟨v, List.getElem?_set_self (by rw [← r.len]; exact hl), h⟩
  · rw [List.getElem?_set_ne (fun z => e z.symm)] at hj
    obtain ⟨w, h1, h2⟩ := r.at_ j y hj
    exact ⟨w, by rw [List.getElem?_set_ne (fun z => e z.symm)]; exact h1, h2⟩

/-- an exception as it is handed on -/
def PoX (T : Tb) (W : XK) (ρ : List Addr) (H : Hp) (e : Ex) (s : Sto) : Prop :=
  ∀ (ρ' : List Addr) (H' : Hp) (C : Addr), Ext T ρ H ρ' H' → Rel T ρ' H' s → T.cl[e.c]? = some C →
    match e.fs with
    | none => W (.ref C) none H'
    | some fs => ∀ (d : Addr) (vs : List (Str × V)), H' d = some (.xd vs) → vs.map (·.1) = fs.map (·.1) → RVs T ρ' H' (fs.map (·.2)) (vs.map (·.2)) → W (.ref C) (some d) H'
/-- what is asked behind a computation -/
def Po {α β : Type} (R : List Addr → Hp → α → β → Prop) (T : Tb) (W : XK) (ρ : List Addr) (H : Hp) (r : Res α) (Q : β → Hp → Prop) : Prop := match r with
  | .ok a s => ∀ (ρ' : List Addr) (H' : Hp) (b : β), Ext T ρ H ρ' H' → Rel T ρ' H' s → R ρ' H' a b → Q b H'
  | .exc e s => PoX T W ρ H e s
  | .fail => False
theorem Po.mono {α β : Type} {R : List Addr → Hp → α → β → Prop} {T : Tb} {W : XK} {ρ ρ' : List Addr} {H H' : Hp} {r : Res α} {Q : β → Hp → Prop} (p : Po R T W ρ H r Q) (e : Ext T ρ H ρ' H') : Po R T W ρ' H' r Q := by
  cases r with
  | ok a s => exact fun ρ2 H2 b e2 => p ρ2 H2 b (e.trans e2)
  | exc x s => exact fun ρ2 H2 C e2 => p ρ2 H2 C (e.trans e2)
  | fail => exact p
/-- the reading of a computation -/
def tG {α β : Type} (R : List Addr → Hp → α → β → Prop) (T : Tb) (W : WX) (m : Lo → M α) : St → Hp → (β → Hp → Prop) → Prop := fun σ H Q =>
  ∃ (ρ : List Addr) (s : Sto) (lo : Lo), Rel T ρ H s ∧ RL T ρ H lo σ ∧ Po R T (fun c d H' => W c d σ H') ρ H (m lo s) Q
abbrev tE (T : Tb) (W : WX) (m : Lo → M Vl) : TE := tG (RV T) T W m
abbrev tA (T : Tb) (W : WX) (m : Lo → M (List Vl)) : TA := tG (RVs T) T W m
abbrev RB : List Addr → Hp → Bool → Bool → Prop := fun _ _ a b => a = b
abbrev tT (T : Tb) (W : WX) (m : Lo → M Bool) : TT := tG RB T W m
/-- the state behind a part -/
structure Bh {α β : Type} (R : List Addr → Hp → α → β → Prop) (T : Tb) (σ : St) (H : Hp) (b : β) (k : List Addr → Sto → Lo → α → Prop) : Prop where
  ex : ∃ (ρ : List Addr) (s : Sto) (lo : Lo) (a : α), Rel T ρ H s ∧ RL T ρ H lo σ ∧ R ρ H a b ∧ k ρ s lo a
/-- THE step: a part, then the rest -/
theorem tG_bnd {α β γ δ : Type} {R : List Addr → Hp → α → β → Prop} {R' : List Addr → Hp → γ → δ → Prop} {T : Tb} {W : WX} {m : Lo → M α} {f : Lo → α → M γ} {σ : St} {H : Hp} {Q : δ → Hp → Prop} {Q' : β → Hp → Prop}
    (h : tG R' T W (fun lo => bnd (m lo) (f lo)) σ H Q)
    (k : ∀ (ρ : List Addr) (s : Sto) (lo : Lo) (a : α) (b : β) (H1 : Hp), Rel T ρ H1 s → RL T ρ H1 lo σ → R ρ H1 a b → Po R' T (fun c d H' => W c d σ H') ρ H1 (f lo a s) Q → Q' b H1) : tG R T W m σ H Q' := by
  obtain ⟨ρ, s, lo, r, rl, p⟩ := h
  refine ⟨ρ, s, lo, r, rl, ?_⟩
  have p : Po R' T _ ρ H (bnd (m lo) (f lo) s) Q := p
  unfold bnd at p
  cases e : m lo s with
  | ok a s1 =>
    rw [e] at p
    exact fun ρ' H' b x r' hb => k ρ' s1 lo a b H' r' (rl.mono x) hb (p.mono x)
  | exc z s1 =>
    rw [e] at p
    exact p
  | fail =>
    rw [e] at p
    exact p
end Sm

/-! S1: expressions: names, constants, operators, tests, displays -/
namespace Sm
open PySem L2

theorem pe_mono {X : Cx} {e : Expr} {t t' : TE} (h : PE X e t) (k : ∀ σ H Q, t' σ H Q → t σ H Q) : PE X e t' := ⟨fun pins s σ H Q I q => h.run pins s σ H Q I (k σ H Q q)⟩
theorem pt_mono {X : Cx} {e : Expr} {t t' : TT} (h : PT X e t) (k : ∀ σ H Q, t' σ H Q → t σ H Q) : PT X e t' := ⟨fun pins s σ H Q I q => h.run pins s σ H Q I (k σ H Q q)⟩
theorem pw_mono {X : Cx} {e : Expr} {t t' : TT} (h : PW X e t) (k : ∀ σ H Q, t' σ H Q → t σ H Q) : PW X e t' := ⟨fun w pins s σ H Q I q => h.run w pins s σ H Q I (k σ H Q q)⟩
theorem pa_mono {X : Cx} {es : List Expr} {t t' : TA} (h : PA X es t) (k : ∀ σ H Q, t' σ H Q → t σ H Q) : PA X es t' := ⟨fun p pins s σ H Q I q => h.run p pins s σ H Q I (k σ H Q q)⟩

/-! ### the combinators -/
abbrev EM := Lo → M Vl
abbrev TM := Lo → M Bool
abbrev AM := Lo → M (List Vl)
abbrev O1 := Vl → Sto → Option (Vl × Sto)
abbrev O2 := Vl → Vl → Sto → Option (Vl × Sto)
abbrev OC := List Vl → Sto → Option (Vl × Sto)
abbrev OMt := Vl → List Vl → Sto → Option (Vl × Sto)
def eVar (i : Nat) : EM := fun lo s => match lo[i]? with
  | some (some v) => .ok v s
  | _ => .fail
def eC (v : Vl) : EM := fun _ s => .ok v s
def eOp1 (f : O1) (a : EM) : EM := fun lo => bnd (a lo) fun x => lift (f x)
def eOp (f : O2) (a b : EM) : EM := fun lo => bnd (a lo) fun x => bnd (b lo) fun y => lift (f x y)
def aNil : AM := fun _ s => .ok [] s
def aCons (a : EM) (r : AM) : AM := fun lo => bnd (a lo) fun x => bnd (r lo) fun xs => ret (x :: xs)
def eCB (f : OC) (a : AM) : EM := fun lo => bnd (a lo) fun xs => lift (f xs)
def eMt (f : OMt) (o : EM) (a : AM) : EM := fun lo => bnd (o lo) fun x => bnd (a lo) fun xs => lift (f x xs)
def tVal (a : EM) : TM := fun lo => bnd (a lo) fun x => match x with
  | .bl b => ret b
  | _ => failM
def tAndM (a b : TM) : TM := fun lo => bnd (a lo) fun x => match x with
  | true => b lo
  | false => ret false
def tOrM (a b : TM) : TM := fun lo => bnd (a lo) fun x => match x with
  | true => ret true
  | false => b lo
def tNotM (a : TM) : TM := fun lo => bnd (a lo) fun x => ret (!x)
def eAndM (a b : EM) : EM := fun lo => bnd (a lo) fun x => match x with
  | .bl true => b lo
  | .bl false => ret (.bl false)
  | _ => failM
def eOrM (a b : EM) : EM := fun lo => bnd (a lo) fun x => match x with
  | .bl false => b lo
  | .bl true => ret (.bl true)
  | _ => failM
def eNotM (a : EM) : EM := fun lo => bnd (a lo) fun x => match x with
  | .bl b => ret (.bl (!b))
  | _ => failM
def eIfM (t : TM) (a b : EM) : EM := fun lo => bnd (t lo) fun x => match x with
  | true => a lo
  | false => b lo
abbrev LIM : Nat := 16777216
theorem lim_eq : sizeLine = LIM := sizeLine_eq
def oTup : OC := fun xs s => if xs.length ≤ LIM then some (.tup xs, s) else none
def oLst : OC := fun xs s => if xs.length ≤ LIM then some (.ref s.length, s ++ [.lst xs]) else none

/-! ### behind an operation -/
def Aft (T : Tb) (ρ : List Addr) (H : Hp) (s : Sto) (v : Vl) (Q : VK) : Prop := ∀ (ρ' : List Addr) (H' : Hp) (z : V), Ext T ρ H ρ' H' → Rel T ρ' H' s → RV T ρ' H' v z → Q z H'
section
variable {T : Tb} {ρ : List Addr} {H : Hp} {s s' : Sto} {v : Vl} {Q : VK}
theorem Aft.here (k : Aft T ρ H s v Q) (r : Rel T ρ H s) {z : V} (h : RV T ρ H v z) : Q z H := k ρ H z .refl r h
theorem Aft.tup {xs : List Vl} {vs : List V} (k : Aft T ρ H s (.tup xs) Q) (r : Rel T ρ H s) (h : RVs T ρ H xs vs) {p : Addr} (hp : H p = none) : Q (.ref p) (upd H p (.tup vs)) :=
  k ρ _ _ (ext_upd hp) (r.laid hp) (.tup (SqT.of upd_same) (h.mono (ext_upd hp)))
theorem Aft.new {b : Ob} {o : HO} (k : Aft T ρ H (s ++ [b]) (.ref s.length) Q) (r : Rel T ρ H s) {p : Addr} (hp : H p = none) (hb : RO T (ρ ++ [p]) (upd H p o) b p) : Q (.ref p) (upd H p o) :=
  k _ _ _ (r.newExt hp) (r.new hp hb) r.newRef
theorem Aft.lst {xs : List Vl} {vs : List V} (k : Aft T ρ H (s ++ [.lst xs]) (.ref s.length) Q) (r : Rel T ρ H s) (h : RVs T ρ H xs vs) {p : Addr} (hp : H p = none) : Q (.ref p) (upd H p (.lst vs)) :=
  k.new r hp ⟨vs, upd_same, h.mono (r.newExt hp)⟩
theorem Aft.set {i : Nat} {b : Ob} {o u : HO} {a : Addr} {v : Vl} {z : V} (k : Aft T ρ H (s.set i b) v Q) (r : Rel T ρ H s) (ha : ρ[i]? = some a) (hu : H a = some u) (nf : ¬ Fixd u) (hb : RO T ρ (upd H a o) b a) (hv : RV T ρ H v z) : Q z (upd H a o) :=
  k _ _ _ (r.setExt ha hu nf) (r.set ha hb) (hv.mono (r.setExt ha hu nf))
end
def rO1 (T : Tb) (f : O1) : V → Hp → VK → Prop := fun x H Q => ∃ ρ s a v s', Rel T ρ H s ∧ RV T ρ H a x ∧ f a s = some (v, s') ∧ Aft T ρ H s' v Q
def rO (T : Tb) (f : O2) : R2 := fun x y H Q => ∃ ρ s a b v s', Rel T ρ H s ∧ RV T ρ H a x ∧ RV T ρ H b y ∧ f a b s = some (v, s') ∧ Aft T ρ H s' v Q
def rC (T : Tb) (f : OC) : List V → Hp → VK → Prop := fun xs H Q => ∃ ρ s as v s', Rel T ρ H s ∧ RVs T ρ H as xs ∧ f as s = some (v, s') ∧ Aft T ρ H s' v Q
def rMt (T : Tb) (f : OMt) : V → List V → Hp → VK → Prop := fun x xs H Q => ∃ ρ s a as v s', Rel T ρ H s ∧ RV T ρ H a x ∧ RVs T ρ H as xs ∧ f a as s = some (v, s') ∧ Aft T ρ H s' v Q
theorem po_lift {T : Tb} {W : XK} {ρ : List Addr} {H : Hp} {s : Sto} {f : Sto → Option (Vl × Sto)} {Q : VK} (p : Po (RV T) T W ρ H (lift f s) Q) : ∃ v s', f s = some (v, s') ∧ Aft T ρ H s' v Q := by
  unfold lift at p
  cases e : f s with
  | none => rw [e] at p; exact p.elim
  | some q =>
    obtain ⟨v, s'⟩ := q
    rw [e] at p
    exact ⟨v, s', rfl, p⟩
theorem po_ret {α β : Type} {R : List Addr → Hp → α → β → Prop} {T : Tb} {W : XK} {ρ : List Addr} {H : Hp} {s : Sto} {a : α} {Q : β → Hp → Prop} (p : Po R T W ρ H (ret a s) Q) (r : Rel T ρ H s) {b : β} (h : R ρ H a b) : Q b H := p ρ H b .refl r h
theorem po_bnd {α β γ δ : Type} {R : List Addr → Hp → α → β → Prop} {R' : List Addr → Hp → γ → δ → Prop} {T : Tb} {W : WX} {m : Lo → M α} {f : α → M γ} {ρ : List Addr} {s : Sto} {lo : Lo} {σ : St} {H : Hp} {Q : δ → Hp → Prop} {Q' : β → Hp → Prop}
    (r : Rel T ρ H s) (rl : RL T ρ H lo σ) (p : Po R' T (fun c d H' => W c d σ H') ρ H (bnd (m lo) f s) Q)
    (k : ∀ (ρ' : List Addr) (s' : Sto) (a : α) (b : β) (H' : Hp), Ext T ρ H ρ' H' → Rel T ρ' H' s' → RL T ρ' H' lo σ → R ρ' H' a b → Po R' T (fun c d H' => W c d σ H') ρ' H' (f a s') Q → Q' b H') : tG R T W m σ H Q' := by
  refine ⟨ρ, s, lo, r, rl, ?_⟩
  unfold bnd at p
  cases e : m lo s with
  | ok a s1 =>
    rw [e] at p
    exact fun ρ' H' b x r' hb => k ρ' s1 a b H' x r' (rl.mono x) hb (p.mono x)
  | exc z s1 => rw [e] at p; exact p
  | fail => rw [e] at p; exact p

section
variable {X : Cx} {T : Tb} {W : WX} {a b c e : Expr} {es : List Expr} {ma mb mc me : EM} {ta tb : TM} {mr : AM} {pos : Pos}
theorem ce_var (i : Nat) {x : Str} (hN : X.N[i]? = some x := by rfl) (hv : Vis X.env.scope x := by first | exact Or.inl rfl | exact Or.inr (Or.inl rfl) | exact Or.inr (Or.inr rfl)) (hd : (x == ("__debug__" : Str)) = false := by decide)
    (hcd : (x == ("__classdict__" : Str)) = false := by decide) : PE X (.Name x pos) (tE T W (eVar i)) :=
  pe_mono (pe_var hN hv hd hcd) fun σ H Q h => by
    obtain ⟨ρ, s, lo, r, rl, p⟩ := h
    have p : Po (RV T) T _ ρ H (eVar i lo s) Q := p
    unfold eVar at p
    split at p
    · rename_i v hv
      obtain ⟨z, h1, h2⟩ := rl.at_ i v hv
      exact ⟨z, h1, p ρ H z .refl r h2⟩
    · exact p.elim
theorem ce_of {v : Vl} {z : V} (h : PE X e (tC z)) (hv : ∀ ρ H, RV T ρ H v z) : PE X e (tE T W (eC v)) :=
  pe_mono h fun σ H Q h => by
    obtain ⟨ρ, s, lo, r, rl, p⟩ := h
    exact p ρ H z .refl r (hv ρ H)
theorem ce_int {i j} : PE X (.Constant (.int i) j pos) (tE T W (eC (.int i))) := ce_of pe_int fun _ _ => .int i
theorem ce_bl {i j} : PE X (.Constant (.bool i) j pos) (tE T W (eC (.bl i))) := ce_of pe_bl fun _ _ => .bl i
theorem ce_non {j} : PE X (.Constant .none j pos) (tE T W (eC .non)) := ce_of pe_non fun _ _ => .non
theorem ce_str {i j} : PE X (.Constant (.str i) j pos) (tE T W (eC (.str i))) := ce_of pe_str fun _ _ => .str i
/-- two parts and an operation of their values -/
theorem top_le {f : O2} {σ : St} {H : Hp} {Q : VK} (h : tE T W (eOp f ma mb) σ H Q) : tOp (rO T f) (tE T W ma) (tE T W mb) σ H Q :=
  tG_bnd (f := fun lo x => bnd (mb lo) fun y => lift (f x y)) h fun ρ s lo x z H1 r rl hx p =>
    po_bnd (m := mb) r rl p fun ρ' s' y z' H' ext r' rl' hy p' => by
      obtain ⟨v, s2, e, k⟩ := po_lift p'
      exact ⟨ρ', s', x, y, v, s2, r', hx.mono ext, hy, e, k⟩
theorem ce_op {op : Operator} {f : O2} (ho : OpR X (binaryOp op) (rO T f)) (ha : PE X a (tE T W ma)) (hb : PE X b (tE T W mb)) : PE X (.BinOp a op b pos) (tE T W (eOp f ma mb)) :=
  pe_mono (pe_op ho ha hb) fun _ _ _ h => top_le h
theorem ce_cmp {op : CmpOp} {f : O2} (ho : OpR X (compareOp op) (rO T f)) (ha : PE X a (tE T W ma)) (hb : PE X b (tE T W mb)) (hm : behindInMarks op b = false := by first | exact nomark _ | rfl) : PE X (.Compare a [op] [b] pos) (tE T W (eOp f ma mb)) :=
  pe_mono (pe_cmpR ho ha hb hm) fun _ _ _ h => top_le h
theorem ce_ix {f : O2} (ho : IxR X (rO T f)) (ha : PE X a (tE T W ma)) (hb : PE X b (tE T W mb)) (hs : PlainIx b := by exact fun _ _ => rfl) : PE X (.Subscript a b pos) (tE T W (eOp f ma mb)) :=
  pe_mono (pe_ix ho ha hb hs) fun _ _ _ h => top_le h
theorem ce_un {op : UnaryOp} {f : O1} (ho : UnR X (unaryOp op) (rO1 T f)) (ha : PE X a (tE T W ma)) : PE X (.UnaryOp op a pos) (tE T W (eOp1 f ma)) :=
  pe_mono (pe_un ho ha) fun σ H Q h =>
    tG_bnd (f := fun lo x => lift (f x)) h fun ρ s lo x z H1 r rl hx p => by
      obtain ⟨v, s2, e, k⟩ := po_lift p
      exact ⟨ρ, s, x, v, s2, r, hx, e, k⟩
/-! ### tests -/
theorem tval_le {σ : St} {H : Hp} {Q : Bool → Hp → Prop} (h : tT T W (tVal ma) σ H Q) : tE T W ma σ H fun x H1 => ∃ k, x = .bl k ∧ Q k H1 :=
  tG_bnd h fun ρ s lo x z H1 r rl hx p => by
    cases hx with
    | bl k => exact ⟨k, rfl, p ρ H1 k .refl r rfl⟩
    | _ => exact p.elim
theorem ct_val (h : PE X e (tE T W me)) (he : ∀ whole, isTrue e X.env whole = (do let v ← whole; standAt e.pos; holding [v] (truthy v)) := by intro _; rfl) : PT X e (tT T W (tVal me)) :=
  pt_mono (pt_val h he) fun _ _ _ h => tval_le h
theorem ct_cmp {op : CmpOp} {f : O2} (ho : OpR X (compareOp op) (rO T f)) (ha : PE X a (tE T W ma)) (hb : PE X b (tE T W mb)) (hm : behindInMarks op b = false := by first | exact nomark _ | rfl) : PT X (.Compare a [op] [b] pos) (tT T W (tVal (eOp f ma mb))) :=
  pt_mono (pt_cmpR ho ha hb hm) fun _ _ _ h => top_le (tval_le h)
theorem ct_not (h : PT X a (tT T W ta)) : PT X (.UnaryOp .Not a pos) (tT T W (tNotM ta)) :=
  pt_mono (pt_not h) fun _ _ _ h => tG_bnd h fun ρ s lo x z H1 r rl hx p => by
    cases hx
    exact po_ret (R := RB) p r rfl
theorem cw_and1 (ha : PT X a (tT T W ta)) : PW X (.BoolOp .And [a] pos) (tT T W ta) := pw_and1 ha
theorem cw_or1 (ha : PT X a (tT T W ta)) : PW X (.BoolOp .Or [a] pos) (tT T W ta) := pw_or1 ha
theorem cw_and (ha : PT X a (tT T W ta)) (hb : PW X (.BoolOp .And (b :: es) pos) (tT T W tb)) : PW X (.BoolOp .And (a :: b :: es) pos) (tT T W (tAndM ta tb)) :=
  pw_mono (pw_and ha hb) fun _ _ _ h => tG_bnd h fun ρ s lo x z H1 r rl hx p => by
    cases hx
    cases x with
    | true => exact ⟨ρ, s, lo, r, rl, p⟩
    | false => exact po_ret (R := RB) p r rfl
theorem cw_or (ha : PT X a (tT T W ta)) (hb : PW X (.BoolOp .Or (b :: es) pos) (tT T W tb)) : PW X (.BoolOp .Or (a :: b :: es) pos) (tT T W (tOrM ta tb)) :=
  pw_mono (pw_or ha hb) fun _ _ _ h => tG_bnd h fun ρ s lo x z H1 r rl hx p => by
    cases hx
    cases x with
    | false => exact ⟨ρ, s, lo, r, rl, p⟩
    | true => exact po_ret (R := RB) p r rfl
/-! ### and, or, not, if as values -/
theorem ce_one {op} (h : PE X a (tE T W ma)) : PE X (.BoolOp op [a] pos) (tE T W ma) := pe_one h
theorem ce_and (ha : PE X a (tE T W ma)) (hb : PE X (.BoolOp .And (b :: es) pos) (tE T W mb)) : PE X (.BoolOp .And (a :: b :: es) pos) (tE T W (eAndM ma mb)) :=
  pe_mono (pe_and ha hb) fun _ _ _ h => tG_bnd h fun ρ s lo x z H1 r rl hx p => by
    cases hx with
    | bl k =>
      cases k with
      | true => exact ⟨true, rfl, ρ, s, lo, r, rl, p⟩
      | false => exact ⟨false, rfl, po_ret (R := RV T) p r (.bl false)⟩
    | _ => exact p.elim
theorem ce_not (ha : PE X a (tE T W ma)) : PE X (.UnaryOp .Not a pos) (tE T W (eNotM ma)) :=
  pe_mono (pe_not ha) fun _ _ _ h => tG_bnd h fun ρ s lo x z H1 r rl hx p => by
    cases hx with
    | bl k => exact ⟨k, rfl, po_ret (R := RV T) p r (.bl _)⟩
    | _ => exact p.elim
theorem ce_if (hc : PT X c (tT T W ta)) (ha : PE X a (tE T W ma)) (hb : PE X b (tE T W mb)) : PE X (.IfExp c a b pos) (tE T W (eIfM ta ma mb)) :=
  pe_mono (pe_ifExp hc ha hb) fun _ _ _ h => tG_bnd h fun ρ s lo x z H1 r rl hx p => by
    cases hx
    cases x with
    | true => exact ⟨ρ, s, lo, r, rl, p⟩
    | false => exact ⟨ρ, s, lo, r, rl, p⟩
/-! ### argument lists, displays -/
theorem ca_nil : PA X [] (tA T W aNil) := pa_mono pa_nil fun σ H Q h => by
  obtain ⟨ρ, s, lo, r, rl, p⟩ := h
  exact p ρ H [] .refl r .nil
theorem ca_cons (ha : PE X e (tE T W me)) (hr : PA X es (tA T W mr)) (hs : starEach (e :: es) X.env = (false, eval e X.env) :: starEach es X.env := by rfl) : PA X (e :: es) (tA T W (aCons me mr)) :=
  pa_mono (pa_cons ha hr hs) fun _ _ _ h => tG_bnd (R := RV T) h fun ρ s lo x z H1 r rl hx p =>
    po_bnd (R := RVs T) (m := mr) r rl p fun ρ' s' xs zs H' ext r' rl' hxs p' => po_ret (R := RVs T) p' r' (.cons (hx.mono ext) hxs)
theorem tcb_le {f : OC} {σ : St} {H : Hp} {Q : VK} (h : tE T W (eCB f mr) σ H Q) : tA T W mr σ H fun vs H1 => rC T f vs H1 Q :=
  tG_bnd (R := RVs T) h fun ρ s lo xs zs H1 r rl hx p => by
    obtain ⟨v, s2, e, k⟩ := po_lift p
    exact ⟨ρ, s, xs, v, s2, r, hx, e, k⟩
theorem ce_tup {x1} (h : PA X es (tA T W mr)) : PE X (.Tuple es x1 pos) (tE T W (eCB oTup mr)) :=
  pe_mono (pe_tup h) fun _ _ _ h => tG_bnd (R := RVs T) h fun ρ s lo xs zs H1 r rl hx p => by
    obtain ⟨v, s2, e, k⟩ := po_lift p
    unfold oTup at e
    split at e
    · rename_i hl
      cases e
      exact ⟨by rw [← hx.length, lim_eq]; exact hl, fun q hq => k.tup r hx hq⟩
    · cases e
theorem ce_lst (h : PA X es (tA T W mr)) : PE X (.List es pos) (tE T W (eCB oLst mr)) :=
  pe_mono (pe_lst h) fun _ _ _ h => tG_bnd (R := RVs T) h fun ρ s lo xs zs H1 r rl hx p => by
    obtain ⟨v, s2, e, k⟩ := po_lift p
    unfold oLst at e
    split at e
    · rename_i hl
      cases e
      exact ⟨by rw [← hx.length, lim_eq]; exact hl, fun q hq => k.lst r hx hq⟩
    · cases e
/-! ### built-ins by name; methods of built-in types -/
theorem ce_callB {x : Str} {p : Pos} {id : String} {f : OC} (hc : CallR X (.builtin id) (rC T f)) (hg : Gl X x) (hm : X.mg x = none) (hv : bootBuiltins x = some (.builtin id)) (ha : PA X (e :: es) (tA T W mr)) (hn : x ≠ "__name__" := by decide) (hdb : (x == ("__debug__" : Str)) = false := by decide)
    (he : starEach (e :: es) X.env = (false, eval e X.env) :: starEach es X.env := by rfl) (hpl : (backTo pos (starEach es X.env)).any (·.1) = false := by rfl) : PE X (.Call (.Name x p) (e :: es) [] pos) (tE T W (eCB f mr)) :=
  pe_mono (pe_callB hc hg hm hv ha hn hdb he hpl) fun _ _ _ h => tcb_le h
theorem ce_callTy {x : Str} {p : Pos} {id : String} {f : OC} (hc : CallR X (.type id) (rC T f)) (hg : Gl X x) (hm : X.mg x = none) (hv : bootBuiltins x = some (.type id)) (ha : PA X (e :: es) (tA T W mr)) (hn : x ≠ "__name__" := by decide) (hdb : (x == ("__debug__" : Str)) = false := by decide)
    (he : starEach (e :: es) X.env = (false, eval e X.env) :: starEach es X.env := by rfl) (hpl : (backTo pos (starEach es X.env)).any (·.1) = false := by rfl) : PE X (.Call (.Name x p) (e :: es) [] pos) (tE T W (eCB f mr)) :=
  pe_mono (pe_callTy hc hg hm hv ha hn hdb he hpl) fun _ _ _ h => tcb_le h
end
end Sm

/-! S2: operators on values -/
namespace Sm
open PySem L2

/-! ### values that are known by their form -/
section
variable {T : Tb} {ρ : List Addr} {H : Hp} {z : V}
theorem RV.nonE (h : RV T ρ H .non z) : z = .non := by cases h; rfl
theorem RV.blE {b : Bool} (h : RV T ρ H (.bl b) z) : z = .bl b := by cases h; rfl
theorem RV.intE {i : Int} (h : RV T ρ H (.int i) z) : z = .int i := by cases h; rfl
theorem RV.strE {x : Str} (h : RV T ρ H (.str x) z) : z = .str x := by cases h; rfl
theorem RV.refE {i : Nat} (h : RV T ρ H (.ref i) z) : ∃ a, z = .ref a ∧ ρ[i]? = some a := by cases h; exact ⟨_, rfl, by assumption⟩
theorem RV.tupE {xs : List Vl} (h : RV T ρ H (.tup xs) z) : ∃ a vs, z = .ref a ∧ SqT T.K H a vs ∧ RVs T ρ H xs vs := by cases h; exact ⟨_, _, rfl, by assumption, by assumption⟩
theorem RV.scrE {ns : List Int} (h : RV T ρ H (.scr ns) z) : ∃ a, z = .ref a ∧ SqL T.K H a (ns.map V.int) := by
  cases h with
  | scr h => exact ⟨_, rfl, .inl (.inr ⟨_, h⟩)⟩
  | scrK h => exact ⟨_, rfl, h H⟩
theorem Rel.lst {s : Sto} {i : Nat} {xs : List Vl} {a : Addr} (r : Rel T ρ H s) (h : s[i]? = some (.lst xs)) (ha : ρ[i]? = some a) : ∃ vs, H a = some (.lst vs) ∧ RVs T ρ H xs vs := r.ob i a _ ha h
theorem Rel.dic {s : Sto} {i : Nat} {kvs : List (Key × Vl)} {a : Addr} (r : Rel T ρ H s) (h : s[i]? = some (.dic kvs)) (ha : ρ[i]? = some a) :
    ∃ vs : List (Key × V), H a = some (.dK vs) ∧ vs.map (·.1) = kvs.map (·.1) ∧ RVs T ρ H (kvs.map (·.2)) (vs.map (·.2)) := r.ob i a _ ha h
end

/-! ### ints -/
def opSub : O2
  | .int i, .int j, s => some (.int (i - j), s)
  | _, _, _ => none
def opMul : O2
  | .int i, .int j, s => if (-(2 ^ 64) < i ∧ i < 2 ^ 64) ∨ (-(2 ^ 64) < j ∧ j < 2 ^ 64) then some (.int (i * j), s) else none
  | .ref i, .int k, s => match s[i]? with
    | some (.lst xs) => if 0 ≤ k ∧ k < 2 ^ 60 ∧ xs.length * k.toNat ≤ LIM then some (.ref s.length, s ++ [.lst (List.replicate k.toNat xs).flatten]) else none
    | _ => none
  | _, _, _ => none
def opFdiv : O2
  | .int i, .int j, s => if 0 < j ∧ j < 1267650600228229401496703205376 then some (.int (i / j), s) else none
  | _, _, _ => none
def opMod : O2
  | .int i, .int j, s => if 0 < j then some (.int (i % j), s) else none
  | _, _, _ => none
def opPow : O2
  | .int i, .int j, s => if 0 ≤ j ∧ j ≤ 1000000 ∧ i.natAbs < 2 ^ 64 then some (.int (i ^ j.toNat), s) else none
  | _, _, _ => none
def opAdd : O2
  | .int i, .int j, s => some (.int (i + j), s)
  | .str x, .str y, s => if x.length + y.length ≤ LIM then some (.str (x ++ y), s) else none
  | .tup xs, .tup ys, s => if xs.length + ys.length ≤ LIM then some (.tup (xs ++ ys), s) else none
  | .ref i, .ref j, s => match s[i]?, s[j]? with
    | some (.lst xs), some (.lst ys) => if xs.length + ys.length ≤ LIM then some (.ref s.length, s ++ [.lst (xs ++ ys)]) else none
    | _, _ => none
  | _, _, _ => none
def opLt : O2
  | .int i, .int j, s => some (.bl (decide (i < j)), s)
  | _, _, _ => none
def opLe : O2
  | .int i, .int j, s => some (.bl (decide (i ≤ j)), s)
  | _, _, _ => none
def opGt : O2
  | .int i, .int j, s => some (.bl (decide (j < i)), s)
  | _, _, _ => none
def opGe : O2
  | .int i, .int j, s => some (.bl (decide (j ≤ i)), s)
  | _, _, _ => none
def isNon : Vl → Bool
  | .non => true
  | _ => false
def opIsN : O2
  | x, .non, s => some (.bl (isNon x), s)
  | _, _, _ => none
def opNotN : O2
  | x, .non, s => some (.bl (!isNon x), s)
  | _, _, _ => none
def opNeg : O1
  | .int i, s => some (.int (-i), s)
  | _, _ => none
section
variable {X : Cx} {T : Tb}
theorem OpR.imp {f : Value → Value → Sem Value} {r r' : R2} (h : OpR X f r) (k : ∀ x y H Q, r' x y H Q → r x y H Q) : OpR X f r' := fun pins s σ H x y v u Q I rx ry q => h pins s σ H x y v u Q I rx ry (k x y H Q q)
theorem oi {f : Value → Value → Sem Value} {C : Int → Int → Prop} {g : Int → Int → Vl} {gv : Int → Int → V} {op : O2} (hg : ∀ ρ H i j, RV T ρ H (g i j) (gv i j)) (h : OpR X f (rI C gv))
    (hop : ∀ a b s v s', op a b s = some (v, s') → ∃ i j, a = .int i ∧ b = .int j ∧ C i j ∧ v = g i j ∧ s' = s) : OpR X f (rO T op) := OpR.imp h fun x y H Q q => by
  obtain ⟨ρ, s, a, b, v, s', r, ha, hb, e, k⟩ := q
  obtain ⟨i, j, rfl, rfl, c, rfl, rfl⟩ := hop a b s v s' e
  exact ⟨i, j, ha.intE, hb.intE, c, k.here r (hg ρ H i j)⟩
theorem oi0 {f : Value → Value → Sem Value} {g : Int → Int → Vl} {gv : Int → Int → V} {op : O2} (hg : ∀ ρ H i j, RV T ρ H (g i j) (gv i j)) (h : OpR X f (rI0 gv))
    (hop : ∀ a b s v s', op a b s = some (v, s') → ∃ i j, a = .int i ∧ b = .int j ∧ v = g i j ∧ s' = s) : OpR X f (rO T op) := OpR.imp h fun x y H Q q => by
  obtain ⟨ρ, s, a, b, v, s', r, ha, hb, e, k⟩ := q
  obtain ⟨i, j, rfl, rfl, rfl, rfl⟩ := hop a b s v s' e
  exact ⟨i, j, ha.intE, hb.intE, k.here r (hg ρ H i j)⟩
theorem o_sub : OpR X (binaryOp .Sub) (rO T opSub) := oi0 (g := fun i j => .int (i - j)) (fun _ _ i j => .int _) op_sub fun a b s v s' e => by
  cases a <;> cases b <;> simp [opSub] at e
  exact ⟨_, _, rfl, rfl, e.1.symm, e.2.symm⟩
theorem o_lt : OpR X (compareOp .Lt) (rO T opLt) := oi0 (g := fun i j => .bl (decide (i < j))) (fun _ _ i j => .bl _) op_lt fun a b s v s' e => by
  cases a <;> cases b <;> simp [opLt] at e
  exact ⟨_, _, rfl, rfl, e.1.symm, e.2.symm⟩
theorem o_gt : OpR X (compareOp .Gt) (rO T opGt) := oi0 (g := fun i j => .bl (decide (j < i))) (fun _ _ i j => .bl _) op_gt fun a b s v s' e => by
  cases a <;> cases b <;> simp [opGt] at e
  exact ⟨_, _, rfl, rfl, e.1.symm, e.2.symm⟩
theorem o_ge : OpR X (compareOp .GtE) (rO T opGe) := oi0 (g := fun i j => .bl (decide (j ≤ i))) (fun _ _ i j => .bl _) op_ge fun a b s v s' e => by
  cases a <;> cases b <;> simp [opGe] at e
  exact ⟨_, _, rfl, rfl, e.1.symm, e.2.symm⟩
theorem o_fdiv : OpR X (binaryOp .FloorDiv) (rO T opFdiv) := oi (C := CDivW) (g := fun i j => .int (i / j)) (fun _ _ i j => .int _) op_fdivW fun a b s v s' e => by
  cases a <;> cases b <;> simp [opFdiv] at e
  exact ⟨_, _, rfl, rfl, wide_div (b := 100) e.1.1 (by have := e.1.1; have := e.1.2; omega) (by decide) (by decide), e.2.1.symm, e.2.2.symm⟩
theorem o_mod : OpR X (binaryOp .Mod) (rO T opMod) := oi (C := fun _ j => 0 < j) (g := fun i j => .int (i % j)) (fun _ _ i j => .int _) op_mod fun a b s v s' e => by
  cases a <;> cases b <;> simp [opMod] at e
  exact ⟨_, _, rfl, rfl, e.1, e.2.1.symm, e.2.2.symm⟩
theorem o_pow : OpR X (binaryOp .Pow) (rO T opPow) := oi (C := CPow) (g := fun i j => .int (i ^ j.toNat)) (fun _ _ i j => .int _) op_pow fun a b s v s' e => by
  cases a <;> cases b <;> simp only [opPow] at e <;> try cases e
  split at e
  · rename_i h
    cases e
    exact ⟨_, _, rfl, rfl, h, rfl, rfl⟩
  · cases e
theorem o_neg : UnR X (unaryOp .USub) (rO1 T opNeg) := fun pins s σ H x v Q I rx q => by
  obtain ⟨ρ, st, a, w, s', r, ha, e, k⟩ := q
  cases a <;> simp [opNeg] at e
  obtain ⟨rfl, rfl⟩ := e
  exact un_neg pins s σ H x v Q I rx ⟨_, ha.intE, k.here r (.int _)⟩
theorem o_add (hK : X.K = T.K := by rfl) : OpR X (binaryOp .Add) (rO T opAdd) := fun pins s σ H x y v u Q I rx ry q => by
  obtain ⟨ρ, st, a, b, w, s', r, ha, hb, e, k⟩ := q
  cases a <;> cases b <;> simp only [opAdd] at e <;> try cases e
  · exact op_add pins s σ H x y v u Q I rx ry ⟨_, _, ha.intE, hb.intE, k.here r (.int _)⟩
  · split at e
    · rename_i h
      cases e
      exact op_add_str pins s σ H x y v u Q I rx ry ⟨_, _, ha.strE, hb.strE, by rw [lim_eq]; exact h, k.here r (.str _)⟩
    · cases e
  · split at e
    · rename_i xs ys h
      cases e
      obtain ⟨p, vs, rfl, h1, h2⟩ := ha.tupE
      obtain ⟨p', vs', rfl, h1', h2'⟩ := hb.tupE
      refine op_catA pins s σ H _ _ v u Q I rx ry ⟨p, p', vs, vs', rfl, rfl, by rw [hK]; exact h1, by rw [hK]; exact h1', by rw [← h2.length, ← h2'.length, lim_eq]; exact h, ?_, ?_, ?_⟩
      · intro e
        subst e
        cases h2
        exact k.here r (.tup h1' h2')
      · intro _ e
        subst e
        cases h2'
        rw [List.append_nil] at k
        exact k.here r (.tup h1 h2)
      · intro _ _ q hq
        exact k.tup r (h2.append h2') hq
    · cases e
  · rename_i i j
    split at e
    · rename_i xs ys h1 h2
      split at e
      · rename_i h
        cases e
        obtain ⟨p, rfl, hp⟩ := ha.refE
        obtain ⟨p', rfl, hp'⟩ := hb.refE
        obtain ⟨vs, g1, g2⟩ := r.lst h1 hp
        obtain ⟨vs', g1', g2'⟩ := r.lst h2 hp'
        exact op_cat pins s σ H _ _ v u Q I rx ry ⟨p, p', vs, vs', rfl, rfl, g1, g1', by rw [← g2.length, ← g2'.length, lim_eq]; exact h, fun q hq => k.lst r (g2.append g2') hq⟩
      · cases e
    · cases e
theorem RVs.rep {ρ : List Addr} {H : Hp} {xs : List Vl} {vs : List V} (h : RVs T ρ H xs vs) : ∀ n : Nat, RVs T ρ H (List.replicate n xs).flatten (List.replicate n vs).flatten
  | 0 => .nil
  | n + 1 => by
    rw [List.replicate_succ, List.replicate_succ, List.flatten_cons, List.flatten_cons]
    exact h.append (RVs.rep h n)
theorem o_mul : OpR X (binaryOp .Mult) (rO T opMul) := fun pins s σ H x y v u Q I rx ry q => by
  obtain ⟨ρ, st, a, b, w, s', r, ha, hb, e, k⟩ := q
  cases a <;> cases b <;> simp only [opMul] at e <;> try cases e
  · split at e
    · rename_i h
      cases e
      exact op_mul pins s σ H x y v u Q I rx ry ⟨_, _, ha.intE, hb.intE, h, k.here r (.int _)⟩
    · cases e
  · split at e
    · rename_i xs h1
      split at e
      · rename_i h
        cases e
        obtain ⟨p, rfl, hp⟩ := ha.refE
        obtain ⟨vs, g1, g2⟩ := r.lst h1 hp
        have hz := h.2.1
        exact op_rep pins s σ H _ _ v u Q I rx ry ⟨p, _, vs, rfl, hb.intE, g1, by omega, by omega, by rw [← g2.length, lim_eq]; exact h.2.2, fun q hq => k.lst r (g2.rep _) hq⟩
      · cases e
    · cases e
theorem RV.non_iff {ρ : List Addr} {H : Hp} {a : Vl} {x : V} (h : RV T ρ H a x) : decide (x = .non) = isNon a := by
  cases h <;> simp [isNon]
theorem o_isN : OpR X (compareOp .Is) (rO T opIsN) := fun pins s σ H x y v u Q I rx ry q => by
  obtain ⟨ρ, st, a, b, w, s', r, ha, hb, e, k⟩ := q
  cases b <;> simp only [opIsN] at e <;> try cases e
  exact op_isN pins s σ H x y v u Q I rx ry ⟨hb.nonE, by rw [ha.non_iff]; exact k.here r (.bl _)⟩
theorem o_notN : OpR X (compareOp .IsNot) (rO T opNotN) := fun pins s σ H x y v u Q I rx ry q => by
  obtain ⟨ρ, st, a, b, w, s', r, ha, hb, e, k⟩ := q
  cases b <;> simp only [opNotN] at e <;> try cases e
  refine op_notN pins s σ H x y v u Q I rx ry ⟨hb.nonE, ?_⟩
  rw [ha.non_iff]
  exact k.here r (.bl _)
end

/-! ### data -/
def mapO {α β : Type} (f : α → Option β) : List α → Option (List β)
  | [] => some []
  | x :: xs => match f x, mapO f xs with
    | some y, some ys => some (y :: ys)
    | _, _ => none
def toD : Nat → Sto → Vl → Option PyData
  | 0, _, _ => none
  | n + 1, s, v => match v with
    | .non => some .none
    | .bl b => some (.bool b)
    | .int i => some (.int i)
    | .str x => some (.str x)
    | .tup xs => (mapO (toD n s) xs).map .tuple
    | .ref i => match s[i]? with
      | some (.lst xs) => (mapO (toD n s) xs).map .list
      | _ => none
    | _ => none
section
variable {T : Tb} {ρ : List Addr} {H : Hp} {s : Sto}
theorem toDs_dp {f : Vl → Option PyData} {n : Nat} (hf : ∀ v z d, RV T ρ H v z → f v = some d → Dp T.K H z d ∧ d.depth ≤ n) : ∀ {xs : List Vl} {vs : List V} {ds : List PyData}, RVs T ρ H xs vs → mapO f xs = some ds → DpAll T.K H vs ds ∧ PyData.depthAll ds ≤ n
  | _, _, _, .nil, e => by
    simp only [mapO] at e
    cases e
    exact ⟨.nil, by simp only [PyData.depthAll]; omega⟩
  | _, _, _, .cons h hs, e => by
    simp only [mapO] at e
    split at e
    · rename_i y ys e1 e2
      cases e
      obtain ⟨a1, a2⟩ := hf _ _ _ h e1
      obtain ⟨b1, b2⟩ := toDs_dp hf hs e2
      refine ⟨.cons a1 b1, ?_⟩
      simp only [PyData.depthAll]
      omega
    · cases e
theorem toD_dp (r : Rel T ρ H s) : ∀ (n : Nat) (v : Vl) (z : V) (d : PyData), RV T ρ H v z → toD n s v = some d → Dp T.K H z d ∧ d.depth ≤ n
  | 0, _, _, _, _, e => by cases e
  | n + 1, v, z, d, h, e => by
    have ih := toD_dp r n
    cases v <;> simp only [toD] at e <;> try cases e
    · rw [h.nonE]; exact ⟨.non, by simp only [PyData.depth]; omega⟩
    · rw [h.blE]; exact ⟨.bl _, by simp only [PyData.depth]; omega⟩
    · rw [h.intE]; exact ⟨.int _, by simp only [PyData.depth]; omega⟩
    · rw [h.strE]; exact ⟨.str _, by simp only [PyData.depth]; omega⟩
    · rename_i xs
      cases e1 : mapO (toD n s) xs with
      | none => rw [e1] at e; cases e
      | some ds =>
        rw [e1] at e
        cases e
        obtain ⟨a, vs, rfl, h1, h2⟩ := h.tupE
        obtain ⟨b1, b2⟩ := toDs_dp ih h2 e1
        exact ⟨.tup h1 b1, by simp only [PyData.depth]; omega⟩
    · rename_i i
      split at e
      · rename_i xs hx
        cases e1 : mapO (toD n s) xs with
        | none => rw [e1] at e; cases e
        | some ds =>
          rw [e1] at e
          cases e
          obtain ⟨a, rfl, ha⟩ := h.refE
          obtain ⟨vs, h1, h2⟩ := r.lst hx ha
          obtain ⟨b1, b2⟩ := toDs_dp ih h2 e1
          exact ⟨.lst (SqL.of h1) b1, by simp only [PyData.depth]; omega⟩
      · cases e
end
/-- == -/
def eqS : Vl → Vl → Option Bool
  | .non, .non => some true
  | .int i, .int j => some (i == j)
  | .bl i, .bl j => some (i == j)
  | .str i, .str j => some (i == j)
  | .non, .int _ => some false
  | .non, .str _ => some false
  | .int _, .non => some false
  | .int _, .str _ => some false
  | .str _, .non => some false
  | .str _, .int _ => some false
  | _, _ => none
def eqM (a b : Vl) (s : Sto) : Option Bool := match eqS a b with
  | some k => some k
  | none => match toD 40 s a, toD 40 s b with
    | some d, some e => if d.canLay0 && e.canLay0 then some (PyData.eqv d e) else none
    | _, _ => none
def opEq : O2 := fun a b s => match eqM a b s with
  | some k => some (.bl k, s)
  | none => none
def opNe : O2 := fun a b s => match eqM a b s with
  | some k => some (.bl (!k), s)
  | none => none
section
variable {X : Cx} {T : Tb}
theorem eqS_ok {ρ : List Addr} {H : Hp} {a b : Vl} {x y : V} {k : Bool} (ha : RV T ρ H a x) (hb : RV T ρ H b y) (e : eqS a b = some k) : scal x y = true ∧ decide (x = y) = k := by
  cases ha <;> cases hb <;> simp only [eqS] at e <;> try cases e
  all_goals (refine ⟨rfl, ?_⟩)
  all_goals first
    | (rw [dec_int]; done)
    | (rw [dec_bl]; done)
    | (rw [dec_str]; done)
    | simp
theorem sh40 {d : PyData} (h : d.canLay0 = true) (h2 : d.depth ≤ 40) : SeqAt.shaped d = true := by
  unfold SeqAt.shaped
  rw [h, decide_eq_true (by omega)]
  rfl
theorem o_eq (hu : X.A.units + 64 < cLine) (hK : X.K = T.K := by rfl) : OpR X (compareOp .Eq) (rO T opEq) := fun pins s σ H x y v u Q I rx ry q => by
  obtain ⟨ρ, st, a, b, w, s', r, ha, hb, e, k⟩ := q
  unfold opEq at e
  split at e
  · rename_i c hc
    cases e
    unfold eqM at hc
    split at hc
    · rename_i c' hs
      cases hc
      obtain ⟨h1, h2⟩ := eqS_ok ha hb hs
      exact op_eq pins s σ H x y v u Q I rx ry ⟨h1, by rw [h2]; exact k.here r (.bl _)⟩
    · split at hc
      · rename_i d e hd he
        split at hc
        · rename_i hl
          cases hc
          obtain ⟨l1, l2⟩ := Bool.and_eq_true_iff.mp hl
          obtain ⟨p1, p2⟩ := toD_dp r 40 a x d ha hd
          obtain ⟨q1, q2⟩ := toD_dp r 40 b y e hb he
          exact op_eqD hu pins s σ H x y v u Q I rx ry ⟨d, e, by rw [hK]; exact p1, by rw [hK]; exact q1, sh40 l1 p2, sh40 l2 q2, k.here r (.bl _)⟩
        · cases hc
      · cases hc
  · cases e
theorem o_ne (hu : X.A.units + 64 < cLine) (hK : X.K = T.K := by rfl) : OpR X (compareOp .NotEq) (rO T opNe) := fun pins s σ H x y v u Q I rx ry q => by
  obtain ⟨ρ, st, a, b, w, s', r, ha, hb, e, k⟩ := q
  unfold opNe at e
  split at e
  · rename_i c hc
    cases e
    unfold eqM at hc
    split at hc
    · rename_i c' hs
      cases hc
      obtain ⟨h1, h2⟩ := eqS_ok ha hb hs
      exact op_ne pins s σ H x y v u Q I rx ry ⟨h1, by rw [h2]; exact k.here r (.bl _)⟩
    · split at hc
      · rename_i d e hd he
        split at hc
        · rename_i hl
          cases hc
          obtain ⟨l1, l2⟩ := Bool.and_eq_true_iff.mp hl
          obtain ⟨p1, p2⟩ := toD_dp r 40 a x d ha hd
          obtain ⟨q1, q2⟩ := toD_dp r 40 b y e hb he
          exact op_neD hu pins s σ H x y v u Q I rx ry ⟨d, e, by rw [hK]; exact p1, by rw [hK]; exact q1, sh40 l1 p2, sh40 l2 q2, k.here r (.bl _)⟩
        · cases hc
      · cases hc
  · cases e
end
end Sm

/-! S3: subscripts, slices, in, stores, built-in calls, methods of built-in types -/
namespace Sm
open PySem L2

/-! ### dicts as lists of pairs -/
section
variable {κ : Type} [DecidableEq κ]
def look (kvs : List (κ × Vl)) (k : κ) : Option Vl := match kvs with
  | [] => none
  | p :: r => if p.1 = k then some p.2 else look r k
def hasK (kvs : List (κ × Vl)) (k : κ) : Bool := match kvs with
  | [] => false
  | p :: r => if p.1 = k then true else hasK r k
/-- in its place, or at the end -/
def put (kvs : List (κ × Vl)) (k : κ) (v : Vl) : List (κ × Vl) := match kvs with
  | [] => [(k, v)]
  | p :: r => if p.1 = k then (k, v) :: r else p :: put r k v
variable {T : Tb} {ρ : List Addr} {H : Hp}
theorem look_ok {k : κ} : ∀ {kvs : List (κ × Vl)} {vs : List (κ × V)}, vs.map (·.1) = kvs.map (·.1) → RVs T ρ H (kvs.map (·.2)) (vs.map (·.2)) →
    (look kvs k = none → valV vs k = none) ∧ ∀ v, look kvs k = some v → ∃ z, valV vs k = some z ∧ RV T ρ H v z
  | [], [], _, _ => ⟨fun _ => rfl, fun v e => by simp [look] at e⟩
  | [], _ :: _, e, _ => by simp at e
  | _ :: _, [], e, _ => by simp at e
  | p :: r, q :: t, e, h => by
    simp only [List.map_cons, List.cons.injEq] at e
    rw [List.map_cons, List.map_cons] at h
    cases h with
    | cons h1 h2 =>
      have ih := look_ok (k := k) e.2 h2
      by_cases hk : p.1 = k
      · have hq : q.1 = k := e.1.trans hk
        rw [valV_pos hq]
        refine ⟨fun z => ?_, fun v z => ?_⟩
        · simp only [look, if_pos hk] at z; cases z
        · simp only [look, if_pos hk] at z; cases z; exact ⟨_, rfl, h1⟩
      · have hq : ¬ q.1 = k := fun z => hk (e.1.symm.trans z)
        rw [valV_neg hq]
        simp only [look, if_neg hk]
        exact ih
theorem hasK_look (kvs : List (κ × Vl)) (k : κ) : hasK kvs k = (look kvs k).isSome := by
  induction kvs with
  | nil => rfl
  | cons p r ih =>
    unfold hasK look
    by_cases h : p.1 = k
    · rw [if_pos h, if_pos h]; rfl
    · rw [if_neg h, if_neg h]; exact ih
theorem hasK_ok {k : κ} {kvs : List (κ × Vl)} {vs : List (κ × V)} (e : vs.map (·.1) = kvs.map (·.1)) (h : RVs T ρ H (kvs.map (·.2)) (vs.map (·.2))) : hasK kvs k = (valV vs k).isSome := by
  rw [hasK_look]
  obtain ⟨h1, h2⟩ := look_ok (k := k) e h
  cases q : look kvs k with
  | none => rw [h1 q]; rfl
  | some v => obtain ⟨z, hz, _⟩ := h2 v q; rw [hz]; rfl
theorem putK_cons_eq {k : κ} {q : κ × V} {t : List (κ × V)} {z : V} (nd : q.1 = k) (hn : valV t k = none) : putK (q :: t) k z = (k, z) :: t := by
  unfold putK
  rw [if_pos (by simp [nd])]
  rw [List.map_cons, if_pos nd, nd]
  congr 1
  rw [List.map_congr_left (g := id)]
  · simp
  · intro p hp
    have : ¬ p.1 = k := fun e => by
      have h2 : (valV t k).isSome = true := by
        rw [← valV_any]
        exact List.any_eq_true.mpr ⟨p, hp, by simp [e]⟩
      rw [hn] at h2; cases h2
    rw [if_neg this]; rfl
theorem putK_cons_ne {k : κ} {q : κ × V} {t : List (κ × V)} {z : V} (h : ¬ q.1 = k) : putK (q :: t) k z = q :: putK t k z := by
  unfold putK
  rw [List.any_cons, decide_eq_false h, Bool.false_or]
  split
  · rw [List.map_cons, if_neg h]
  · rfl
theorem put_ok {k : κ} {v : Vl} {z : V} (hv : RV T ρ H v z) : ∀ {kvs : List (κ × Vl)} {vs : List (κ × V)}, (vs.map (·.1)).Nodup → vs.map (·.1) = kvs.map (·.1) → RVs T ρ H (kvs.map (·.2)) (vs.map (·.2)) →
    (putK vs k z).map (·.1) = (put kvs k v).map (·.1) ∧ RVs T ρ H ((put kvs k v).map (·.2)) ((putK vs k z).map (·.2))
  | [], [], _, _, _ => ⟨rfl, .cons hv .nil⟩
  | [], _ :: _, _, e, _ => by simp at e
  | _ :: _, [], _, e, _ => by simp at e
  | p :: r, q :: t, nd, e, h => by
    simp only [List.map_cons, List.cons.injEq] at e
    rw [List.map_cons, List.nodup_cons] at nd
    rw [List.map_cons, List.map_cons] at h
    cases h with
    | cons h1 h2 =>
      by_cases hk : p.1 = k
      · have hq : q.1 = k := e.1.trans hk
        have hn : valV t k = none := by
          cases w : valV t k with
          | none => rfl
          | some u =>
            exfalso
            have h3 : (t.any fun kv => decide (kv.1 = k)) = true := by rw [valV_any, w]; rfl
            obtain ⟨p', hp, e'⟩ := List.any_eq_true.mp h3
            exact nd.1 (by rw [hq, ← of_decide_eq_true e']; exact List.mem_map_of_mem hp)
        rw [putK_cons_eq hq hn]
        simp only [put, if_pos hk]
        exact ⟨by simp [e.2], .cons hv h2⟩
      · have hq : ¬ q.1 = k := fun z => hk (e.1.symm.trans z)
        rw [putK_cons_ne hq]
        simp only [put, if_neg hk]
        obtain ⟨a, b⟩ := put_ok hv nd.2 e.2 h2
        exact ⟨by simp [e.1, a], .cons h1 b⟩
end
def keyOf : Vl → Option Key
  | .int i => some (.inl i)
  | .str x => some (.inr x)
  | _ => none
def keyVl : Key → Vl
  | .inl i => .int i
  | .inr x => .str x
section
variable {T : Tb} {ρ : List Addr} {H : Hp}
theorem keyOf_ok {a : Vl} {x : V} {k : Key} (h : RV T ρ H a x) (e : keyOf a = some k) : x = kV k := by
  cases a <;> simp [keyOf] at e
  · subst e; exact h.intE
  · subst e; exact h.strE
theorem keyVl_ok (k : Key) : RV T ρ H (keyVl k) (kV k) := by
  cases k with
  | inl i => exact .int i
  | inr x => exact .str x
theorem RVs.at : ∀ {xs : List Vl} {vs : List V} {i : Int} {x : Vl}, RVs T ρ H xs vs → atI xs i = some x → ∃ v, atI vs i = some v ∧ RV T ρ H x v := fun {xs vs i x} h e => by
  unfold atI at e ⊢
  rw [← h.length]
  cases q : ixN xs.length i with
  | none => rw [q] at e; cases e
  | some j =>
    rw [q] at e
    exact h.get e
end
/-- the dict's keys are unlike: by the abstract heap -/
theorem dk_nodup {X : Cx} {pins : List (Addr × Obj)} {σ : St} {H : Hp} {s : Shared} {a : Addr} {vs : List (Key × V)} (I : Inv X pins σ H s) (h : H a = some (.dK vs)) : (vs.map (·.1)).Nodup := by
  obtain ⟨_, _, us, rel, dd⟩ := dk_of I.hok h
  have e := rel.keys
  rw [e]
  obtain ⟨_, _, _, _, _, _, _, _, nd⟩ := dd
  exact nd
/-! ### subscripts -/
def opIx : O2
  | .tup xs, .int i, s => (atI xs i).map fun v => (v, s)
  | .scr ns, .int i, s => (atI ns i).map fun v => (.int v, s)
  | .str x, .int i, s => if x.length ≤ LIM then (atI x.cps.toList i).map fun c => (.str ⟨#[c]⟩, s) else none
  | .ref j, y, s => match s[j]? with
    | some (.lst xs) => match y with
      | .int i => (atI xs i).map fun v => (v, s)
      | _ => none
    | some (.dic kvs) => match keyOf y with
      | some k => (look kvs k).map fun v => (v, s)
      | none => none
    | _ => none
  | _, _, _ => none
section
variable {X : Cx} {T : Tb}
theorem o_ix (hu : X.A.units + 1 < cLine) (hK : X.K = T.K := by rfl) : IxR X (rO T opIx) := fun value slice pins s σ H x y v u Q I rx ry q hs => by
  obtain ⟨ρ, st, a, b, w, s', r, ha, hb, e, k⟩ := q
  cases a with
  | tup xs =>
    cases b <;> simp only [opIx] at e <;> try cases e
    obtain ⟨z, hz, e⟩ := Option.map_eq_some_iff.mp e
    cases e
    obtain ⟨p, vs, rfl, h1, h2⟩ := ha.tupE
    obtain ⟨z', h3, h4⟩ := h2.at hz
    exact ix_tup value slice pins s σ H _ y v u Q I rx ry ⟨p, vs, _, z', rfl, hb.intE, by rw [hK]; exact h1, h3, k.here r h4⟩ hs
  | scr ns =>
    cases b <;> simp only [opIx] at e <;> try cases e
    obtain ⟨z, hz, e⟩ := Option.map_eq_some_iff.mp e
    cases e
    obtain ⟨p, rfl, h1⟩ := ha.scrE
    refine ix_list value slice pins s σ H _ y v u Q I rx ry ⟨p, _, _, .int z, rfl, hb.intE, by rw [hK]; exact h1, ?_, k.here r (.int z)⟩ hs
    unfold atI at hz ⊢
    rw [List.length_map]
    cases q : ixN ns.length _ with
    | none => rw [q] at hz; cases hz
    | some j =>
      rw [q] at hz
      have hz : ns[j]? = some z := hz
      show (ns.map V.int)[j]? = some (V.int z)
      rw [List.getElem?_map, hz]; rfl
  | str t =>
    cases b <;> simp only [opIx] at e <;> try cases e
    split at e
    · rename_i hl
      obtain ⟨z, hz, e⟩ := Option.map_eq_some_iff.mp e
      cases e
      exact ix_str value slice pins s σ H x y v u Q I rx ry ⟨t, _, z, ha.strE, hb.intE, by rw [lim_eq]; exact hl, hz, k.here r (.str _)⟩ hs
    · cases e
  | ref j =>
    obtain ⟨p, rfl, hp⟩ := ha.refE
    simp only [opIx] at e
    split at e
    · rename_i xs hx
      split at e
      · obtain ⟨z, hz, e⟩ := Option.map_eq_some_iff.mp e
        cases e
        obtain ⟨vs, h1, h2⟩ := r.lst hx hp
        obtain ⟨z', h3, h4⟩ := h2.at hz
        exact ix_list value slice pins s σ H _ y v u Q I rx ry ⟨p, vs, _, z', rfl, hb.intE, SqL.of h1, h3, k.here r h4⟩ hs
      · cases e
    · rename_i kvs hx
      split at e
      · rename_i key hk
        obtain ⟨z, hz, e⟩ := Option.map_eq_some_iff.mp e
        cases e
        obtain ⟨vs, h1, h2, h3⟩ := r.dic hx hp
        obtain ⟨z', h4, h5⟩ := (look_ok (k := key) h2 h3).2 _ hz
        have ey := keyOf_ok hb hk
        subst ey
        have g : DGet H p (kV key) (some z') := by rw [← h4]; exact DGet.k h1
        obtain rfl : v = Value.ref p := rx
        exact PyProof.Rows.tail_any (dict_typeIs I g) PySem.F.slot_dict_getitem.lookup (d_getItem hu I g ry fun w' s3 I3 rw' => ⟨z', H, I3, rw', k.here r h5⟩) hs
      · cases e
    · cases e
  | _ => simp only [opIx] at e; cases e
end
/-! ### slices -/
def cutL {α : Type} (xs : List α) (lo hi : Option Int) : List α := (xs.drop (HT.sIx xs.length 0 lo)).take (HT.sIx xs.length xs.length hi - HT.sIx xs.length 0 lo)
abbrev OSl := Vl → Option Int → Option Int → Sto → Option (Vl × Sto)
def opSl : OSl
  | .tup xs, lo, hi, s => some (.tup (cutL xs lo hi), s)
  | .scr ns, lo, hi, s => some (.ref s.length, s ++ [.lst ((cutL ns lo hi).map Vl.int)])
  | .str x, lo, hi, s => if x.length ≤ LIM then some (.str (cutS x lo hi), s) else none
  | .ref j, lo, hi, s => match s[j]? with
    | some (.lst xs) => some (.ref s.length, s ++ [.lst (cutL xs lo hi)])
    | _ => none
  | _, _, _, _ => none
def oPart : Option EM → Lo → M (Option Int)
  | none, _ => ret none
  | some m, lo => bnd (m lo) fun x => match x with
    | .int i => ret (some i)
    | _ => failM
def eSl (f : OSl) (a : EM) (l h : Option EM) : EM := fun lo => bnd (a lo) fun x => bnd (oPart l lo) fun i => bnd (oPart h lo) fun j => lift (f x i j)
theorem cutL_map {α β : Type} (f : α → β) (xs : List α) (lo hi : Option Int) : cutL (xs.map f) lo hi = (cutL xs lo hi).map f := by
  unfold cutL
  rw [List.length_map, List.map_take, List.map_drop]
def rSl (T : Tb) (f : OSl) : V → Option Int → Option Int → Hp → VK → Prop := fun x lo hi H Q => ∃ ρ s a v s', Rel T ρ H s ∧ RV T ρ H a x ∧ f a lo hi s = some (v, s') ∧ Aft T ρ H s' v Q
section
variable {X : Cx} {T : Tb} {W : WX}
theorem RVs.cut {ρ : List Addr} {H : Hp} {xs : List Vl} {vs : List V} (h : RVs T ρ H xs vs) (lo hi : Option Int) : RVs T ρ H (cutL xs lo hi) (cutV vs lo hi) := by
  unfold cutL cutV
  rw [h.length]
  exact (h.drop _).take _
theorem RVs.ints {ρ : List Addr} {H : Hp} : ∀ ns : List Int, RVs T ρ H (ns.map Vl.int) (ns.map V.int)
  | [] => .nil
  | n :: ns => .cons (.int n) (RVs.ints ns)
theorem o_sl (hK : X.K = T.K := by rfl) : SlR X (rSl T opSl) := fun pins s σ H x v vl vu lo hi sl Q I rx hs pl pu q => by
  obtain ⟨ρ, st, a, w, s', r, ha, e, k⟩ := q
  cases a with
  | tup xs =>
    simp only [opSl] at e
    cases e
    obtain ⟨p, vs, rfl, h1, h2⟩ := ha.tupE
    refine sl_tupA pins s σ H _ v vl vu lo hi sl Q I rx hs pl pu ⟨p, vs, rfl, by rw [hK]; exact h1, fun hw => ?_, fun _ q hq => k.tup r (h2.cut lo hi) hq⟩
    have : cutL xs lo hi = xs := by
      unfold cutL
      rw [h2.length, hw.1, hw.2]
      rw [List.drop_zero, Nat.sub_zero, ← h2.length, List.take_length]
    rw [this] at k
    exact k.here r (.tup h1 h2)
  | scr ns =>
    simp only [opSl] at e
    cases e
    obtain ⟨p, rfl, h1⟩ := ha.scrE
    refine sl_list pins s σ H _ v vl vu lo hi sl Q I rx hs pl pu ⟨p, _, rfl, by rw [hK]; exact h1, fun q hq => ?_⟩
    refine k.lst r ?_ hq
    rw [← cutL_map]
    exact RVs.cut (RVs.ints ns) lo hi
  | str t =>
    simp only [opSl] at e
    split at e
    · rename_i hl
      cases e
      exact sl_str pins s σ H x v vl vu lo hi sl Q I rx hs pl pu ⟨t, ha.strE, by rw [lim_eq]; exact hl, k.here r (.str _)⟩
    · cases e
  | ref j =>
    simp only [opSl] at e
    split at e
    · rename_i xs hx
      cases e
      obtain ⟨p, rfl, hp⟩ := ha.refE
      obtain ⟨vs, h1, h2⟩ := r.lst hx hp
      exact sl_list pins s σ H _ v vl vu lo hi sl Q I rx hs pl pu ⟨p, vs, rfl, SqL.of h1, fun q hq => k.lst r (h2.cut lo hi) hq⟩
    · cases e
  | _ => simp only [opSl] at e; cases e
/-- a slice's part -/
abbrev tO (T : Tb) (W : WX) (m : Option EM) : TO := tG (fun _ _ a b => a = b) T W (oPart m)
theorem co_none : PO X none (tO T W none) := ⟨fun pins s σ H Q I h => po_none.run pins s σ H Q I (by
  obtain ⟨ρ, st, lo, r, rl, p⟩ := h
  exact p ρ H none .refl r rfl)⟩
theorem co_some {e : Expr} {me : EM} (he : PE X e (tE T W me)) : PO X (some e) (tO T W (some me)) := ⟨fun pins s σ H Q I h => (po_some he).run pins s σ H Q I (by
  refine tG_bnd (R := RV T) h fun ρ st lo x z H1 r rl hx p => ?_
  cases hx with
  | int i => exact ⟨i, rfl, p ρ H1 (some i) .refl r rfl⟩
  | _ => exact p.elim)⟩
theorem ce_slice {e : Expr} {l h : Option Expr} {me : EM} {ml mh : Option EM} {pos p2 : Pos} {f : OSl} (hr : SlR X (rSl T f)) (he : PE X e (tE T W me)) (hl : PO X l (tO T W ml)) (hh : PO X h (tO T W mh)) : PE X (.Subscript e (.Slice l h none p2) pos) (tE T W (eSl f me ml mh)) :=
  pe_mono (pe_slice hr he hl hh) fun σ H Q q => tG_bnd (R := RV T) q fun ρ s lo x z H1 r rl hx p =>
    po_bnd (R := fun _ _ a b => a = b) (m := oPart ml) r rl p fun ρ1 s1 i i' H2 ext1 r1 rl1 hi p1 =>
      po_bnd (R := fun _ _ a b => a = b) (m := oPart mh) r1 rl1 p1 fun ρ2 s2 j j' H3 ext2 r2 rl2 hj p2 => by
        subst hi hj
        obtain ⟨v, s3, e, k⟩ := po_lift p2
        exact ⟨ρ2, s2, x, v, s3, r2, hx.mono (ext1.trans ext2), e, k⟩
end
/-! ### in -/
def flat : Vl → Bool
  | .non => true
  | .bl _ => true
  | .int _ => true
  | .str _ => true
  | _ => false
def eqF : Vl → Vl → Bool
  | .non, .non => true
  | .bl a, .bl b => a == b
  | .bl a, .int b => (if a then 1 else 0) == b
  | .int a, .bl b => a == (if b then 1 else 0)
  | .int a, .int b => a == b
  | .str a, .str b => a == b
  | _, _ => false
def inF (x : Vl) (xs : List Vl) : Bool := xs.any fun y => eqF y x
def inM (x y : Vl) (s : Sto) : Option Bool := match y with
  | .tup ys => if flat x && ys.all flat then some (inF x ys) else none
  | .str b => match x with
    | .str a => match a.cps.toList with
      | [c] => some (decide (c ∈ b.cps.toList))
      | _ => none
    | _ => none
  | .ref j => match s[j]? with
    | some (.lst ys) => if flat x && ys.all flat then some (inF x ys) else none
    | some (.dic kvs) => match keyOf x with
      | some k => some (hasK kvs k)
      | none => none
    | _ => none
  | _ => none
def opIn : O2 := fun x y s => match inM x y s with
  | some b => some (.bl b, s)
  | none => none
def opNotIn : O2 := fun x y s => match inM x y s with
  | some b => some (.bl (!b), s)
  | none => none
section
variable {X : Cx} {T : Tb} {ρ : List Addr} {H : Hp}
theorem flat_ok {a : Vl} {x : V} (h : RV T ρ H a x) (f : flat a = true) : flatV x = true := by
  cases h <;> simp [flat] at f <;> rfl
theorem eqF_ok {a b : Vl} {x y : V} (h : RV T ρ H a x) (g : RV T ρ H b y) (fa : flat a = true) (fb : flat b = true) : eqV x y = eqF a b := by
  cases h <;> simp [flat] at fa <;> cases g <;> simp [flat] at fb <;> rfl
theorem flats_ok : ∀ {xs : List Vl} {vs : List V}, RVs T ρ H xs vs → xs.all flat = true → vs.all flatV = true
  | _, _, .nil, _ => rfl
  | _, _, .cons h hs, e => by
    rw [List.all_cons, Bool.and_eq_true_iff] at e
    rw [List.all_cons, flat_ok h e.1, flats_ok hs e.2]; rfl
theorem inF_ok {a : Vl} {x : V} (h : RV T ρ H a x) (f : flat a = true) : ∀ {xs : List Vl} {vs : List V}, RVs T ρ H xs vs → xs.all flat = true → inV x vs = inF a xs
  | _, _, .nil, _ => rfl
  | _, _, .cons g hs, e => by
    rw [List.all_cons, Bool.and_eq_true_iff] at e
    have ih := inF_ok h f hs e.2
    unfold inV inF at ih ⊢
    rw [List.any_cons, List.any_cons, ih, eqF_ok g h e.1 f]
/-- the four kinds, told apart -/
theorem inM_cases {s : Sto} {a b : Vl} {x y : V} {c : Bool} (r : Rel T ρ H s) (ha : RV T ρ H a x) (hb : RV T ρ H b y) (e : inM a b s = some c) :
    (∃ p vs, y = .ref p ∧ (SqL T.K H p vs ∨ SqT T.K H p vs) ∧ flatV x = true ∧ vs.all flatV = true ∧ inV x vs = c) ∨ (∃ (n : Nat) (z : Str), x = .str ⟨#[n]⟩ ∧ y = .str z ∧ decide (n ∈ z.cps.toList) = c) ∨
    ∃ p o, y = .ref p ∧ DGet H p x o ∧ o.isSome = c := by
  cases b with
  | tup ys =>
    simp only [inM] at e
    split at e
    · rename_i hf
      cases e
      obtain ⟨f1, f2⟩ := Bool.and_eq_true_iff.mp hf
      obtain ⟨p, vs, rfl, h1, h2⟩ := hb.tupE
      exact .inl ⟨p, vs, rfl, .inr h1, flat_ok ha f1, flats_ok h2 f2, inF_ok ha f1 h2 f2⟩
    · cases e
  | str z =>
    simp only [inM] at e
    cases a <;> simp only at e <;> try cases e
    rename_i t
    split at e
    · rename_i c' hc
      cases e
      refine .inr (.inl ⟨c', z, ?_, hb.strE, rfl⟩)
      rw [ha.strE]
      obtain ⟨⟨l⟩⟩ := t
      have hc : l = [c'] := hc
      subst hc; rfl
    · cases e
  | ref j =>
    obtain ⟨p, rfl, hp⟩ := hb.refE
    simp only [inM] at e
    split at e
    · rename_i ys hx
      split at e
      · rename_i hf
        cases e
        obtain ⟨f1, f2⟩ := Bool.and_eq_true_iff.mp hf
        obtain ⟨vs, h1, h2⟩ := r.lst hx hp
        exact .inl ⟨p, vs, rfl, .inl (SqL.of h1), flat_ok ha f1, flats_ok h2 f2, inF_ok ha f1 h2 f2⟩
      · cases e
    · rename_i kvs hx
      split at e
      · rename_i k hk
        cases e
        obtain ⟨vs, h1, h2, h3⟩ := r.dic hx hp
        have ey := keyOf_ok ha hk
        subst ey
        exact .inr (.inr ⟨p, _, rfl, DGet.k h1, (hasK_ok h2 h3).symm⟩)
      · cases e
    · cases e
  | _ => simp only [inM] at e; cases e
theorem o_in (hu : X.A.units + 1 < cLine) (hK : X.K = T.K := by rfl) : OpR X (compareOp .In) (rO T opIn) := fun pins s σ H x y v u Q I rx ry q => by
  obtain ⟨ρ, st, a, b, w, s', r, ha, hb, e, k⟩ := q
  unfold opIn at e
  split at e
  · rename_i c hc
    cases e
    rcases inM_cases r ha hb hc with ⟨p, vs, rfl, h1, h2, h3, h4⟩ | ⟨n, z, rfl, rfl, h4⟩ | ⟨p, o, rfl, g, h4⟩
    · exact op_in_seq pins s σ H x _ v u Q I rx ry ⟨p, vs, rfl, by rw [hK]; exact h1, h2, h3, by rw [if_neg (by decide), h4]; exact k.here r (.bl _)⟩
    · exact op_in_sign pins s σ H _ _ v u Q I rx ry ⟨n, z, rfl, rfl, by rw [h4]; exact k.here r (.bl _)⟩
    · obtain rfl : u = Value.ref p := ry
      exact d_in hu I g rx fun s3 I3 => ⟨.bl o.isSome, H, I3, rfl, by rw [h4]; exact k.here r (.bl _)⟩
  · cases e
theorem o_notIn (hu : X.A.units + 1 < cLine) (hK : X.K = T.K := by rfl) : OpR X (compareOp .NotIn) (rO T opNotIn) := fun pins s σ H x y v u Q I rx ry q => by
  obtain ⟨ρ, st, a, b, w, s', r, ha, hb, e, k⟩ := q
  unfold opNotIn at e
  split at e
  · rename_i c hc
    cases e
    rcases inM_cases r ha hb hc with ⟨p, vs, rfl, h1, h2, h3, h4⟩ | ⟨n, z, rfl, rfl, h4⟩ | ⟨p, o, rfl, g, h4⟩
    · exact op_notIn_seq pins s σ H x _ v u Q I rx ry ⟨p, vs, rfl, by rw [hK]; exact h1, h2, h3, by rw [if_pos rfl, h4]; exact k.here r (.bl _)⟩
    · exact op_notIn_sign pins s σ H _ _ v u Q I rx ry ⟨n, z, rfl, rfl, by rw [h4]; exact k.here r (.bl _)⟩
    · obtain rfl : u = Value.ref p := ry
      exact d_notIn hu I g rx fun s3 I3 => ⟨.bl (!o.isSome), H, I3, rfl, by rw [h4]; exact k.here r (.bl _)⟩
  · cases e
end
end Sm

/-! S4: built-in calls and methods of built-in types -/
namespace Sm
open PySem L2
section
variable {T : Tb} {ρ : List Addr} {H : Hp}
theorem RVs.one {a : Vl} {xs : List V} (h : RVs T ρ H [a] xs) : ∃ x, xs = [x] ∧ RV T ρ H a x := by
  cases h with
  | cons h1 h2 => cases h2; exact ⟨_, rfl, h1⟩
theorem RVs.two {a b : Vl} {xs : List V} (h : RVs T ρ H [a, b] xs) : ∃ x y, xs = [x, y] ∧ RV T ρ H a x ∧ RV T ρ H b y := by
  cases h with
  | cons h1 h2 =>
    obtain ⟨y, rfl, h3⟩ := h2.one
    exact ⟨_, y, rfl, h1, h3⟩
theorem RVs.zero {xs : List V} (h : RVs T ρ H [] xs) : xs = [] := by cases h; rfl
def asInt : Vl → Option Int
  | .int i => some i
  | _ => none
def asBl : Vl → Option Bool
  | .bl i => some i
  | _ => none
def asStr : Vl → Option Str
  | .str i => some i
  | _ => none
theorem asInts_ok : ∀ {xs : List Vl} {vs : List V} {ns : List Int}, RVs T ρ H xs vs → mapO asInt xs = some ns → vs = ns.map V.int
  | _, _, _, .nil, e => by simp [mapO] at e; subst e; rfl
  | _, _, _, .cons h hs, e => by
    simp only [mapO] at e
    split at e
    · rename_i y ys e1 e2
      cases e
      have := asInts_ok hs e2
      subst this
      cases h <;> simp [asInt] at e1
      subst e1; rfl
    · cases e
theorem asStrs_ok : ∀ {xs : List Vl} {vs : List V} {ns : List Str}, RVs T ρ H xs vs → mapO asStr xs = some ns → vs = ns.map V.str
  | _, _, _, .nil, e => by simp [mapO] at e; subst e; rfl
  | _, _, _, .cons h hs, e => by
    simp only [mapO] at e
    split at e
    · rename_i y ys e1 e2
      cases e
      have := asStrs_ok hs e2
      subst this
      cases h <;> simp [asStr] at e1
      subst e1; rfl
    · cases e
end
theorem mapO_ints (ns : List Int) : mapO asInt (ns.map Vl.int) = some ns := by
  induction ns with
  | nil => rfl
  | cons n ns ih => simp only [List.map_cons, mapO, asInt, ih]
theorem mapO_bls (ns : List Bool) : mapO asBl (ns.map Vl.bl) = some ns := by
  induction ns with
  | nil => rfl
  | cons n ns ih => simp only [List.map_cons, mapO, asBl, ih]
theorem mapO_strs (ns : List Str) : mapO asStr (ns.map Vl.str) = some ns := by
  induction ns with
  | nil => rfl
  | cons n ns ih => simp only [List.map_cons, mapO, asStr, ih]
/-! ### sorting ints -/
def insS (x : Int) : List Int → List Int
  | [] => [x]
  | y :: ys => if x ≤ y then x :: y :: ys else y :: insS x ys
def srt : List Int → List Int
  | [] => []
  | x :: xs => insS x (srt xs)
theorem insS_perm (x : Int) : ∀ ys : List Int, (insS x ys).Perm (x :: ys)
  | [] => .refl _
  | y :: ys => by
    unfold insS
    split
    · exact .refl _
    · exact (List.Perm.cons y (insS_perm x ys)).trans (List.Perm.swap x y ys)
theorem srt_perm : ∀ xs : List Int, (srt xs).Perm xs
  | [] => .refl _
  | x :: xs => (insS_perm x (srt xs)).trans (List.Perm.cons x (srt_perm xs))
theorem insS_mem {x z : Int} {ys : List Int} : z ∈ insS x ys ↔ z = x ∨ z ∈ ys := by
  rw [(insS_perm x ys).mem_iff, List.mem_cons]
theorem insS_sorted (x : Int) : ∀ ys : List Int, ys.Pairwise (· ≤ ·) → (insS x ys).Pairwise (· ≤ ·)
  | [], _ => List.pairwise_singleton _ _
  | y :: ys, h => by
    unfold insS
    split
    · rename_i hle
      refine List.pairwise_cons.mpr ⟨fun z hz => ?_, h⟩
      rcases List.mem_cons.mp hz with rfl | hz
      · exact hle
      · exact Int.le_trans hle ((List.pairwise_cons.mp h).1 z hz)
    · rename_i hle
      refine List.pairwise_cons.mpr ⟨fun z hz => ?_, insS_sorted x ys (List.pairwise_cons.mp h).2⟩
      rcases insS_mem.mp hz with rfl | hz
      · omega
      · exact (List.pairwise_cons.mp h).1 z hz
theorem srt_sorted : ∀ xs : List Int, (srt xs).Pairwise (· ≤ ·)
  | [] => List.Pairwise.nil
  | x :: xs => insS_sorted x _ (srt_sorted xs)
theorem srt_eq {xs ys : List Int} (p : ys.Perm xs) (h : ys.Pairwise (· ≤ ·)) : ys = srt xs := PySem.W.ksm_same (p.trans (srt_perm xs).symm) h (srt_sorted xs)
/-! ### calls -/
def lenM (x : Vl) (s : Sto) : Option Nat := match x with
  | .tup xs => some xs.length
  | .scr ns => some ns.length
  | .str z => if z.length ≤ LIM then some z.length else none
  | .ref j => match s[j]? with
    | some (.lst xs) => some xs.length
    | some (.dic kvs) => some kvs.length
    | _ => none
  | _ => none
def oLen : OC
  | [x], s => (lenM x s).map fun n => (.int n, s)
  | _, _ => none
def oAbs : OC
  | [.int i], s => some (.int (if i < 0 then -i else i), s)
  | _, _ => none
def oInt : OC
  | [.int i], s => some (.int i, s)
  | [.bl b], s => some (.int (if b then 1 else 0), s)
  | _, _ => none
def oStr : OC
  | [.int i], s => if i.natAbs.log2 < 1920 then some (.str (toString i), s) else none
  | _, _ => none
def oMax : OC
  | [.int i, .int j], s => some (.int (if j > i then j else i), s)
  | _, _ => none
def oMin : OC
  | [.int i, .int j], s => some (.int (if j < i then j else i), s)
  | _, _ => none
def oTuple : OC
  | [.tup xs], s => some (.tup xs, s)
  | [.ref j], s => match s[j]? with
    | some (.lst xs) => some (.tup xs, s)
    | _ => none
  | _, _ => none
def oList : OC
  | [.tup xs], s => some (.ref s.length, s ++ [.lst xs])
  | [.ref j], s => match s[j]? with
    | some (.lst xs) => some (.ref s.length, s ++ [.lst xs])
    | some (.dic kvs) => some (.ref s.length, s ++ [.lst (kvs.map fun kv => keyVl kv.1)])
    | _ => none
  | _, _ => none
def lstOf (x : Vl) (s : Sto) : Option (List Vl) := match x with
  | .ref j => match s[j]? with
    | some (.lst xs) => some xs
    | _ => none
  | _ => none
def oSum : OC
  | [x], s => match lstOf x s with
    | some xs => (mapO asInt xs).map fun ns => (.int ns.sum, s)
    | none => none
  | _, _ => none
def oAll : OC
  | [x], s => match lstOf x s with
    | some xs => (mapO asBl xs).map fun ns => (.bl (ns.all id), s)
    | none => none
  | _, _ => none
def oAny : OC
  | [x], s => match lstOf x s with
    | some xs => (mapO asBl xs).map fun ns => (.bl (ns.any id), s)
    | none => none
  | _, _ => none
def oSorted : OC
  | [x], s => match lstOf x s with
    | some xs => (mapO asInt xs).map fun ns => (.ref s.length, s ++ [.lst ((srt ns).map Vl.int)])
    | none => none
  | _, _ => none
def oRepr : OC
  | [x], s => match toD 40 s x with
    | some d => if d.showable && decide (d.shown.length ≤ LIM) then some (.str d.shown, s) else none
    | none => none
  | _, _ => none
section
variable {X : Cx} {T : Tb}
theorem CallR.imp {f : Value} {r r' : List V → Hp → VK → Prop} (h : CallR X f r) (k : ∀ xs H Q, r' xs H Q → r xs H Q) : CallR X f r' := fun pins s σ H xs us Q I rs q => h pins s σ H xs us Q I rs (k xs H Q q)
theorem d_lenC {H : Hp} {a : Addr} {kvs : List (Key × V)} : ∀ (pins : List (Addr × Obj)) (s : Shared) (σ : St) (xs : List V) (us : List Value) (Q : VK), Inv X pins σ H s → Vals xs us → xs = [.ref a] → H a = some (.dK kvs) → Q (.int kvs.length) H →
    wpAny (model X.prog X.w) X.A (call (.builtin "len") us) (EP X pins σ Q) X.xe s := fun pins s σ xs us Q I r e h q => by
  subst e
  cases r with
  | cons r1 r2 =>
    cases r2
    obtain rfl := r1
    exact d_len I (.inl h) fun t s' I' => ⟨.int _, H, I', ⟨t, rfl⟩, q⟩
theorem c_len (hK : X.K = T.K := by rfl) : CallR X (.builtin "len") (rC T oLen) := fun pins s σ H xs us Q I rs q => by
  obtain ⟨ρ, st, as, w, s', r, ha, e, k⟩ := q
  unfold oLen at e
  split at e
  · rename_i x
    obtain ⟨z, rfl, hz⟩ := ha.one
    obtain ⟨n, hn, e⟩ := Option.map_eq_some_iff.mp e
    cases e
    have fin := k.here r (.int (n : Int))
    cases x with
    | tup ys =>
      obtain ⟨p, vs, rfl, h1, h2⟩ := hz.tupE
      cases hn
      rw [h2.length] at fin
      exact call_len_seq pins s σ H _ us Q I rs ⟨p, vs, rfl, .inr (by rw [hK]; exact h1), fin⟩
    | scr ns =>
      obtain ⟨p, rfl, h1⟩ := hz.scrE
      cases hn
      exact call_len_seq pins s σ H _ us Q I rs ⟨p, _, rfl, .inl (by rw [hK]; exact h1), by rw [List.length_map]; exact fin⟩
    | str t =>
      simp only [lenM] at hn
      split at hn
      · rename_i hl
        cases hn
        exact call_len pins s σ H _ us Q I rs ⟨_, _, rfl, by rw [hz.strE]; exact ⟨by rw [lim_eq]; exact hl, rfl⟩, fin⟩
      · cases hn
    | ref j =>
      obtain ⟨p, rfl, hp⟩ := hz.refE
      simp only [lenM] at hn
      split at hn
      · rename_i ys hx
        cases hn
        obtain ⟨vs, h1, h2⟩ := r.lst hx hp
        rw [h2.length] at fin
        exact call_len_seq pins s σ H _ us Q I rs ⟨p, vs, rfl, .inl (SqL.of h1), fin⟩
      · rename_i kvs hx
        cases hn
        obtain ⟨vs, h1, h2, h3⟩ := r.dic hx hp
        have : kvs.length = vs.length := by have := congrArg List.length h2; simpa using this.symm
        rw [this] at fin
        exact d_lenC pins s σ _ us Q I rs rfl h1 fin
      · cases hn
    | _ => cases hn
  · cases e
theorem c_abs : CallR X (.builtin "abs") (rC T oAbs) := CallR.imp call_abs fun xs H Q q => by
  obtain ⟨ρ, st, as, w, s', r, ha, e, k⟩ := q
  unfold oAbs at e
  split at e
  · obtain ⟨z, rfl, hz⟩ := ha.one
    cases e
    exact ⟨_, by rw [hz.intE], k.here r (.int _)⟩
  · cases e
theorem c_int : CallR X (.type "int") (rC T oInt) := CallR.imp call_int1 fun xs H Q q => by
  obtain ⟨ρ, st, as, w, s', r, ha, e, k⟩ := q
  unfold oInt at e
  split at e
  · obtain ⟨z, rfl, hz⟩ := ha.one
    cases e
    exact .inl ⟨_, by rw [hz.intE], k.here r (.int _)⟩
  · obtain ⟨z, rfl, hz⟩ := ha.one
    cases e
    exact .inr ⟨_, by rw [hz.blE], k.here r (.int _)⟩
  · cases e
theorem c_str : CallR X (.type "str") (rC T oStr) := CallR.imp call_str_int fun xs H Q q => by
  obtain ⟨ρ, st, as, w, s', r, ha, e, k⟩ := q
  unfold oStr at e
  split at e
  · split at e
    · rename_i hl
      obtain ⟨z, rfl, hz⟩ := ha.one
      cases e
      exact ⟨_, by rw [hz.intE], hl, k.here r (.str _)⟩
    · cases e
  · cases e
theorem c_tuple (hK : X.K = T.K := by rfl) : CallR X (.type "tuple") (rC T oTuple) := CallR.imp call_tuple_of fun xs H Q q => by
  obtain ⟨ρ, st, as, w, s', r, ha, e, k⟩ := q
  unfold oTuple at e
  split at e
  · obtain ⟨z, rfl, hz⟩ := ha.one
    cases e
    obtain ⟨p, vs, rfl, h1, h2⟩ := hz.tupE
    exact ⟨p, vs, rfl, .inr ⟨by rw [hK]; exact h1, k.here r (.tup h1 h2)⟩⟩
  · split at e
    · rename_i xs hx
      cases e
      obtain ⟨z, rfl, hz⟩ := ha.one
      obtain ⟨p, rfl, hp⟩ := hz.refE
      obtain ⟨vs, h1, h2⟩ := r.lst hx hp
      exact ⟨p, vs, rfl, .inl ⟨SqL.of h1, fun q hq => k.tup r h2 hq⟩⟩
    · cases e
  · cases e
theorem keys_ok {ρ : List Addr} {H : Hp} : ∀ {kvs : List (Key × Vl)} {vs : List (Key × V)}, vs.map (·.1) = kvs.map (·.1) → RVs T ρ H (kvs.map fun kv => keyVl kv.1) (vs.map fun kv => kV kv.1)
  | [], [], _ => .nil
  | [], _ :: _, e => by simp at e
  | _ :: _, [], e => by simp at e
  | p :: r, q :: t, e => by
    simp only [List.map_cons, List.cons.injEq] at e
    rw [List.map_cons, List.map_cons, e.1]
    exact .cons (keyVl_ok _) (keys_ok e.2)
theorem c_list (hc : X.calm = true := by rfl) (hK : X.K = T.K := by rfl) : CallR X (.type "list") (rC T oList) := fun pins s σ H xs us Q I rs q => by
  obtain ⟨ρ, st, as, w, s', r, ha, e, k⟩ := q
  unfold oList at e
  split at e
  · obtain ⟨z, rfl, hz⟩ := ha.one
    cases e
    obtain ⟨p, vs, rfl, h1, h2⟩ := hz.tupE
    exact call_list_of pins s σ H _ us Q I rs ⟨p, vs, rfl, .inr (by rw [hK]; exact h1), fun q hq => k.lst r h2 hq⟩
  · obtain ⟨z, rfl, hz⟩ := ha.one
    obtain ⟨p, rfl, hp⟩ := hz.refE
    split at e
    · rename_i xs hx
      cases e
      obtain ⟨vs, h1, h2⟩ := r.lst hx hp
      exact call_list_of pins s σ H _ us Q I rs ⟨p, vs, rfl, .inl (SqL.of h1), fun q hq => k.lst r h2 hq⟩
    · rename_i kvs hx
      cases e
      obtain ⟨vs, h1, h2, h3⟩ := r.dic hx hp
      exact call_list_dK hc pins s σ H _ us Q I rs ⟨p, vs, rfl, h1, fun q hq => k.lst r (keys_ok h2) hq⟩
    · cases e
  · cases e
theorem lstOf_ok {ρ : List Addr} {H : Hp} {s : Sto} {x : Vl} {z : V} {xs : List Vl} (r : Rel T ρ H s) (hz : RV T ρ H x z) (e : lstOf x s = some xs) : ∃ p vs, z = .ref p ∧ H p = some (.lst vs) ∧ RVs T ρ H xs vs := by
  unfold lstOf at e
  split at e
  · split at e
    · rename_i ys hx
      cases e
      obtain ⟨p, rfl, hp⟩ := hz.refE
      obtain ⟨vs, h1, h2⟩ := r.lst hx hp
      exact ⟨p, vs, rfl, h1, h2⟩
    · cases e
  · cases e
theorem c_sum (hc : X.calm = true := by rfl) : CallR X (.builtin "sum") (rC T oSum) := CallR.imp (cr_sum hc) fun xs H Q q => by
  obtain ⟨ρ, st, as, w, s', r, ha, e, k⟩ := q
  unfold oSum at e
  split at e
  · split at e
    · rename_i x xs hx
      obtain ⟨z, rfl, hz⟩ := ha.one
      obtain ⟨ns, hn, e⟩ := Option.map_eq_some_iff.mp e
      cases e
      obtain ⟨p, vs, rfl, h1, h2⟩ := lstOf_ok r hz hx
      rw [asInts_ok h2 hn] at h1
      exact ⟨p, ns, rfl, SqL.of h1, k.here r (.int _)⟩
    · cases e
  · cases e
theorem c_sorted : CallR X (.builtin "sorted") (rC T oSorted) := CallR.imp cr_sortedI fun xs H Q q => by
  obtain ⟨ρ, st, as, w, s', r, ha, e, k⟩ := q
  unfold oSorted at e
  split at e
  · split at e
    · rename_i x xs hx
      obtain ⟨z, rfl, hz⟩ := ha.one
      obtain ⟨ns, hn, e⟩ := Option.map_eq_some_iff.mp e
      cases e
      obtain ⟨p, vs, rfl, h1, h2⟩ := lstOf_ok r hz hx
      rw [asInts_ok h2 hn] at h1
      refine ⟨p, ns, rfl, SqL.of h1, fun ns' q hp hs hq => ?_⟩
      rw [srt_eq hp hs]
      exact k.lst r (RVs.ints _) hq
    · cases e
  · cases e
/-- repr of data -/
theorem dp_noDict {K : PySem.W.Frag} {H : Hp} : ∀ (d : PyData) (v : V), Dp K H v d → d.hasDict = false
  | .none, _, _ => by simp only [PyData.hasDict]
  | .bool _, _, _ => by simp only [PyData.hasDict]
  | .int _, _, _ => by simp only [PyData.hasDict]
  | .str _, _, _ => by simp only [PyData.hasDict]
  | .list ds, _, .lst _ h => by
    simp only [PyData.hasDict]
    exact go ds _ h
  | .tuple ds, _, .tup _ h => by
    simp only [PyData.hasDict]
    exact go ds _ h
where
  go {K : PySem.W.Frag} {H : Hp} : ∀ (ds : List PyData) (vs : List V), DpAll K H vs ds → PyData.hasDictAll ds = false
  | [], _, _ => by simp only [PyData.hasDictAll]
  | d :: ds, _, .cons h hs => by
    simp only [PyData.hasDictAll]
    rw [dp_noDict d _ h, go ds _ hs]
    rfl
theorem c_repr (hg : X.A.guards = some []) (hu : X.A.units + 64 < cLine) (hK : X.K = T.K := by rfl) : CallR X (.builtin "repr") (rC T oRepr) := fun pins s σ H xs us Q I rs q => by
  obtain ⟨ρ, st, as, w, s', r, ha, e, k⟩ := q
  unfold oRepr at e
  split at e
  · rename_i x
    split at e
    · rename_i d hd
      split at e
      · rename_i hb
        cases e
        obtain ⟨hs, hl⟩ := Bool.and_eq_true_iff.mp hb
        have hl := of_decide_eq_true hl
        obtain ⟨z, rfl, hz⟩ := ha.one
        obtain ⟨p1, p2⟩ := toD_dp r 40 x z d hz hd
        have nd := dp_noDict d z p1
        have fin := k.here r (.str d.shown)
        cases rs with
        | cons r1 r2 =>
          cases r2
          rename_i u
          rw [← hK] at p1
          obtain ⟨bs, rd⟩ := Dp.reads I d z u p1 r1
          cases p1 with
          | non =>
            obtain rfl := r1
            simp only [PyData.shown] at fin
            exact PySem.P.repr_of_none ⟨.str _, H, I.tok _, ⟨_, rfl⟩, fin⟩
          | bl b =>
            obtain rfl := r1
            simp only [PyData.shown] at fin
            refine PySem.P.repr_of_bool ⟨.str _, H, I.tok _, ⟨_, rfl⟩, fin⟩
          | int i =>
            obtain ⟨t, rfl⟩ := r1
            simp only [PyData.shown] at fin
            simp only [PyData.showable] at hs
            exact PySem.P.repr_of_int (of_decide_eq_true hs) ⟨.str _, H, I.tok _, ⟨_, rfl⟩, fin⟩
          | str y =>
            obtain ⟨t, rfl⟩ := r1
            simp only [PyData.shown] at fin hl
            exact PySem.P.repr_of_str ⟨.str _, H, I.tok _, ⟨_, rfl⟩, fin⟩ (by rw [lim_eq]; exact hl)
          | lst g1 g2 =>
            obtain rfl := r1
            exact repr_of_reads' rd hs (fun z => by rw [nd] at z; cases z) hg (by omega) (fun _ _ e => e) (fun h' u tk hk => ⟨.str _, H, I.kept (t' := tk) hk, ⟨_, rfl⟩, fin⟩) (by rw [lim_eq]; exact hl)
          | tup g1 g2 =>
            obtain rfl := r1
            exact repr_of_reads' rd hs (fun z => by rw [nd] at z; cases z) hg (by omega) (fun _ _ e => e) (fun h' u tk hk => ⟨.str _, H, I.kept (t' := tk) hk, ⟨_, rfl⟩, fin⟩) (by rw [lim_eq]; exact hl)
      · cases e
    · cases e
  · cases e
end
/-! ### methods of built-in types -/
inductive Kd where
  | list | dict | str
def kd (k : Kd) (x : Vl) (s : Sto) : Bool := match k, x with
  | .str, .str _ => true
  | .list, .ref j => match s[j]? with
    | some (.lst _) => true
    | _ => false
  | .dict, .ref j => match s[j]? with
    | some (.dic _) => true
    | _ => false
  | _, _ => false
def Kd.nm : Kd → String
  | .list => "list"
  | .dict => "dict"
  | .str => "str"
def eBm (t : Kd) (f : OMt) (o : EM) (a : AM) : EM := fun lo => bnd (o lo) fun x s => match kd t x s with
  | true => bnd (a lo) (fun xs => lift (f x xs)) s
  | false => .fail
def eBm0 (t : Kd) (f : OMt) (o : EM) : EM := fun lo => bnd (o lo) fun x s => match kd t x s with
  | true => lift (f x []) s
  | false => .fail
def oAppend : OMt
  | .ref j, [v], s => match s[j]? with
    | some (.lst xs) => if xs.length < LIM then some (.non, s.set j (.lst (xs ++ [v]))) else none
    | _ => none
  | _, _, _ => none
def oExtend : OMt
  | .ref j, [.ref i], s => match s[j]?, s[i]? with
    | some (.lst xs), some (.lst ys) => if xs.length + ys.length ≤ LIM then some (.non, s.set j (.lst (xs ++ ys))) else none
    | _, _ => none
  | .ref j, [.tup ys], s => match s[j]? with
    | some (.lst xs) => if xs.length + ys.length ≤ LIM then some (.non, s.set j (.lst (xs ++ ys))) else none
    | _ => none
  | _, _, _ => none
def oPop : OMt
  | .ref j, [], s => match s[j]? with
    | some (.lst xs) => match xs[xs.length - 1]? with
      | some v => some (v, s.set j (.lst xs.dropLast))
      | none => none
    | _ => none
  | _, _, _ => none
section
variable {X : Cx} {T : Tb} {W : WX} {o e : Expr} {es : List Expr} {mo : EM} {ma : AM} {name : Str} {apos cpos : Pos} {id : String} {f : OMt} {t : Kd}
theorem kd_ok {ρ : List Addr} {H : Hp} {s : Sto} {x : Vl} {z : V} (r : Rel T ρ H s) (hz : RV T ρ H x z) (h : kd t x s = true) : tyV X.K t.nm z H := by
  cases t <;> cases x <;> simp only [kd] at h <;> try cases h
  · split at h
    · rename_i hx
      obtain ⟨p, rfl, hp⟩ := hz.refE
      obtain ⟨vs, h1, h2⟩ := r.lst hx hp
      exact .inl ⟨rfl, vs, SqL.of h1⟩
    · cases h
  · split at h
    · rename_i hx
      obtain ⟨p, rfl, hp⟩ := hz.refE
      obtain ⟨vs, h1, h2⟩ := r.dic hx hp
      exact .inr (.inr (.inl ⟨rfl, .inl ⟨vs, h1⟩⟩))
    · cases h
  · rw [hz.strE]; exact rfl
theorem ce_bm (pa : PlainAttrs t.nm) (slot : Slot t.nm name id) (hty : typeOf (.builtin id) = pure (.type "method_descriptor")) (hm : MtR X id (rMt T f)) (ho : PE X o (tE T W mo)) (ha : PA X (e :: es) (tA T W ma))
    (hbase : attributeBase o name X.env (eval o X.env) = eval o X.env := by rfl)
    (hfew : ((backTo cpos (starEach (e :: es) X.env)).all (fun x => !x.1) && (backToKw cpos (keywordEach [] X.env)).all (fun x => x.1.isSome)
      && decide ((e :: es).length + ([] : List Keyword).length + (if ([] : List Keyword).isEmpty then 0 else 1) < 30)) = true := by rfl)
    (hline : (apos.endLine == cpos.line) = true := by rfl) (hs : starEach (e :: es) X.env = (false, eval e X.env) :: starEach es X.env := by rfl) (hplain : (backTo cpos (starEach es X.env)).any (·.1) = false := by rfl) :
    PE X (.Call (.Attribute o name apos) (e :: es) [] cpos) (tE T W (eBm t f mo ma)) :=
  pe_mono (pe_bm pa slot hty hm ho ha hbase hfew hline hs hplain) fun σ H Q h => tG_bnd (R := RV T) h fun ρ s lo x z H1 r rl hx p => by
    cases hk : kd t x s with
    | false => simp only [hk] at p; exact p.elim
    | true =>
      simp only [hk] at p
      refine ⟨kd_ok r hx hk, po_bnd (R := RVs T) (m := ma) r rl p fun ρ' s' xs zs H' ext r' rl' hxs p' => ?_⟩
      obtain ⟨v, s3, e, k⟩ := po_lift p'
      exact ⟨ρ', s', x, xs, v, s3, r', hx.mono ext, hxs, e, k⟩
theorem ce_bm0 (pa : PlainAttrs t.nm) (slot : Slot t.nm name id) (hty : typeOf (.builtin id) = pure (.type "method_descriptor")) (hm : MtR X id (rMt T f)) (ho : PE X o (tE T W mo))
    (hbase : attributeBase o name X.env (eval o X.env) = eval o X.env := by rfl) (hline : (apos.endLine == cpos.line) = true := by rfl) : PE X (.Call (.Attribute o name apos) [] [] cpos) (tE T W (eBm0 t f mo)) :=
  pe_mono (pe_bm0 pa slot hty hm ho hbase hline) fun σ H Q h => tG_bnd (R := RV T) h fun ρ s lo x z H1 r rl hx p => by
    cases hk : kd t x s with
    | false => simp only [hk] at p; exact p.elim
    | true =>
      simp only [hk] at p
      obtain ⟨v, s3, e, k⟩ := po_lift p
      exact ⟨kd_ok r hx hk, ρ, s, x, [], v, s3, r, hx, .nil, e, k⟩
theorem MtR.imp {r r' : V → List V → Hp → VK → Prop} (h : MtR X id r) (k : ∀ x xs H Q, r' x xs H Q → r x xs H Q) : MtR X id r' := fun pins s σ H x xs v us Q I rx rs q => h pins s σ H x xs v us Q I rx rs (k x xs H Q q)
theorem m_append : MtR X "list.append" (rMt T oAppend) := MtR.imp mt_append fun x xs H Q q => by
  obtain ⟨ρ, st, a, as, w, s', r, ha, hs, e, k⟩ := q
  unfold oAppend at e
  split at e
  · split at e
    · rename_i v s j ys hx
      split at e
      · rename_i hl
        cases e
        obtain ⟨p, rfl, hp⟩ := ha.refE
        obtain ⟨z, rfl, hz⟩ := hs.one
        obtain ⟨vs, h1, h2⟩ := r.lst hx hp
        refine ⟨p, vs, z, rfl, rfl, h1, by rw [← h2.length, lim_eq]; exact hl, ?_⟩
        exact k.set r hp h1 (fun z => z) ⟨_, upd_same, (h2.append (.cons hz .nil)).mono (r.setExt hp h1)⟩ .non
      · cases e
    · cases e
  · cases e
/-- extend by a tuple -/
theorem list_extend_tup (l : Addr) (items : Array Value) (n : Nat) (b : Addr) (items2 : Array Value) (n2 : Nat) (od : Option Addr) (sl : Array (Option Value)) (hs0 : ¬(!items.isEmpty && Builtin.List.listTooLong (items.size + items2.size)) = true) (hs1 : items.size ≤ sizeLine) (hs2 : items.size + items2.size ≤ sizeLine + 1) :
    PySem.Meets (Builtin.«list.extend» ⟨[.ref l, .ref b], []⟩) (fun _ R s => s.heap.get? l = some { cls := .type "list", dict := none, data := .seq items n, slots := #[] } ∧ s.heap.get? b = some { cls := .type "tuple", dict := od, data := .seq items2 n2, slots := sl } ∧ R (.ok (.ret Value.none)) { s with heap := s.heap.update l (Obj.mapSeq fun x => x ++ items2), toks := s.toks }) :=
  .of_wp fun prog w A R s h => by
    obtain ⟨hp, g, d, tk, os⟩ := s; obtain ⟨hl, hb, h⟩ := h; have f1 := PySem.AutoSeq1.idx_int; have f2 := PySem.AutoSeq1.sub_tuple_tuple; have f3 := PySem.AutoSeq1.sub_list_list; have f4 := PySem.AutoSeq1.sub_tuple_list; have f5 := PySem.AutoSeq1.sub_list_tuple
    have hz' : (items ++ items2).size ≤ sizeLine + 1 := by rw [Array.size_append]; exact hs2
    wp_walk using (wpAny_updateSeq hl rfl (hz := hs1) (_hz' := hz')), PySem.AutoSeq1.wpAny_loadPart' hl, PySem.AutoSeq1.wpAny_loadPart' hb; exact ⟨_, rfl, h⟩
def rExtT (K : PySem.W.Frag) : V → List V → Hp → VK → Prop := fun x vs H Q => ∃ l b xs zs, x = .ref l ∧ vs = [.ref b] ∧ H l = some (.lst xs) ∧ SqT K H b zs ∧ xs.length + zs.length ≤ sizeLine ∧ Q .non (upd H l (.lst (xs ++ zs)))
theorem mt_extendT : MtM X "list.extend" (rExtT X.K) := by
  intro pins s σ H x vs v us Q I rx rv h
  obtain ⟨l, b, xs, zs, rfl, rfl, hH, hB, hz, q⟩ := h
  cases rx
  obtain ⟨u, rfl, ru⟩ := rv.one
  cases ru
  obtain ⟨z, its, n, r, hl, e⟩ := I.lstM hH
  obtain ⟨its2, r2, ⟨o, h1, h2, n2, h3⟩, z2⟩ := I.tuple hB
  have hl2 := r2.length
  obtain ⟨oc, od, dt, sl⟩ := o
  simp only at h2 h3
  subst h2 h3
  have hsz : its.toArray.size + its2.toArray.size ≤ sizeLine := by rw [List.size_toArray, List.size_toArray]; omega
  have hlong : ¬ (!its.toArray.isEmpty && Builtin.List.listTooLong (its.toArray.size + its2.toArray.size)) = true := by
    rw [notLongL hsz, Bool.and_false]
    exact Bool.false_ne_true
  refine PySem.call_meets PySem.F.slot_list_extend ⟨_, e, rfl⟩ PySem.F.entry_list_extend (PySem.F.args_list_extend_2 _ _)
    (list_extend_tup l its.toArray n b its2.toArray n2 od sl hlong (by rw [List.size_toArray]; omega) (by omega)) ⟨e, h1, ?_⟩
  refine ⟨.non, _, I.lset (its' := its ++ its2) hH e (by simp) (r.append r2) ?_, rfl, q⟩
  rw [List.length_append]
  omega
theorem m_extend (hK : X.K = T.K := by rfl) : MtR X "list.extend" (rMt T oExtend) := by
  intro pins s σ H x vs v us Q I rx rv h
  obtain ⟨ρ, st, a, as, w, s', r, ha, hs, e, k⟩ := h
  unfold oExtend at e
  split at e
  · split at e
    · rename_i ys zs hx hy
      split at e
      · rename_i hl
        cases e
        obtain ⟨p, rfl, hp⟩ := ha.refE
        obtain ⟨z, rfl, hz⟩ := hs.one
        obtain ⟨q, rfl, hq⟩ := hz.refE
        obtain ⟨vs, h1, h2⟩ := r.lst hx hp
        obtain ⟨us, h3, h4⟩ := r.lst hy hq
        refine mt_extend pins s σ H _ _ v _ Q I rx rv ⟨p, q, vs, us, rfl, rfl, h1, h3, by rw [← h2.length, ← h4.length, lim_eq]; exact hl, ?_⟩
        exact k.set r hp h1 (fun z => z) ⟨_, upd_same, (h2.append h4).mono (r.setExt hp h1)⟩ .non
      · cases e
    · cases e
  · split at e
    · rename_i ys hx
      split at e
      · rename_i hl
        cases e
        obtain ⟨p, rfl, hp⟩ := ha.refE
        obtain ⟨z, rfl, hz⟩ := hs.one
        obtain ⟨q, us, rfl, hq, h4⟩ := hz.tupE
        obtain ⟨vs, h1, h2⟩ := r.lst hx hp
        refine mt_extendT pins s σ H _ _ v _ Q I rx rv ⟨p, q, vs, us, rfl, rfl, h1, by rw [hK]; exact hq, by rw [← h2.length, ← h4.length, lim_eq]; exact hl, ?_⟩
        exact k.set r hp h1 (fun z => z) ⟨_, upd_same, (h2.append h4).mono (r.setExt hp h1)⟩ .non
      · cases e
    · cases e
  · cases e
theorem RVs.dropLast {ρ : List Addr} {H : Hp} {xs : List Vl} {vs : List V} (h : RVs T ρ H xs vs) : RVs T ρ H xs.dropLast vs.dropLast := by
  rw [List.dropLast_eq_take, List.dropLast_eq_take, h.length]
  exact h.take _
theorem m_pop : MtR X "list.pop" (rMt T oPop) := MtR.imp mt_pop fun x xs H Q q => by
  obtain ⟨ρ, st, a, as, w, s', r, ha, hs, e, k⟩ := q
  unfold oPop at e
  split at e
  · split at e
    · rename_i ys hx
      split at e
      · rename_i v hv
        cases e
        obtain ⟨p, rfl, hp⟩ := ha.refE
        rw [hs.zero]
        obtain ⟨vs, h1, h2⟩ := r.lst hx hp
        obtain ⟨z, hz, rz⟩ := h2.get hv
        refine ⟨p, vs, z, rfl, rfl, h1, by rw [← h2.length]; exact hz, ?_⟩
        exact k.set r hp h1 (fun z => z) ⟨_, upd_same, h2.dropLast.mono (r.setExt hp h1)⟩ rz
      · cases e
    · cases e
  · cases e
end
end Sm

/-! S5: statements -/
namespace Sm
open PySem L2

inductive RS where
  | nx (lo : Lo) (s : Sto) | rt (v : Vl) (s : Sto) | bk (lo : Lo) (s : Sto) | ct (lo : Lo) (s : Sto) | exc (e : Ex) (lo : Lo) (s : Sto) | fail
abbrev SM := Lo → Sto → RS
def bndS {α : Type} (m : Lo → M α) (f : Lo → α → Sto → RS) : SM := fun lo s => match m lo s with
  | .ok a s' => f lo a s'
  | .exc e s' => .exc e lo s'
  | .fail => .fail
def sNil : SM := fun lo s => .nx lo s
def sSeq (a b : SM) : SM := fun lo s => match a lo s with
  | .nx lo' s' => b lo' s'
  | .rt v s' => .rt v s'
  | .bk lo' s' => .bk lo' s'
  | .ct lo' s' => .ct lo' s'
  | .exc e lo' s' => .exc e lo' s'
  | .fail => .fail
def sExpr (e : EM) : SM := bndS e fun lo _ s => .nx lo s
def sRet (e : EM) : SM := bndS e fun _ v s => .rt v s
def sRetN : SM := fun _ s => .rt .non s
def sSet (i : Nat) (e : EM) : SM := bndS e fun lo v s => .nx (lo.set i (some v)) s
def sIf (t : TM) (a b : SM) : SM := bndS t fun lo c s => match c with
  | true => a lo s
  | false => b lo s
def sBreak : SM := fun lo s => .bk lo s
def sCont : SM := fun lo s => .ct lo s
/-- a, b = e1, e2 and three -/
def sPar (i j : Nat) (a : AM) : SM := bndS a fun lo vs s => match vs with
  | [v, w] => .nx ((lo.set i (some v)).set j (some w)) s
  | _ => .fail
def sPar3 (i j l : Nat) (a : AM) : SM := bndS a fun lo vs s => match vs with
  | [v, w, x] => .nx (((lo.set i (some v)).set j (some w)).set l (some x)) s
  | _ => .fail

/-- what is asked behind a statement -/
def PoXS (T : Tb) (W : WX) (ρ : List Addr) (H : Hp) (e : Ex) (lo : Lo) (s : Sto) : Prop :=
  ∀ (ρ' : List Addr) (H' : Hp) (σ' : St) (C : Addr), Ext T ρ H ρ' H' → Rel T ρ' H' s → RL T ρ' H' lo σ' → T.cl[e.c]? = some C →
    match e.fs with
    | none => W (.ref C) none σ' H'
    | some fs => ∀ (d : Addr) (vs : List (Str × V)), H' d = some (.xd vs) → vs.map (·.1) = fs.map (·.1) → RVs T ρ' H' (fs.map (·.2)) (vs.map (·.2)) → W (.ref C) (some d) σ' H'
def PoN (T : Tb) (ρ : List Addr) (H : Hp) (lo : Lo) (s : Sto) (Q : St → Hp → Prop) : Prop := ∀ (ρ' : List Addr) (H' : Hp) (σ' : St), Ext T ρ H ρ' H' → Rel T ρ' H' s → RL T ρ' H' lo σ' → Q σ' H'
def PoS (T : Tb) (W : WX) (ρ : List Addr) (H : Hp) (r : RS) (D : Ends) : Prop := match r with
  | .nx lo s => PoN T ρ H lo s D.nx
  | .rt v s => ∀ (ρ' : List Addr) (H' : Hp) (z : V), Ext T ρ H ρ' H' → Rel T ρ' H' s → RV T ρ' H' v z → D.rt z H'
  | .bk lo s => PoN T ρ H lo s D.bk
  | .ct lo s => PoN T ρ H lo s D.ct
  | .exc e lo s => PoXS T W ρ H e lo s
  | .fail => False
theorem PoN.mono {T : Tb} {ρ ρ' : List Addr} {H H' : Hp} {lo : Lo} {s : Sto} {Q : St → Hp → Prop} (p : PoN T ρ H lo s Q) (e : Ext T ρ H ρ' H') : PoN T ρ' H' lo s Q := fun ρ2 H2 σ2 e2 => p ρ2 H2 σ2 (e.trans e2)
theorem PoS.mono {T : Tb} {W : WX} {ρ ρ' : List Addr} {H H' : Hp} {r : RS} {D : Ends} (p : PoS T W ρ H r D) (e : Ext T ρ H ρ' H') : PoS T W ρ' H' r D := by
  cases r with
  | nx lo s => exact PoN.mono (lo := lo) p e
  | rt v s => exact fun ρ2 H2 z e2 => p ρ2 H2 z (e.trans e2)
  | bk lo s => exact PoN.mono (lo := lo) p e
  | ct lo s => exact PoN.mono (lo := lo) p e
  | exc x lo s => exact fun ρ2 H2 σ2 C e2 => p ρ2 H2 σ2 C (e.trans e2)
  | fail => exact p
def tS (T : Tb) (W : WX) (m : SM) : TS := fun D σ H => ∃ (ρ : List Addr) (s : Sto) (lo : Lo), Rel T ρ H s ∧ RL T ρ H lo σ ∧ PoS T W ρ H (m lo s) D
theorem ps_mono {X : Cx} {e : Stmt} {t t' : TS} (h : PS X e t) (k : ∀ D σ H, t' D σ H → t D σ H) : PS X e t' := ⟨fun pins s σ H D I q => h.run pins s σ H D I (k D σ H q)⟩
theorem pss_mono {X : Cx} {e : List Stmt} {t t' : TS} (h : PSs X e t) (k : ∀ D σ H, t' D σ H → t D σ H) : PSs X e t' := ⟨fun pins s σ H D I q => h.run pins s σ H D I (k D σ H q)⟩
/-- a part of a statement, then the rest -/
theorem poS_bnd {α β : Type} {R : List Addr → Hp → α → β → Prop} {T : Tb} {W : WX} {m : Lo → M α} {f : Lo → α → Sto → RS} {ρ : List Addr} {s : Sto} {lo : Lo} {σ : St} {H : Hp} {D : Ends} {Q' : β → Hp → Prop}
    (r : Rel T ρ H s) (rl : RL T ρ H lo σ) (p : PoS T W ρ H (bndS m f lo s) D)
    (k : ∀ (ρ' : List Addr) (s' : Sto) (a : α) (b : β) (H' : Hp), Ext T ρ H ρ' H' → Rel T ρ' H' s' → RL T ρ' H' lo σ → R ρ' H' a b → PoS T W ρ' H' (f lo a s') D → Q' b H') : tG R T W m σ H Q' := by
  refine ⟨ρ, s, lo, r, rl, ?_⟩
  unfold bndS at p
  cases e : m lo s with
  | ok a s1 =>
    rw [e] at p
    exact fun ρ' H' b x r' hb => k ρ' s1 a b H' x r' (rl.mono x) hb (p.mono x)
  | exc z s1 =>
    rw [e] at p
    exact fun ρ' H' C x r' hC => p ρ' H' σ C x r' (rl.mono x) hC
  | fail => rw [e] at p; exact p
theorem tS_bnd {α β : Type} {R : List Addr → Hp → α → β → Prop} {T : Tb} {W : WX} {m : Lo → M α} {f : Lo → α → Sto → RS} {σ : St} {H : Hp} {D : Ends} {Q' : β → Hp → Prop} (h : tS T W (bndS m f) D σ H)
    (k : ∀ (ρ : List Addr) (s : Sto) (lo : Lo) (a : α) (b : β) (H' : Hp), Rel T ρ H' s → RL T ρ H' lo σ → R ρ H' a b → PoS T W ρ H' (f lo a s) D → Q' b H') : tG R T W m σ H Q' := by
  obtain ⟨ρ, s, lo, r, rl, p⟩ := h
  exact poS_bnd r rl p fun ρ' s' a b H' _ r' rl' hb p' => k ρ' s' lo a b H' r' rl' hb p'
section
variable {X : Cx} {T : Tb} {W : WX} {e c : Expr} {st : Stmt} {rest a b : List Stmt} {me : EM} {mt : TM} {ms mr ma mb : SM} {pos : Pos}
theorem cs_nil : PSs X [] (tS T W sNil) := pss_mono pss_nil fun D σ H h => by
  obtain ⟨ρ, s, lo, r, rl, p⟩ := h
  exact p ρ H σ .refl r rl
theorem cs_cons (h1 : PS X st (tS T W ms)) (h2 : PSs X rest (tS T W mr)) : PSs X (st :: rest) (tS T W (sSeq ms mr)) := pss_mono (pss_cons h1 h2) fun D σ H h => by
  obtain ⟨ρ, s, lo, r, rl, p⟩ := h
  refine ⟨ρ, s, lo, r, rl, ?_⟩
  unfold sSeq at p
  cases e : ms lo s with
  | nx lo' s' =>
    rw [e] at p
    exact fun ρ' H' σ' x r' rl' => ⟨ρ', s', lo', r', rl', p.mono x⟩
  | rt v s' => rw [e] at p; exact p
  | bk lo' s' => rw [e] at p; exact p
  | ct lo' s' => rw [e] at p; exact p
  | exc z lo' s' => rw [e] at p; exact p
  | fail => rw [e] at p; exact p
theorem cs_one (h1 : PS X st (tS T W ms)) : PSs X [st] (tS T W ms) := pss_one h1
theorem cs_expr (he : PE X e (tE T W me)) (hs : swapsWith e none pos.line X.env = pure false := by rfl) : PS X (.Expr e pos) (tS T W (sExpr me)) := ps_mono (ps_expr he hs) fun D σ H h =>
  tS_bnd (R := RV T) h fun ρ s lo x z H' r rl hx p => p ρ H' σ .refl r rl
theorem cs_ret (he : PE X e (tE T W me)) : PS X (.Return (some e) pos) (tS T W (sRet me)) := ps_mono (ps_ret he) fun D σ H h =>
  tS_bnd (R := RV T) h fun ρ s lo x z H' r rl hx p => p ρ H' z .refl r hx
theorem cs_retN : PS X (.Return none pos) (tS T W sRetN) := ps_mono ps_retN fun D σ H h => by
  obtain ⟨ρ, s, lo, r, rl, p⟩ := h
  exact p ρ H .non .refl r .non
theorem cs_if (hc : PT X c (tT T W mt)) (ha : PSs X a (tS T W ma)) (hb : PSs X b (tS T W mb)) : PS X (.If c a b pos) (tS T W (sIf mt ma mb)) := ps_mono (ps_if hc ha hb) fun D σ H h =>
  tS_bnd (R := RB) h fun ρ s lo x z H' r rl hx p => by
    cases hx
    cases x with
    | true => exact ⟨ρ, s, lo, r, rl, p⟩
    | false => exact ⟨ρ, s, lo, r, rl, p⟩
theorem tasg_le {i : Nat} {D : Ends} {σ : St} {H : Hp} (h : tS T W (sSet i me) D σ H) : tAsg (tE T W me) (gName i) D σ H :=
  tS_bnd (R := RV T) h fun ρ s lo x z H' r rl hx p => p ρ H' _ .refl r (rl.set i hx)
theorem cs_set {i : Nat} {x : Str} {pos' : Pos} (hN : X.N.Nodup) (hi : X.N[i]? = some x) (hx : Loc X.env.scope x) (he : PE X e (tE T W me)) (hs : swapsWith e (some (.Name x pos')) pos.line X.env = pure false := by rfl) (hf : X.fn x = true ∨ X.env.scope.names.lookup x = some .local := by first | exact .inl rfl | exact .inr rfl | assumption) :
    PS X (.Assign [.Name x pos'] e pos) (tS T W (sSet i me)) := ps_mono (ps_set hN hi hx he hs hf) fun D σ H h => tasg_le h
theorem cs_par {i j : Nat} {x y : Str} {a b : Expr} {ma : AM} {px py pt : Pos} {kt k2 pt2} (hc : X.calm = true) (hN : X.N.Nodup) (hi : X.N[i]? = some x) (hj : X.N[j]? = some y) (hij : i ≠ j)
    (hx : X.env.scope.names.lookup x = some .local) (hy : X.env.scope.names.lookup y = some .local) (ha : PA X [a, b] (tA T W ma))
    (hw : swappedStores [.Tuple [.Name x px, .Name y py] kt pt] (.Tuple [a, b] k2 pt2) X.env = pure (some [x, y]))
    (hs : swapsWithSole [.Tuple [.Name x px, .Name y py] kt pt] (.Tuple [a, b] k2 pt2) pos.line X.env = pure false := by rfl) :
    PS X (.Assign [.Tuple [.Name x px, .Name y py] kt pt] (.Tuple [a, b] k2 pt2) pos) (tS T W (sPar i j ma)) := ps_mono (ps_par hc hN hi hj hij hx hy ha hw hs) fun D σ H h =>
  tS_bnd (R := RVs T) h fun ρ s lo vs zs H' r rl hx p => by
    cases hx with
    | nil => exact p.elim
    | cons h1 h2 =>
      cases h2 with
      | nil => exact p.elim
      | cons h2 h3 =>
        cases h3 with
        | nil => exact ⟨_, _, rfl, p ρ H' _ .refl r ((rl.set i h1).set j h2)⟩
        | cons h3 h4 => exact p.elim
theorem cs_par3 {i j l : Nat} {x y z : Str} {a b c : Expr} {ma : AM} {px py pz pt : Pos} {kt k2 pt2} (hc : X.calm = true) (hN : X.N.Nodup) (hi : X.N[i]? = some x) (hj : X.N[j]? = some y) (hl : X.N[l]? = some z) (hij : i ≠ j) (hil : i ≠ l) (hjl : j ≠ l)
    (hx : X.env.scope.names.lookup x = some .local) (hy : X.env.scope.names.lookup y = some .local) (hz : X.env.scope.names.lookup z = some .local) (ha : PA X [a, b, c] (tA T W ma))
    (hw : swappedStores [.Tuple [.Name x px, .Name y py, .Name z pz] kt pt] (.Tuple [a, b, c] k2 pt2) X.env = pure (some [x, y, z]))
    (hs : swapsWithSole [.Tuple [.Name x px, .Name y py, .Name z pz] kt pt] (.Tuple [a, b, c] k2 pt2) pos.line X.env = pure false := by rfl) :
    PS X (.Assign [.Tuple [.Name x px, .Name y py, .Name z pz] kt pt] (.Tuple [a, b, c] k2 pt2) pos) (tS T W (sPar3 i j l ma)) := ps_mono (ps_par3 hc hN hi hj hl hij hil hjl hx hy hz ha hw hs) fun D σ H h =>
  tS_bnd (R := RVs T) h fun ρ s lo vs zs H' r rl hx p => by
    cases hx with
    | nil => exact p.elim
    | cons h1 h2 =>
      cases h2 with
      | nil => exact p.elim
      | cons h2 h3 =>
        cases h3 with
        | nil => exact p.elim
        | cons h3 h4 =>
          cases h4 with
          | nil => exact ⟨_, _, _, rfl, p ρ H' _ .refl r (((rl.set i h1).set j h2).set l h3)⟩
          | cons h4 h5 => exact p.elim
end

/-! ### targets -/
abbrev GM := Vl → Lo → M Lo
def gNm (i : Nat) : GM := fun v lo s => .ok (lo.set i (some v)) s
abbrev OSet := Vl → Vl → Vl → Sto → Option Sto
def liftU (f : Sto → Option Sto) (lo : Lo) : M Lo := fun s => match f s with
  | some s' => .ok lo s'
  | none => .fail
def gSb (f : OSet) (o i : EM) : GM := fun v lo => bnd (o lo) fun x => bnd (i lo) fun y => liftU (f x y v) lo
def gNms (js : List Nat) (vs : List Vl) (lo : Lo) : Option Lo := match js, vs with
  | [], [] => some lo
  | j :: js, v :: vs => gNms js vs (lo.set j (some v))
  | _, _ => none
/-- names in brackets -/
def gTp (js : List Nat) : GM := fun v lo s => match v with
  | .tup xs => match gNms js xs lo with
    | some lo' => .ok lo' s
    | none => .fail
  | _ => .fail
/-- the readings of targets -/
abbrev RLo (T : Tb) : List Addr → Hp → Lo → St → Prop := fun ρ H lo σ => RL T ρ H lo σ
def tGt (T : Tb) (W : WX) (g : GM) : TG := fun z σ H Q => ∃ (ρ : List Addr) (s : Sto) (lo : Lo) (v : Vl), Rel T ρ H s ∧ RL T ρ H lo σ ∧ RV T ρ H v z ∧ Po (RLo T) T (fun c d H' => W c d σ H') ρ H (g v lo s) Q
def sAsg (g : GM) (e : EM) : SM := bndS e fun lo v s => match g v lo s with
  | .ok lo' s' => .nx lo' s'
  | .exc x s' => .exc x lo s'
  | .fail => .fail
theorem pg_mono {X : Cx} {e : Expr} {t t' : TG} (h : PG X e t) (k : ∀ v σ H Q, t' v σ H Q → t v σ H Q) : PG X e t' := ⟨fun pins s σ H v u Q I r q => h.run pins s σ H v u Q I r (k v σ H Q q)⟩
def opSet : OSet
  | .ref j, y, v, s => match s[j]? with
    | some (.lst xs) => match y with
      | .int i => match ixN xs.length i with
        | some n => some (s.set j (.lst (xs.set n v)))
        | none => none
      | _ => none
    | some (.dic kvs) => match keyOf y with
      | some k => if kvs.length < LIM then some (s.set j (.dic (put kvs k v))) else none
      | none => none
    | _ => none
  | _, _, _, _ => none
def rSt (T : Tb) (f : OSet) : TSet := fun o i v H Q => ∃ ρ s a b c s', Rel T ρ H s ∧ RV T ρ H a o ∧ RV T ρ H b i ∧ RV T ρ H c v ∧ f a b c s = some s' ∧ ∀ (ρ' : List Addr) (H' : Hp), Ext T ρ H ρ' H' → Rel T ρ' H' s' → Q H'
section
variable {X : Cx} {T : Tb} {W : WX} {o i e tg : Expr} {mo mi me : EM} {g : GM} {f : OSet} {pos : Pos}
theorem cg_name {n : Nat} {x : Str} (hN : X.N.Nodup) (hi : X.N[n]? = some x) (hx : Loc X.env.scope x) (hf : X.fn x = true ∨ X.env.scope.names.lookup x = some .local := by first | exact .inl rfl | exact .inr rfl | assumption) : PG X (.Name x pos) (tGt T W (gNm n)) :=
  pg_mono (pg_name hN hi hx hf) fun v σ H Q h => by
    obtain ⟨ρ, s, lo, x, r, rl, hx, p⟩ := h
    exact p ρ H _ .refl r (rl.set n hx)
theorem cg_sub (ho : PE X o (tE T W mo)) (hi : PE X i (tE T W mi)) (hs : PSet X (rSt T f)) (k : PG X (.Subscript o i pos) (gSub (tE T W mo) (tE T W mi) (rSt T f))) : PG X (.Subscript o i pos) (tGt T W (gSb f mo mi)) :=
  pg_mono k fun v σ H Q h => by
    obtain ⟨ρ, s, lo, x, r, rl, hx, p⟩ := h
    refine po_bnd (R := RV T) (m := mo) r rl p fun ρ1 s1 a z H1 ext1 r1 rl1 ha p1 => po_bnd (R := RV T) (m := mi) r1 rl1 p1 fun ρ2 s2 b y H2 ext2 r2 rl2 hb p2 => ?_
    unfold liftU at p2
    cases e : f a b x s2 with
    | none => rw [e] at p2; exact p2.elim
    | some s3 =>
      rw [e] at p2
      exact ⟨ρ2, s2, a, b, x, s3, r2, ha.mono ext2, hb, hx.mono (ext1.trans ext2), e, fun ρ3 H3 e3 r3 => p2 ρ3 H3 σ e3 r3 (rl2.mono e3)⟩
theorem cs_asg (he : PE X e (tE T W me)) (hg : PG X tg (tGt T W g)) (hs : swapsWithSole [tg] e pos.line X.env = pure false := by rfl) (hw : swappedStores [tg] e X.env = pure none := by rfl)
    (h1 : (assignEach [tg] X.env).map (·.2) = [assign tg X.env] := by rfl) : PS X (.Assign [tg] e pos) (tS T W (sAsg g me)) := ps_mono (ps_asg he hg hs hw h1) fun D σ H h =>
  tS_bnd (R := RV T) h fun ρ s lo x z H' r rl hx p => ⟨ρ, s, lo, x, r, rl, hx, by
    cases e : g x lo s with
    | ok lo' s' =>
      rw [e] at p
      exact fun ρ2 H2 σ2 e2 r2 rl2 => p ρ2 H2 σ2 e2 r2 rl2
    | exc y s' =>
      rw [e] at p
      exact fun ρ2 H2 C e2 r2 hC => p ρ2 H2 σ C e2 r2 (rl.mono e2) hC
    | fail => rw [e] at p; exact p⟩
theorem p_set (hu : X.A.units + 1 < cLine) : PSet X (rSt T opSet) := by
  intro pins s σ H ov iv v ou iu u Q I ro ri rv h
  obtain ⟨ρ, st, a, b, c, s', r, ha, hb, hc, e, k⟩ := h
  unfold opSet at e
  split at e
  · rename_i j y w s0
    obtain ⟨p, rfl, hp⟩ := ha.refE
    split at e
    · rename_i xs hx
      split at e
      · rename_i i
        split at e
        · rename_i n hn
          cases e
          obtain ⟨vs, h1, h2⟩ := r.lst hx hp
          refine set_list pins s σ H _ _ v ou iu u Q I ro ri rv ⟨p, vs, i, n, rfl, hb.intE, h1, by rw [← h2.length]; exact hn, ?_⟩
          exact k ρ _ (r.setExt hp h1) (r.set hp ⟨_, upd_same, (h2.set hc n).mono (r.setExt hp h1)⟩)
        · cases e
      · cases e
    · rename_i kvs hx
      split at e
      · rename_i key hk
        split at e
        · rename_i hl
          cases e
          obtain ⟨vs, h1, h2, h3⟩ := r.dic hx hp
          have ey := keyOf_ok hb hk
          subst ey
          have hlen : vs.length = kvs.length := by have := congrArg List.length h2; simpa using this
          have nd := dk_nodup I h1
          obtain ⟨q1, q2⟩ := put_ok (k := key) hc nd h2 h3
          obtain rfl : ou = Value.ref p := ro
          refine d_setItem hu I (DPut.k (v := v) h1 (by rw [hlen, lim_eq]; exact hl)) ri rv fun s4 I4 => ⟨_, I4, ?_⟩
          exact k ρ _ (r.setExt hp h1) (r.set hp ⟨_, upd_same, q1, q2.mono (r.setExt hp h1)⟩)
        · cases e
      · cases e
    · cases e
  · cases e
end
end Sm

/-! S6: loops and comprehensions -/
namespace Sm
open PySem L2

/-- the i-th item of what is walked: an item, the end, or nothing known -/
abbrev NX := Nat → Sto → Option (Option Vl)
def nxFix (xs : List Vl) : NX := fun i _ => some xs[i]?
def nxLst (j : Nat) : NX := fun i s => match s[j]? with
  | some (.lst xs) => some xs[i]?
  | _ => none
def nxEnum (j : Nat) : NX := fun i s => match s[j]? with
  | some (.lst xs) => match xs[i]? with
    | some v => some (some (.tup [.int (i : Nat), v]))
    | none => some none
  | _ => none
/-- an iterator of the model yields what nx says -/
def ItOk (T : Tb) (J : It) (nx : NX) (ρ : List Addr) (H : Hp) : Prop := ∀ (ρ1 : List Addr) (H1 : Hp) (s : Sto) (i : Nat), Ext T ρ H ρ1 H1 → Rel T ρ1 H1 s → match nx i s with
  | some (some v) => J.go i H1 ∧ ∀ x H2, J.yld i H1 x H2 → Ext T ρ1 H1 ρ1 H2 ∧ Rel T ρ1 H2 s ∧ RV T ρ1 H2 v x
  | some none => J.stop i H1
  | none => True
theorem ItOk.mono {T : Tb} {J : It} {nx : NX} {ρ ρ' : List Addr} {H H' : Hp} (h : ItOk T J nx ρ H) (e : Ext T ρ H ρ' H') : ItOk T J nx ρ' H' := fun ρ1 H1 s i e1 r => h ρ1 H1 s i (e.trans e1) r
abbrev IM := Lo → M NX
abbrev tI (T : Tb) (W : WX) (m : IM) : TI := fun σ H R => tG (fun ρ H nx J => ItOk T J nx ρ H) T W m σ H R
/-- the loop, by fuel -/
def loopN (nx : NX) (g : GM) (b : SM) : Nat → Nat → SM
  | 0, _, _, _ => .fail
  | n + 1, i, lo, s => match nx i s with
    | none => .fail
    | some none => .nx lo s
    | some (some v) => match g v lo s with
      | .fail => .fail
      | .exc e s' => .exc e lo s'
      | .ok lo' s' => match b lo' s' with
        | .nx lo2 s2 => loopN nx g b n (i + 1) lo2 s2
        | .ct lo2 s2 => loopN nx g b n (i + 1) lo2 s2
        | .bk lo2 s2 => .nx lo2 s2
        | .rt v2 s2 => .rt v2 s2
        | .exc e lo2 s2 => .exc e lo2 s2
        | .fail => .fail
def sFor (n : Nat) (m : IM) (g : GM) (b : SM) : SM := bndS m fun lo nx s => loopN nx g b n 0 lo s
/-- the same over items that are known -/
def loopX (g : GM) (b : SM) : List Vl → SM
  | [], lo, s => .nx lo s
  | v :: vs, lo, s => match g v lo s with
    | .fail => .fail
    | .exc e s' => .exc e lo s'
    | .ok lo' s' => match b lo' s' with
      | .nx lo2 s2 => loopX g b vs lo2 s2
      | .ct lo2 s2 => loopX g b vs lo2 s2
      | .bk lo2 s2 => .nx lo2 s2
      | .rt v2 s2 => .rt v2 s2
      | .exc e lo2 s2 => .exc e lo2 s2
      | .fail => .fail
def sForX (m : AM) (g : GM) (b : SM) : SM := bndS m fun lo xs s => loopX g b xs lo s
theorem loopX_eq (g : GM) (b : SM) (all : List Vl) : ∀ (n i : Nat) (lo : Lo) (s : Sto), all.length - i < n → loopN (nxFix all) g b n i lo s = loopX g b (all.drop i) lo s := by
  intro n
  induction n with
  | zero => intro i lo s h; omega
  | succ n ih =>
    intro i lo s h
    unfold loopN
    simp only [nxFix]
    cases e : all[i]? with
    | none =>
      have : all.length ≤ i := List.getElem?_eq_none_iff.mp e
      rw [List.drop_eq_nil_of_le this]
      rfl
    | some v =>
      obtain ⟨hi, hv⟩ := List.getElem?_eq_some_iff.mp e
      rw [List.drop_eq_getElem_cons hi, hv]
      simp only [loopX]
      cases g v lo s with
      | fail => rfl
      | exc e s' => rfl
      | ok lo' s' =>
        simp only
        cases b lo' s' with
        | nx lo2 s2 => exact ih (i + 1) lo2 s2 (by omega)
        | ct lo2 s2 => exact ih (i + 1) lo2 s2 (by omega)
        | bk lo2 s2 => rfl
        | rt v2 s2 => rfl
        | exc e lo2 s2 => rfl
        | fail => rfl
section
variable {X : Cx} {T : Tb} {W : WX} {tg iter : Expr} {body : List Stmt} {m : IM} {ma : AM} {g : GM} {b : SM} {pos : Pos}
theorem loop_le {n : Nat} {D : Ends} {σ : St} {H : Hp} (h : tS T W (sFor n m g b) D σ H) : tFor (tI T W m) (tGt T W g) (tS T W b) D σ H :=
  tS_bnd (R := fun ρ H nx J => ItOk T J nx ρ H) h fun ρ0 s0 lo0 nx J H0 r0 rl0 ok p0 => by
    refine ⟨fun i k σ H => ∃ ρ s lo, Rel T ρ H s ∧ RL T ρ H lo σ ∧ ItOk T J nx ρ H ∧ PoS T W ρ H (loopN nx g b k i lo s) D, ⟨n, ρ0, s0, lo0, r0, rl0, ok, p0⟩, ?_⟩
    rintro i k σ1 H1 ⟨ρ, s, lo, r, rl, ok, p⟩
    cases k with
    | zero => exact p.elim
    | succ k =>
      unfold loopN at p
      have q := ok ρ H1 s i .refl r
      cases e : nx i s with
      | none => simp only [e] at p; exact p.elim
      | some o =>
        simp only [e] at p q
        cases o with
        | none => exact .inl ⟨q, p ρ H1 σ1 .refl r rl⟩
        | some v =>
          obtain ⟨go, yl⟩ := q
          refine .inr ⟨go, fun σ' H' => ∃ ρ s lo, Rel T ρ H' s ∧ RL T ρ H' lo σ' ∧ ItOk T J nx ρ H' ∧ PoS T W ρ H' (loopN nx g b k (i + 1) lo s) D, fun σ' H' h => ⟨k, Nat.lt_succ_self k, h⟩, fun x H2 y => ?_⟩
          obtain ⟨x1, r2, hv⟩ := yl x H2 y
          refine ⟨ρ, s, lo, v, r2, rl.mono x1, hv, ?_⟩
          have p := p.mono x1
          cases e2 : g v lo s with
          | fail => simp only [e2] at p; exact p
          | exc z s' => simp only [e2] at p; exact fun ρ' H' C x r' hC => p ρ' H' σ1 C x r' (rl.mono (x1.trans x)) hC
          | ok lo' s' =>
            simp only [e2] at p
            intro ρ3 H3 σ3 x3 r3 rl3
            refine ⟨ρ3, s', lo', r3, rl3, ?_⟩
            have p := p.mono x3
            have ok3 := ok.mono (x1.trans x3)
            cases e3 : b lo' s' with
            | nx lo2 s2 => simp only [e3] at p; exact fun ρ4 H4 σ4 x4 r4 rl4 => ⟨ρ4, s2, lo2, r4, rl4, ok3.mono x4, p.mono x4⟩
            | ct lo2 s2 => simp only [e3] at p; exact fun ρ4 H4 σ4 x4 r4 rl4 => ⟨ρ4, s2, lo2, r4, rl4, ok3.mono x4, p.mono x4⟩
            | bk lo2 s2 => simp only [e3] at p; exact p
            | rt v2 s2 => simp only [e3] at p; exact p
            | exc z lo2 s2 => simp only [e3] at p; exact p
            | fail => simp only [e3] at p; exact p
theorem cs_for (n : Nat) (hp : PassesOwn (model X.prog X.w) X.A X.env X.xe) (hc : X.calm = true) (hi : PI X tg iter (tI T W m)) (hg : PG X tg (tGt T W g)) (hb : PSs X body (tS T W b))
    (hs : ∀ x, foldedSetIterable iter X.env x = pure x := by intro _; rfl) : PS X (.For tg iter body [] pos) (tS T W (sFor n m g b)) := ps_mono (ps_for hp hc hi hg hb hs) fun D σ H h => loop_le h
/-- what is walked as a list that is known -/
def iFix (ma : AM) : IM := fun lo => bnd (ma lo) fun xs => ret (nxFix xs)
theorem cs_forX (hp : PassesOwn (model X.prog X.w) X.A X.env X.xe) (hc : X.calm = true) (hi : PI X tg iter (tI T W (iFix ma))) (hg : PG X tg (tGt T W g)) (hb : PSs X body (tS T W b))
    (hs : ∀ x, foldedSetIterable iter X.env x = pure x := by intro _; rfl) : PS X (.For tg iter body [] pos) (tS T W (sForX ma g b)) := ps_mono (ps_for hp hc hi hg hb hs) fun D σ H h => by
  obtain ⟨ρ, s, lo, r, rl, p⟩ := h
  unfold sForX bndS at p
  cases e : ma lo s with
  | ok xs s' =>
    refine loop_le (n := xs.length + 1) ⟨ρ, s, lo, r, rl, ?_⟩
    have : sFor (xs.length + 1) (iFix ma) g b lo s = loopX g b xs lo s' := by
      unfold sFor bndS iFix bnd
      rw [e]
      simp only [ret]
      rw [loopX_eq g b xs (xs.length + 1) 0 lo s' (by omega), List.drop_zero]
    rw [this]
    rw [e] at p
    exact p
  | exc z s' =>
    refine loop_le (n := 1) ⟨ρ, s, lo, r, rl, ?_⟩
    have : sFor 1 (iFix ma) g b lo s = .exc z lo s' := by
      unfold sFor bndS iFix bnd
      rw [e]
    rw [this]
    rw [e] at p
    exact p
  | fail =>
    rw [e] at p
    exact p.elim
theorem pi_mono {tg iter : Expr} {t t' : TI} (h : PI X tg iter t) (k : ∀ σ H R, t' σ H R → t σ H R) : PI X tg iter t' := ⟨fun pins s σ H R I q => h.run pins s σ H R I (k σ H R q)⟩
/-- over a tuple -/
def aTup (e : EM) : AM := fun lo => bnd (e lo) fun x => match x with
  | .tup xs => ret xs
  | _ => failM
/-- over range(n), range(a, b) -/
def rng (lo : Int) (n : Nat) : List Vl := (List.range n).map fun i => Vl.int (lo + (i : Nat))
def aRng (a : AM) : AM := fun lo => bnd (a lo) fun xs => match xs with
  | [.int n] => if -(2 ^ 62) ≤ n ∧ n < 2 ^ 62 then ret (rng 0 n.toNat) else failM
  | _ => failM
def aRng2 (a : AM) : AM := fun lo => bnd (a lo) fun xs => match xs with
  | [.int i, .int j] => if -(2 ^ 62) ≤ i ∧ i < 2 ^ 62 ∧ -(2 ^ 62) ≤ j ∧ j < 2 ^ 62 then ret (rng i (j - i).toNat) else failM
  | _ => failM
/-- over a list, enumerate(list): the list's number -/
def iLst (e : EM) : IM := fun lo => bnd (e lo) fun x => match x with
  | .ref j => fun s => match s[j]? with
    | some (.lst _) => .ok (nxLst j) s
    | _ => .fail
  | _ => failM
def iEnm (a : AM) : IM := fun lo => bnd (a lo) fun xs => match xs with
  | [.ref j] => fun s => match s[j]? with
    | some (.lst _) => .ok (nxEnum j) s
    | _ => .fail
  | _ => failM
theorem bnd_bnd {α β γ : Type} (m : M α) (f : α → M β) (g : β → M γ) : bnd (bnd m f) g = bnd m fun x => bnd (f x) g := by
  funext s
  unfold bnd
  cases m s <;> rfl
theorem ci_tup {e : Expr} {me : EM} (he : PE X e (tE T W me)) (hK : X.K = T.K := by rfl) : PI X tg e (tI T W (iFix (aTup me))) := pi_mono (pi_tup he) fun σ H R h => by
  obtain ⟨ρ, s, lo, r, rl, p⟩ := h
  refine po_bnd (R := RV T) (m := me) (f := fun x => bnd (match x with | .tup xs => ret xs | _ => failM) fun xs => ret (nxFix xs)) (R' := fun ρ H nx J => ItOk T J nx ρ H) (Q := R) r rl ?_ fun ρ1 s1 x z H1 ext1 r1 rl1 hx p1 => ?_
  · unfold iFix aTup at p
    unfold bnd at p ⊢
    cases e : me lo s <;> rw [e] at p <;> exact p
  · cases hx with
    | tup h1 h2 =>
      rename_i a vs xs
      refine ⟨a, rfl, ⟨vs, by rw [hK]; exact h1⟩, p1 ρ1 H1 _ .refl r1 ?_⟩
      intro ρ2 H2 s2 i e2 r2
      have h1' := e2.tup _ _ h1
      have h2' := h2.mono e2
      rw [← hK] at h1'
      simp only [nxFix]
      cases e : xs[i]? with
      | none =>
        have : xs.length ≤ i := List.getElem?_eq_none_iff.mp e
        exact ⟨vs, h1', by rw [← h2'.length]; exact this⟩
      | some v =>
        obtain ⟨z, hz, rz⟩ := h2'.get e
        refine ⟨⟨vs, z, h1', hz⟩, fun x H3 y => ?_⟩
        obtain ⟨rfl, y⟩ := y
        have := y vs h1'
        rw [hz] at this
        cases this
        exact ⟨.refl, r2, rz⟩
    | _ => exact p1.elim
end
end Sm

/-! S7: what is walked; while; comprehensions -/
namespace Sm
open PySem L2
section
variable {X : Cx} {T : Tb} {W : WX} {tg : Expr} {pos p : Pos}
theorem ok_rng {lo : Int} {n : Nat} {ρ : List Addr} {H : Hp} : ItOk T (Itr lo n) (nxFix (rng lo n)) ρ H := by
  intro ρ1 H1 s i e r
  simp only [nxFix, rng]
  by_cases h : i < n
  · rw [List.getElem?_map, List.getElem?_range h]
    refine ⟨h, fun x H2 y => ?_⟩
    obtain ⟨rfl, rfl⟩ := y
    exact ⟨.refl, r, .int _⟩
  · rw [List.getElem?_eq_none (by simp; omega)]
    exact Nat.le_of_not_lt h
theorem ci_rng1 {a : Expr} {ma : AM} (hg : Gl X "range") (hm : X.mg "range" = none) (ha : PA X [a] (tA T W ma)) (hs : starEach [a] X.env = [(false, eval a X.env)] := by rfl) : PI X tg (.Call (.Name "range" p) [a] [] pos) (tI T W (iFix (aRng ma))) :=
  pi_mono (pi_range1 hg hm ha hs) fun σ H R h => by
    obtain ⟨ρ, s, lo, r, rl, q⟩ := h
    unfold iFix aRng at q
    rw [bnd_bnd] at q
    refine po_bnd (R := RVs T) (m := ma) r rl q fun ρ1 s1 xs zs H1 ext1 r1 rl1 hx p1 => ?_
    split at p1
    · rename_i n
      split at p1
      · rename_i hn
        obtain ⟨z, rfl, hz⟩ := hx.one
        exact ⟨n, by rw [hz.intE], hn.1, hn.2, p1 ρ1 H1 _ .refl r1 ok_rng⟩
      · exact p1.elim
    · exact p1.elim
theorem ci_lst {e : Expr} {me : EM} (he : PE X e (tE T W me)) (hK : X.K = T.K := by rfl) : PI X tg e (tI T W (iLst me)) := pi_mono (pi_list he) fun σ H R h => by
  obtain ⟨ρ, s, lo, r, rl, q⟩ := h
  refine po_bnd (R := RV T) (m := me) r rl q fun ρ1 s1 x z H1 ext1 r1 rl1 hx p1 => ?_
  cases hx with
  | ref ha =>
    rename_i j a
    simp only at p1
    split at p1
    · rename_i xs hj
      obtain ⟨vs, h1, h2⟩ := r1.lst hj ha
      refine ⟨a, rfl, ⟨vs, SqL.of h1⟩, p1 ρ1 H1 _ .refl r1 ?_⟩
      intro ρ2 H2 s2 i e2 r2
      have ha2 := e2.pre _ _ ha
      unfold nxLst
      cases e : s2[j]? with
      | none => trivial
      | some o =>
        cases o with
        | lst ys =>
          obtain ⟨us, g1, g2⟩ := r2.lst e ha2
          simp only
          cases e3 : ys[i]? with
          | none => exact ⟨us, SqL.of g1, by rw [← g2.length]; exact List.getElem?_eq_none_iff.mp e3⟩
          | some v =>
            obtain ⟨w, hw, rw'⟩ := g2.get e3
            refine ⟨⟨us, w, SqL.of g1, hw⟩, fun x H3 y => ?_⟩
            obtain ⟨rfl, y⟩ := y
            have := y us (SqL.of g1)
            rw [hw] at this
            cases this
            exact ⟨.refl, r2, rw'⟩
        | _ => trivial
    · exact p1.elim
  | _ => exact p1.elim
/-- enumerate(list) -/
theorem ci_enm {e : Expr} {ma : AM} {elts : List Expr} {kk : Nat} {tpos : Pos} (hg : Gl X "enumerate") (hm : X.mg "enumerate" = none) (ha : PA X [e] (tA T W ma)) (hs : starEach [e] X.env = [(false, eval e X.env)] := by rfl) (hK : X.K = T.K := by rfl) :
    PI X (.Tuple elts kk tpos) (.Call (.Name "enumerate" p) [e] [] pos) (tI T W (iEnm ma)) := pi_mono (pi_enum hg hm ha hs) fun σ H R h => by
  obtain ⟨ρ, s, lo, r, rl, q⟩ := h
  refine po_bnd (R := RVs T) (m := ma) r rl q fun ρ1 s1 xs zs H1 ext1 r1 rl1 hx p1 => ?_
  split at p1
  · rename_i j
    obtain ⟨z, rfl, hz⟩ := hx.one
    obtain ⟨a, rfl, ha⟩ := hz.refE
    split at p1
    · rename_i ys hj
      obtain ⟨vs, h1, h2⟩ := r1.lst hj ha
      refine ⟨a, vs, rfl, SqL.of h1, p1 ρ1 H1 _ .refl r1 ?_⟩
      intro ρ2 H2 s2 i e2 r2
      have ha2 := e2.pre _ _ ha
      unfold nxEnum
      cases e : s2[j]? with
      | none => trivial
      | some o =>
        cases o with
        | lst ys =>
          obtain ⟨us, g1, g2⟩ := r2.lst e ha2
          simp only
          cases e3 : ys[i]? with
          | none => exact ⟨us, SqL.of g1, by rw [← g2.length]; exact List.getElem?_eq_none_iff.mp e3⟩
          | some v =>
            obtain ⟨w, hw, rw'⟩ := g2.get e3
            refine ⟨⟨us, w, SqL.of g1, hw⟩, fun x H3 y => ?_⟩
            obtain ⟨q, u, rfl, hq, rfl, y⟩ := y
            have := y us (SqL.of g1)
            rw [hw] at this
            cases this
            exact ⟨ext_upd hq, r2.laid hq, .tup (SqT.of upd_same) (.cons (.int _) (.cons (rw'.mono (ext_upd hq)) .nil))⟩
        | _ => trivial
    · exact p1.elim
  · exact p1.elim
end
/-! ### while -/
def loopW (t : TM) (b : SM) : Nat → SM
  | 0, _, _ => .fail
  | n + 1, lo, s => match t lo s with
    | .fail => .fail
    | .exc e s' => .exc e lo s'
    | .ok false s' => .nx lo s'
    | .ok true s' => match b lo s' with
      | .nx lo2 s2 => loopW t b n lo2 s2
      | .ct lo2 s2 => loopW t b n lo2 s2
      | .bk lo2 s2 => .nx lo2 s2
      | .rt v2 s2 => .rt v2 s2
      | .exc e lo2 s2 => .exc e lo2 s2
      | .fail => .fail
section
variable {X : Cx} {T : Tb} {W : WX} {c : Expr} {body : List Stmt} {mt : TM} {b : SM} {pos : Pos}
theorem cs_while (n : Nat) (hp : PassesOwn (model X.prog X.w) X.A X.env X.xe) (hc : PT X c (tT T W mt)) (hb : PSs X body (tS T W b)) : PS X (.While c body [] pos) (tS T W (loopW mt b n)) :=
  ps_mono (ps_while hp hc hb) fun D σ H h => by
    obtain ⟨ρ, s, lo, r, rl, p⟩ := h
    refine ⟨fun k σ H => ∃ ρ s lo, Rel T ρ H s ∧ RL T ρ H lo σ ∧ PoS T W ρ H (loopW mt b k lo s) D, ⟨n, ρ, s, lo, r, rl, p⟩, ?_⟩
    rintro k σ1 H1 ⟨ρ, s, lo, r, rl, p⟩
    cases k with
    | zero => exact p.elim
    | succ k =>
      unfold loopW at p
      refine ⟨ρ, s, lo, r, rl, ?_⟩
      cases e : mt lo s with
      | fail => simp only [e] at p; exact p
      | exc z s' => simp only [e] at p; exact fun ρ' H' C x r' hC => p ρ' H' σ1 C x r' (rl.mono x) hC
      | ok c s' =>
        intro ρ2 H2 c' x2 r2 ec
        cases ec
        cases c with
        | false =>
          simp only [e] at p
          exact p ρ2 H2 σ1 x2 r2 (rl.mono x2)
        | true =>
          simp only [e] at p
          refine ⟨fun σ' H' => ∃ ρ s lo, Rel T ρ H' s ∧ RL T ρ H' lo σ' ∧ PoS T W ρ H' (loopW mt b k lo s) D, fun σ' H' h => ⟨k, Nat.lt_succ_self k, h⟩, ρ2, s', lo, r2, rl.mono x2, ?_⟩
          have p := p.mono x2
          cases e3 : b lo s' with
          | nx lo2 s2 => simp only [e3] at p; exact fun ρ4 H4 σ4 x4 r4 rl4 => ⟨ρ4, s2, lo2, r4, rl4, p.mono x4⟩
          | ct lo2 s2 => simp only [e3] at p; exact fun ρ4 H4 σ4 x4 r4 rl4 => ⟨ρ4, s2, lo2, r4, rl4, p.mono x4⟩
          | bk lo2 s2 => simp only [e3] at p; exact p
          | rt v2 s2 => simp only [e3] at p; exact p
          | exc z lo2 s2 => simp only [e3] at p; exact p
          | fail => simp only [e3] at p; exact p
end
/-! ### targets of several names -/
def gNs : List Nat → TGs
  | [] => gNil
  | j :: js => gCons (gName j) (gNs js)
section
variable {X : Cx} {T : Tb} {W : WX} {pos : Pos}
theorem gNs_ok {ρ : List Addr} {H : Hp} {Q : St → Hp → Prop} : ∀ {js : List Nat} {xs : List Vl} {vs : List V} {lo lo' : Lo} {σ : St}, RVs T ρ H xs vs → RL T ρ H lo σ → gNms js xs lo = some lo' → (∀ σ', RL T ρ H lo' σ' → Q σ' H) → gNs js vs σ H Q
  | [], [], _, _, _, _, .nil, rl, e, k => by
    cases e
    exact ⟨rfl, k _ rl⟩
  | [], _ :: _, _, _, _, _, _, _, e, _ => by cases e
  | _ :: _, [], _, _, _, _, _, _, e, _ => by cases e
  | j :: js, x :: xs, _, lo, lo', σ, .cons h hs, rl, e, k => ⟨_, _, rfl, gNs_ok hs (rl.set j h) (show gNms js xs (lo.set j (some x)) = some lo' from e) k⟩
theorem gNms_len : ∀ {js : List Nat} {xs : List Vl} {lo lo' : Lo}, gNms js xs lo = some lo' → xs.length = js.length
  | [], [], _, _, _ => rfl
  | [], _ :: _, _, _, e => by cases e
  | _ :: _, [], _, _, e => by cases e
  | j :: js, x :: xs, lo, lo', e => by
    rw [List.length_cons, List.length_cons, gNms_len (show gNms js xs (lo.set j (some x)) = some lo' from e)]
theorem cg_tup {es : List Expr} {k : Nat} {js : List Nat} (h : PG X (.Tuple es k pos) (gTup X.K js.length (gNs js))) (hK : X.K = T.K := by rfl) : PG X (.Tuple es k pos) (tGt T W (gTp js)) := pg_mono h fun z σ H Q h => by
  obtain ⟨ρ, s, lo, v, r, rl, hv, p⟩ := h
  unfold gTp at p
  split at p
  · rename_i xs
    split at p
    · rename_i lo' e
      obtain ⟨a, vs, rfl, h1, h2⟩ := hv.tupE
      exact ⟨a, vs, rfl, by rw [hK]; exact h1, by rw [← h2.length]; exact gNms_len e, gNs_ok h2 rl e fun σ' rl' => p ρ H σ' .refl r rl'⟩
    · exact p.elim
  · exact p.elim
end
/-! ### comprehensions -/
def wipeL (lo : Lo) : List Nat → Lo
  | [] => lo
  | v :: vs => (wipeL lo vs).set v none
abbrev GL := Vl → Lo → Option Lo
def glN (j : Nat) : GL := fun v lo => some (lo.set j (some v))
def glT (js : List Nat) : GL := fun v lo => match v with
  | .tup xs => gNms js xs lo
  | _ => none
def tTrue : TM := fun _ => ret true
/-- one turn: kept or not -/
def lcStep (t : TM) (e : EM) (d : Nat) (lo : Lo) (s : Sto) : Option Sto := match t lo s with
  | .ok false s1 => some s1
  | .ok true s1 => match e lo s1 with
    | .ok y s2 => match s2[d]? with
      | some (.lst acc) => if acc.length < LIM then some (s2.set d (.lst (acc ++ [y]))) else none
      | _ => none
    | _ => none
  | _ => none
def lcN (nx : NX) (g : GL) (t : TM) (e : EM) (d : Nat) (lo : Lo) : Nat → Nat → Sto → Option Sto
  | 0, _, _ => none
  | n + 1, i, s => match nx i s with
    | none => none
    | some none => some s
    | some (some v) => match g v lo with
      | none => none
      | some lo' => match lcStep t e d lo' s with
        | none => none
        | some s' => lcN nx g t e d lo n (i + 1) s'
def lcX (g : GL) (t : TM) (e : EM) (d : Nat) (lo : Lo) : List Vl → Sto → Option Sto
  | [], s => some s
  | v :: vs, s => match g v lo with
    | none => none
    | some lo' => match lcStep t e d lo' s with
      | none => none
      | some s' => lcX g t e d lo vs s'
def eLc (n : Nat) (m : IM) (g : GL) (t : TM) (e : EM) (vs : List Nat) : EM := fun lo => bnd (m lo) fun nx s => match lcN nx g t e s.length (wipeL lo vs) n 0 (s ++ [.lst []]) with
  | some s' => .ok (.ref s.length) s'
  | none => .fail
def eLcX (m : AM) (g : GL) (t : TM) (e : EM) (vs : List Nat) : EM := fun lo => bnd (m lo) fun xs s => match lcX g t e s.length (wipeL lo vs) xs (s ++ [.lst []]) with
  | some s' => .ok (.ref s.length) s'
  | none => .fail
theorem lcX_eq (g : GL) (t : TM) (e : EM) (d : Nat) (lo : Lo) (all : List Vl) : ∀ (n i : Nat) (s : Sto), all.length - i < n → lcN (nxFix all) g t e d lo n i s = lcX g t e d lo (all.drop i) s := by
  intro n
  induction n with
  | zero => intro i s h; omega
  | succ n ih =>
    intro i s h
    unfold lcN
    simp only [nxFix]
    cases h1 : all[i]? with
    | none =>
      have : all.length ≤ i := List.getElem?_eq_none_iff.mp h1
      rw [List.drop_eq_nil_of_le this]
      rfl
    | some v =>
      obtain ⟨hi, hv⟩ := List.getElem?_eq_some_iff.mp h1
      rw [List.drop_eq_getElem_cons hi, hv]
      simp only [lcX]
      cases g v lo with
      | none => rfl
      | some lo' =>
        simp only
        cases lcStep t e d lo' s with
        | none => rfl
        | some s' => exact ih (i + 1) s' (by omega)
theorem wipe_get (σ : St) (i : Nat) : ∀ vs : List Nat, (wipe σ vs)[i]? = if i ∈ vs ∧ i < σ.length then some none else σ[i]?
  | [] => by simp [wipe]
  | v :: vs => by
    unfold wipe
    rw [List.getElem?_set, wipe_get σ i vs, wipe_length]
    by_cases h : v = i
    · subst h
      by_cases h2 : v < σ.length
      · rw [if_pos rfl, if_pos h2, if_pos ⟨List.mem_cons_self .., h2⟩]
      · rw [if_pos rfl, if_neg h2, if_neg (fun z => h2 z.2)]
        rw [List.getElem?_eq_none (by omega)]
    · rw [if_neg h]
      by_cases h3 : i ∈ vs ∧ i < σ.length
      · rw [if_pos h3, if_pos ⟨List.mem_cons_of_mem _ h3.1, h3.2⟩]
      · rw [if_neg h3, if_neg]
        rintro ⟨a, b⟩
        rcases List.mem_cons.mp a with q | q
        · exact h q.symm
        · exact h3 ⟨q, b⟩
theorem wipe_set {σ : St} {vs : List Nat} {j : Nat} {x : Option V} (hj : j ∈ vs) : wipe (σ.set j x) vs = wipe σ vs := by
  apply List.ext_getElem?
  intro i
  rw [wipe_get, wipe_get, List.length_set]
  by_cases h : i ∈ vs ∧ i < σ.length
  · rw [if_pos h, if_pos h]
  · rw [if_neg h, if_neg h]
    by_cases e : j = i
    · subst e
      have : ¬ j < σ.length := fun z => h ⟨hj, z⟩
      rw [List.getElem?_eq_none (by rw [List.length_set]; omega), List.getElem?_eq_none (by omega)]
    · rw [List.getElem?_set_ne e]
theorem wipe_wipe (σ : St) (vs : List Nat) : wipe (wipe σ vs) vs = wipe σ vs := by
  apply List.ext_getElem?
  intro i
  rw [wipe_get, wipe_get, wipe_length]
  split <;> rfl
section
variable {X : Cx} {T : Tb} {W : WX} {pos : Pos}
abbrev WF : WX := fun _ _ _ _ => False
theorem RL.wipe {ρ : List Addr} {H : Hp} {lo : Lo} {σ : St} (hx : T.xs = []) (rl : RL T ρ H lo σ) : ∀ vs : List Nat, RL T ρ H (wipeL lo vs) (wipe σ vs)
  | [] => rl
  | v :: vs => by
    have ih := RL.wipe hx rl vs
    unfold wipeL L2.wipe
    refine ⟨by rw [List.length_set, List.length_set]; exact ih.len, fun i x h => ?_, fun p hp => by rw [hx] at hp; simp at hp⟩
    by_cases e : v = i
    · subst e
      by_cases hv : v < (wipeL lo vs).length
      · rw [List.getElem?_set_self hv] at h; cases h
      · rw [List.getElem?_eq_none (by rw [List.length_set]; omega)] at h; cases h
    · rw [List.getElem?_set_ne e] at h ⊢
      exact ih.at_ i x h
/-- how a comprehension's target stores: the reading gt and the pure gl agree, and stay within the own slots -/
def TgOk (T : Tb) (gt : TG) (gl : GL) (vs : List Nat) : Prop := ∀ (ρ : List Addr) (H : Hp) (lo lo' : Lo) (σ : St) (v : Vl) (z : V) (Q : St → Hp → Prop), RL T ρ H lo (wipe σ vs) → RV T ρ H v z → gl v lo = some lo' →
  (∀ σ', RL T ρ H lo' σ' → L2.wipe σ' vs = L2.wipe σ vs → Q σ' H) → gt z (L2.wipe σ vs) H Q
theorem tg_name {j : Nat} {vs : List Nat} (hj : j ∈ vs) : TgOk T (gName j) (glN j) vs := fun ρ H lo lo' σ v z Q rl hv e k => by
  cases e
  exact k _ (rl.set j hv) (by rw [wipe_set hj, wipe_wipe])
theorem lc_le {n : Nat} {m : IM} {gl : GL} {gt : TG} {mt : TM} {me : EM} {vs : List Nat} {σ : St} {H : Hp} {Q : VK} (hx : T.xs = []) (hg : TgOk T gt gl vs) (h : tE T W (eLc n m gl mt me vs) σ H Q) : tLc (tI T W m) gt (tT T WF mt) (tE T WF me) vs σ H Q :=
  tG_bnd (R := fun ρ H nx J => ItOk T J nx ρ H) h fun ρ0 s0 lo0 nx J H0 r0 rl0 ok0 p0 => by
    intro D hD
    have xD : Ext T ρ0 H0 (ρ0 ++ [D]) (upd H0 D (.lst [])) := r0.newExt hD
    have rD : Rel T (ρ0 ++ [D]) (upd H0 D (.lst [])) (s0 ++ [.lst []]) := r0.new hD ⟨[], upd_same, .nil⟩
    have aD : (ρ0 ++ [D])[s0.length]? = some D := by rw [← r0.len, List.getElem?_append_right (Nat.le_refl _)]; simp
    cases e0 : lcN nx gl mt me s0.length (wipeL lo0 vs) n 0 (s0 ++ [.lst []]) with
    | none => rw [e0] at p0; exact p0.elim
    | some s9 =>
      rw [e0] at p0
      refine ⟨fun i k H => ∃ ρ s, Ext T (ρ0 ++ [D]) (upd H0 D (.lst [])) ρ H ∧ Rel T ρ H s ∧ lcN nx gl mt me s0.length (wipeL lo0 vs) k i s = some s9, ⟨n, _, _, .refl, rD, e0⟩, ?_⟩
      rintro i k H1 ⟨ρ, s, x, r, e⟩
      have hd := x.pre _ _ aD
      cases k with
      | zero => cases e
      | succ k =>
        unfold lcN at e
        have q := ok0 ρ H1 s i (xD.trans x) r
        cases e1 : nx i s with
        | none => simp only [e1] at e; cases e
        | some o =>
          simp only [e1] at e q
          cases o with
          | none =>
            cases e
            exact .inl ⟨q, p0 ρ H1 (.ref D) (xD.trans x) r (.ref hd)⟩
          | some v =>
            obtain ⟨go, yl⟩ := q
            cases e2 : gl v (wipeL lo0 vs) with
            | none => simp only [e2] at e; cases e
            | some lo' =>
              simp only [e2] at e
              cases e3 : lcStep mt me s0.length lo' s with
              | none => simp only [e3] at e; cases e
              | some s' =>
                simp only [e3] at e
                refine .inr ⟨go, fun H => ∃ ρ, Ext T (ρ0 ++ [D]) (upd H0 D (.lst [])) ρ H ∧ Rel T ρ H s', fun H' ⟨ρ', x', r'⟩ => ⟨k, Nat.lt_succ_self k, ρ', s', x', r', e⟩, fun z H2 y => ?_⟩
                obtain ⟨x1, r2, hv⟩ := yl z H2 y
                have x2 := x.trans x1
                refine hg ρ H2 (wipeL lo0 vs) lo' σ v z _ (RL.wipe hx (rl0.mono (xD.trans x2)) vs) hv e2 fun σ' rl' hw => ⟨hw, ?_⟩
                unfold lcStep at e3
                refine ⟨ρ, s, lo', r2, rl', ?_⟩
                cases e4 : mt lo' s with
                | fail => simp only [e4] at e3; cases e3
                | exc z s1 => simp only [e4] at e3; cases e3
                | ok c s1 =>
                  intro ρ3 H3 c' x3 r3 ec
                  cases ec
                  cases c with
                  | false =>
                    simp only [e4] at e3
                    cases e3
                    exact ⟨ρ3, x2.trans x3, r3⟩
                  | true =>
                    simp only [e4] at e3
                    refine ⟨ρ3, s1, lo', r3, rl'.mono x3, ?_⟩
                    cases e5 : me lo' s1 with
                    | fail => simp only [e5] at e3; cases e3
                    | exc z s2 => simp only [e5] at e3; cases e3
                    | ok w s2 =>
                      simp only [e5] at e3
                      intro ρ4 H4 zw x4 r4 hw4
                      split at e3
                      · rename_i acc hacc
                        split at e3
                        · rename_i hl
                          cases e3
                          have hd4 := (x1.trans (x3.trans x4)).pre _ _ hd
                          obtain ⟨us, g1, g2⟩ := r4.lst hacc hd4
                          refine ⟨us, g1, by rw [← g2.length, lim_eq]; exact hl, ρ4, (x2.trans (x3.trans x4)).trans (r4.setExt hd4 g1), r4.set hd4 ⟨_, upd_same, (g2.append (.cons hw4 .nil)).mono (r4.setExt hd4 g1)⟩⟩
                        · cases e3
                      · cases e3
/-- the tests of a comprehension -/
theorem cts_nil : PTs X [] (tT T WF tTrue) := ⟨fun pins s σ H Q I h => pts_nil.run pins s σ H Q I (by
  obtain ⟨ρ, st, lo, r, rl, p⟩ := h
  exact p ρ H true .refl r rfl)⟩
theorem cts_one {c : Expr} {mt : TM} (h : PT X c (tT T WF mt)) : PTs X [c] (tT T WF mt) := pts_one h
theorem lcx_le {ma : AM} {gl : GL} {gt : TG} {mt : TM} {me : EM} {vs : List Nat} {σ : St} {H : Hp} {Q : VK} (hx : T.xs = []) (hg : TgOk T gt gl vs) (h : tE T W (eLcX ma gl mt me vs) σ H Q) : tLc (tI T W (iFix ma)) gt (tT T WF mt) (tE T WF me) vs σ H Q := by
  obtain ⟨ρ, s, lo, r, rl, p⟩ := h
  unfold eLcX bnd at p
  cases e : ma lo s with
  | ok xs s' =>
    refine lc_le (n := xs.length + 1) hx hg ⟨ρ, s, lo, r, rl, ?_⟩
    have : eLc (xs.length + 1) (iFix ma) gl mt me vs lo s = (match lcX gl mt me s'.length (wipeL lo vs) xs (s' ++ [.lst []]) with | some s2 => .ok (.ref s'.length) s2 | none => .fail) := by
      unfold eLc iFix bnd
      simp only [e, ret]
      rw [lcX_eq gl mt me s'.length (wipeL lo vs) xs (xs.length + 1) 0 _ (by omega), List.drop_zero]
    rw [this]
    simp only [e] at p
    exact p
  | exc z s' =>
    refine lc_le (n := 1) hx hg ⟨ρ, s, lo, r, rl, ?_⟩
    have : eLc 1 (iFix ma) gl mt me vs lo s = .exc z s' := by
      unfold eLc iFix bnd
      simp only [e]
    rw [this]
    simp only [e] at p
    exact p
  | fail => simp only [e] at p; exact p.elim
end
end Sm

/-! S8: comprehensions as expressions; defs and their calls; attributes -/
namespace Sm
open PySem PySem.Spec PyProof.Rows L2
section
variable {X : Cx} {T : Tb} {W : WX} {elt tg iter : Expr} {ifs : List Expr} {scope : Scope} {own : List (Str × Nat)} {pos spos py : Pos} {m : IM} {ma : AM} {gt : TG} {gl : GL} {mt : TM} {me : EM}
theorem ce_lc (n : Nat) (hc : X.calm = true) (hN : X.N.Nodup) (hi : PI X tg iter (tI T W m)) (ok : BlkOk X.N X.env.scope scope own) (ho : TgOk T gt gl (own.map (·.2)))
    (hg : ∀ s H C cl fp, PG (X.blk s H scope (compEnvC scope cl C X.env) fp) tg gt) (ht : ∀ s H C cl fp, PTs (X.blk s H scope (compEnvC scope cl C X.env) fp) ifs (tT T WF mt))
    (he : ∀ s H C cl fp, PE (X.blk s H scope (compEnvC scope cl C X.env) fp) elt (tE T WF me)) (hs : ∀ x, foldedSetIterable iter X.env x = pure x := by intro _; rfl) (hx : T.xs = [] := by rfl) :
    PE X (.ListComp elt [⟨tg, iter, ifs, 0⟩] scope pos) (tE T W (eLc n m gl mt me (own.map (·.2)))) := pe_mono (pe_lc hc hN hi ok hg ht he hs) fun _ _ _ h => lc_le hx ho h
theorem ce_lcX (hc : X.calm = true) (hN : X.N.Nodup) (hi : PI X tg iter (tI T W (iFix ma))) (ok : BlkOk X.N X.env.scope scope own) (ho : TgOk T gt gl (own.map (·.2)))
    (hg : ∀ s H C cl fp, PG (X.blk s H scope (compEnvC scope cl C X.env) fp) tg gt) (ht : ∀ s H C cl fp, PTs (X.blk s H scope (compEnvC scope cl C X.env) fp) ifs (tT T WF mt))
    (he : ∀ s H C cl fp, PE (X.blk s H scope (compEnvC scope cl C X.env) fp) elt (tE T WF me)) (hs : ∀ x, foldedSetIterable iter X.env x = pure x := by intro _; rfl) (hx : T.xs = [] := by rfl) :
    PE X (.ListComp elt [⟨tg, iter, ifs, 0⟩] scope pos) (tE T W (eLcX ma gl mt me (own.map (·.2)))) := pe_mono (pe_lc hc hN hi ok hg ht he hs) fun _ _ _ h => lcx_le hx ho h
end

/-! ### defs -/
/-- a def's promise where no repr runs around -/
structure FnG (P : Program) (w : World) (K : PySem.W.Frag) (mg : Str → Option Value) (base : Heap) (k : Nat) (f : Addr) (fd : FuncData) (ps : List Str) (sp : Sp) : Prop where
  len : ∀ vs H Q E, sp vs H Q E → vs.length = ps.length
  run : ∀ (A : Around) (outer : List Env) (s : Shared) (H : Hp) (args : Args) (us : List Value) (vs : List V) (Q : VK) (E : XK), Room k A → A.guards = some [] → Env0 P w K mg base A outer s H → BindsTo s fd args (ps.zip us) → Vals vs us → sp vs H Q E →
    codeAny (model P w) A (.call (.ref f) args) (CR (L2N.CX P w) outer P w H s Q E) s
theorem FnG.mono {P : Program} {w : World} {K : PySem.W.Frag} {mg : Str → Option Value} {base : Heap} {j k : Nat} {f : Addr} {fd : FuncData} {ps : List Str} {sp : Sp} (F : FnG P w K mg base j f fd ps sp) (h : j ≤ k) : FnG P w K mg base k f fd ps sp :=
  ⟨F.len, fun A outer s H args us vs Q E hr => F.run A outer s H args us vs Q E (hr.mono h)⟩
/-- a def by its body -/
theorem fnG_of {P : Program} {w : World} {K : PySem.W.Frag} {mg : Str → Option Value} {base : Heap} {k : Nat} {x qual : Str} {st : Stmt} {f : Addr} {fd : FuncData} {N ps : List Str} {sp : Sp} (F : Fun K x qual st f fd) (S : FnScope N ps (defScope st)) (len : ∀ vs H Q E, sp vs H Q E → vs.length = ps.length)
    (hbody : ∀ (cdv : Value) (A : Around) (outer : List Env) (s : Shared) (H : Hp) (vs : List V) (Q : VK) (E : XK), Room k (A.deeper (envOfC qual (defScope st) s.heap.objs.size f cdv)) → A.guards = some [] → sp vs H Q E →
      ∃ t, PSs (cxOf (L2N.CX P w) P w K mg base N qual (defScope st) f cdv A outer s H E) (defBody st) t ∧ t { nx := fun _ H' => Q .non H', rt := Q } (L2.start N vs) H) : FnG P w K mg base (k + 1) f fd ps sp := by
  obtain ⟨oc, od, kV, doc, pm, an, cdv, ct, osl, rfl, lk, hcd⟩ := F.ex
  refine ⟨len, fun A outer s H args us vs Q E hr hg e0 hb r hsp => ?_⟩
  have inK : K.In s.heap := e0.mod.kin.keeps fun b o e => (e0.bs b o e).1
  have nl : s.heap.NoLimit := e0.mod.nolimit.keeps fun b o e => (e0.bs b o e).1
  have kinds : ∀ y ∈ ps.zip us, (defScope st).names.lookup y.1 = some .local ∨ ((defScope st).names.lookup y.1 = some .cell ∧ ((cellsFrom (s.heap.objs.size + 1) (defScope st).names []).lookup y.1).isSome = true) := by
    rintro ⟨n, v⟩ hy
    exact (S.par n (List.of_mem_zip hy).1).imp id fun q => ⟨q, PySem.W.cellsFrom_some _ _ _ (.inl q)⟩
  refine codeAny_call_function hr.depth (inK _ _ lk) rfl S.co S.gen rfl (PySem.W.codeRec_of inK hcd) (hb _ _ _ _ (wpAny_newFunctionEnv_cells S.kind kinds fun env he s1 y => ?_))
  subst he
  refine ⟨nl.keeps y.toInCall.keep, codeAny_func ?_⟩
  obtain ⟨t, ht, hq⟩ := hbody cdv A outer s H vs Q E (hr.deeper _) hg hsp
  refine wpAny_mono (ht.run [] s1 (L2.start N vs) H _ (inv_start S hr.hd e0 (len _ _ _ _ hsp) r y) hq) (fun fl s' hs => ?_) fun e s' hs => hs
  cases fl with
  | ret u => obtain ⟨v, σ', H', J, rv, q⟩ := hs; exact ⟨v, H', J.os, J.bare, J.base, J.hok, rv, q⟩
  | next => obtain ⟨σ', H', J, q⟩ := hs; exact ⟨V.non, H', J.os, J.bare, J.base, J.hok, rfl, q⟩
  | brk => obtain ⟨_, _, _, q⟩ := hs; exact q.elim
  | cont => obtain ⟨_, _, _, q⟩ := hs; exact q.elim
/-- the promise of a pure function -/
def SpM (T : Tb) (n : Nat) (m : List Vl → M Vl) : Sp := fun vs H Q E => ∃ (ρ : List Addr) (s : Sto) (as : List Vl), Rel T ρ H s ∧ RVs T ρ H as vs ∧ as.length = n ∧ Po (RV T) T E ρ H (m as s) Q
/-- a body as a function; n: how many names -/
def fnM (n : Nat) (b : SM) : List Vl → M Vl := fun as s => match b (as.map some ++ List.replicate (n - as.length) none) s with
  | .nx _ s' => .ok .non s'
  | .rt v s' => .ok v s'
  | .exc e _ s' => .exc e s'
  | _ => .fail
theorem rl_start {T : Tb} {ρ : List Addr} {H : Hp} {as : List Vl} {vs : List V} {N : List Str} (hx : T.xs = []) (h : RVs T ρ H as vs) : RL T ρ H (as.map some ++ List.replicate (N.length - as.length) none) (L2.start N vs) := by
  refine ⟨?_, fun i x e => ?_, fun p hp => by rw [hx] at hp; simp at hp⟩
  · unfold L2.start
    simp only [List.length_append, List.length_map, List.length_replicate, h.length]
  · by_cases hi : i < as.length
    · rw [List.getElem?_append_left (by simpa using hi), List.getElem?_map] at e
      cases q : as[i]? with
      | none => rw [q] at e; cases e
      | some y =>
        rw [q] at e
        cases e
        obtain ⟨z, h1, h2⟩ := h.get q
        refine ⟨z, ?_, h2⟩
        unfold L2.start
        rw [List.getElem?_append_left (by rw [List.length_map, ← h.length]; exact hi), List.getElem?_map, h1]; rfl
    · rw [List.getElem?_append_right (by simpa using hi), List.getElem?_replicate] at e
      split at e <;> cases e
theorem fn_body {T : Tb} {N : List Str} {n : Nat} {b : SM} {vs : List V} {H : Hp} {Q : VK} {E : XK} (hx : T.xs = []) (h : SpM T n (fnM N.length b) vs H Q E) : tS T (fun c d _ H' => E c d H') b { nx := fun _ H' => Q .non H', rt := Q } (L2.start N vs) H := by
  obtain ⟨ρ, s, as, r, hv, hl, p⟩ := h
  refine ⟨ρ, s, _, r, rl_start hx hv, ?_⟩
  unfold fnM at p
  cases e : b (as.map some ++ List.replicate (N.length - as.length) none) s with
  | nx lo s' => rw [e] at p; exact fun ρ' H' σ' x r' _ => p ρ' H' .non x r' .non
  | rt v s' => rw [e] at p; exact p
  | exc z lo s' => rw [e] at p; exact fun ρ' H' σ' C x r' _ hC => p ρ' H' C x r' hC
  | bk lo s' => rw [e] at p; exact p.elim
  | ct lo s' => rw [e] at p; exact p.elim
  | fail => rw [e] at p; exact p.elim
/-- a def of the text computes the pure function of its body -/
theorem fn_sim {P : Program} {w : World} {K : PySem.W.Frag} {mg : Str → Option Value} {base : Heap} {k n : Nat} {x qual : Str} {st : Stmt} {f : Addr} {fd : FuncData} {N ps : List Str} {T : Tb} {b : SM} (F : Fun K x qual st f fd) (S : FnScope N ps (defScope st)) (hn : n = ps.length)
    (body : ∀ (cdv : Value) (A : Around) (outer : List Env) (s : Shared) (H : Hp) (E : XK), Room k (A.deeper (envOfC qual (defScope st) s.heap.objs.size f cdv)) → A.guards = some [] →
      PSs (cxOf (L2N.CX P w) P w K mg base N qual (defScope st) f cdv A outer s H E) (defBody st) (tS T (fun c d _ H' => E c d H') b)) (hx : T.xs = [] := by rfl) : FnG P w K mg base (k + 1) f fd ps (SpM T n (fnM N.length b)) :=
  fnG_of F S (fun vs H Q E ⟨ρ, s, as, r, hv, hl, p⟩ => by rw [← hv.length, hl, hn]) fun cdv A outer s H vs Q E hr hg h => ⟨_, body cdv A outer s H E hr hg, fn_body hx h⟩

/-! ### calls of defs -/
section
variable {X : Cx} {T : Tb} {W : WX} {k n : Nat} {f : Addr} {fd : FuncData} {ps : List Str} {mf : List Vl → M Vl} {x : Str} {p pos apos : Pos} {e o : Expr} {es : List Expr} {ma : AM} {mo : EM} {ds : List Value} {dvs : List V} {das : List Vl}
def eCall (mf : List Vl → M Vl) (a : AM) : EM := fun lo => bnd (a lo) mf
/-- with defaults das behind the arguments -/
def eCallD (mf : List Vl → M Vl) (das : List Vl) (a : AM) : EM := fun lo => bnd (a lo) fun as => mf (as ++ das)
theorem run_G {sp : Sp} {pins : List (Addr × Obj)} {σ : L2.St} {H : Hp} {s : Shared} {Q : VK} {us : List Value} {vs : List V} (F : FnG X.prog X.w X.K X.mg X.base k f fd ps sp) (hr : Room k X.A) (hg : X.A.guards = some []) (hb : Binds X.K fd ps ds) (hd : Vals dvs ds) (tk : L2N.Takes X W)
    (I : Inv X pins σ H s) (r : Vals vs us) (h : sp (vs ++ dvs) H Q fun c d H' => W c d σ H') : wpAny (model X.prog X.w) X.A (call (.ref f) us) (EP X pins σ Q) X.xe s := by
  have r2 : Vals (vs ++ dvs) (us ++ ds) := r.append hd
  refine wpAny_call (codeAny_mono (F.run X.A X.stack s H ⟨us, []⟩ (us ++ ds) (vs ++ dvs) Q _ hr hg I.env0 (hb s us I.kIn (by rw [← r2.length]; exact F.len _ _ _ _ h)) r2 h) fun z s' hq => ?_)
  cases z with
  | error y => exact tk y s' (L2N.XE.of_call I (fun _ _ _ q => q) hq)
  | ok fl =>
    cases fl with
    | ret u => exact I.after hq
    | next => exact hq.elim
    | brk => exact hq.elim
    | cont => exact hq.elim
theorem spM_of {ρ : List Addr} {s : Sto} {as : List Vl} {vs : List V} {H : Hp} {Q : VK} {E : XK} (r : Rel T ρ H s) (hv : RVs T ρ H as vs) (hl : as.length = n) (p : Po (RV T) T E ρ H (mf as s) Q) : SpM T n mf vs H Q E := ⟨ρ, s, as, r, hv, hl, p⟩
/-- the number of arguments is checked in the pure function -/
def arg (n : Nat) (mf : List Vl → M Vl) : List Vl → M Vl := fun as s => if as.length = n then mf as s else .fail
theorem ce_call (F : FnG X.prog X.w X.K X.mg X.base k f fd ps (SpM T n mf)) (hr : Room k X.A) (hgd : X.A.guards = some []) (hg : Gl X x) (hm : X.mg x = some (.ref f)) (hk : PySem.W.keepIn X.K (.ref f) = true) (hb : Binds X.K fd ps []) (tk : L2N.Takes X W) (ha : PA X (e :: es) (tA T W ma))
    (hdb : (x == ("__debug__" : Str)) = false := by decide) (he : starEach (e :: es) X.env = (false, eval e X.env) :: starEach es X.env := by rfl) (hpl : (backTo pos (starEach es X.env)).any (·.1) = false := by rfl) :
    PE X (.Call (.Name x p) (e :: es) [] pos) (tE T W (eCall (arg n mf) ma)) := by
  refine ⟨fun pins s σ H Q I h => wpAny_Call_Name_kw (ld_glob I hg hm ?_ hdb)⟩
  have h : tA T W ma σ H fun vs H1 => SpM T n mf (vs ++ []) H1 Q fun c d H' => W c d σ H' := tG_bnd (R := RVs T) h fun ρ s lo xs zs H1 r rl hx q => by
    unfold arg at q
    split at q
    · rename_i hl
      rw [List.append_nil]
      exact spM_of r hx hl q
    · exact q.elim
  refine PySem.W.callWith_K (h₀ := X.base) I.ok.mod.kin hk (thn (ha.run pos pins s σ H _ I h) fun us s1 ⟨vs, H1, I1, r, q⟩ => ⟨I1.kIn, ?_⟩) he hpl
  exact run_G F hr hgd hb .nil tk I1 r q
end
end Sm

/-! S9: the end of a law: from the pure function of the law to the row -/
namespace Sm
open PySem PySem.Spec PyProof.Rows L2
/-- nothing is tracked but the script -/
def H0 (K : PySem.W.Frag) (a : Addr) (ob : Obj) (ns : List Int) : Hp := fun b => if b = a ∧ (K.lookup a).isNone = true then some (.frz ob (.lst (ns.map V.int))) else none
theorem H0_some {K : PySem.W.Frag} {a b : Addr} {ob : Obj} {ns : List Int} {u : HO} (h : H0 K a ob ns b = some u) : b = a ∧ K.lookup a = none ∧ u = .frz ob (.lst (ns.map V.int)) := by
  unfold H0 at h
  split at h
  · rename_i q
    cases h
    refine ⟨q.1, ?_, rfl⟩
    cases e : K.lookup a with
    | none => rfl
    | some o => rw [e] at q; exact absurd q.2 (by simp)
  · cases h
theorem law_G {P : Program} {w : World} {T : Tb} {mg mb : Str → Option Value} {k : Nat} {fa a : Addr} {fd : FuncData} {x : Str} {m : List Vl → M Vl} {s₁ : Shared} {vs : List Value} {ns : List Int} {st : Sto}
    (KX : T.K.In s₁.heap) (hns : s₁.heap.Ns mainGlobals mg) (hb : s₁.heap.Ns builtinsNs mb) (hbb : ∀ x : Str, x ≠ "__name__" → mb x = bootBuiltins x) (hlim : s₁.heap.NoLimit) (hg : s₁.gens = #[])
    (ha : s₁.heap.get? a = some { cls := .type "list", data := .seq vs.toArray }) (hi : IntsAre vs ns) (hl : ns.length ≤ sizeLine) (hr : Room k callerA)
    (F : ∀ base : Heap, T.K.In base → base.Ns mainGlobals mg → FnG P w T.K mg base k fa fd [x] (SpM T 1 m)) (hbind : ∀ (s : Shared) (u : Value), BindsTo s fd ⟨[u], []⟩ [(x, u)])
    (hm : m [.scr ns] [] = .ok (.bl true) st) :
    codeAny (model P w) callerA (.call (.ref fa) ⟨[.ref a], []⟩) (fun r s' => r = .ok (.ret (.bool true)) ∧ OldK s₁.heap s'.heap ∧ s'.os = s₁.os ∧ AllBare s'.gens) s₁ := by
  have rv := vals_ints hi
  let ob : Obj := { cls := .type "list", data := .seq vs.toArray }
  let H := H0 T.K a ob ns
  have out : ∀ {b : Addr} {o : Obj}, s₁.heap.get? b = some o → b ≠ a → (hidT s₁.heap H).get? b = some o := fun {b o} e n => hidT_get e (by
    cases q : H b with
    | none => rfl
    | some u => exact absurd (H0_some q).1 n)
  have nd : ∀ {b : Addr} {m : Str → Option Value}, s₁.heap.Ns b m → (hidT s₁.heap H).Ns b m := fun {b m} ⟨o, es, ep, e, d, r⟩ => ⟨o, es, ep, out e (fun z => by
    subst z
    rw [ha] at e
    cases e
    have d : Data.seq vs.toArray _ = Data.dict es ep := d
    cases d), d, r⟩
  have inB : T.K.In (hidT s₁.heap H) := fun b o e => hidT_get (KX b o e) (by
    cases q : H b with
    | none => rfl
    | some u =>
      obtain ⟨rfl, h2, _⟩ := H0_some q
      rw [h2] at e
      cases e)
  have md : Mod T.K mg (hidT s₁.heap H) := ⟨inB, nd hns, ⟨mb, nd hb, hbb⟩, let ⟨mc, h1, h2⟩ := hlim; ⟨mc, nd h1, h2⟩⟩
  have hok : HOk P w H s₁.heap := fun b u q => by
    obtain ⟨rfl, h2, rfl⟩ := H0_some q
    exact ⟨ha, by rw [List.length_map]; exact hl, vs, _, rv, ha⟩
  have e0 : Env0 P w T.K mg (hidT s₁.heap H) callerA [] s₁ H := ⟨rfl, md, fun b o e => of_hidT e, Nat.le_of_eq (hidT_size _ _), trivial, fun b hb => absurd hb (List.not_mem_nil), hok, .of_eq hg⟩
  have rs : RV T [] H (.scr ns) (.ref a) := by
    cases q : T.K.lookup a with
    | none => exact .scr (o := ob) (by show H0 T.K a ob ns a = _; unfold H0; rw [if_pos ⟨rfl, by rw [q]; rfl⟩])
    | some o =>
      have e := KX a o q
      rw [ha] at e
      cases e
      exact .scrK fun H' => .inr ⟨_, vs.toArray, _, q, rfl, rfl, rfl, by rw [List.size_toArray, ← rv.length, List.length_map]; exact hl, by simpa using rv⟩
  have sp : SpM T 1 m [.ref a] H (fun v _ => v = .bl true) fun _ _ _ => False := ⟨[], [], [.scr ns], ⟨rfl, List.nodup_nil, fun i a o h _ => by simp at h⟩, .cons rs .nil, rfl, by
    rw [hm]
    exact fun ρ' H' z _ _ hz => hz.blE⟩
  refine codeAny_mono ((F _ inB (nd hns)).run callerA [] s₁ H ⟨[.ref a], []⟩ [.ref a] [.ref a] _ _ hr rfl e0 (hbind s₁ (.ref a)) (.cons rfl .nil) sp) fun r s' h => ?_
  cases r with
  | error e =>
    obtain ⟨_, _, _, _, _, _, _, _, _, _, _, _, z⟩ := h
    exact z.elim
  | ok fl =>
    cases fl with
    | next => exact h.elim
    | brk => exact h.elim
    | cont => exact h.elim
    | ret u =>
      obtain ⟨v, H', os, bare, un, hok', r', q⟩ := h
      have q : v = .bl true := q
      subst q
      obtain rfl : u = Value.bool true := r'
      refine ⟨rfl, OldK.of_keep fun b o e => ?_, os, bare⟩
      cases q : H b with
      | none => exact un.keep b o e q (fun z => absurd z (List.not_mem_nil)) (List.not_mem_nil)
      | some u =>
        obtain ⟨rfl, h2, rfl⟩ := H0_some q
        have z2 := un.frzs b _ _ q
        obtain ⟨e2, _⟩ := hok' b _ z2
        rw [ha] at e
        cases e
        exact e2
/-- the goal that the head leaves, from the law's pure function -/
theorem walk_G {l : PySem.W.OpenLaw} {n k : Nat} {q : Program} {loose : List Str} {XP : (Str → Option Value) → Heap → Prop} {YP : World → Heap → Prop} {d : DefRec} {K : Params → PySem.W.Frag} {x : Str} {m : List Vl → M Vl}
    (hn : l.most = some n) (hn2 : n ≤ sizeLine) (hdf : d.params.defaults = []) (hr : Room k callerA) (hY : ∀ (w : World) (h : Heap), YP w h → (K w.params).In h)
    (F : ∀ (w : World) (mg : Str → Option Value) (fa : Addr) (h : Heap), (K w.params).In h → h.Ns mainGlobals mg → mg d.name = some (.ref fa) → ∃ (T : Tb) (fd : FuncData), T.K = K w.params ∧ (∀ (s : Shared) (u : Value), BindsTo s fd ⟨[u], []⟩ [(x, u)]) ∧
        ∀ base : Heap, T.K.In base → base.Ns mainGlobals mg → FnG l.prog w T.K mg base k fa fd [x] (SpM T 1 m))
    (hm : ∀ ns : List Int, ns.length ≤ n → ∃ st, m [.scr ns] [] = .ok (.bl true) st) :
    PySem.W.WalkO q loose XP YP l.row.toRowW d [] (fun f vs => PySem.call f vs) := by
  refine Att.attach_call hn hdf fun w s₀ s₁ mg mb fa o pm cd doc a vs ns G Y ho hd hcd hmg hobj hints hlen hg => ?_
  obtain ⟨T, fd, eT, hb, hF⟩ := F w mg fa _ (hY w _ Y) G.T.g hmg
  obtain ⟨st, e⟩ := hm ns hlen
  exact law_G (by rw [eT]; exact hY w _ Y) G.T.g G.T.b G.T.builtins G.T.nolimit hg hobj hints (Nat.le_trans hlen hn2) hr hF hb e
end Sm

/-! S10: objects: fields, methods, making -/
namespace Sm
open PySem PySem.Spec PyProof.Rows L2
def putS (f : Str) (v : Vl) : List (Str × Vl) → List (Str × Vl)
  | [] => [(f, v)]
  | (g, x) :: r => if g = f then (g, v) :: r else (g, x) :: putS f v r
def getS (fs : List (Str × Vl)) (f : Str) : Option Vl := match fs with
  | [] => none
  | (g, x) :: r => if g = f then some x else getS r f
section
variable {T : Tb} {ρ : List Addr} {H : Hp}
theorem lookup_step {α : Type} (f g : Str) (x : α) (r : List (Str × α)) : List.lookup f ((g, x) :: r) = if g = f then some x else List.lookup f r := by
  by_cases h : g = f
  · subst h
    rw [if_pos rfl]
    simp [List.lookup]
  · rw [if_neg h]
    have : (f == g) = false := by
      cases e : (f == g) with
      | false => rfl
      | true => exact absurd (eq_of_beq e).symm h
    simp [List.lookup, this]
theorem getS_ok {f : Str} : ∀ {fs : List (Str × Vl)} {vs : List (Str × V)}, vs.map (·.1) = fs.map (·.1) → RVs T ρ H (fs.map (·.2)) (vs.map (·.2)) →
    (getS fs f = none → vs.lookup f = none) ∧ ∀ v, getS fs f = some v → ∃ z, vs.lookup f = some z ∧ RV T ρ H v z
  | [], [], _, _ => ⟨fun _ => rfl, fun v e => by simp [getS] at e⟩
  | [], _ :: _, e, _ => by simp at e
  | _ :: _, [], e, _ => by simp at e
  | (g, x) :: r, (g', z) :: t, e, h => by
    simp only [List.map_cons, List.cons.injEq] at e
    rw [List.map_cons, List.map_cons] at h
    obtain ⟨e1, e2⟩ := e
    subst e1
    cases h with
    | cons h1 h2 =>
      have ih := getS_ok (f := f) e2 h2
      rw [lookup_step]
      unfold getS
      by_cases hk : g' = f
      · rw [if_pos hk, if_pos hk]
        refine ⟨(fun q => nomatch q), fun v q => ?_⟩
        cases q
        exact ⟨z, rfl, h1⟩
      · rw [if_neg hk, if_neg hk]
        exact ih
theorem putS_ok {f : Str} {v : Vl} {z : V} (hv : RV T ρ H v z) : ∀ {fs : List (Str × Vl)} {vs : List (Str × V)}, vs.map (·.1) = fs.map (·.1) → RVs T ρ H (fs.map (·.2)) (vs.map (·.2)) →
    (putF f z vs).map (·.1) = (putS f v fs).map (·.1) ∧ RVs T ρ H ((putS f v fs).map (·.2)) ((putF f z vs).map (·.2))
  | [], [], _, _ => ⟨rfl, .cons hv .nil⟩
  | [], _ :: _, e, _ => by simp at e
  | _ :: _, [], e, _ => by simp at e
  | (g, x) :: r, (g', y) :: t, e, h => by
    simp only [List.map_cons, List.cons.injEq] at e
    rw [List.map_cons, List.map_cons] at h
    obtain ⟨e1, e2⟩ := e
    subst e1
    cases h with
    | cons h1 h2 =>
      unfold putF putS
      by_cases hk : g' = f
      · rw [if_pos hk, if_pos hk]
        exact ⟨by simp [e2], .cons hv h2⟩
      · rw [if_neg hk, if_neg hk]
        obtain ⟨a, b⟩ := putS_ok hv e2 h2
        exact ⟨by simp [a], .cons h1 b⟩
theorem Rel.ins {s : Sto} {i c : Nat} {fs : List (Str × Vl)} {a : Addr} (r : Rel T ρ H s) (h : s[i]? = some (.ins c fs)) (ha : ρ[i]? = some a) :
    ∃ (C dx : Addr) (vs : List (Str × V)), T.cl[c]? = some C ∧ H a = some (.ins C dx vs) ∧ vs.map (·.1) = fs.map (·.1) ∧ RVs T ρ H (fs.map (·.2)) (vs.map (·.2)) := r.ob i a _ ha h
end
/-- e.f, of an object of one of the classes cs -/
def eFld (cs : List Nat) (f : Str) (o : EM) : EM := fun lo => bnd (o lo) fun x s => match x with
  | .ref j => match s[j]? with
    | some (.ins c fs) => if c ∈ cs then match getS fs f with
        | some v => .ok v s
        | none => .fail
      else .fail
    | _ => .fail
  | _ => .fail
/-- e.f = v -/
def setFld (cs : List Nat) (f : Str) (x v : Vl) (s : Sto) : Option Sto := match x with
  | .ref j => match s[j]? with
    | some (.ins c fs) => if c ∈ cs ∧ fs.length < 1000 then some (s.set j (.ins c (putS f v fs))) else none
    | _ => none
  | _ => none
def sFldM (cs : List Nat) (f : Str) (o e : EM) : SM := bndS e fun lo v s => bndS o (fun lo x s => match setFld cs f x v s with
  | some s' => .nx lo s'
  | none => .fail) lo s
/-- the classes cs have no attribute f of their own -/
def FldOk (T : Tb) (cs : List Nat) (f : Str) : Prop := ∀ c ∈ cs, ∀ C, T.cl[c]? = some C → Cls T.K C ∧ NoAttr T.K C f
/-- o.m(..): the method by the object's class -/
abbrev MTab := Nat → Option (List Vl → M Vl)
def eMeth (m : Str) (tab : MTab) (o : EM) (a : AM) : EM := fun lo => bnd (o lo) fun x s => match x with
  | .ref j => match s[j]? with
    | some (.ins c fs) => match tab c, getS fs m with
      | some mf, none => bnd (a lo) (fun as => mf (.ref j :: as)) s
      | _, _ => .fail
    | _ => .fail
  | _ => .fail
section
variable {X : Cx} {T : Tb} {W : WX} {o e value : Expr} {es : List Expr} {f : Str} {pos pos' apos : Pos} {mo me : EM} {ma : AM} {cs : List Nat}
theorem ce_fld (ok : FldOk T cs f) (he : PE X e (tE T W me)) (hb : attributeBase e f X.env (eval e X.env) = eval e X.env := by rfl) (hK : X.K = T.K := by rfl) : PE X (.Attribute e f pos) (tE T W (eFld cs f me)) :=
  pe_mono (pe_fld he hb) fun σ H Q h => tG_bnd (R := RV T) h fun ρ s lo x z H1 r rl hx p => by
    cases hx with
    | ref ha =>
      simp only at p
      split at p
      · rename_i c fs hj
        split at p
        · rename_i hc
          split at p
          · rename_i v hv
            obtain ⟨C, dx, vs, h1, h2, h3, h4⟩ := r.ins hj ha
            obtain ⟨w, h5, h6⟩ := (getS_ok (f := f) h3 h4).2 v hv
            obtain ⟨k1, k2⟩ := ok c hc C h1
            rw [hK]
            exact ⟨_, C, dx, vs, w, rfl, h2, k1, k2, h5, p ρ H1 w .refl r h6⟩
          · exact p.elim
        · exact p.elim
      · exact p.elim
    | _ => exact p.elim
theorem cs_fld (ok : FldOk T cs f) (ho : PE X o (tE T W mo)) (hv : PE X value (tE T W me)) (hs : swapsWith value (some (.Attribute o f pos')) pos.line X.env = pure false := by rfl) (hK : X.K = T.K := by rfl) :
    PS X (.Assign [.Attribute o f pos'] value pos) (tS T W (sFldM cs f mo me)) := ps_mono (ps_fld ho hv hs) fun D σ H h =>
  tS_bnd (R := RV T) h fun ρ s lo v z H1 r rl hv p => poS_bnd (R := RV T) r rl p fun ρ' s' x y H' ext r' rl' hx p' => by
    unfold setFld at p'
    cases hx with
    | ref ha =>
      simp only at p'
      split at p'
      · rename_i sf e
        split at e
        · rename_i c fs hj
          split at e
          · rename_i hc
            cases e
            obtain ⟨C, dx, vs, h1, h2, h3, h4⟩ := r'.ins hj ha
            obtain ⟨k1, k2⟩ := ok c hc.1 C h1
            obtain ⟨g1, g2⟩ := putS_ok (f := f) (hv.mono ext) h3 h4
            have hlen : vs.length = fs.length := by have := congrArg List.length h3; simpa using this
            rw [hK]
            refine ⟨_, C, dx, vs, rfl, h2, k1, k2, by rw [hlen]; exact hc.2, ?_⟩
            exact p' ρ' _ σ (r'.setExt ha h2) (r'.set ha ⟨C, dx, _, h1, upd_same, g1, g2.mono (r'.setExt ha h2)⟩) (rl'.mono (r'.setExt ha h2))
          · cases e
        · cases e
      · exact p'.elim
    | _ => exact p'.elim
/-- the methods m of the classes of tab -/
def MethOk (X : Cx) (T : Tb) (m : Str) (k n : Nat) (tab : MTab) : Prop := ∀ c mf, tab c = some mf → ∀ C, T.cl[c]? = some C → ∃ (f : Addr) (fd : FuncData) (ps : List Str), Cls T.K C ∧ Meth T.K C m f ∧ FnG X.prog X.w X.K X.mg X.base k f fd ps (SpM T (n + 1) mf) ∧ Binds X.K fd ps []
def tabA (n : Nat) (tab : MTab) : MTab := fun c => (tab c).map (arg (n + 1))
theorem ce_meth {m : Str} {k n : Nat} {tab : MTab} {pl : Sem Bool} (ok : MethOk X T m k n tab) (hr : Room k X.A) (hgd : X.A.guards = some []) (tk : L2N.Takes X W) (ho : PE X o (tE T W mo)) (ha : PA X (e :: es) (tA T W ma))
    (hst : starEach (e :: es) X.env = (false, eval e X.env) :: starEach es X.env := by rfl) (hpl : (backTo pos (starEach es X.env)).any (·.1) = false := by rfl)
    (ht : eval (.Call (.Attribute o m apos) (e :: es) [] pos) X.env = (do let ov ← eval o X.env; standAt apos.atName; let (f, first) ← holding [ov] (getMethod ov m pl); callWith pos f first (backTo pos (starEach (e :: es) X.env)) (backToKw pos (keywordEach [] X.env))) := by rfl)
    (hK : X.K = T.K := by rfl) : PE X (.Call (.Attribute o m apos) (e :: es) [] pos) (tE T W (eMeth m (tabA n tab) mo ma)) := by
  refine ⟨fun pins s σ H Q I h => ?_⟩
  have h : tE T W mo σ H fun x H1 => ∃ (a C dx f : Addr) (fs : List (Str × V)) (mf : List Vl → M Vl) (fd : FuncData) (ps : List Str), x = .ref a ∧ H1 a = some (.ins C dx fs) ∧ Cls T.K C ∧ Meth T.K C m f ∧ fs.lookup m = none ∧ FnG X.prog X.w X.K X.mg X.base k f fd ps (SpM T (n + 1) mf) ∧ Binds X.K fd ps [] ∧
      tA T W ma σ H1 fun vs H2 => SpM T (n + 1) mf (.ref a :: vs ++ []) H2 Q fun c d H' => W c d σ H' := tG_bnd (R := RV T) h fun ρ s lo x z H1 r rl hx p => by
    cases hx with
    | ref hρ =>
      rename_i j a
      simp only at p
      split at p
      · rename_i c fs hj
        split at p
        · rename_i mf hm hg
          unfold tabA at hm
          obtain ⟨mf0, hm0, rfl⟩ := Option.map_eq_some_iff.mp hm
          obtain ⟨C, dx, vs, h1, h2, h3, h4⟩ := r.ins hj hρ
          obtain ⟨f, fd, ps, k1, k2, k3, k4⟩ := ok c mf0 hm0 C h1
          refine ⟨a, C, dx, f, vs, mf0, fd, ps, rfl, h2, k1, k2, (getS_ok (f := m) h3 h4).1 hg, k3, k4, po_bnd (R := RVs T) (m := ma) r rl p fun ρ' s' as zs H' ext r' rl' has p' => ?_⟩
          unfold arg at p'
          split at p'
          · rename_i hl
            rw [List.append_nil]
            exact spM_of r' (.cons (.ref (ext.pre _ _ hρ)) has) hl p'
          · exact p'.elim
        · exact p.elim
      · exact p.elim
    | _ => exact p.elim
  refine PySem.W.methodCall_KW (pl := pl) (thn (ho.run pins s σ H _ I h) fun u s1 ⟨x, H1, I1, rx, a, C, dx, f, fs, mf, fd, ps, ex, ea, cl, mt, l, F, hb, q⟩ => ?_) ht
  subst ex
  obtain rfl : u = Value.ref a := rx
  rw [← hK] at cl mt
  refine getmeth_ok I1 ea cl mt l ?_
  refine PySem.W.callWith_K (first := [.ref a]) (h₀ := X.base) I.ok.mod.kin mt.kp (thn (ha.run pos pins s1 σ H1 _ I1 q) fun us s2 ⟨vs, H2, I2, r, q2⟩ => ⟨I2.kIn, ?_⟩) hst hpl
  exact run_G (us := .ref a :: us) (vs := .ref a :: vs) F hr hgd hb .nil tk I2 (.cons rfl r) q2
theorem ce_meth0 {m : Str} {k : Nat} {tab : MTab} {pl : Sem Bool} (ok : MethOk X T m k 0 tab) (hr : Room k X.A) (hgd : X.A.guards = some []) (tk : L2N.Takes X W) (ho : PE X o (tE T W mo))
    (ht : eval (.Call (.Attribute o m apos) [] [] pos) X.env = (do let ov ← eval o X.env; standAt apos.atName; let (f, first) ← holding [ov] (getMethod ov m pl); callWith pos f first (backTo pos (starEach [] X.env)) (backToKw pos (keywordEach [] X.env))) := by rfl)
    (hK : X.K = T.K := by rfl) : PE X (.Call (.Attribute o m apos) [] [] pos) (tE T W (eMeth m (tabA 0 tab) mo aNil)) := by
  refine ⟨fun pins s σ H Q I h => ?_⟩
  have h : tE T W mo σ H fun x H1 => ∃ (a C dx f : Addr) (fs : List (Str × V)) (mf : List Vl → M Vl) (fd : FuncData) (ps : List Str), x = .ref a ∧ H1 a = some (.ins C dx fs) ∧ Cls T.K C ∧ Meth T.K C m f ∧ fs.lookup m = none ∧ FnG X.prog X.w X.K X.mg X.base k f fd ps (SpM T (0 + 1) mf) ∧ Binds X.K fd ps [] ∧
      SpM T (0 + 1) mf [.ref a] H1 Q fun c d H' => W c d σ H' := tG_bnd (R := RV T) h fun ρ s lo x z H1 r rl hx p => by
    cases hx with
    | ref hρ =>
      rename_i j a
      simp only at p
      split at p
      · rename_i c fs hj
        split at p
        · rename_i mf hm hg
          unfold tabA at hm
          obtain ⟨mf0, hm0, rfl⟩ := Option.map_eq_some_iff.mp hm
          obtain ⟨C, dx, vs, h1, h2, h3, h4⟩ := r.ins hj hρ
          obtain ⟨f, fd, ps, k1, k2, k3, k4⟩ := ok c mf0 hm0 C h1
          exact ⟨a, C, dx, f, vs, mf0, fd, ps, rfl, h2, k1, k2, (getS_ok (f := m) h3 h4).1 hg, k3, k4, spM_of r (.cons (.ref hρ) .nil) rfl p⟩
        · exact p.elim
      · exact p.elim
    | _ => exact p.elim
  refine PySem.W.methodCall_KW (pl := pl) (thn (ho.run pins s σ H _ I h) fun u s1 ⟨x, H1, I1, rx, a, C, dx, f, fs, mf, fd, ps, ex, ea, cl, mt, l, F, hb, q⟩ => ?_) ht
  subst ex
  obtain rfl : u = Value.ref a := rx
  rw [← hK] at cl mt
  refine getmeth_ok I1 ea cl mt l ?_
  exact PySem.W.callWith_K0 (first := [.ref a]) I1.kIn mt.kp (run_G (us := [.ref a]) (vs := [.ref a]) F hr hgd hb .nil tk I1 (.cons rfl .nil) (by rw [List.append_nil]; exact q))
end
/-! ### making -/
/-- C(..): a new object of class c, then __init__ -/
def eMake (c : Nat) (mi : List Vl → M Vl) (a : AM) : EM := fun lo => bnd (a lo) fun as s => match mi (.ref s.length :: as) (s ++ [.ins c []]) with
  | .ok .non s' => .ok (.ref s.length) s'
  | .ok _ _ => .fail
  | .exc e s' => .exc e s'
  | .fail => .fail
theorem under_guards {A : Around} {C : Addr} {us : List Value} (h : A.guards = some []) : (A.under (.builtin "type.__call__" ⟨.ref C :: us, []⟩)).guards = some [] := by
  simp [Around.under, Code.guards, Code.isGuard, guardIds, pushGuards, h]
section
variable {X : Cx} {T : Tb} {W : WX} {e : Expr} {es : List Expr} {p pos : Pos} {ma : AM} {C f : Addr} {fd : FuncData} {ps : List Str} {k n c : Nat} {mi : List Vl → M Vl} {x : Str}
theorem run_mk {pins : List (Addr × Obj)} {σ : L2.St} {H : Hp} {s : Shared} {Q : VK} {us : List Value} {vs : List V} (M : Mk X.K C f) (F : FnG X.prog X.w X.K X.mg X.base k f fd ps (SpM T (n + 1) mi)) (hr : Room (k + 1) X.A) (hgd : X.A.guards = some []) (hb : Binds X.K fd ps []) (tk : L2N.Takes X W) (hc : T.cl[c]? = some C)
    (I : Inv X pins σ H s) (r : Vals vs us)
    (h : ∃ (ρ : List Addr) (st : Sto) (as : List Vl), Rel T ρ H st ∧ RVs T ρ H as vs ∧ as.length = n ∧ Po (RV T) T (fun c d H' => W c d σ H') ρ H (match mi (.ref st.length :: as) (st ++ [.ins c []]) with
      | .ok .non s' => .ok (.ref st.length) s'
      | .ok _ _ => .fail
      | .exc e s' => .exc e s'
      | .fail => (.fail : Res Vl)) Q) : wpAny (model X.prog X.w) X.A (call (.ref C) us) (EP X pins σ Q) X.xe s := by
  obtain ⟨ρ, st, as, rel, has, hl, p⟩ := h
  have f1 : H (s.heap.objs.size + 1) = none := I.hok.fresh (Nat.le_succ _)
  have f0 : H s.heap.objs.size = none := I.hok.fresh (Nat.le_refl _)
  have ne : s.heap.objs.size + 1 ≠ s.heap.objs.size := Nat.succ_ne_self _
  have I2 := Inv.made (C := C) I
  have r2 : Vals (V.ref (s.heap.objs.size + 1) :: vs) (Value.ref (s.heap.objs.size + 1) :: us) := .cons rfl r
  -- the new object in the pure store
  have relD : Rel T ρ (upd H s.heap.objs.size (.own (s.heap.objs.size + 1))) st := rel.laid f0
  have f1' : upd H s.heap.objs.size (.own (s.heap.objs.size + 1)) (s.heap.objs.size + 1) = none := by rw [upd_ne ne]; exact f1
  have ext : Ext T ρ H (ρ ++ [s.heap.objs.size + 1]) (upd (upd H s.heap.objs.size (.own (s.heap.objs.size + 1))) (s.heap.objs.size + 1) (.ins C s.heap.objs.size [])) := (ext_upd f0).trans (relD.newExt f1')
  have relN : Rel T (ρ ++ [s.heap.objs.size + 1]) (upd (upd H s.heap.objs.size (.own (s.heap.objs.size + 1))) (s.heap.objs.size + 1) (.ins C s.heap.objs.size [])) (st ++ [.ins c []]) := relD.new f1' ⟨C, _, [], hc, upd_same, rfl, .nil⟩
  have sp : SpM T (n + 1) mi (V.ref (s.heap.objs.size + 1) :: vs) (upd (upd H s.heap.objs.size (.own (s.heap.objs.size + 1))) (s.heap.objs.size + 1) (.ins C s.heap.objs.size [])) (fun v H2 => v = .non ∧ Q (.ref (s.heap.objs.size + 1)) H2) fun c d H' => W c d σ H' := by
    refine ⟨_, _, .ref st.length :: as, relN, .cons rel.newRef (has.mono ext), by rw [List.length_cons, hl], ?_⟩
    cases e : mi (.ref st.length :: as) (st ++ [.ins c []]) with
    | fail => rw [e] at p; exact p
    | exc z s' => rw [e] at p; exact fun ρ' H' D x' => p ρ' H' D (ext.trans x')
    | ok v s' =>
      rw [e] at p
      intro ρ' H' z x' r' hz
      cases v <;> try exact p.elim
      exact ⟨hz.nonE, p ρ' H' _ (ext.trans x') r' (.ref (x'.pre _ _ (by rw [← rel.len, List.getElem?_append_right (Nat.le_refl _)]; simp)))⟩
  refine wpAny_call (make_map (f := f) I.kIn M.makes M.init (beq_iff_eq.mp M.fn) (codeAny_mono (F.run _ X.stack _ _ ⟨Value.ref (s.heap.objs.size + 1) :: us, []⟩ _ _ _ _ (hr.make C us []) (under_guards hgd) (I2.env0.make C us []) (by
    have := hb _ (Value.ref (s.heap.objs.size + 1) :: us) I2.kIn (by rw [List.append_nil, ← r2.length]; exact F.len _ _ _ _ sp)
    rw [List.append_nil] at this
    exact this) r2 sp) fun z s' hq => ?_))
  cases z with
  | error y => exact tk y s' (L2N.XE.of_call I2 (fun _ _ _ q => q) hq)
  | ok fl =>
    cases fl with
    | ret u =>
      obtain ⟨v, H', I3, rv, ev, q3⟩ := I2.after hq
      subst ev
      exact ⟨rv, ⟨V.ref (s.heap.objs.size + 1), H', I3, rfl, q3⟩⟩
    | next => exact hq.elim
    | brk => exact hq.elim
    | cont => exact hq.elim
def argI (n : Nat) (mf : List Vl → M Vl) : List Vl → M Vl := fun as s => if as.length = n + 1 then mf as s else .fail
theorem ce_make (M : Mk X.K C f) (F : FnG X.prog X.w X.K X.mg X.base k f fd ps (SpM T (n + 1) mi)) (hr : Room (k + 1) X.A) (hgd : X.A.guards = some []) (hg : Gl X x) (hm : X.mg x = some (.ref C)) (hb : Binds X.K fd ps []) (tk : L2N.Takes X W) (hc : T.cl[c]? = some C) (ha : PA X (e :: es) (tA T W ma))
    (hdb : (x == ("__debug__" : Str)) = false := by decide) (he : starEach (e :: es) X.env = (false, eval e X.env) :: starEach es X.env := by rfl) (hpl : (backTo pos (starEach es X.env)).any (·.1) = false := by rfl) :
    PE X (.Call (.Name x p) (e :: es) [] pos) (tE T W (eMake c (argI n mi) ma)) := by
  refine ⟨fun pins s σ H Q I h => wpAny_Call_Name_kw (ld_glob I hg hm ?_ hdb)⟩
  have h : tA T W ma σ H fun vs H1 => ∃ (ρ : List Addr) (st : Sto) (as : List Vl), Rel T ρ H1 st ∧ RVs T ρ H1 as vs ∧ as.length = n ∧ Po (RV T) T (fun c d H' => W c d σ H') ρ H1 (match mi (.ref st.length :: as) (st ++ [.ins c []]) with
      | .ok .non s' => .ok (.ref st.length) s'
      | .ok _ _ => .fail
      | .exc e s' => .exc e s'
      | .fail => (.fail : Res Vl)) Q := tG_bnd (R := RVs T) h fun ρ s lo xs zs H1 r rl hx q => by
    unfold argI at q
    split at q
    · rename_i q1
      split at q1
      · rename_i hl
        refine ⟨ρ, s, xs, r, hx, by simpa using hl, ?_⟩
        rw [q1]
        exact q
      · cases q1
    · exact q.elim
    · rename_i q1
      split at q1
      · rename_i hl
        refine ⟨ρ, s, xs, r, hx, by simpa using hl, ?_⟩
        rw [q1]
        exact q
      · cases q1
    · exact q.elim
  refine PySem.W.callWith_K (h₀ := X.base) I.ok.mod.kin M.kp (thn (ha.run pos pins s σ H _ I h) fun us s1 ⟨vs, H1, I1, r, q⟩ => ⟨I1.kIn, ?_⟩) he hpl
  exact run_mk M F hr hgd hb tk hc I1 r q
end
end Sm

/-! S11: sets of ints: set(list), sorted(set) -/
namespace L2
open PySem PySem.Spec PyProof.Rows
abbrev set0 (w : World) : Obj := { cls := .type "set", dict := none, data := .set #[] 0 (.fresh 0 0 (!w.params.followText "set-order")) }
section
variable {P : Program} {w : World} {A : Around} {E : Value → Shared → Prop} {s : Shared}
/-- set(l), l a list of ints -/
theorem call_set_lst {l : Addr} {items : Array Value} (ns : List Int) {Q : Value → Shared → Prop} (hh : A.handled = none) (hl : s.heap.IsList l items) (hit : IntsAre items.toList ns) (hb : ns.length + 1 < scanBound)
    (h : ∀ (h' : Heap) (tk c : Nat), SetR w h' s.heap.objs.size (fun j => decide (j ∈ ns)) c → (∀ b o, s.heap.get? b = some o → h'.get? b = some o) → Q (.ref s.heap.objs.size) { s with heap := h', toks := tk }) :
    wpAny (model P w) A (call (.type "set") [.ref l]) Q E s := by
  have hz : items.size = ns.length := by rw [← Array.length_toList]; exact hit.length
  obtain ⟨c, tl, hmro⟩ := F.called_set.mro
  have hmade := F.called_set.made
  have hsub := F.called_set.sub
  have h1 := F.called_set.notType
  have h2 := F.called_set.canCreate
  have hct := F.typeCall_set_1 (.ref l)
  refine wpAny_call (codeAny_of_tree (show wpAny _ _ (callAny (.type "set") _) _ _ _ from wpAny_pure ⟨Code.quiet_builtin _ (by decide +kernel), codeAny_builtin F.entry_type_call ?_⟩))
  rw [Around.under_plain (weight_type_call_type "set" [.ref l] []) rfl]
  repeat (any_goals (first | assumption | wp_step))
  refine codeAny_mono (code_set_led1 (.ref l) (E := E) (Q₁ := fun obj s₁ => obj = .ref s.heap.objs.size ∧ s₁ = { s with heap := s.heap.push (set0 w) }) ⟨rfl, rfl⟩) fun r s₁ hr => ?_
  cases r with
  | error e => exact hr
  | ok fl =>
    cases fl with
    | ret obj =>
      obtain ⟨rfl, rfl⟩ := hr
      have hS : (s.heap.push (set0 w)).get? s.heap.objs.size = some (set0 w) := Heap.get?_push_size _ rfl
      have hT : Shared.TypeIs { s with heap := s.heap.push (set0 w) } (.ref s.heap.objs.size) "set" := ⟨_, hS, rfl⟩
      have hli := F.called_set.init.lookup
      have hbi := F.called_set.init.bind (.ref s.heap.objs.size)
      repeat (any_goals (first | assumption | wp_step))
      refine codeAny_mono (codeAny_call_builtin (R := wants (fun r s₂ => r = .none ∧ ∃ h' tk c, s₂ = { s with heap := h', toks := tk } ∧ SetR w h' s.heap.objs.size (fun j => decide (j ∈ ns)) c ∧ ∀ b o, s.heap.get? b = some o → h'.get? b = some o) E) F.called_set.init.plain F.entry_set_init (check_set_init_1 hT ?_)) fun r₂ s₂ hr₂ => ?_
      · obtain ⟨⟨oc, od, oda, osl⟩, ho, hc, nl, hd⟩ := hl
        obtain rfl : oc = _ := hc
        obtain rfl : oda = _ := hd
        have hS2 := F.sub_list_set
        have hF2 := F.sub_list_frozenset
        have hne : (Value.type "list" == Value.type "dict") = false := by decide
        have ho' := Heap.get?_push_of_some (set0 w) ho
        have hl1 : (s.heap.push (set0 w)).IsList l items := ⟨_, ho', rfl, nl, rfl⟩
        unfold Builtin.«set.__init__» noKeywords Builtin.Frozenset.updateFrom
        generalize hPI : pyIter = PI
        wp_walk
        subst hPI
        refine wpAny_pyIter_list hl1 (wpAny_bind (wpAny_runValue ?_))
        have lS : l < s.heap.objs.size := Heap.lt_size ho
        have eS : (s.heap.push (set0 w)).objs.size = s.heap.objs.size + 1 := Heap.size_push ..
        refine set_update_ints ((Walks.list (A := A.in1.in1.in1) (by simp [hh]) (s.heap.push (set0 w)).objs.size l (by rw [eS]; exact Nat.ne_of_lt (Nat.lt_succ_of_lt lS)) items).toS) s.heap.objs.size (by rw [eS]; simp only [List.mem_cons, List.not_mem_nil, or_false, not_or]; exact ⟨Nat.ne_of_lt (Nat.lt_succ_self _), Nat.ne_of_gt lS⟩) ns hz hb (fun i v hv => ?_) (items.size - 0) 0 _ (by omega) (Nat.zero_le _)
          ⟨⟨_, Heap.get?_push_size _ rfl, rfl, rfl⟩, (hl1.push _)⟩ ⟨0, Nat.le_refl 0, setR_new_at (Heap.get?_push_of_some _ hS)⟩ fun s' c' hm hc' hS' => ?_
        · have hi : i < ns.length := by rw [← hz]; exact (Array.getElem?_eq_some_iff.mp hv).1
          obtain ⟨t, e⟩ := PyProof.Rows.IntsAre.int_at hit i v (by rw [Array.getElem?_toList]; exact hv)
          exact ⟨ns[i], t, List.getElem?_eq_getElem hi, by rw [e, List.getD_eq_getElem?_getD, List.getElem?_eq_getElem hi] <;> rfl⟩
        · obtain ⟨h', g2, d', tk', os'⟩ := s'
          obtain rfl : g2 = s.gens := hm.gens
          obtain rfl : d' = s.drawn := hm.drawn
          obtain rfl : os' = s.os := hm.os
          refine wpAny_pure (show wpAny _ _ (ret Value.none) _ _ _ from wpAny_pure ⟨rfl, h', tk', c', rfl, hS', fun b o e => ?_⟩)
          have lb : b < s.heap.objs.size := Heap.lt_size e
          exact hm.heap b o (by rw [eS]; simp only [List.mem_cons, List.not_mem_nil, or_false, not_or]; exact ⟨Nat.ne_of_lt lb, Nat.ne_of_lt (Nat.lt_succ_of_lt lb)⟩) (Heap.get?_push_of_some _ (Heap.get?_push_of_some _ e))
      · cases r₂ with
        | error e => exact hr₂
        | ok fl₂ =>
          cases fl₂ with
          | ret r =>
            obtain ⟨rfl, h', tk, c', rfl, hS', hk'⟩ := hr₂
            repeat (any_goals (first | assumption | wp_step))
            exact h _ _ _ hS' hk'
          | _ => exact hr₂.elim
    | _ => exact hr.elim
end
theorem nodup_len {α : Type} [DecidableEq α] : ∀ (a b : List α), a.Nodup → b.Nodup → (∀ x, x ∈ a ↔ x ∈ b) → a.length = b.length := fun a b ha hb h => by
  exact ((List.perm_ext_iff_of_nodup ha hb).mpr h).length_eq
theorem SetR.size {w : World} {h : Heap} {a : Addr} {S : Int → Bool} {n : Nat} (R : SetR w h a S n) {xs : List Int} (nd : xs.Nodup) (hS : ∀ k, S k = true ↔ k ∈ xs) : n = xs.length := by
  obtain ⟨o, es, ep, t, h1, h2, h3, h4, h5, h6, h7, h8, h9, _⟩ := R
  rw [← h9, ← Array.length_toList, ← List.length_map (f := keyOf) (as := es.toList)]
  exact nodup_len _ _ h5 nd fun x => (h6 x).symm.trans (hS x)
end L2
namespace Sm
open PySem PySem.Spec PyProof.Rows L2
/-- the unlike ones of a list, each at its last place -/
def ddup : List Int → List Int
  | [] => []
  | x :: xs => if x ∈ xs then ddup xs else x :: ddup xs
def oSet : OC
  | [x], s => match lstOf x s with
    | some xs => match mapO asInt xs with
      | some ns => if ns.length < 4000 then some (.ref s.length, s ++ [.set (ddup ns)]) else none
      | none => none
    | none => none
  | _, _ => none
/-- sorted of a list or of a set of ints -/
def oSortS : OC
  | [.ref j], s => match s[j]? with
    | some (.lst xs) => (mapO asInt xs).map fun ns => (.ref s.length, s ++ [.lst ((srt ns).map Vl.int)])
    | some (.set xs) => if xs.length < 64 then some (.ref s.length, s ++ [.lst ((srt xs).map Vl.int)]) else none
    | _ => none
  | _, _ => none
section
variable {X : Cx} {T : Tb}
theorem lt_le {l : List Int} (h : l.Pairwise (· < ·)) : l.Pairwise (· ≤ ·) := h.imp fun q => Int.le_of_lt q
theorem lt_nodup {l : List Int} (h : l.Pairwise (· < ·)) : l.Nodup := h.imp fun q => Int.ne_of_lt q
theorem c_sortS (hc : X.calm = true := by rfl) (hw : X.w = T.w := by rfl) : CallR X (.builtin "sorted") (rC T oSortS) := fun pins s σ H xs us Q I rs q => by
  obtain ⟨ρ, st, as, v, s', r, ha, e, k⟩ := q
  unfold oSortS at e
  split at e
  · rename_i s0 j
    split at e
    · rename_i ys hy
      exact c_sorted pins s σ H xs us Q I rs ⟨ρ, _, [.ref j], v, s', r, ha, by simp only [oSorted, lstOf, hy]; exact e, k⟩
    · rename_i ys hy
      split at e
      · rename_i hl
        cases e
        obtain ⟨z, rfl, hz⟩ := ha.one
        obtain ⟨p, rfl, hp⟩ := hz.refE
        obtain ⟨nd, S, hS, hH⟩ := r.ob _ _ _ hp hy
        refine cr_sortedSet hc pins s σ H _ us Q I rs ⟨p, S, _, rfl, by rw [hw]; exact hH, hl, fun ns q h1 h2 h3 hq => ?_⟩
        have : ns = srt ys := srt_eq ((List.perm_ext_iff_of_nodup (lt_nodup h1) nd).mpr fun a => (h2 a).trans (hS a)) (lt_le h1)
        rw [this]
        exact k.lst r (RVs.ints _) hq
      · cases e
    · cases e
  · cases e
end
end Sm

/-! S12: dicts: displays, their values walked and listed -/
namespace Sm
open PySem PySem.Spec PyProof.Rows L2
def eDict0 : EM := fun _ s => .ok (.ref s.length) (s ++ [.dic []])
/-- the pairs of a display -/
def dpM : List (EM × EM) → Lo → M (List (Vl × Vl))
  | [], _ => ret []
  | (k, v) :: r, lo => bnd (k lo) fun x => bnd (v lo) fun y => bnd (dpM r lo) fun ps => ret ((x, y) :: ps)
def keyP (p : Vl × Vl) : Option (Key × Vl) := match keyOf p.1 with
  | some k => some (k, p.2)
  | none => none
def mergeP (kvs more : List (Key × Vl)) : List (Key × Vl) := more.foldl (fun acc kv => put acc kv.1 kv.2) kvs
def eDict (ps : List (EM × EM)) : EM := fun lo s => match dpM ps lo (s ++ [.dic []]) with
  | .ok prs s' => match s'[s.length]?, mapO keyP prs with
    | some (.dic []), some kvs => if kvs.length ≤ 15 then .ok (.ref s.length) (s'.set s.length (.dic (mergeP [] kvs))) else .fail
    | _, _ => .fail
  | .exc e s' => .exc e s'
  | .fail => .fail
def RP (T : Tb) : List Addr → Hp → List (Vl × Vl) → List (V × V) → Prop := fun ρ H ps qs => RVs T ρ H (ps.map (·.1)) (qs.map (·.1)) ∧ RVs T ρ H (ps.map (·.2)) (qs.map (·.2))
section
variable {X : Cx} {T : Tb} {W : WX} {pos : Pos}
theorem ce_dict0 : PE X (.Dict [] [] pos) (tE T W eDict0) := pe_mono pe_dnewK fun σ H Q h => by
  obtain ⟨ρ, s, lo, r, rl, p⟩ := h
  exact fun q hq => p (ρ ++ [q]) _ _ (r.newExt hq) (r.new (b := .dic []) hq ⟨[], upd_same, rfl, .nil⟩) r.newRef
theorem pairs_le {σ : L2.St} : ∀ {ps : List (EM × EM)} {H : Hp} {Q : List (V × V) → Hp → Prop}, tG (RP T) T W (dpM ps) σ H Q → tPairs (ps.map fun p => (tE T W p.1, tE T W p.2)) σ H Q
  | [], H, Q, h => by
    obtain ⟨ρ, s, lo, r, rl, p⟩ := h
    exact p ρ H [] .refl r ⟨.nil, .nil⟩
  | (k, v) :: ps, H, Q, h => tG_bnd (R := RV T) h fun ρ s lo x z H1 r rl hx p => po_bnd (R := RV T) (m := v) r rl p fun ρ1 s1 y z1 H2 e1 r1 rl1 hy p1 =>
      pairs_le (po_bnd (R := RP T) (m := dpM ps) r1 rl1 p1 fun ρ2 s2 prs qs H3 e2 r2 rl2 hp p2 => p2 ρ2 H3 _ .refl r2 ⟨.cons (hx.mono (e1.trans e2)) hp.1, .cons (hy.mono e2) hp.2⟩)
theorem keyP_ok {ρ : List Addr} {H : Hp} : ∀ {ps : List (Vl × Vl)} {qs : List (V × V)} {kvs : List (Key × Vl)}, RP T ρ H ps qs → mapO keyP ps = some kvs → ∃ vs : List (Key × V), qs = vs.map (fun kv => (kV kv.1, kv.2)) ∧ vs.map (·.1) = kvs.map (·.1) ∧ RVs T ρ H (kvs.map (·.2)) (vs.map (·.2))
  | [], [], _, _, e => by
    simp only [mapO] at e
    cases e
    exact ⟨[], rfl, rfl, .nil⟩
  | [], _ :: _, _, h, _ => by cases h.1
  | _ :: _, [], _, h, _ => by cases h.1
  | (a, b) :: ps, (x, y) :: qs, kvs, h, e => by
    obtain ⟨h1, h2⟩ := h
    rw [List.map_cons, List.map_cons] at h1 h2
    cases h1 with
    | cons a1 a2 =>
      cases h2 with
      | cons b1 b2 =>
        simp only [mapO] at e
        split at e
        · rename_i kv kvs' e1 e2
          cases e
          unfold keyP at e1
          split at e1
          · rename_i k hk
            cases e1
            obtain ⟨vs, rfl, g2, g3⟩ := keyP_ok ⟨a2, b2⟩ e2
            refine ⟨(k, y) :: vs, ?_, by simp [g2], .cons b1 g3⟩
            have := keyOf_ok a1 hk
            simp only at this
            rw [this]; rfl
          · cases e1
        · cases e
theorem putK_nodup {kvs : List (Key × V)} {k : Key} {v : V} (h : (kvs.map (·.1)).Nodup) : ((putK kvs k v).map (·.1)).Nodup := by
  unfold putK
  split
  · have : (kvs.map fun kv => if kv.1 = k then (kv.1, v) else kv).map (·.1) = kvs.map (·.1) := by
      rw [List.map_map]
      apply List.map_congr_left
      intro p _
      simp only [Function.comp]
      split <;> rfl
    rw [this]; exact h
  · rename_i hn
    rw [List.map_append, List.nodup_append]
    refine ⟨h, by simp, fun a ha b hb => ?_⟩
    simp at hb
    subst hb
    intro e
    subst e
    obtain ⟨p, hp, e⟩ := List.mem_map.mp ha
    exact hn (List.any_eq_true.mpr ⟨p, hp, by simp [e]⟩)
theorem merge_ok {ρ : List Addr} {H : Hp} : ∀ {more : List (Key × Vl)} {ms : List (Key × V)} {kvs : List (Key × Vl)} {vs : List (Key × V)}, ms.map (·.1) = more.map (·.1) → RVs T ρ H (more.map (·.2)) (ms.map (·.2)) → (vs.map (·.1)).Nodup → vs.map (·.1) = kvs.map (·.1) → RVs T ρ H (kvs.map (·.2)) (vs.map (·.2)) →
    (mergeK vs ms).map (·.1) = (mergeP kvs more).map (·.1) ∧ RVs T ρ H ((mergeP kvs more).map (·.2)) ((mergeK vs ms).map (·.2))
  | [], [], _, _, _, _, _, e, h => ⟨e, h⟩
  | [], _ :: _, _, _, e, _, _, _, _ => by simp at e
  | _ :: _, [], _, _, e, _, _, _, _ => by simp at e
  | (k, v) :: more, (k', z) :: ms, kvs, vs, e, h, nd, e2, h2 => by
    simp only [List.map_cons, List.cons.injEq] at e
    rw [List.map_cons, List.map_cons] at h
    obtain ⟨e1, e3⟩ := e
    subst e1
    cases h with
    | cons a b =>
      obtain ⟨g1, g2⟩ := put_ok (k := k') a nd e2 h2
      exact merge_ok (more := more) (ms := ms) (kvs := put kvs k' v) (vs := putK vs k' z) e3 b (putK_nodup nd) g1 g2
theorem ce_dict {keys : List (Option Expr)} {values : List Expr} {ps : List (EM × EM)} (h : PPs X pos keys values (ps.map fun p => (tE T W p.1, tE T W p.2))) (hall : keys.all (·.isSome) = true := by rfl) (hl : keys.length = values.length := by rfl) (h0 : keys ≠ [] := by exact fun z => nomatch z)
    (h15 : keys.length ≤ 15 := by decide) : PE X (.Dict keys values pos) (tE T W (eDict ps)) := pe_mono (pe_disp h hall hl h0 h15) fun σ H Q h => by
  obtain ⟨ρ, s, lo, r, rl, p⟩ := h
  intro q hq
  have xD : Ext T ρ H (ρ ++ [q]) (upd H q (.dK [])) := r.newExt hq
  have aD : (ρ ++ [q])[s.length]? = some q := by rw [← r.len, List.getElem?_append_right (Nat.le_refl _)]; simp
  refine pairs_le ⟨ρ ++ [q], s ++ [.dic []], lo, r.new (b := .dic []) hq ⟨[], upd_same, rfl, .nil⟩, rl.mono xD, ?_⟩
  unfold eDict at p
  cases e : dpM ps lo (s ++ [.dic []]) with
  | fail => rw [e] at p; exact p
  | exc z s' => rw [e] at p; exact fun ρ' H' C x => p ρ' H' C (xD.trans x)
  | ok prs s' =>
    rw [e] at p
    intro ρ' H' qs x r' hp
    simp only at p
    split at p
    · rename_i kvs hd hk
      split at p
      · rename_i hn
        have aD' := x.pre _ _ aD
        obtain ⟨vs0, g1, g2, _⟩ := r'.dic hd aD'
        have : vs0 = [] := by simpa using g2
        subst this
        obtain ⟨vs, rfl, k2, k3⟩ := keyP_ok hp hk
        refine ⟨g1, vs, rfl, ?_, ?_⟩
        · have : vs.length = kvs.length := by have := congrArg List.length k2; simpa using this
          rw [this]; exact hn
        · obtain ⟨m1, m2⟩ := merge_ok (kvs := []) (vs := []) k2 k3 (by simp) rfl .nil
          exact p ρ' _ _ ((xD.trans x).trans (r'.setExt aD' g1)) (r'.set aD' ⟨_, upd_same, m1, m2.mono (r'.setExt aD' g1)⟩) (.ref aD')
      · exact p.elim
    · exact p.elim
/-! ### the values of a dict, walked in a comprehension: it is locked meanwhile -/
def nxVals (j : Nat) : NX := fun i s => match s[j]? with
  | some (.fdic kvs) => match kvs[i]? with
    | some kv => some (some kv.2)
    | none => some none
  | _ => none
def iVal (e : EM) : IM := fun lo => bnd (e lo) fun x => match x with
  | .ref j => fun s => match s[j]? with
    | some (.fdic _) => .ok (nxVals j) s
    | _ => .fail
  | _ => failM
/-- c run while the dict of e is locked -/
def eLock (e c : EM) : EM := fun lo s => match e lo s with
  | .ok (.ref j) _ => match s[j]? with
    | some (.dic kvs) => match c lo (s.set j (.fdic kvs)) with
      | .ok v s' => match s'[j]? with
        | some (.fdic _) => .ok v (s'.set j (.dic kvs))
        | _ => .fail
      | _ => .fail
    | _ => .fail
  | _ => .fail
theorem RVs.vals_at {ρ : List Addr} {H : Hp} {kvs : List (Key × Vl)} {vs : List (Key × V)} {i : Nat} {kv : Key × Vl} (e : vs.map (·.1) = kvs.map (·.1)) (h : RVs T ρ H (kvs.map (·.2)) (vs.map (·.2))) (hi : kvs[i]? = some kv) : ∃ z, vs[i]? = some (kv.1, z) ∧ RV T ρ H kv.2 z := by
  obtain ⟨z, h1, h2⟩ := h.get (i := i) (x := kv.2) (by rw [List.getElem?_map, hi]; rfl)
  rw [List.getElem?_map] at h1
  cases q : vs[i]? with
  | none => rw [q] at h1; cases h1
  | some p =>
    rw [q] at h1
    have h1 : p.2 = z := Option.some.inj h1
    have e' : (vs.map (·.1))[i]? = (kvs.map (·.1))[i]? := by rw [e]
    rw [List.getElem?_map, List.getElem?_map, q, hi] at e'
    have e' : p.1 = kv.1 := Option.some.inj e'
    refine ⟨z, ?_, h2⟩
    rw [← h1, ← e']
theorem ci_vals {tg e : Expr} {me : EM} {apos cpos : Pos} (he : PE X e (tE T W me)) (hbase : attributeBase e "values" X.env (eval e X.env) = eval e X.env := by rfl) (hline : (apos.endLine == cpos.line) = true := by rfl) : PI X tg (.Call (.Attribute e "values" apos) [] [] cpos) (tI T W (iVal me)) :=
  pi_mono (pi_values he hbase hline) fun σ H R h => by
    obtain ⟨ρ, s, lo, r, rl, q⟩ := h
    refine po_bnd (R := RV T) (m := me) r rl q fun ρ1 s1 x z H1 ext1 r1 rl1 hx p1 => ?_
    cases hx with
    | ref ha =>
      rename_i j a
      simp only at p1
      split at p1
      · rename_i kvs hj
        obtain ⟨o, vs, h1, h2, h3⟩ := r1.ob _ _ _ ha hj
        refine ⟨a, o, vs, rfl, h1, p1 ρ1 H1 _ .refl r1 ?_⟩
        intro ρ2 H2 s2 i e2 r2
        have ha2 := e2.pre _ _ ha
        have hfz := e2.frd _ _ _ h1
        unfold nxVals
        cases e : s2[j]? with
        | none => trivial
        | some ob =>
          cases ob with
          | fdic kvs2 =>
            obtain ⟨o', vs', g1, g2, g3⟩ := r2.ob _ _ _ ha2 e
            rw [hfz] at g1
            cases g1
            simp only
            have hlen : vs.length = kvs2.length := by have := congrArg List.length g2; simpa using this
            cases e3 : kvs2[i]? with
            | none => exact ⟨hfz, by rw [hlen]; exact List.getElem?_eq_none_iff.mp e3⟩
            | some kv =>
              obtain ⟨w, hw, rw'⟩ := RVs.vals_at g2 g3 e3
              refine ⟨⟨hfz, by rw [hlen]; exact (List.getElem?_eq_some_iff.mp e3).1⟩, fun x H3 y => ?_⟩
              obtain ⟨rfl, k, y⟩ := y
              rw [hw] at y
              cases y
              exact ⟨.refl, r2, rw'⟩
          | _ => trivial
      · exact p1.elim
    | _ => exact p1.elim
theorem lock_le {e c : EM} {t : TE} {σ : L2.St} {H : Hp} {Q : VK} (hc : ∀ H Q, tE T W c σ H Q → t σ H Q) (h : tE T W (eLock e c) σ H Q) : tLockE t σ H Q := by
  obtain ⟨ρ, s, lo, r, rl, p⟩ := h
  unfold eLock at p
  split at p
  · rename_i j s1 e1
    split at p
    · rename_i kvs hj
      split at p
      · rename_i v s' e2
        split at p
        · rename_i kvs' hj'
          obtain ⟨a, ha, _⟩ := r.at hj
          obtain ⟨vs, h1, h2, h3⟩ := r.dic hj ha
          refine ⟨a, .dK vs, h1, trivial, fun od => hc _ _ ?_⟩
          have x1 : Ext T ρ H ρ (upd H a (.frz od (.dK vs))) := r.setExt ha h1
          refine ⟨ρ, s.set j (.fdic kvs), lo, r.set ha ⟨od, vs, upd_same, h2, h3.mono x1⟩, rl.mono x1, ?_⟩
          rw [e2]
          intro ρ' H' z x' r' hz
          have hfz : H' a = some (.frz od (.dK vs)) := x'.frd _ _ _ upd_same
          refine ⟨hfz, ?_⟩
          have ha' := x'.pre _ _ ha
          have e0 : Ext0 T ρ' H' ρ' (upd H' a (.dK vs)) := ext0_set hfz fun z => z
          have e1 : Ext0 T ρ H ρ' (upd H' a (.dK vs)) := ⟨fun i b q => x'.pre i b q, fun b us q => e0.tup _ _ (x'.tup _ _ (x1.tup _ _ q)), fun b o u q => e0.frz _ _ _ (x'.frz _ _ _ (x1.frz _ _ _ q)), fun b u q => e0.xd _ _ (x'.xd _ _ (x1.xd _ _ q))⟩
          refine p ρ' _ z ⟨e1, fun b o u q => ?_⟩ (r'.set ha' ⟨vs, upd_same, h2, h3.mono0 e1⟩) (hz.mono0 e0)
          have nb : b ≠ a := fun z => by subst z; rw [h1] at q; cases q
          rw [upd_ne nb]
          exact x'.frd _ _ _ (x1.frd _ _ _ q)
        · exact p.elim
      · exact p.elim
    · exact p.elim
  · exact p.elim
theorem ce_lock {e : EM} {c : EM} {ex : Expr} (h : PE X ex (tE T W c)) : PE X ex (tE T W (eLock e c)) := pe_mono (pe_lock h) fun σ H Q q => lock_le (fun _ _ z => z) q
/-- list(d.values()) -/
def eListVals (e : EM) : EM := fun lo => bnd (e lo) fun x s => match x with
  | .ref j => match s[j]? with
    | some (.dic kvs) => .ok (.ref s.length) (s ++ [.lst (kvs.map (·.2))])
    | _ => .fail
  | _ => .fail
end
end Sm

/-! S18: walls (code that the pure program never reaches), recursion -/
namespace Sm
open PySem L2
section
variable {X : Cx} {T : Tb} {W : WX}
def eFail : EM := fun _ => failM
def sFail : SM := fun _ _ => .fail
end
def mFail : List Vl → M Vl := fun _ => failM
theorem fnG_fail {P : Program} {w : World} {K : PySem.W.Frag} {mg : Str → Option Value} {base : Heap} {k n : Nat} {f : Addr} {fd : FuncData} {ps : List Str} {T : Tb} : FnG P w K mg base k f fd ps (SpM T n mFail) :=
  ⟨fun vs H Q E ⟨_, _, _, _, _, _, p⟩ => p.elim, fun A outer s H args us vs Q E _ _ _ _ _ ⟨_, _, _, _, _, _, p⟩ => p.elim⟩
end Sm

/-! S19: making objects of classes without an __init__ -/
namespace Sm
open PySem L2 PySem.W
structure MkB (K : PySem.W.Frag) (C : Addr) : Prop where
  makes : PySem.W.makesIn K C = true
  init : PySem.W.findIn K (.ref C) "__init__" = some (some (.builtin "object.__init__"))
  top : PySem.W.mroIn K C (.type "object") = some true
  kp : PySem.W.keepIn K (.ref C) = true
def eMakeB (c : Nat) : EM := fun _ s => .ok (.ref s.length) (s ++ [.ins c []])
end Sm

/-! S22: defs with a star parameter, objects made by such an __init__; objects that are called -/
namespace Sm
open PySem PySem.Spec PyProof.Rows L2
/-- a def's promise at any number of arguments -/
def FnV (P : Program) (w : World) (K : PySem.W.Frag) (mg : Str → Option Value) (base : Heap) (k : Nat) (f : Addr) (sp : Sp) : Prop :=
  ∀ (A : Around) (outer : List Env) (s : Shared) (H : Hp) (us : List Value) (vs : List V) (Q : VK) (E : XK), Room k A → A.guards = some [] → Env0 P w K mg base A outer s H → Vals vs us → sp vs H Q E →
    codeAny (model P w) A (.call (.ref f) ⟨us, []⟩) (CR (L2N.CX P w) outer P w H s Q E) s
theorem FnV.mono {P : Program} {w : World} {K : PySem.W.Frag} {mg : Str → Option Value} {base : Heap} {j k : Nat} {f : Addr} {sp : Sp} (F : FnV P w K mg base j f sp) (h : j ≤ k) : FnV P w K mg base k f sp := fun A outer s H us vs Q E hr => F A outer s H us vs Q E (hr.mono h)
def SpV (T : Tb) (m : List Vl → M Vl) : Sp := fun vs H Q E => ∃ (ρ : List Addr) (s : Sto) (as : List Vl), Rel T ρ H s ∧ RVs T ρ H as vs ∧ Po (RV T) T E ρ H (m as s) Q
/-- n parameters, the rest a tuple -/
def starM (n : Nat) (mf : List Vl → M Vl) : List Vl → M Vl := fun as s => if n ≤ as.length ∧ as.length ≤ LIM then mf (as.take n ++ [.tup (as.drop n)]) s else .fail
/-- how a def with a star parameter binds -/
def BindV (fd : FuncData) (ps : List Str) (pv : Str) : Prop := ∀ us rest : List Value, us.length = ps.length → bindArgs fd ⟨us ++ rest, []⟩ = (newTuple rest >>= fun t => pure (ps.zip us ++ [(pv, t)]))
section
variable {X : Cx} {T : Tb} {W : WX} {e : Expr} {es : List Expr} {p pos : Pos} {ma : AM} {C f : Addr} {k c : Nat} {mi : List Vl → M Vl} {x : Str}
end
/-! ### objects that are called -/
def eCallO (tab : MTab) (o : EM) (a : AM) : EM := fun lo => bnd (o lo) fun x s => match x with
  | .ref j => bnd (a lo) (fun as s => match s[j]? with
    | some (.ins c fs) => match tab c with
      | some mf => mf (.ref j :: as) s
      | none => .fail
    | _ => .fail) s
  | _ => .fail
def CallOk (X : Cx) (T : Tb) (k n : Nat) (tab : MTab) : Prop := ∀ c mf, tab c = some mf → ∀ C, T.cl[c]? = some C → ∃ (f : Addr) (fd : FuncData) (ps : List Str), StX.CallO T.K C f ∧ FnG X.prog X.w X.K X.mg X.base k f fd ps (SpM T (n + 1) mf) ∧ Binds X.K fd ps []
section
variable {X : Cx} {T : Tb} {W : WX} {k n : Nat} {f : Addr} {fd : FuncData} {ps : List Str} {mf : List Vl → M Vl} {pos : Pos} {e o : Expr} {es : List Expr} {ma : AM} {mo : EM} {ds : List Value} {dvs : List V}
theorem code_G {sp : Sp} {pins : List (Addr × Obj)} {σ : L2.St} {H : Hp} {s : Shared} {Q : VK} {us : List Value} {vs : List V} (F : FnG X.prog X.w X.K X.mg X.base k f fd ps sp) (hr : Room k X.A) (hg : X.A.guards = some []) (hb : Binds X.K fd ps ds) (hd : Vals dvs ds) (tk : L2N.Takes X W)
    (I : Inv X pins σ H s) (r : Vals vs us) (h : sp (vs ++ dvs) H Q fun c d H' => W c d σ H') :
    codeAny (model X.prog X.w) X.A (.call (.ref f) ⟨us, []⟩) (fun r s' => match r with | .ok (.ret v) => EP X pins σ Q v s' | .ok _ => False | .error e => X.xe e s') s := by
  have r2 : Vals (vs ++ dvs) (us ++ ds) := r.append hd
  refine codeAny_mono (F.run X.A X.stack s H ⟨us, []⟩ (us ++ ds) (vs ++ dvs) Q _ hr hg I.env0 (hb s us I.kIn (by rw [← r2.length]; exact F.len _ _ _ _ h)) r2 h) fun z s' hq => ?_
  cases z with
  | error y => exact tk y s' (L2N.XE.of_call I (fun _ _ _ q => q) hq)
  | ok fl =>
    cases fl with
    | ret u => exact I.after hq
    | next => exact hq.elim
    | brk => exact hq.elim
    | cont => exact hq.elim
end
end Sm

/-! S20: str.join, dict(d), sorted(d) -/
namespace Sm
open PySem L2
section
variable {X : Cx} {T : Tb}
/-- x.join(list of strs) -/
def oJoin : OMt
  | .str a, [x], s => match lstOf x s with
    | some xs => match mapO asStr xs with
      | some ys => if (ys.map (·.length)).sum + ys.length * a.length ≤ LIM then some (.str (Txt.join a ys), s) else none
      | none => none
    | none => none
  | _, _, _ => none
theorem m_join : MtR X "str.join" (rMt T oJoin) := MtR.imp mt_join fun x xs H Q q => by
  obtain ⟨ρ, st, a, as, w, s', r, ha, hs, e, k⟩ := q
  unfold oJoin at e
  split at e
  · split at e
    · rename_i ys hx
      split at e
      · rename_i zs hz
        split at e
        · rename_i hl
          cases e
          obtain ⟨z, rfl, hz'⟩ := hs.one
          obtain ⟨p, vs, rfl, h1, h2⟩ := lstOf_ok r hz' hx
          have ev := asStrs_ok h2 hz
          subst ev
          cases ha
          exact ⟨_, p, zs, rfl, rfl, .inl (SqL.of h1), hl, k.here r (.str _)⟩
        · cases e
      · cases e
    · cases e
  · cases e
/-- dict(d) -/
def oDict : OC
  | [.ref j], s => match s[j]? with
    | some (.dic kvs) => some (.ref s.length, s ++ [.dic kvs])
    | _ => none
  | _, _ => none
end
end Sm

/-! S21: texts in order; sorted of lists, sets and dicts -/
namespace Sm
open PySem L2 PySem.Spec
theorem lt_irr : ∀ a : List Nat, ltCps a a = false
  | [] => rfl
  | x :: a => by simp [ltCps, lt_irr a]
theorem lt_anti : ∀ a b : List Nat, ltCps a b = false → ltCps b a = false → a = b
  | [], [], _, _ => rfl
  | [], _ :: _, h, _ => by simp [ltCps] at h
  | _ :: _, [], _, h => by simp [ltCps] at h
  | x :: a, y :: b, h1, h2 => by
    simp [ltCps] at h1 h2
    have e : x = y := Nat.le_antisymm h2.1 h1.1
    subst e
    rw [lt_anti a b (h1.2 rfl) (h2.2 rfl)]
/-- a ≤ b is: not b < a -/
theorem le_trans3 : ∀ a b c : List Nat, ltCps b a = false → ltCps c b = false → ltCps c a = false
  | [], _, [], _, _ => rfl
  | [], [], _ :: _, _, _ => by simp [ltCps]
  | [], _ :: _, _ :: _, _, _ => by simp [ltCps]
  | _ :: _, [], _, h, _ => by simp [ltCps] at h
  | _ :: _, _ :: _, [], _, h => by simp [ltCps] at h
  | x :: a, y :: b, z :: c, h1, h2 => by
    simp [ltCps] at h1 h2 ⊢
    refine ⟨by omega, fun e => ?_⟩
    have e1 : y = x := by omega
    have e2 : z = y := by omega
    exact le_trans3 a b c (h1.2 e1) (h2.2 e2)
abbrev leS (a b : Str) : Prop := ltCps b.cps.toList a.cps.toList = false
def insT (x : Str) : List Str → List Str
  | [] => [x]
  | y :: ys => if ltCps y.cps.toList x.cps.toList then y :: insT x ys else x :: y :: ys
def srtT : List Str → List Str
  | [] => []
  | x :: xs => insT x (srtT xs)
theorem str_ext {a b : Str} (h : a.cps.toList = b.cps.toList) : a = b := by
  cases a; cases b
  simp at h
  rw [h]
/-- all keys texts -/
def strKeys : List (Key × Vl) → Option (List Str)
  | [] => some []
  | (.inr x, _) :: r => (strKeys r).map (x :: ·)
  | _ => none
/-- sorted of ints (list, set), of texts (list, keys of a dict) -/
def oSort : OC
  | [.ref j], s => match s[j]? with
    | some (.lst xs) => match mapO asInt xs with
      | some ns => some (.ref s.length, s ++ [.lst ((srt ns).map Vl.int)])
      | none => match mapO asStr xs with
        | some zs => if zs.length < 64 then some (.ref s.length, s ++ [.lst ((srtT zs).map Vl.str)]) else none
        | none => none
    | some (.set xs) => if xs.length < 64 then some (.ref s.length, s ++ [.lst ((srt xs).map Vl.int)]) else none
    | some (.dic kvs) => match strKeys kvs with
      | some ks => if ks.length < 64 then some (.ref s.length, s ++ [.lst ((srtT ks).map Vl.str)]) else none
      | none => none
    | _ => none
  | _, _ => none
theorem RVs.strs {T : Tb} {ρ : List Addr} {H : Hp} : ∀ zs : List Str, RVs T ρ H (zs.map Vl.str) (zs.map V.str)
  | [] => .nil
  | z :: zs => .cons (.str z) (RVs.strs zs)
section
variable {X : Cx} {T : Tb}
end
end Sm

/-! S25: targets within targets, op=, chains of comparisons, isinstance, get, setdefault, dict(pairs), len of own objects -/
namespace Sm
open PySem L2
/-! ### targets -/
def gAll : List GM → List Vl → Lo → Sto → Option (Lo × Sto)
  | [], [], lo, s => some (lo, s)
  | g :: gs, v :: vs, lo, s => match g v lo s with
    | .ok lo' s' => gAll gs vs lo' s'
    | _ => none
  | _, _, _, _ => none
def gTs (gs : List GM) : GM := fun v lo s => match v with
  | .tup xs => match gAll gs xs lo s with
    | some (lo', s') => .ok lo' s'
    | none => .fail
  | _ => .fail
def tGts (T : Tb) (gs : List GM) : TGs := fun zs σ H Q => ∃ (ρ : List Addr) (s : Sto) (lo : Lo) (vs : List Vl) (lo' : Lo) (s' : Sto), Rel T ρ H s ∧ RL T ρ H lo σ ∧ RVs T ρ H vs zs ∧ gAll gs vs lo s = some (lo', s') ∧ PoN T ρ H lo' s' Q
theorem gAll_len : ∀ {gs : List GM} {vs : List Vl} {lo : Lo} {s : Sto} {r : Lo × Sto}, gAll gs vs lo s = some r → vs.length = gs.length
  | [], [], _, _, _, _ => rfl
  | [], _ :: _, _, _, _, h => by cases h
  | _ :: _, [], _, _, _, h => by cases h
  | g :: gs, v :: vs, lo, s, r, h => by
    unfold gAll at h
    split at h
    · rw [List.length_cons, List.length_cons, gAll_len h]
    · cases h
section
variable {X : Cx} {T : Tb} {W : WX} {e : Expr} {es : List Expr} {g : GM} {gs : List GM} {pos : Pos} {kk : Nat}
end
/-! ### x op= e -/
def sAug (i : Nat) (f : O2) (e : EM) : SM := fun lo s => match lo[i]? with
  | some (some x) => bndS e (fun lo v s => match f x v s with
    | some (z, s') => .nx (lo.set i (some z)) s'
    | none => .fail) lo s
  | _ => .fail
def opIAdd : O2 := fun a b s => match a, b with
  | .int i, .int j => some (.int (i + j), s)
  | .str i, .str j => if i.length + j.length ≤ LIM then some (.str (i ++ j), s) else none
  | _, _ => none
def opISub : O2 := fun a b s => match a, b with
  | .int i, .int j => some (.int (i - j), s)
  | _, _ => none
section
variable {X : Cx} {T : Tb} {W : WX} {e : Expr} {me : EM} {f : O2} {op : Operator} {pos pos' : Pos}
theorem io_add : OpR X (inplaceOp .Add) (rO T opIAdd) := by
  intro pins s σ H x y v u Q I rx ry q
  obtain ⟨ρ, st, a, b, w, s', r, ha, hb, e, k⟩ := q
  unfold opIAdd at e
  split at e
  · cases e
    rw [ha.intE] at rx
    rw [hb.intE] at ry
    exact iop_add pins s σ H _ _ v u Q I rx ry ⟨_, _, rfl, rfl, k.here r (.int _)⟩
  · split at e
    · rename_i hl
      cases e
      rw [ha.strE] at rx
      rw [hb.strE] at ry
      exact iop_add_str pins s σ H _ _ v u Q I rx ry ⟨_, _, rfl, rfl, by rw [lim_eq]; exact hl, k.here r (.str _)⟩
    · cases e
  · cases e
theorem cs_aug {i : Nat} {x : Str} (hN : X.N.Nodup) (hi : X.N[i]? = some x) (hx : Loc X.env.scope x) (ho : OpR X (inplaceOp op) (rO T f)) (he : PE X e (tE T W me))
    (hf : X.fn x = true ∨ X.env.scope.names.lookup x = some .local := by first | exact .inl rfl | exact .inr rfl | assumption) : PS X (.AugAssign (.Name x pos') op e pos) (tS T W (sAug i f me)) :=
  ps_mono (ps_aug hN hi hx he ho hf) fun D σ H h => by
    obtain ⟨ρ, s, lo, r, rl, p⟩ := h
    unfold sAug at p
    split at p
    · rename_i x hx
      obtain ⟨z, hz, hv⟩ := rl.at_ i x hx
      refine ⟨z, hz, poS_bnd (R := RV T) r rl p fun ρ' s' a b H' ext r' rl' hb p' => ?_⟩
      split at p'
      · rename_i w s2 hw
        exact ⟨ρ', s', x, a, w, s2, r', hv.mono ext, hb, hw, fun ρ2 H2 u e2 r2 hu => p' ρ2 H2 _ e2 r2 ((rl'.mono e2).set i hu)⟩
      · exact p'.elim
    · exact p.elim
end
/-- o.f op= e -/
def sFldA (cs : List Nat) (f : Str) (op : O2) (o e : EM) : SM := bndS o fun lo x s => match x with
  | .ref j => match s[j]? with
    | some (.ins c fs) => if c ∈ cs then match getS fs f with
        | some v => bndS e (fun lo y s => match op v y s with
          | some (z, s') => match setFld cs f (.ref j) z s' with
            | some s2 => match s'[j]? with
              | some (.ins c' _) => if c' = c then .nx lo s2 else .fail
              | _ => .fail
            | none => .fail
          | none => .fail) lo s
        | none => .fail
      else .fail
    | _ => .fail
  | _ => .fail
section
variable {X : Cx} {T : Tb} {W : WX} {o value : Expr} {mo me : EM} {op : O2} {oper : Operator} {cs : List Nat} {f : Str} {pos tpos : Pos}
theorem cs_fldA (ok : FldOk T cs f) (hop : OpR X (inplaceOp oper) (rO T op)) (ho : PE X o (tE T W mo)) (hv : PE X value (tE T W me)) (hK : X.K = T.K := by rfl) :
    PS X (.AugAssign (.Attribute o f tpos) oper value pos) (tS T W (sFldA cs f op mo me)) := ps_mono (ps_fldaug ho hv hop) fun D σ H h =>
  tS_bnd (R := RV T) h fun ρ s lo x z H' r rl hx p => by
    cases x <;> try exact p.elim
    rename_i j
    simp only at p
    obtain ⟨a, rfl, ha⟩ := hx.refE
    split at p
    · rename_i c fs hj
      split at p
      · rename_i hc
        split at p
        · rename_i v hv
          obtain ⟨C, dx, vs, h1, h2, h3, h4⟩ := r.ins hj ha
          obtain ⟨w, hw, hvw⟩ := (getS_ok (f := f) h3 h4).2 v hv
          refine ⟨a, C, dx, vs, w, rfl, h2, by rw [hK]; exact (ok c hc C h1).1, by rw [hK]; exact (ok c hc C h1).2, hw, poS_bnd (R := RV T) r rl p fun ρ1 s1 y u H1 ext1 r1 rl1 hy p1 => ?_⟩
          split at p1
          · rename_i q s2 hq
            split at p1
            · rename_i s3 h3'
              split at p1
              · rename_i c' fs' hj'
                split at p1
                · rename_i ec
                  subst ec
                  refine ⟨ρ1, s1, v, y, q, s2, r1, hvw.mono ext1, hy, hq, fun ρ2 H2 t e2 r2 ht => ?_⟩
                  have ha2 := e2.pre _ _ (ext1.pre _ _ ha)
                  obtain ⟨C', dx', vs', k1, k2, k3, k4⟩ := r2.ins hj' ha2
                  obtain rfl : C' = C := Option.some.inj (k1.symm.trans h1)
                  unfold setFld at h3'
                  simp only [hj'] at h3'
                  split at h3'
                  · rename_i hcl
                    cases h3'
                    have hlen : vs'.length = fs'.length := by have := congrArg List.length k3; simpa using this
                    refine ⟨dx', vs', k2, by rw [hlen]; exact hcl.2, ?_⟩
                    obtain ⟨q1, q2⟩ := putS_ok (f := f) ht k3 k4
                    exact p1 ρ2 _ σ (e2.trans (r2.setExt ha2 k2)) (r2.set ha2 ⟨C', dx', _, k1, upd_same, q1, q2.mono (r2.setExt ha2 k2)⟩) ((rl1.mono e2).mono (r2.setExt ha2 k2))
                  · cases h3'
                · exact p1.elim
              · exact p1.elim
            · exact p1.elim
          · exact p1.elim
        · exact p.elim
      · exact p.elim
    · exact p.elim
end
/-! ### a op b op' c -/
def eChain (f f' : O2) (a b c : EM) : EM := fun lo => bnd (a lo) fun x => bnd (b lo) fun y => bnd (lift (f x y)) fun z => match z with
  | .bl true => bnd (c lo) fun w => lift (f' y w)
  | .bl false => ret (.bl false)
  | _ => failM
section
variable {X : Cx} {T : Tb} {W : WX} {a b c : Expr} {ma mb mc : EM} {f f' : O2} {op op' : CmpOp} {pos : Pos}
end
/-! ### isinstance(x, T) -/
def tyN (x : Vl) (s : Sto) : Option String := match x with
  | .non => some "NoneType"
  | .bl _ => some "bool"
  | .int _ => some "int"
  | .str _ => some "str"
  | .tup _ => some "tuple"
  | .ref j => match s[j]? with
    | some (.lst _) => some "list"
    | some (.dic _) => some "dict"
    | some (.dit _) => some "dict"
    | _ => none
  | _ => none
def isB (t n : String) : Option Bool :=
  if n = "int" then (if t = "int" ∨ t = "bool" then some true else some false)
  else if n = "bool" ∨ n = "str" ∨ n = "tuple" ∨ n = "list" ∨ n = "dict" then some (decide (t = n)) else none
def oIsi : OC
  | [x, .ty n], s => match tyN x s with
    | some t => match isB t n with
      | some b => some (.bl b, s)
      | none => none
    | none => none
  | _, _ => none
section
variable {X : Cx} {T : Tb} {W : WX}
end
/-! ### d.get(k), d.get(k, x), d.setdefault(k, x) -/
def isDic (j : Nat) (s : Sto) : Bool := match s[j]? with
  | some (.dic _) => true
  | _ => false
def eDGet1 (d k : EM) : EM := fun lo => bnd (d lo) fun x s => match x with
  | .ref j => if isDic j s then bnd (k lo) (fun y s => match s[j]?, keyOf y with
    | some (.dic kvs), some key => .ok ((look kvs key).getD .non) s
    | _, _ => .fail) s else .fail
  | _ => .fail
def eDGet2 (d k v : EM) : EM := fun lo => bnd (d lo) fun x s => match x with
  | .ref j => if isDic j s then bnd (k lo) (fun y => bnd (v lo) fun z s => match s[j]?, keyOf y with
    | some (.dic kvs), some key => .ok ((look kvs key).getD z) s
    | _, _ => .fail) s else .fail
  | _ => .fail
def eDSet (d k v : EM) : EM := fun lo => bnd (d lo) fun x s => match x with
  | .ref j => if isDic j s then bnd (k lo) (fun y => bnd (v lo) fun z s => match s[j]?, keyOf y with
    | some (.dic kvs), some key => if kvs.length < LIM then (match look kvs key with
      | some w => .ok w s
      | none => .ok z (s.set j (.dic (put kvs key z)))) else .fail
    | _, _ => .fail) s else .fail
  | _ => .fail
theorem put_none {κ : Type} [DecidableEq κ] {k : κ} {v : Vl} : ∀ {kvs : List (κ × Vl)}, look kvs k = none → put kvs k v = kvs ++ [(k, v)]
  | [], _ => rfl
  | p :: r, h => by
    unfold look at h
    split at h
    · cases h
    · rename_i q
      unfold put
      rw [if_neg q, put_none h]
      rfl
theorem putK_none {κ : Type} [DecidableEq κ] {k : κ} {z : V} {vs : List (κ × V)} (h : valV vs k = none) : putK vs k z = vs ++ [(k, z)] := by
  unfold putK
  rw [if_neg]
  rw [valV_any, h]
  exact Bool.noConfusion
theorem RVs.snoc {T : Tb} {ρ : List Addr} {H : Hp} {xs : List Vl} {vs : List V} {x : Vl} {v : V} (h : RVs T ρ H xs vs) (hx : RV T ρ H x v) : RVs T ρ H (xs ++ [x]) (vs ++ [v]) := h.append (.cons hx .nil)
section
variable {X : Cx} {T : Tb} {W : WX} {o e f : Expr} {apos cpos : Pos} {md mk mv : EM}
theorem isDic_ok {ρ : List Addr} {H : Hp} {s : Sto} {j : Nat} {a : Addr} (r : Rel T ρ H s) (ha : ρ[j]? = some a) (h : isDic j s = true) : IsD H a := by
  unfold isDic at h
  split at h
  · rename_i kvs hj
    obtain ⟨vs, h1, _⟩ := r.dic hj ha
    exact .inl ⟨vs, .inl h1⟩
  · cases h
theorem ce_dget1 (hu : X.A.units + 1 < cLine) (ho : PE X o (tE T W md)) (he : PE X e (tE T W mk)) (m : M1 X o "get" apos e cpos) : PE X (.Call (.Attribute o "get" apos) [e] [] cpos) (tE T W (eDGet1 md mk)) :=
  pe_mono (pe_dget1 hu ho he m) fun σ H Q h => tG_bnd (R := RV T) h fun ρ s lo x z H1 r rl hx p => by
    cases x <;> try exact p.elim
    rename_i j
    obtain ⟨a, rfl, ha⟩ := hx.refE
    simp only at p
    split at p
    · rename_i hd
      refine ⟨a, rfl, isDic_ok r ha hd, po_bnd (R := RV T) (m := mk) r rl p fun ρ' s' y w H' ext r' rl' hy p' => ?_⟩
      split at p'
      · rename_i kvs key hj hk
        obtain ⟨vs, h1, h2, h3⟩ := r'.dic hj (ext.pre _ _ ha)
        have ey := keyOf_ok hy hk
        subst ey
        refine ⟨_, DGet.k h1, ?_⟩
        obtain ⟨q1, q2⟩ := look_ok (k := key) h2 h3
        cases q : look kvs key with
        | none => rw [q1 q]; rw [q] at p'; exact p' ρ' H' _ .refl r' .non
        | some v => obtain ⟨z, hz, hv⟩ := q2 v q; rw [hz]; rw [q] at p'; exact p' ρ' H' _ .refl r' hv
      · exact p'.elim
    · exact p.elim
theorem ce_dget2 (hu : X.A.units + 1 < cLine) (ho : PE X o (tE T W md)) (he : PE X e (tE T W mk)) (hf : PE X f (tE T W mv)) (m : M2 X o "get" apos e f cpos) : PE X (.Call (.Attribute o "get" apos) [e, f] [] cpos) (tE T W (eDGet2 md mk mv)) :=
  pe_mono (pe_dget2 hu ho he hf m) fun σ H Q h => tG_bnd (R := RV T) h fun ρ s lo x z H1 r rl hx p => by
    cases x <;> try exact p.elim
    rename_i j
    obtain ⟨a, rfl, ha⟩ := hx.refE
    simp only at p
    split at p
    · rename_i hd
      refine ⟨a, rfl, isDic_ok r ha hd, po_bnd (R := RV T) (m := mk) r rl p fun ρ' s' y w H' ext r' rl' hy p' => po_bnd (R := RV T) (m := mv) r' rl' p' fun ρ2 s2 dv w2 H2 ext2 r2 rl2 hd2 p2 => ?_⟩
      split at p2
      · rename_i kvs key hj hk
        obtain ⟨vs, h1, h2, h3⟩ := r2.dic hj (ext2.pre _ _ (ext.pre _ _ ha))
        have ey := keyOf_ok (hy.mono ext2) hk
        subst ey
        refine ⟨_, DGet.k h1, ?_⟩
        obtain ⟨q1, q2⟩ := look_ok (k := key) h2 h3
        cases q : look kvs key with
        | none => rw [q1 q]; rw [q] at p2; exact p2 ρ2 H2 _ .refl r2 hd2
        | some v => obtain ⟨z, hz, hv⟩ := q2 v q; rw [hz]; rw [q] at p2; exact p2 ρ2 H2 _ .refl r2 hv
      · exact p2.elim
    · exact p.elim
theorem ce_dsetd (ho : PE X o (tE T W md)) (he : PE X e (tE T W mk)) (hf : PE X f (tE T W mv)) (m : M2 X o "setdefault" apos e f cpos) : PE X (.Call (.Attribute o "setdefault" apos) [e, f] [] cpos) (tE T W (eDSet md mk mv)) :=
  ⟨fun pins s σ H Q I h => (pe_dsetd ho he hf m).run pins s σ H Q I (tG_bnd (R := RV T) h fun ρ s lo x z H1 r rl hx p => by
    cases x <;> try exact p.elim
    rename_i j
    obtain ⟨a, rfl, ha⟩ := hx.refE
    simp only at p
    split at p
    · rename_i hd
      refine ⟨a, rfl, isDic_ok r ha hd, po_bnd (R := RV T) (m := mk) r rl p fun ρ' s' y w H' ext r' rl' hy p' => po_bnd (R := RV T) (m := mv) r' rl' p' fun ρ2 s2 dv w2 H2 ext2 r2 rl2 hd2 p2 => ?_⟩
      split at p2
      · rename_i kvs key hj hk
        have ha2 := ext2.pre _ _ (ext.pre _ _ ha)
        obtain ⟨vs, h1, h2, h3⟩ := r2.dic hj ha2
        have ey := keyOf_ok (hy.mono ext2) hk
        obtain ⟨q1, q2⟩ := look_ok (k := key) h2 h3
        have hlen : vs.length = kvs.length := by have := congrArg List.length h2; simpa using this
        split at p2
        · rename_i hl
          refine ⟨vs, key, h1, ey, by rw [hlen, lim_eq]; exact hl, fun v' hv' => ?_, fun hn => ?_⟩
          · cases q : look kvs key with
            | none => rw [q1 q] at hv'; cases hv'
            | some v =>
              obtain ⟨z, hz, hv⟩ := q2 v q
              rw [hz] at hv'
              cases hv'
              rw [q] at p2
              exact p2 ρ2 H2 _ .refl r2 hv
          · cases q : look kvs key with
            | some v => obtain ⟨z, hz, hv⟩ := q2 v q; rw [hz] at hn; cases hn
            | none =>
              rw [q] at p2
              refine p2 ρ2 _ _ (r2.setExt ha2 h1) (r2.set ha2 ⟨putK vs key w2, upd_same, ?_, ?_⟩) (hd2.mono (r2.setExt ha2 h1))
              · rw [putK_none hn, put_none q]; simp [h2]
              · rw [putK_none hn, put_none q]
                simp only [List.map_append, List.map_cons, List.map_nil]
                exact (h3.snoc hd2).mono (r2.setExt ha2 h1)
        · exact p2.elim
      · exact p2.elim
    · exact p.elim)⟩
end
end Sm

/-! S26: len of own objects, dict(list of pairs), min and max of a list of ints -/
namespace Sm
open PySem L2 PySem.W
section
variable {prog : Program} {w : World} {A : Around} {E : Value → Shared → Prop} {s : Shared} {K : Frag} {x C f : Addr} {ox : Obj} {od : Option Obj}
end
structure LenO (K : PySem.W.Frag) (C f : Addr) : Prop where
  at_ : PySem.W.findIn K (.ref C) "__len__" = some (some (.ref f))
  fn : PySem.W.isFn K (.ref f) = true
def eLenO (tab : MTab) (o : EM) : EM := fun lo => bnd (o lo) fun x s => match x with
  | .ref j => match s[j]? with
    | some (.ins c fs) => match tab c with
      | some mf => match mf [.ref j] s with
        | .ok (.int n) s' => if 0 ≤ n ∧ n < 2 ^ 62 then .ok (.int n) s' else .fail
        | .exc e s' => .exc e s'
        | _ => .fail
      | none => .fail
    | _ => .fail
  | _ => .fail
def LenOk (X : Cx) (T : Tb) (k : Nat) (tab : MTab) : Prop := ∀ c mf, tab c = some mf → ∀ C, T.cl[c]? = some C → ∃ (f : Addr) (fd : FuncData) (ps : List Str), LenO T.K C f ∧ FnG X.prog X.w X.K X.mg X.base k f fd ps (SpM T 1 mf) ∧ Binds X.K fd ps []
section
variable {X : Cx} {T : Tb} {W : WX} {k : Nat} {p pos : Pos} {o : Expr} {mo : EM}
end
/-! ### dict(list of pairs), min, max -/
def asPr : Vl → Option (Key × Vl)
  | .tup [k, v] => match keyOf k with
    | some key => some (key, v)
    | none => none
  | _ => none
def oDictP : OC
  | [x], s => match lstOf x s with
    | some xs => match mapO asPr xs with
      | some kvs => some (.ref s.length, s ++ [.dic (mergeP [] kvs)])
      | none => none
    | none => none
  | _, _ => none
section
variable {X : Cx} {T : Tb}
theorem asPr_ok {ρ : List Addr} {H : Hp} : ∀ {xs : List Vl} {vs : List V} {kvs : List (Key × Vl)}, RVs T ρ H xs vs → mapO asPr xs = some kvs → ∃ (ps : List Addr) (ms : List (Key × V)), vs = ps.map V.ref ∧ Paired (fun p kv => SqT T.K H p [kV kv.1, kv.2]) ps ms ∧ ms.map (·.1) = kvs.map (·.1) ∧ RVs T ρ H (kvs.map (·.2)) (ms.map (·.2))
  | _, _, _, .nil, h => by
    cases h
    exact ⟨[], [], rfl, .nil, rfl, .nil⟩
  | _, _, kvs, .cons (x := x) (v := v) (xs := xs) (vs := vs) h1 h2, h => by
    unfold mapO at h
    cases e : asPr x with
    | none => simp only [e] at h; cases h
    | some kv =>
      simp only [e] at h
      cases e2 : mapO asPr xs with
      | none => simp only [e2] at h; cases h
      | some ks =>
        simp only [e2] at h
        cases h
        obtain ⟨ps, ms, rfl, q1, q2, q3⟩ := asPr_ok h2 e2
        unfold asPr at e
        split at e
        · rename_i a b
          split at e
          · rename_i key hk
            cases e
            obtain ⟨p, us, rfl, s1, s2⟩ := h1.tupE
            obtain ⟨u1, u2, rfl, r1, r2⟩ := s2.two
            have ek := keyOf_ok r1 hk
            subst ek
            exact ⟨p :: ps, (key, u2) :: ms, rfl, .cons s1 q1, by simp [q2], .cons r2 q3⟩
          · cases e
        · cases e
theorem c_dictP (hc : X.calm = true := by rfl) (hK : X.K = T.K := by rfl) : CallR X (.type "dict") (rC T oDictP) := CallR.imp (call_dictP hc) fun xs H Q q => by
  obtain ⟨ρ, st, as, w, s', r, ha, e, k⟩ := q
  unfold oDictP at e
  split at e
  · split at e
    · rename_i ys hx
      split at e
      · rename_i kvs hz
        cases e
        obtain ⟨z, rfl, hz'⟩ := ha.one
        obtain ⟨p, vs, rfl, h1, h2⟩ := lstOf_ok r hz' hx
        obtain ⟨ps, ms, rfl, q1, q2, q3⟩ := asPr_ok h2 hz
        refine ⟨p, ps, ms, rfl, SqL.of h1, by rw [hK]; exact q1, fun q hq => ?_⟩
        obtain ⟨m1, m2⟩ := merge_ok (kvs := []) (vs := []) q2 q3 (by simp) rfl .nil
        exact k.new r hq ⟨_, upd_same, m1, m2.mono (r.newExt hq)⟩
      · cases e
    · cases e
  · cases e
end
end Sm

/-! S27: enumerate(tuple); min and max of a list of ints -/
namespace Sm
open PySem L2 PyProof.Rows
open AutoSeq1 (wpAny_loadPart')
section
variable {prog : Program} {w : World} {A : Around} {E : Value → Shared → Prop} {s : Shared}
end
def IteT (K : PySem.W.Frag) (a : Addr) (n : Nat) : It where
  go := fun i H => ∃ (xs : List V) (x : V), SqT K H a xs ∧ xs[i]? = some x ∧ xs.length = n
  yld := fun i H v H' => ∃ T x, v = .ref T ∧ H T = none ∧ H' = upd H T (.tup [.int (i : Nat), x]) ∧ ∀ xs, SqT K H a xs → xs[i]? = some x
  stop := fun i H => ∃ xs : List V, SqT K H a xs ∧ xs.length = n ∧ n ≤ i
theorem IsTup.tuple {h : Heap} {a : Addr} {its : Array Value} (x : IsTup h a its) : h.IsTuple a its := x
def iEnumT (K : PySem.W.Frag) (ta : TA) : TI := fun σ H R => ta σ H fun vs H1 => ∃ a xs, vs = [.ref a] ∧ SqT K H1 a xs ∧ R (IteT K a xs.length) H1
/-! ### its reading -/
def enmL (xs : List Vl) : List Vl := xs.zipIdx.map fun p => .tup [.int (p.2 : Nat), p.1]
def aEnm (e : AM) : AM := fun lo => bnd (e lo) fun as => match as with
  | [.tup xs] => ret (enmL xs)
  | _ => failM
section
variable {X : Cx} {T : Tb} {W : WX} {p pos : Pos}
end
/-! ### min, max of a list of ints -/
def maxL : List Int → Int
  | [] => 0
  | [x] => x
  | x :: xs => max x (maxL xs)
def minL : List Int → Int
  | [] => 0
  | [x] => x
  | x :: xs => min x (minL xs)
def oMaxL : OC
  | [x], s => match lstOf x s with
    | some xs => match mapO asInt xs with
      | some ns => if 0 < ns.length then some (.int (maxL ns), s) else none
      | none => none
    | none => none
  | _, _ => none
def oMinL : OC
  | [x], s => match lstOf x s with
    | some xs => match mapO asInt xs with
      | some ns => if 0 < ns.length then some (.int (minL ns), s) else none
      | none => none
    | none => none
  | _, _ => none
section
variable {X : Cx} {T : Tb}
end
end Sm

/-! S28: defs with defaults -/
namespace Sm
open PySem PySem.Spec PyProof.Rows L2
/-- a def with defaults by its body -/
theorem fnG_ofD {P : Program} {w : World} {K : PySem.W.Frag} {mg : Str → Option Value} {base : Heap} {k : Nat} {x qual : Str} {st : Stmt} {f : Addr} {fd : FuncData} {N ps : List Str} {sp : Sp} {dvs : List V} {kws : List (Str × V)} (F : FunD K x qual (defArgs st) (defBody st) (defScope st) dvs kws f fd) (S : FnScope N ps (defScope st)) (len : ∀ vs H Q E, sp vs H Q E → vs.length = ps.length)
    (hbody : ∀ (cdv : Value) (A : Around) (outer : List Env) (s : Shared) (H : Hp) (vs : List V) (Q : VK) (E : XK), Room k (A.deeper (envOfC qual (defScope st) s.heap.objs.size f cdv)) → A.guards = some [] → sp vs H Q E →
      ∃ t, PSs (cxOf (L2N.CX P w) P w K mg base N qual (defScope st) f cdv A outer s H E) (defBody st) t ∧ t { nx := fun _ H' => Q .non H', rt := Q } (L2.start N vs) H) : FnG P w K mg base (k + 1) f fd ps sp := by
  obtain ⟨oc, od, dV, kV, doc, pm, an, cdv, ct, osl, rfl, lk, hcd, _, _⟩ := F.ex
  refine ⟨len, fun A outer s H args us vs Q E hr hg e0 hb r hsp => ?_⟩
  have inK : K.In s.heap := e0.mod.kin.keeps fun b o e => (e0.bs b o e).1
  have nl : s.heap.NoLimit := e0.mod.nolimit.keeps fun b o e => (e0.bs b o e).1
  have kinds : ∀ y ∈ ps.zip us, (defScope st).names.lookup y.1 = some .local ∨ ((defScope st).names.lookup y.1 = some .cell ∧ ((cellsFrom (s.heap.objs.size + 1) (defScope st).names []).lookup y.1).isSome = true) := by
    rintro ⟨n, v⟩ hy
    exact (S.par n (List.of_mem_zip hy).1).imp id fun q => ⟨q, PySem.W.cellsFrom_some _ _ _ (.inl q)⟩
  refine codeAny_call_function hr.depth (inK _ _ lk) rfl S.co S.gen rfl (PySem.W.codeRec_of inK hcd) (hb _ _ _ _ (wpAny_newFunctionEnv_cells S.kind kinds fun env he s1 y => ?_))
  subst he
  refine ⟨nl.keeps y.toInCall.keep, codeAny_func ?_⟩
  obtain ⟨t, ht, hq⟩ := hbody cdv A outer s H vs Q E (hr.deeper _) hg hsp
  refine wpAny_mono (ht.run [] s1 (L2.start N vs) H _ (inv_start S hr.hd e0 (len _ _ _ _ hsp) r y) hq) (fun fl s' hs => ?_) fun e s' hs => hs
  cases fl with
  | ret u => obtain ⟨v, σ', H', J, rv, q⟩ := hs; exact ⟨v, H', J.os, J.bare, J.base, J.hok, rv, q⟩
  | next => obtain ⟨σ', H', J, q⟩ := hs; exact ⟨V.non, H', J.os, J.bare, J.base, J.hok, rfl, q⟩
  | brk => obtain ⟨_, _, _, q⟩ := hs; exact q.elim
  | cont => obtain ⟨_, _, _, q⟩ := hs; exact q.elim
theorem fn_simD {P : Program} {w : World} {K : PySem.W.Frag} {mg : Str → Option Value} {base : Heap} {k n : Nat} {x qual : Str} {st : Stmt} {f : Addr} {fd : FuncData} {N ps : List Str} {T : Tb} {b : SM} {dvs : List V} {kws : List (Str × V)} (F : FunD K x qual (defArgs st) (defBody st) (defScope st) dvs kws f fd) (S : FnScope N ps (defScope st)) (hn : n = ps.length)
    (body : ∀ (cdv : Value) (A : Around) (outer : List Env) (s : Shared) (H : Hp) (E : XK), Room k (A.deeper (envOfC qual (defScope st) s.heap.objs.size f cdv)) → A.guards = some [] →
      PSs (cxOf (L2N.CX P w) P w K mg base N qual (defScope st) f cdv A outer s H E) (defBody st) (tS T (fun c d _ H' => E c d H') b)) (hx : T.xs = [] := by rfl) : FnG P w K mg base (k + 1) f fd ps (SpM T n (fnM N.length b)) :=
  fnG_ofD F S (fun vs H Q E ⟨ρ, s, as, r, hv, hl, p⟩ => by rw [← hv.length, hl, hn]) fun cdv A outer s H vs Q E hr hg h => ⟨_, body cdv A outer s H E hr hg, fn_body hx h⟩
/-- how it binds where the last parameters are not given -/
structure BindD (K : PySem.W.Frag) (fd : FuncData) (ps : List Str) (das : List Vl) : Prop where
  ex : ∃ (ds : List Value) (dvs : List V), Vals dvs ds ∧ Binds K fd ps ds ∧ ∀ (T : Tb) (ρ : List Addr) (H : Hp), T.K = K → RVs T ρ H das dvs
theorem bindD_of {K : PySem.W.Frag} {fd : FuncData} {ps : List Str} {das : List Vl} {dvs : List V} (h : ∃ ds, Vals dvs ds ∧ Binds K fd ps ds) (hv : ∀ (T : Tb) (ρ : List Addr) (H : Hp), T.K = K → RVs T ρ H das dvs) : BindD K fd ps das := by
  obtain ⟨ds, h1, h2⟩ := h
  exact ⟨ds, dvs, h1, h2, hv⟩
def dflM (n : Nat) (das : List Vl) (mf : List Vl → M Vl) : List Vl → M Vl := fun as s => if as.length + das.length = n then mf (as ++ das) s else .fail
theorem fnV_dfl {P : Program} {w : World} {mg : Str → Option Value} {base : Heap} {k n : Nat} {f : Addr} {fd : FuncData} {ps : List Str} {T : Tb} {mf : List Vl → M Vl} {das : List Vl} (F : FnG P w T.K mg base k f fd ps (SpM T n mf)) (hb : BindD T.K fd ps das) : FnV P w T.K mg base k f (SpV T (dflM n das mf)) := by
  intro A outer s H us vs Q E hr hg e0 r ⟨ρ, sto, as, rel, has, p⟩
  unfold dflM at p
  split at p
  · rename_i hl
    obtain ⟨ds, dvs, rd, hb, hv⟩ := hb.ex
    have inK : T.K.In s.heap := e0.mod.kin.keeps fun b o e => (e0.bs b o e).1
    have hv := hv T ρ H rfl
    have sp : SpM T n mf (vs ++ dvs) H Q E := ⟨ρ, sto, as ++ das, rel, has.append hv, by rw [List.length_append]; exact hl, p⟩
    have r2 : Vals (vs ++ dvs) (us ++ ds) := r.append rd
    exact F.run A outer s H ⟨us, []⟩ (us ++ ds) (vs ++ dvs) Q E hr hg e0 (hb s us inK (by rw [← r2.length]; exact F.len _ _ _ _ sp)) r2 sp
  · exact p.elim
section
variable {X : Cx} {T : Tb} {W : WX} {k : Nat} {f : Addr} {mf : List Vl → M Vl} {x : Str} {p pos : Pos} {e : Expr} {es : List Expr} {ma : AM}
theorem run_V {pins : List (Addr × Obj)} {σ : L2.St} {H : Hp} {s : Shared} {Q : VK} {us : List Value} {vs : List V} {sp : Sp} (F : FnV X.prog X.w X.K X.mg X.base k f sp) (hr : Room k X.A) (hg : X.A.guards = some []) (tk : L2N.Takes X W)
    (I : Inv X pins σ H s) (r : Vals vs us) (h : sp vs H Q fun c d H' => W c d σ H') : wpAny (model X.prog X.w) X.A (call (.ref f) us) (EP X pins σ Q) X.xe s := by
  refine wpAny_call (codeAny_mono (F X.A X.stack s H us vs Q _ hr hg I.env0 r h) fun z s' hq => ?_)
  cases z with
  | error y => exact tk y s' (L2N.XE.of_call I (fun _ _ _ q => q) hq)
  | ok fl =>
    cases fl with
    | ret u => exact I.after hq
    | next => exact hq.elim
    | brk => exact hq.elim
    | cont => exact hq.elim
theorem ce_callV (F : FnV X.prog X.w X.K X.mg X.base k f (SpV T mf)) (hr : Room k X.A) (hgd : X.A.guards = some []) (hg : Gl X x) (hm : X.mg x = some (.ref f)) (hk : PySem.W.keepIn X.K (.ref f) = true) (tk : L2N.Takes X W) (ha : PA X (e :: es) (tA T W ma))
    (hdb : (x == ("__debug__" : Str)) = false := by decide) (he : starEach (e :: es) X.env = (false, eval e X.env) :: starEach es X.env := by rfl) (hpl : (backTo pos (starEach es X.env)).any (·.1) = false := by rfl) :
    PE X (.Call (.Name x p) (e :: es) [] pos) (tE T W (eCall mf ma)) := by
  refine ⟨fun pins s σ H Q I h => wpAny_Call_Name_kw (ld_glob I hg hm ?_ hdb)⟩
  have h : tA T W ma σ H fun vs H1 => SpV T mf vs H1 Q fun c d H' => W c d σ H' := tG_bnd (R := RVs T) h fun ρ s lo xs zs H1 r rl hx q => ⟨ρ, s, xs, r, hx, q⟩
  exact PySem.W.callWith_K (h₀ := X.base) I.ok.mod.kin hk (thn (ha.run pos pins s σ H _ I h) fun us s1 ⟨vs, H1, I1, r, q⟩ => ⟨I1.kIn, run_V F hr hgd tk I1 r q⟩) he hpl
end
/-- a written empty tuple -/
theorem empty_rv {T : Tb} {ρ : List Addr} {H : Hp} {a : Addr} {od : Option Addr} {n : Nat} {sl : Array (Option Value)} (h : T.K.lookup a = some ⟨.type "tuple", od, .seq #[] n, sl⟩) : RV T ρ H (.tup []) (.ref a) :=
  .tup (.inr ⟨_, _, _, h, rfl, rfl, Nat.zero_le _, .nil⟩) .nil
end Sm

/-! S31: a list unpacked into targets -/
namespace Sm
open PySem L2
def gUl (gs : List GM) : GM := fun v lo s => match v with
  | .ref j => match s[j]? with
    | some (.lst xs) => match gAll gs xs lo s with
      | some (lo', s') => .ok lo' s'
      | none => .fail
    | _ => .fail
  | _ => .fail
section
variable {X : Cx} {T : Tb} {W : WX} {es : List Expr} {gs : List GM} {pos : Pos} {kk : Nat}
end
end Sm

/-! S34: f-strings, x or y of lists, split() -/
namespace Sm
open PySem L2
/-- {x}: a text or an int -/
def fmtM (x : Vl) : M Vl := fun s => match x with
  | .str y => if y.length ≤ LIM then .ok (.str y) s else .fail
  | .int i => if i.natAbs.log2 < 1920 then .ok (.str (Str.ofString (toString i))) s else .fail
  | _ => .fail
def eFmt (m : EM) : EM := fun lo => bnd (m lo) fmtM
/-- the parts of a text one behind the other -/
def jnd : List EM → Str → EM
  | [], acc => fun _ => ret (.str acc)
  | m :: ms, acc => fun lo => bnd (m lo) fun x s => match x with
    | .str y => if (acc ++ y).length ≤ LIM then jnd ms (acc ++ y) lo s else .fail
    | _ => .fail
def eJnd (ms : List EM) : EM := jnd ms Str.empty
/-- x or y, x a list -/
def eOrL (a b : EM) : EM := fun lo => bnd (a lo) fun x s => match lstOf x s with
  | some xs => if xs.isEmpty = true then b lo s else .ok x s
  | none => .fail
/-- x.split() -/
def oSplit0 : OMt
  | .str a, [], s => if a.length + 2 ≤ LIM then some (.ref s.length, s ++ [.lst ((Txt.words a).map Vl.str)]) else none
  | _, _, _ => none
/-- str(x): texts, ints, tuples -/
def oStrD : OC
  | [.str y], s => some (.str y, s)
  | [.int i], s => if i.natAbs.log2 < 1920 then some (.str (Str.ofString (toString i)), s) else none
  | [.tup xs], s => match toD 40 s (.tup xs) with
    | some d => if d.showable && decide (d.shown.length ≤ LIM) then some (.str d.shown, s) else none
    | none => none
  | _, _ => none
section
variable {X : Cx} {T : Tb} {W : WX} {a b e : Expr} {ma mb m : EM} {pos : Pos} {rest es : List Expr} {ms : List EM}
end
end Sm

/-! S42: own exceptions with one field: raise C(e) -/
namespace Sm
section
open PySem PySem.W PySem.Calls PyProof.Rows PySem.HandSPX Builtin Builtin.ObjectAttr
variable {prog : Program} {w : World} {A : Around} {R : Result → Shared → Prop} {hp : Heap} {g : Array GenState} {d : Drawn} {t : Nat} {os : OsState}
/-- the first field of an exception of any base -/
theorem ox_store {K : W.Frag} {nm : Str} {tk : Tok} {v : Value} {e C : Addr} {fv : Array Value} {cd : ClassData} (kin : K.In hp) (he : hp.get? e = some { cls := .ref C, data := .fields fv }) (hcd : W.clsIn K C = some cd) (hob : cd.mro.contains (.type "object") = true)
    (pass : ∀ z : Value, refuseLoop z "__setattr__" cd.mro = pure ()) (hdict : cd.hasDict = true) (hnone : W.findIn K (.ref C) nm = some none)
    (fin : ∀ h' tk' dx, (∀ b o, b ≠ e → hp.get? b = some o → h'.get? b = some o) → hp.objs.size ≤ dx → dx ≠ e → h'.get? e = some { cls := .ref C, dict := some dx, data := .fields fv } → h'.Ns1 dx (fun y => if y = nm then some v else none) → R (.ok (.ret .none)) ⟨h', g, d, tk', os⟩) :
    codeAny (model prog w) A (.call (.builtin "object.__setattr__") ⟨[.ref e, .str nm tk, v], []⟩) R ⟨hp, g, d, t, os⟩ := by
  have inst : W.InstAt hp e { cls := .ref C, data := .fields fv } C none := ⟨he, rfl, rfl, trivial⟩
  have sf := F.store_object
  have nemp : cd.mro.isEmpty = false := by
    cases q : cd.mro with
    | nil => rw [q] at hob; simp at hob
    | cons _ _ => rfl
  have apart : e ≠ hp.objs.size := Nat.ne_of_lt (Heap.lt_size he)
  have isob : W.Looks (model prog w) hp (isInstance (.ref e) (.type "object")) true := inst.type.andThen (W.looks_mroIn kin (by unfold W.mroIn; rw [hcd, Option.bind_some, if_neg (by rw [nemp]; decide), hob]))
  refine codeAny_call_builtin sf.slot.plain sf.entry (@W.check_slot (model prog w) _ _ ⟨hp, g, d, t, os⟩ "object.__setattr__" "object" "__setattr__" (.ref e) [.str nm tk, v] [] _ sf.kind sf.split isob (sf.args (.ref e) (.str nm tk) v) ?_)
  have lm : W.Looks (model prog w) hp (mroOf (.ref C)) cd.mro := (W.looks_clsIn kin hcd).andThen .now
  have lt : W.Looks (model prog w) hp (storeTaker? none) none := .now
  have lc : W.Looks (model prog w) hp (classData C) cd := W.looks_clsIn kin hcd
  rw [W.osa_eq, refuse_eq]
  refine wpAny_bind (wpAny_bind (inst.type.at (wpAny_bind (lm.at ?_))))
  rw [pass]
  refine wpAny_pure (wpAny_bind (inst.type.at (wpAny_bind ((W.looks_findIn kin hnone).at (wpAny_bind (lt.at ?_))))))
  show wpAny _ _ (storeInOwnDict (.ref e) (.ref C) (.str nm tk) nm v false) _ _ _
  obtain ⟨nm', bs, mro, ns, qn, hd, sn, sb, ab, col, del⟩ := cd
  dsimp only at hdict
  subst hdict
  unfold storeInOwnDict ownDictForStores
  repeat (first | with_reducible refine store_in_new ?_ ?_ | with_reducible refine wpAny_loadPart_at he ?_ | with_reducible refine lc.at ?_ | wp_step)
  · exact ⟨_, #[], _, (Heap.get?_update_ne _ _ _ _ apart.symm).trans (Heap.get?_push_at rfl rfl), rfl, fun z hz => absurd hz (by simp), fun _ => rfl⟩
  · intro h' tk' hn' hs
    have he1 : (hp.push { cls := .type "dict", data := .dict #[] }).get? e = some { cls := .ref C, data := .fields fv } := Heap.get?_push_of_some _ he
    refine fin h' tk' hp.objs.size (fun b o hb ho => ?_) (Nat.le_refl _) apart.symm ?_ hn'
    · exact (hs.2 b (Nat.ne_of_lt (Heap.lt_size ho))).trans ((Heap.get?_update_ne _ _ _ _ hb).trans (Heap.get?_push_of_some _ ho))
    · exact (hs.2 e apart).trans (Heap.get?_update_self _ he1 rfl)
/-- what the written part says of the class x at C and of its __init__ at fI: def __init__(self, par): self.fld = par -/
structure OxT (K : W.Frag) (mg : Str → Option Value) (x fld : Str) (C fI : Addr) : Prop where
  gC : mg x = some (.ref C)
  cls : ∃ (B newId initId : String) (bmB : List Value) (nm q : Str) (N : Addr) (bs bm : List Value) (sn : List Str) (sub : List Value) (ab : Bool) (col : Option Bool) (dd : Option Addr) (k0 k1 k2 k3 k5 : Option Value), ExcBaseFacts B newId initId bmB ∧
    K.lookup C = some (excClassObj nm q C N bs bm true sn sub ab col dd k0 k1 k2 k3 k5 newId) ∧ (∀ Y : String, bm.contains (.type Y) = bmB.contains (.type Y)) ∧ (∀ v : Value, refuseLoop v "__setattr__" (.ref C :: bm) = pure ()) ∧ bm.contains (.type "object") = true
  sa : W.findIn K (.ref C) "__setattr__" = some (some (.builtin "object.__setattr__"))
  ga : W.findIn K (.ref C) "__getattribute__" = some (some (.builtin "BaseException.__getattribute__"))
  gg : W.findIn K (.ref C) "__getattr__" = some none
  noN : W.findIn K (.ref C) fld = some none
  iC : W.findIn K (.ref C) "__init__" = some (some (.ref fI))
  tI : W.typeIn K (.ref fI) = some (.type "function")
  kC : W.keepIn K (.ref C) = true
  exC : W.subIn K (.ref C) (.type "BaseException") = some true
  tyC : W.typeIn K (.ref C) = some (.type "type")
  hdC : W.hasDictIn K C = true
  fn : ∃ (qual par : Str) (st : Stmt) (fd : FuncData) (q1 q2 q3 q4 : Pos), L2.Fun K "__init__" qual st fI fd ∧ L2.Binds K fd ["self", par] [] ∧ L2.defBody st = [.Assign [.Attribute (.Name "self" q1) fld q2] (.Name par q3) q4] ∧
    (L2.defScope st).names.lookup (Str.ofString "self") = some NameKind.local ∧ (L2.defScope st).names.lookup par = some NameKind.local ∧ par ≠ "self" ∧ (par == ("__debug__" : Str)) = false ∧ (L2.defScope st).isCoroutine = false ∧ (L2.defScope st).isGenerator = false ∧ (L2.defScope st).kind = .function
end
section
open PySem PySem.W PySem.Calls PySem.Spec PyProof.Rows PySem.HandSPX L2
variable {prog : Program} {w : World} {A : Around} {E : Value → Shared → Prop} {R : Result → Shared → Prop} {s : Shared} {K : W.Frag} {mg : Str → Option Value} {C fI : Addr} {x fld : Str}
/-- what __init__ leaves of a fresh exception at e -/
structure OxEnd (fld : Str) (h h' : Heap) (e C dx t1 : Addr) (v : Value) : Prop where
  keep : ∀ b o, b ≠ e → h.get? b = some o → h'.get? b = some o
  obj : h'.get? e = some { cls := .ref C, dict := some dx, data := .fields #[.ref t1, .none, .none, .none, .bool false, .none] }
  big : h.objs.size ≤ dx
  ne : dx ≠ e
  ns : h'.Ns1 dx (fun y => if y = fld then some v else none)
theorem ld_loc {M : Model} {s : Shared} {name : Str} {scope : Scope} {L a : Addr} {cd : Value} {m : Str → Option Value} {y : Str} {pos : Pos} {v : Value} {Q : Value → Shared → Prop} {A : Around} {E : Value → Shared → Prop} (hn : s.heap.Ns L m) (hv : m y = some v)
    (hk : scope.kind = .function) (hl : scope.names.lookup y = some .local) (hd : (y == ("__debug__" : Str)) = false) (h : Q v s) : wpAny M A (eval (.Name y pos) (envOfC name scope L a cd)) Q E s := wpAny_Name (wpAny_loadName_local hk hl hn hv h) hd
theorem ox_init (T : OxT K mg x fld C fI) {e t0 : Addr} {v : Value} (X : K.In s.heap) (hlim : s.heap.NoLimit) (he : s.heap.get? e = some (excO C t0)) (hroom : A.depth < recursionLimit)
    (hq : ∀ h' tk dx, OxEnd fld s.heap h' e C dx t0 v → R (.ok (.ret .none)) { s with heap := h', toks := tk }) : codeAny (model prog w) A (.call (.ref fI) ⟨[.ref e, v], []⟩) R s := by
  obtain ⟨qual, par, st, fd, q1, q2, q3, q4, F, hb, hbody, ls, lp, ps, pd, c1, c2, c3⟩ := T.fn
  obtain ⟨B, newId, initId, bmB, nm, q, N, bs, bm, sn, sub, ab, col, dd, k0, k1, k2, k3, k5, _, hC, _, pass, hob⟩ := T.cls
  have hcl : clsIn K C = some { name := nm, bases := bs, mro := .ref C :: bm, ns := N, qualname := q, hasDict := true, slotNames := sn, subclasses := sub, abstract := ab, collection := col, hasDel := false } := by unfold clsIn; rw [hC] <;> rfl
  obtain ⟨oc, od, kV, doc, pm, an, cdv, ct, osl, rfl, lk, hcd⟩ := F.ex
  refine Att.call_fn (binds := [("self", .ref e), (par, v)]) X hlim lk hcd hroom (hb s [.ref e, v] X rfl) (by simp [ls, lp]) (fun s1 IC => ?_) c1 c2 c3
  obtain ⟨h1, tk1, rfl⟩ := IC.toInCall.same
  have k := IC.toInCall.keep
  have hn := IC.toInCall.ns
  have X1 : K.In h1 := X.keeps k
  have he1 := k _ _ he
  have g1 : bindL (envOfC qual (defScope st) s.heap.objs.size fI cdv).kindOf [("self", .ref e), (par, v)] (fun _ => none) "self" = some (.ref e) := bindL_get (P := ["self", par]) (vs := [.ref e, v]) (i := 0) (by simp [ps.symm]) rfl rfl ls
  have g2 : bindL (envOfC qual (defScope st) s.heap.objs.size fI cdv).kindOf [("self", .ref e), (par, v)] (fun _ => none) par = some v := bindL_get (P := ["self", par]) (vs := [.ref e, v]) (i := 1) (by simp [ps.symm]) rfl rfl lp
  rw [hbody]
  refine wpAny_execs_cons (plainObj_wpAny_Assign_Attribute ?_)
  refine ld_loc hn g2 c3 lp pd (ld_loc hn g1 c3 ls (by decide) ?_)
  refine set_plain X1 (ox := excO C t0) (od := none) ⟨he1, rfl, rfl, trivial⟩ T.sa ?_
  refine ox_store X1 he1 hcl (by show (Value.ref C :: bm).contains _ = true; rw [List.contains_cons, hob, Bool.or_true]) pass rfl T.noN (fun h3 tk3 dx k3 dn dne hx3 hn3 => ?_)
  show wpAny _ _ (execs _ _) _ _ _
  have z : s.heap.objs.size < h1.objs.size := hn.lt
  exact wpAny_execs_nil (hq h3 tk3 dx ⟨fun b o hb e => k3 b o hb (k b o e), hx3, Nat.le_of_lt (Nat.lt_of_lt_of_le z dn), dne, hn3⟩)
/-- a made exception -/
structure OxMade (fld : Str) (h h' : Heap) (e C d : Addr) (v : Value) : Prop where
  keep : ∀ b o, h.get? b = some o → h'.get? b = some o
  new : h.objs.size ≤ e
  obj : ∃ oe vs, h'.get? e = some oe ∧ oe.cls = .ref C ∧ oe.dict = some d ∧ oe.data = .fields vs ∧ vs[1]? = some .none ∧ vs[2]? = some .none
  big : h.objs.size ≤ d
  ne : d ≠ e
  ns : h'.Ns1 d (fun y => if y = fld then some v else none)
theorem ox_made (T : OxT K mg x fld C fI) {v : Value} (X : K.In s.heap) (hlim : s.heap.NoLimit) (hroom : A.depth + 1 < recursionLimit)
    (hq : ∀ h' tk e d, OxMade fld s.heap h' e C d v → R (.ok (.ret (.ref e))) { s with heap := h', toks := tk }) : codeAny (model prog w) A (.call (.ref C) ⟨[v], []⟩) R s := by
  obtain ⟨B, newId, initId, bmB, nm, q, N, bs, bm, sn, sub, ab, col, dd, k0, k1, k2, k3, k5, EF, hC, cont, pass, hob⟩ := T.cls
  obtain ⟨hp, g, dr, tk, os⟩ := s
  have k : ∀ b o, hp.get? b = some o → ((hp.push (kdv_tup [v])).push (excO C hp.objs.size)).get? b = some o := fun b o e => Heap.get?_push_of_some _ (Heap.get?_push_of_some _ e)
  have hget : ((hp.push (kdv_tup [v])).push (excO C hp.objs.size)).get? (hp.objs.size + 1) = some (excO C hp.objs.size) := by heap_get
  refine call_own EF cont (X _ _ hC) (looks_findIn X T.iC) (fun self => bind_fn X self T.tI) (by rw [sizeLine_eq]; exact (by decide : 1 ≤ 16777216)) ?_
  refine ox_init (s := ⟨(hp.push (kdv_tup [v])).push (excO C hp.objs.size), g, dr, tk, os⟩) T (X.keeps k) (hlim.keeps k) hget ?_ fun h' tk' dx ⟨k', hx, dn, dne, hns⟩ => ?_
  · show A.depth + 1 < recursionLimit
    exact hroom
  · have old : ∀ b o, hp.get? b = some o → h'.get? b = some o := fun b o e => k' b o (Nat.ne_of_lt (Nat.lt_succ_of_lt (Heap.lt_size e))) (k b o e)
    have z : hp.objs.size + 1 + 1 ≤ dx := by
      first
        | (simpa only [Heap.size_push] using dn)
        | exact dn
    exact ⟨rfl, hq h' tk' (hp.objs.size + 1) dx ⟨old, Nat.le_succ _, ⟨_, _, hx, rfl, rfl, rfl, rfl, rfl⟩, Nat.le_trans (Nat.le_trans (Nat.le_succ _) (Nat.le_succ _)) z, dne, hns⟩⟩
end
section
open PySem PySem.Spec PyProof.Rows L2
variable {X : Cx} {T : Tb} {W : WX} {C fI : Addr} {x fld : Str} {a : Expr} {me : EM} {p pos pos2 : Pos} {k c : Nat}
theorem relO_one {fld : Str} {v : V} {u : Value} (r : RelV v u) (f : Str) : RelO (List.lookup f [(fld, v)]) (if f = fld then some u else none) := by
  by_cases h : f = fld
  · subst h
    rw [if_pos rfl]
    have q : List.lookup f [(f, v)] = some v := by simp [List.lookup]
    rw [q]
    exact r
  · rw [if_neg h]
    have qw : (f == fld) = false := by simpa using h
    have q2 : List.lookup f [(fld, v)] = none := by simp [List.lookup, qw]
    rw [q2]
    trivial
def tMkX (C : Addr) (fld : Str) (ta : TA) : L2.St → Hp → XK → Prop := fun σ H Q => ta σ H fun vs H1 => ∃ v, vs = [v] ∧ ∀ d, H1 d = none → Q (.ref C) (some d) (upd H1 d (.xd [(fld, v)]))
theorem pmk_x {ta : TA} (O : OxT X.K X.mg x fld C fI) (hr : Room k X.A) (ha : PA X [a] ta) (hg : Gl X x) (hdb : (x == ("__debug__" : Str)) = false := by decide)
    (he : starEach (a :: []) X.env = (false, eval a X.env) :: starEach [] X.env := by rfl) (hpl : (backTo pos (starEach [] X.env)).any (·.1) = false := by rfl) :
    L2N.PMk X (.Call (.Name x p) [a] [] pos) (tMkX C fld ta) := by
  intro pins s σ H Q I h
  refine wpAny_Call_Name_kw (ld_glob I hg O.gC ?_ hdb)
  refine PySem.W.callWith_K (h₀ := X.base) I.ok.mod.kin O.kC (thn (ha.run pos pins s σ H _ I h) fun us s1 hh => ?_) he hpl
  obtain ⟨vs, H1, I1, r1, v, ev, q1⟩ := hh
  subst ev
  refine ⟨I1.kIn, ?_⟩
  cases r1 with
  | cons rv rn =>
    rename_i v' us'
    cases rn
    show wpAny _ _ (call (.ref C) [v']) _ _ _
    have hlim := I1.nolimit
    obtain ⟨hp, g, dr, tk, os⟩ := s1
    refine wpAny_call (ox_made O I1.kIn hlim (by have := hr.dp; omega) fun h' tk' e d M => ?_)
    show L2N.MkP X pins σ Q (.ref e) ⟨h', g, dr, tk', os⟩
    obtain ⟨oe, fv, hoe, hc, hd, hdat, h1, h2⟩ := M.obj
    have hns := M.ns
    obtain ⟨G', g1, g2⟩ := restrict h' fun b => decide (b ≠ e)
    have gk : ∀ b, b ≠ e → G'.get? b = h'.get? b := fun b hb => g1 b (decide_eq_true hb)
    have ge : G'.get? e = none := g2 e (by simp)
    have old : ∀ b o, hp.get? b = some o → G'.get? b = some o := fun b o q => (gk b (Nat.ne_of_lt (Nat.lt_of_lt_of_le (Heap.lt_size q) M.new))).trans (M.keep b o q)
    have ob : ObjOk X.prog X.w (upd H1 d (.xd [(fld, v)])) G' d (.xd [(fld, v)]) := ⟨_, hns.at (fun o q => (gk d M.ne).trans q), fun f => relO_one rv f⟩
    have J : Inv X pins σ (upd H1 d (.xd [(fld, v)])) ⟨G', g, dr, tk', os⟩ := I1.laid (t' := tk') old M.big ob
    refine ⟨e, oe, fv, ⟨G', g, dr, tk', os⟩, _, .ref C, some d, rfl, J, fun b o q => ?_, ge, hoe, ⟨hc, hd, fun vs e => by rw [hdat] at e; cases e; exact h2⟩, hdat, h1, ?_, rfl, I1.bare, raises_own O.exC O.tyC, q1 d (I1.hok.fresh M.big)⟩
    · by_cases hb : b = e
      · have q' : G'.get? b = some o := q
        rw [hb, ge] at q'; cases q'
      · exact (gk b hb).symm.trans q
    · rw [upd_ne (Ne.symm M.ne)]
      exact I1.hok.fresh M.new
/-- raise C(e): the class's index, the field -/
def sRaise (c : Nat) (fld : Str) (e : EM) : SM := bndS e fun lo v s => .exc ⟨c, some [(fld, v)]⟩ lo s
theorem cs_raise (hc : X.calm = true) (O : OxT X.K X.mg x fld C fI) (hcl : T.cl[c]? = some C) (hr : Room k X.A) (tk : L2N.Takes X W) (hg : Gl X x) (ha : PE X a (tE T W me)) (hdb : (x == ("__debug__" : Str)) = false := by decide)
    (he : starEach (a :: []) X.env = (false, eval a X.env) :: starEach [] X.env := by rfl) (hpl : (backTo pos (starEach [] X.env)).any (·.1) = false := by rfl) :
    PS X (.Raise (some (.Call (.Name x p) [a] [] pos)) none pos2) (tS T W (sRaise c fld me)) := ps_mono (L2N.ps_raise hc tk (pmk_x (ta := tA T W (aCons me aNil)) O hr (ca_cons ha ca_nil he) hg hdb he hpl)) fun D σ H h => by
  obtain ⟨ρ, s, lo, r, rl, q⟩ := h
  refine ⟨ρ, s, lo, r, rl, ?_⟩
  unfold sRaise bndS at q
  show Po (RVs T) T _ ρ H (aCons me aNil lo s) _
  unfold aCons aNil bnd
  cases e : me lo s with
  | ok v s1 =>
    rw [e] at q
    simp only [ret, bnd]
    intro ρ' H' vs x r' hv
    cases hv with
    | @cons _ z _ _ h1 h2 =>
      cases h2
      refine ⟨_, rfl, fun d hd => ?_⟩
      have x2 : Ext T ρ' H' ρ' (upd H' d (.xd [(fld, z)])) := ext_upd hd
      exact q ρ' (upd H' d (.xd [(fld, z)])) σ C (x.trans x2) (r'.laid hd) ((rl.mono x).mono x2) hcl d _ upd_same rfl (.cons (h1.mono x2) .nil)
  | exc z s1 =>
    rw [e] at q
    exact fun ρ' H' D x r' hD => q ρ' H' σ D x r' (rl.mono x) hD
  | fail => rw [e] at q; exact q
end
end Sm

/-! S43: try .. except C as n; what runs in such a suite -/
namespace Sm
open PySem PySem.Spec PyProof.Rows L2 L2H
/-- the same table, with other handled exceptions -/
abbrev Tb.on (T : Tb) (l : List XI) : Tb := ⟨T.K, T.w, T.cl, T.fns, l⟩
section
variable {T : Tb} {l : List XI} {ρ ρ' : List Addr} {H H' : Hp} {s : Sto} {lo : Lo} {σ : L2.St}
mutual
theorem RV.on : ∀ {x : Vl} {v : V}, RV T ρ H x v → RV (T.on l) ρ H x v
  | _, _, .non => .non
  | _, _, .bl b => .bl b
  | _, _, .int i => .int i
  | _, _, .str x => .str x
  | _, _, .tup h hs => .tup h (RVs.on hs)
  | _, _, .ref h => .ref h
  | _, _, .scr h => .scr h
  | _, _, .scrK h => .scrK h
  | _, _, .ty n => .ty n
  | _, _, .fn h => .fn h
theorem RVs.on : ∀ {xs : List Vl} {vs : List V}, RVs T ρ H xs vs → RVs (T.on l) ρ H xs vs
  | _, _, .nil => .nil
  | _, _, .cons h hs => .cons (RV.on h) (RVs.on hs)
end
theorem RO.on {o : Ob} {a : Addr} (h : RO T ρ H o a) : RO (T.on l) ρ H o a := by
  cases o with
  | lst xs => obtain ⟨vs, h, r⟩ := h; exact ⟨vs, h, r.on⟩
  | dic xs => obtain ⟨vs, h, n, r⟩ := h; exact ⟨vs, h, n, r.on⟩
  | dit xs => obtain ⟨vs, h, n, r⟩ := h; exact ⟨vs, h, n, r.on⟩
  | fdic xs => obtain ⟨o, vs, h, n, r⟩ := h; exact ⟨o, vs, h, n, r.on⟩
  | set xs => obtain ⟨n, S, q, h⟩ := h; exact ⟨n, S, q, h⟩
  | ins c xs => obtain ⟨C, dx, vs, hc, h, n, r⟩ := h; exact ⟨C, dx, vs, hc, h, n, r.on⟩
theorem Rel.on (r : Rel T ρ H s) : Rel (T.on l) ρ H s := ⟨r.len, r.nd, fun i a o h1 h2 => (r.ob i a o h1 h2).on⟩
theorem Ext.on (e : Ext T ρ H ρ' H') : Ext (T.on l) ρ H ρ' H' := ⟨⟨e.pre, e.tup, e.frz, e.xd⟩, e.frd⟩
theorem RL.enter {i : Nat} {a d : Addr} {ns : List Str} {xs : List Vl} {vs : List (Str × V)} (rl : RL T ρ H lo σ) (hd : H d = some (.xd vs)) (hn : vs.map (·.1) = ns) (hv : RVs T ρ H xs (vs.map (·.2))) :
    RL (T.on [⟨i, a, d, ns, xs⟩]) ρ H (lo.set i none) (σ.set i (some (.ref a))) := by
  refine ⟨by rw [List.length_set, List.length_set]; exact rl.len, fun j x h => ?_, fun p hp h => ?_⟩
  · by_cases e : i = j
    · subst e
      by_cases hi : i < lo.length
      · rw [List.getElem?_set_self hi] at h; cases h
      · rw [List.getElem?_eq_none (by rw [List.length_set]; omega)] at h; cases h
    · rw [List.getElem?_set_ne e] at h ⊢
      obtain ⟨v, h1, h2⟩ := rl.at_ j x h
      exact ⟨v, h1, h2.on⟩
  · simp at hp
    subst hp
    have hi : i < lo.length := by
      have := (List.getElem?_eq_some_iff.mp h).1
      rw [List.length_set] at this
      exact this
    exact ⟨List.getElem?_set_self (by rw [← rl.len]; exact hi), vs, hd, hn, hv.on⟩
theorem RL.leave {i : Nat} (hx : T.xs = []) (rl : RL (T.on l) ρ H lo σ) : RL T ρ H (lo.set i none) (σ.set i none) := by
  refine ⟨by rw [List.length_set, List.length_set]; exact rl.len, fun j x h => ?_, fun p hp => by rw [hx] at hp; simp at hp⟩
  by_cases e : i = j
  · subst e
    by_cases hi : i < lo.length
    · rw [List.getElem?_set_self hi] at h; cases h
    · rw [List.getElem?_eq_none (by rw [List.length_set]; omega)] at h; cases h
  · rw [List.getElem?_set_ne e] at h ⊢
    obtain ⟨v, h1, h2⟩ := rl.at_ j x h
    exact ⟨v, h1, h2.on (l := T.xs)⟩
end
/-- try: b; except C as n: su; n's slot is i -/
def sTryAs (hit : Nat → Option Bool) (i : Nat) (b : SM) (su : Ex → SM) : SM := fun lo s => match b lo s with
  | .exc e lo' s' => match hit e.c with
    | some true => match e.fs with
      | some _ => match su e (lo'.set i none) s' with
        | .nx lo2 s2 => .nx (lo2.set i none) s2
        | .rt v s2 => .rt v s2
        | .bk lo2 s2 => .bk (lo2.set i none) s2
        | .ct lo2 s2 => .ct (lo2.set i none) s2
        | _ => .fail
      | none => .fail
    | some false => .exc e lo' s'
    | none => .fail
  | r => r
section
variable {X : Cx} {T : Tb} {W : WX} {x n : Str} {Cc : Addr} {i : Nat} {body suite : List Stmt} {b0 : Stmt} {np pos pos' : Pos} {mb : SM} {su : Ex → SM} {hit : Nat → Option Bool}
def tSuite (T : Tb) (i : Nat) (hit : Nat → Option Bool) (su : Ex → SM) : Addr → Value → Option Addr → TS := fun a cls d D σ H => ∃ (e : Ex) (C dd : Addr) (fs : List (Str × Vl)), cls = .ref C ∧ d = some dd ∧ e.fs = some fs ∧ T.cl[e.c]? = some C ∧ hit e.c = some true ∧
  tS (T.on [⟨i, a, dd, fs.map (·.1), fs.map (·.2)⟩]) WF (su e) D σ H
theorem cs_tryAs (hN : X.N.Nodup) (hi : X.N[i]? = some n) (hln : X.env.kindOf n = some .local) (hc : Names X x (.ref Cc)) (tk : L2N.Takes X W)
    (hit1 : ∀ c C, hit c = some true → T.cl[c]? = some C → PySem.W.exmOne X.K (.ref C) (.ref Cc) = some true) (hit0 : ∀ c C, hit c = some false → T.cl[c]? = some C → PySem.W.exmOne X.K (.ref C) (.ref Cc) = some false)
    (hb : ∀ (W : WX) (pn : List (Addr × Obj)) (xe : Value → Shared → Prop), L2N.Takes (X.tr pn xe) W → PassesOwn (model X.prog X.w) X.A X.env xe → PSs (X.tr pn xe) body (tS T W mb))
    (hsu : ∀ (a : Addr) (oe : Obj) (e : Ex) (C d : Addr) (fs : List (Str × Vl)) (pn : List (Addr × Obj)), e.fs = some fs → T.cl[e.c]? = some C → hit e.c = some true → L2N.Zn (.ref C) (some d) oe → (∃ vs, oe.data = .fields vs) →
      PSs (X.suite a ((a, oe) :: pn)) (b0 :: suite) (tS (T.on [⟨i, a, d, fs.map (·.1), fs.map (·.2)⟩]) WF (su e)))
    (hs : X.stack = X.env :: X.outer := by rfl) (hf : X.env.frame = some X.env.locals := by rfl) (hx : T.xs = [] := by rfl) :
    PS X (.Try body [.ExceptHandler (some (.Name x np)) (some n) (b0 :: suite) pos'] [] [] pos) (tS T W (sTryAs hit i mb su)) := by
  refine ps_mono (L2N.ps_try_as (tb := fun W => tS T W mb) (ts := tSuite T i hit su) hs hf hN hi hln hc tk hb (fun a oe cls d pn hz hf => ⟨fun pins s σ H D I h => ?_⟩)) fun D σ H h => ?_
  · obtain ⟨e, C, dd, fs, rfl, rfl, h1, h2, h3, h4⟩ := h
    exact (hsu a oe e C dd fs pn h1 h2 h3 hz hf).run pins s σ H D I h4
  · obtain ⟨ρ, s, lo, r, rl, p⟩ := h
    refine ⟨ρ, s, lo, r, rl, ?_⟩
    unfold sTryAs at p
    cases q : mb lo s with
    | nx lo' s' => rw [q] at p; exact p
    | rt v s' => rw [q] at p; exact p
    | bk lo' s' => rw [q] at p; exact p
    | ct lo' s' => rw [q] at p; exact p
    | fail => rw [q] at p; exact p
    | exc e lo' s' =>
      rw [q] at p
      simp only at p
      show PoXS T _ ρ H e lo' s'
      intro ρ' H' σ' C x r' rl' hC
      cases hh : hit e.c with
      | none => rw [hh] at p; exact p.elim
      | some b =>
        rw [hh] at p
        cases b with
        | false =>
          have w := p ρ' H' σ' C x r' rl' hC
          cases hfs : e.fs with
          | none =>
            rw [hfs] at w
            exact ⟨false, hit0 _ _ hh hC, fun z => Bool.noConfusion z, fun _ => w⟩
          | some fs =>
            rw [hfs] at w
            exact fun d vs h1 h2 h3 => ⟨false, hit0 _ _ hh hC, fun z => Bool.noConfusion z, fun _ => w d vs h1 h2 h3⟩
        | true =>
          cases hfs : e.fs with
          | none => rw [hfs] at p; exact p.elim
          | some fs =>
            rw [hfs] at p
            simp only at p
            intro d vs h1 h2 h3
            refine ⟨true, hit1 _ _ hh hC, fun _ a ha => ⟨e, C, d, fs, rfl, rfl, hfs, hC, hh, ρ', s', lo'.set i none, r'.on, rl'.enter h1 h2 h3, ?_⟩, fun z => Bool.noConfusion z⟩
            cases q2 : su e (lo'.set i none) s' with
            | nx lo2 s2 =>
              rw [q2] at p
              exact fun ρ2 H2 σ2 x2 r2 rl2 => p ρ2 H2 _ (x.trans (x2.on (l := T.xs))) (r2.on (l := T.xs)) (rl2.leave hx)
            | rt v s2 =>
              rw [q2] at p
              exact fun ρ2 H2 z x2 r2 hz => p ρ2 H2 z (x.trans (x2.on (l := T.xs))) (r2.on (l := T.xs)) (hz.on (l := T.xs))
            | bk lo2 s2 =>
              rw [q2] at p
              exact fun ρ2 H2 σ2 x2 r2 rl2 => p ρ2 H2 _ (x.trans (x2.on (l := T.xs))) (r2.on (l := T.xs)) (rl2.leave hx)
            | ct lo2 s2 =>
              rw [q2] at p
              exact fun ρ2 H2 σ2 x2 r2 rl2 => p ρ2 H2 _ (x.trans (x2.on (l := T.xs))) (r2.on (l := T.xs)) (rl2.leave hx)
            | exc e2 lo2 s2 => rw [q2] at p; exact p.elim
            | fail => rw [q2] at p; exact p.elim
/-- n.f in the suite: the field of the handled exception -/
def eXf (i : Nat) (e : Ex) (f : Str) : EM := fun lo s => match lo[i]?, e.fs with
  | some none, some fs => match getS fs f with
    | some v => .ok v s
    | none => .fail
  | _, _ => .fail
theorem ce_xf {a C d : Addr} {oe : Obj} {e : Ex} {fs : List (Str × Vl)} {pn : List (Addr × Obj)} {f : Str} (hfs : e.fs = some fs) (hz : Zc (.ref C) (some d) oe) (hf : ∃ vs, oe.data = .fields vs) (xc : XfC X.K C) (hno : PySem.W.findIn X.K (.ref C) f = some none)
    (hN : X.N[i]? = some n) (hv : Vis X.env.scope n) (hd : (n == ("__debug__" : Str)) = false := by decide) (hcd : (n == ("__classdict__" : Str)) = false := by decide) (hb : attributeBase (.Name n np) f X.env (eval (.Name n np) X.env) = eval (.Name n np) X.env := by rfl) :
    PE (X.suite a ((a, oe) :: pn)) (.Attribute (.Name n np) f pos) (tE (T.on [⟨i, a, d, fs.map (·.1), fs.map (·.2)⟩]) W (eXf i e f)) :=
  pe_mono (pe_xf (pn := pn) xc hno hz hf (pe_var (i := i) (x := n) hN hv hd hcd) hb) fun σ H Q h => by
    obtain ⟨ρ, s, lo, r, rl, p⟩ := h
    have p : Po (RV _) _ _ ρ H (eXf i e f lo s) Q := p
    unfold eXf at p
    rw [hfs] at p
    split at p
    · rename_i q1 q2
      cases q2
      obtain ⟨h1, vs, h2, h3, h4⟩ := rl.xc _ (List.mem_singleton.mpr rfl) q1
      split at p
      · rename_i v hv
        obtain ⟨w, h5, h6⟩ := (getS_ok (f := f) h3 h4).2 v hv
        exact ⟨_, h1, rfl, rfl, d, vs, w, rfl, h2, h5, p ρ H w .refl r h6⟩
      · exact p.elim
    · exact p.elim
end
end Sm

/-! S44: defs and methods called while an exception is handled -/
namespace Sm
open PySem PySem.Spec PyProof.Rows L2 L2H
theorem fn_simH {P : Program} {w : World} {K : PySem.W.Frag} {mg : Str → Option Value} {base : Heap} {k n : Nat} {x qual : Str} {st : Stmt} {f : Addr} {fd : FuncData} {N ps : List Str} {T : Tb} {b : SM} (F : Fun K x qual st f fd) (S : FnScope N ps (defScope st)) (hn : n = ps.length)
    (body : ∀ (cdv : Value) (A : Around) (outer : List Env) (s : Shared) (H : Hp) (E : XK) (p : Addr × Obj), Hot1 A p → RoomH k (A.deeper (envOfC qual (defScope st) s.heap.objs.size f cdv)) →
      PSs (cxH (L2N.CX P w) P w K mg base N qual (defScope st) f cdv A outer s H E p) (defBody st) (tS T (fun c d _ H' => E c d H') b)) (hx : T.xs = [] := by rfl) : FnH P w K mg base (L2N.CX P w) (k + 1) f fd ps (SpM T n (fnM N.length b)) := by
  obtain ⟨oc, od, kV, doc, pm, an, cdv, ct, osl, rfl, lk, hcd⟩ := F.ex
  exact fn_ofH lk hcd S (fun vs H Q E ⟨ρ, s, as, r, hv, hl, p⟩ => by rw [← hv.length, hl, hn]) fun A outer s H vs Q E p hot hr h => ⟨_, body cdv A outer s H E p hot hr, fn_body hx h⟩
/-- the methods m of the classes of tab, where an exception is handled -/
def MethOkH (X : Cx) (T : Tb) (m : Str) (k n : Nat) (tab : MTab) : Prop := ∀ c mf, tab c = some mf → ∀ C, T.cl[c]? = some C → ∃ (f : Addr) (fd : FuncData) (ps : List Str), Cls T.K C ∧ Meth T.K C m f ∧ FnH X.prog X.w X.K X.mg X.base (L2N.CX X.prog X.w) k f fd ps (SpM T (n + 1) mf) ∧ Binds X.K fd ps []
section
variable {X : Cx} {T : Tb} {l : List XI} {W : WX} {o : Expr} {apos pos : Pos} {mo : EM} {E : XK} {ρ : List Addr} {H : Hp} {Q : VK}
theorem po_off {r : Res Vl} (p : Po (RV (T.on l)) (T.on l) E ρ H r Q) : Po (RV T) T E ρ H r Q := by
  cases r with
  | ok a s => exact fun ρ' H' b e r' hb => p ρ' H' b e.on r'.on hb.on
  | exc z s =>
    intro ρ' H' C e r' hC
    have q := p ρ' H' C e.on r'.on hC
    cases hf : z.fs with
    | none => rw [hf] at q; exact q
    | some fs => rw [hf] at q; exact fun d vs h1 h2 h3 => q d vs h1 h2 h3.on
  | fail => exact p
theorem hot_suite {a : Addr} {oe : Obj} {cls : Value} {d : Option Addr} {pn : List (Addr × Obj)} (hz : L2N.Zn cls d oe) (hf : ∃ vs, oe.data = .fields vs) : HotC (X.suite a ((a, oe) :: pn)) := by
  obtain ⟨vs, hd⟩ := hf
  exact ⟨(a, oe), ⟨rfl, vs, hd, hz.2.2 vs hd⟩, List.mem_cons_self ..⟩
theorem ce_methH0 {m : Str} {k : Nat} {tab : MTab} {pl : Sem Bool} (ok : MethOkH X T m k 0 tab) (hr : RoomH k X.A) (hot : HotC X) (tk : L2N.Takes X W) (ho : PE X o (tE (T.on l) W mo))
    (ht : eval (.Call (.Attribute o m apos) [] [] pos) X.env = (do let ov ← eval o X.env; standAt apos.atName; let (f, first) ← holding [ov] (getMethod ov m pl); callWith pos f first (backTo pos (starEach [] X.env)) (backToKw pos (keywordEach [] X.env))) := by rfl)
    (hK : X.K = T.K := by rfl) : PE X (.Call (.Attribute o m apos) [] [] pos) (tE (T.on l) W (eMeth m (tabA 0 tab) mo aNil)) := by
  refine ⟨fun pins s σ H Q I h => ?_⟩
  have h : tE (T.on l) W mo σ H fun x H1 => ∃ (a C dx f : Addr) (fs : List (Str × V)) (mf : List Vl → M Vl) (fd : FuncData) (ps : List Str), x = .ref a ∧ H1 a = some (.ins C dx fs) ∧ Cls T.K C ∧ Meth T.K C m f ∧ fs.lookup m = none ∧ FnH X.prog X.w X.K X.mg X.base (L2N.CX X.prog X.w) k f fd ps (SpM T (0 + 1) mf) ∧ Binds X.K fd ps [] ∧
      SpM T (0 + 1) mf [.ref a] H1 Q fun c d H' => W c d σ H' := tG_bnd (R := RV (T.on l)) h fun ρ s lo x z H1 r rl hx p => by
    cases hx with
    | ref hρ =>
      rename_i j a
      simp only at p
      split at p
      · rename_i c fs hj
        split at p
        · rename_i mf hm hg
          unfold tabA at hm
          obtain ⟨mf0, hm0, rfl⟩ := Option.map_eq_some_iff.mp hm
          obtain ⟨C, dx, vs, h1, h2, h3, h4⟩ := r.ins hj hρ
          obtain ⟨f, fd, ps, k1, k2, k3, k4⟩ := ok c mf0 hm0 C h1
          exact ⟨a, C, dx, f, vs, mf0, fd, ps, rfl, h2, k1, k2, (getS_ok (f := m) h3 h4).1 hg, k3, k4, spM_of (r.on (l := T.xs)) (.cons (.ref hρ) .nil) rfl (po_off p)⟩
        · exact p.elim
      · exact p.elim
    | _ => exact p.elim
  refine PySem.W.methodCall_KW (pl := pl) (thn (ho.run pins s σ H _ I h) fun u s1 ⟨x, H1, I1, rx, a, C, dx, f, fs, mf, fd, ps, ex, ea, cl, mt, l, F, hb, q⟩ => ?_) ht
  subst ex
  obtain rfl : u = Value.ref a := rx
  rw [← hK] at cl mt
  refine getmeth_ok I1 ea cl mt l ?_
  exact PySem.W.callWith_K0 (first := [.ref a]) I1.kIn mt.kp (run_fnH (E := fun σ c d H' => W c d σ H') (us := [.ref a]) (vs := [.ref a]) F hr hot hb (L2N.passAt tk σ) I1 (.cons rfl .nil) q)
end
end Sm

/-! S45: super().__init__(..) at the begin of a def -/
namespace Sm
open PySem PySem.Spec PyProof.Rows L2
/-- the context of a def that closes over __class__ -/
def cxS (CX : CXT) (P : Program) (w : World) (K : PySem.W.Frag) (mg : Str → Option Value) (base : Heap) (N : List Str) (qual : Str) (scope : Scope) (f : Addr) (cd : Value) (cc : Addr) (A : Around) (outer : List Env) (s : Shared) (H : Hp) (E : XK) : Cx where
  prog := P
  w := w
  K := K
  mg := mg
  base := base
  A := A.deeper (PySem.W.ksEnv qual scope s.heap.objs.size f cd cc)
  N := N
  s_0 := s
  H_0 := H
  env := PySem.W.ksEnv qual scope s.heap.objs.size f cd cc
  outer := outer
  stack := PySem.W.ksEnv qual scope s.heap.objs.size f cd cc :: outer
  ex := []
  calm := true
  fn := fun y => y != "__class__"
  pn := []
  xe := fun e s' => wpAny (model P w) (A.deeper (PySem.W.ksEnv qual scope s.heap.objs.size f cd cc)) (leaving (PySem.W.ksEnv qual scope s.heap.objs.size f cd cc) e) (fun _ s'' => CX outer H s E e s'') (fun e' s'' => CX outer H s E e' s'') s'
structure FnScopeS (N P : List Str) (sc : Scope) : Prop where
  kind : sc.kind = .function
  co : sc.isCoroutine = false
  gen : sc.isGenerator = false
  nd : N.Nodup
  pre : N.take P.length = P
  par : ∀ x ∈ P, sc.names.lookup x = some .local
  nocell : ∀ y ∈ sc.names, y.2 ≠ .cell
  free : ∀ y ∈ sc.names, y.2 = .free → y.1 = "__class__"
  sup : sc.names.lookup (Str.ofString "super") = some NameKind.globalImplicit
  cls : sc.names.lookup (Str.ofString "__class__") = some NameKind.free
theorem inv_startS {CX : CXT} {P : Program} {w : World} {K : PySem.W.Frag} {mg : Str → Option Value} {base : Heap} {N ps : List Str} {qual : Str} {scope : Scope} {f cc D : Addr} {cd : Value} {A : Around} {outer : List Env} {s : Shared} {h1 : Heap} {tk : Nat} {H : Hp} {E : XK} {us : List Value} {vs : List V} {cl : Value} {cld : Option Addr} {csl : Array (Option Value)}
    (S : FnScopeS N ps scope) (hcell : K.lookup cc = some ⟨cl, cld, .cell (some (.ref D)), csl⟩) (hd : A.handled = none) (e0 : Env0 P w K mg base A outer s H) (hl : vs.length = ps.length) (r : Vals vs us) (hns : h1.Ns s.heap.objs.size (fun x => (ps.zip us).reverse.lookup x)) (hk : ∀ b o, s.heap.get? b = some o → h1.get? b = some o) :
    Inv (cxS CX P w K mg base N qual scope f cd cc A outer s H E) [] (L2.start N vs) H { s with heap := h1, toks := tk } := by
  have hpl : ps.length ≤ N.length := by have := congrArg List.length S.pre; rw [List.length_take] at this; omega
  have noA : ∀ b : Addr, b ∉ (cxS CX P w K mg base N qual scope f cd cc A outer s H E).ex := fun b z => absurd (show b ∈ ([] : List Addr) from z) (by simp)
  have one : ∀ {y : Str} {c : Addr}, List.lookup y [(Str.ofString "__class__", cc)] = some c → y = "__class__" ∧ c = cc := fun {y c} h => by
    by_cases e : y = "__class__"
    · subst e
      simp [List.lookup] at h
      exact ⟨rfl, h.symm⟩
    · have : (y == Str.ofString "__class__") = false := by simpa using e
      simp [List.lookup, this] at h
  have inb := e0.mod.kin _ _ hcell
  have ccs := (e0.bs _ _ inb).1
  refine ⟨⟨e0.mod, S.kind, rfl, rfl, Nat.le_refl _, fun y z c q1 q2 => ((one q1).1).trans ((one q2).1).symm, fun y hy => ?_, fun y c q1 q2 => ?_, fun _ => hd, Around.frames_deeper e0.frames, .inr ⟨rfl, rfl⟩, fun b z => absurd z (noA b), e0.bs, e0.bsz, fun b _ _ => noA b, fun b z => absurd z (noA b), e0.funs, e0.frf⟩,
    rfl, e0.bare, Un.kept hk, ⟨_, hns, fun i y v q1 q2 q3 => ?_⟩, fun y c q => (by obtain ⟨_, rfl⟩ := one q; exact ⟨some (.ref D), _, hk _ _ ccs, rfl⟩), e0.hok.fresh (Nat.le_refl _), fun y c q => by rw [(one q).2]; exact (e0.bs _ _ inb).2, fun p hp => absurd (show p ∈ ([] : List (Addr × Obj)) from hp) (by simp), e0.hok.kept hk, ?_⟩
  · have hy : scope.names.lookup y = some .cell ∨ scope.names.lookup y = some .free := hy
    rcases hy with hy | hy
    · exact absurd rfl (S.nocell _ (PySem.mem_of_lookup hy))
    · have e := S.free _ (PySem.mem_of_lookup hy) rfl
      exact ⟨cc, by show List.lookup y [(Str.ofString "__class__", cc)] = some cc; rw [show y = Str.ofString "__class__" from e]; simp [List.lookup]⟩
  · have e := (one q2).1
    have q1 : (y != "__class__") = true := q1
    rw [e] at q1
    simp at q1
  · have hi : i < vs.length := by
      unfold L2.start at q2
      by_cases hi : i < vs.length
      · exact hi
      · rw [List.getElem?_append_right (by simpa using hi), List.getElem?_replicate] at q2
        split at q2 <;> cases q2
    have ha : vs[i]? = some v := by
      unfold L2.start at q2
      rw [List.getElem?_append_left (by simpa using hi), List.getElem?_map] at q2
      cases e : vs[i]? with
      | none => rw [e] at q2; cases q2
      | some a => rw [e] at q2; cases q2; rfl
    obtain ⟨u, hu, rv⟩ := r.get ha
    have hp : ps[i]? = some y := by
      rw [← S.pre, List.getElem?_take_of_lt (by omega)]; exact q1
    have ndP : ps.Nodup := by rw [← S.pre]; exact S.nd.sublist (List.take_sublist _ _)
    exact ⟨u, rv, .inl ⟨S.par y (List.mem_of_getElem? hp), NdefX.zip_look ndP hp hu⟩⟩
  · unfold L2.start
    show _ = N.length
    rw [List.length_append, List.length_map, List.length_replicate]
    omega
/-- super().__init__(..): the next __init__ behind D in the class's order; self in slot 0 -/
def eSup (tab : MTab) (a : AM) : EM := fun (lo : Lo) (s : Sto) => match (lo[0]? : Option (Option Vl)) with
  | some (some (.ref j)) => match s[j]? with
    | some (.ins c _) => match tab c with
      | some mf => bnd (a lo) (fun as => mf (.ref j :: as)) s
      | none => .fail
    | _ => .fail
  | _ => .fail
/-- the __init__ behind D of the classes of tab -/
def SupOk (P : Program) (w : World) (K : PySem.W.Frag) (mg : Str → Option Value) (base : Heap) (T : Tb) (D : Addr) (k n : Nat) (tab : MTab) : Prop := ∀ c mf, tab c = some mf → ∀ C, T.cl[c]? = some C → ∃ (f : Addr) (fd : FuncData) (ps : List Str),
  PySem.W.mroIn K C (.ref D) = some true ∧ PySem.W.ks_superIn K C D "__init__" = some (some (.ref f)) ∧ PySem.W.typeIn K (.ref f) = some (.type "function") ∧ PySem.W.fnIn K f = true ∧ FnG P w K mg base k f fd ps (SpM T (n + 1) mf) ∧ Binds K fd ps []
/-- what the written part says of such a def -/
structure FunS (K : PySem.W.Frag) (mg : Str → Option Value) (qual file : Str) (st : Stmt) (f : Addr) (fd : FuncData) (D cc cda : Addr) : Prop where
  ex : ∃ (oc : Value) (od : Option Addr) (kV doc pm : Value) (an : Option Addr) (ct : Value) (osl : Array (Option Value)),
    fd = PySem.W.ksFn "__init__" qual (defArgs st) (defBody st) (defScope st) .none kV doc pm an (.ref cda) ct cc ∧ K.lookup f = some ⟨oc, od, .func fd, osl⟩ ∧ PySem.W.codeIn K (.ref cda) qual = true
  kp : PySem.W.keepIn K (.ref f) = true
  code : ∃ (ccl : Value) (cdd : Option Addr) (vs : Array Value) (ccs : Array (Option Value)) (tf : Tok), K.lookup cda = some ⟨ccl, cdd, .fields vs, ccs⟩ ∧ vs[2]? = some (.str file tf)
  cell : ∃ (cl : Value) (cld : Option Addr) (csl : Array (Option Value)), K.lookup cc = some ⟨cl, cld, .cell (some (.ref D)), csl⟩
  cls : ∃ cdD, PySem.W.clsIn K D = some cdD
  opq : PySem.W.nsIn K cStatics "thirdparty.any" = some none
  sup : mg "super" = none
section
variable {T : Tb} {W : WX} {σ : L2.St} {H : Hp} {D : Ends} {tab : MTab} {ma : AM} {mr : SM} {P : Program} {w : World} {K : PySem.W.Frag} {mg : Str → Option Value} {base : Heap} {k n : Nat} {Dc : Addr}
theorem sup_le (ok : SupOk P w K mg base T Dc k n tab) (h : tS T W (sSeq (sExpr (eSup (tabA n tab) ma)) mr) D σ H) : ∃ (a C dx f : Addr) (fs : List (Str × V)) (mf : List Vl → M Vl) (fd : FuncData) (ps : List Str), σ[0]? = some (some (.ref a)) ∧ H a = some (.ins C dx fs) ∧
    PySem.W.mroIn K C (.ref Dc) = some true ∧ PySem.W.ks_superIn K C Dc "__init__" = some (some (.ref f)) ∧ PySem.W.typeIn K (.ref f) = some (.type "function") ∧ PySem.W.fnIn K f = true ∧ FnG P w K mg base k f fd ps (SpM T (n + 1) mf) ∧ Binds K fd ps [] ∧
    tA T W ma σ H fun vs H2 => SpM T (n + 1) mf (.ref a :: vs ++ []) H2 (fun _ H3 => tS T W mr D σ H3) fun c d H' => W c d σ H' := by
  obtain ⟨ρ, s, lo, r, rl, p⟩ := h
  unfold sSeq sExpr bndS eSup at p
  cases h0 : lo[0]? with
  | none => simp only [h0] at p; exact p.elim
  | some o =>
    cases o with
    | none => simp only [h0] at p; exact p.elim
    | some v =>
      obtain ⟨z, hz, rv⟩ := rl.at_ 0 v h0
      cases rv with
      | ref hρ =>
        rename_i j a
        simp only [h0] at p
        cases hj : s[j]? with
        | none => simp only [hj] at p; exact p.elim
        | some ob =>
          cases ob with
          | ins c fs =>
            simp only [hj] at p
            obtain ⟨C, dx, vs, h1, h2, h3, h4⟩ := r.ins hj hρ
            cases ht : tabA n tab c with
            | none => simp only [ht] at p; exact p.elim
            | some mf =>
              simp only [ht] at p
              unfold tabA at ht
              obtain ⟨mf0, hm0, rfl⟩ := Option.map_eq_some_iff.mp ht
              obtain ⟨f, fd, ps, k1, k2, k3, k4, k5, k6⟩ := ok c mf0 hm0 C h1
              refine ⟨a, C, dx, f, vs, mf0, fd, ps, hz, h2, k1, k2, k3, k4, k5, k6, ρ, s, lo, r, rl, ?_⟩
              unfold bnd at p
              cases hm : ma lo s with
              | fail => rw [hm] at p; exact p.elim
              | exc e s1 =>
                rw [hm] at p
                exact fun ρ' H' C x r' hC => p ρ' H' σ C x r' (rl.mono x) hC
              | ok as s1 =>
                rw [hm] at p
                simp only at p
                intro ρ' H' us x r' hu
                unfold arg at p
                by_cases hl : (Vl.ref j :: as).length = n + 1
                · rw [if_pos hl] at p
                  rw [List.append_nil]
                  refine spM_of r' (.cons (.ref (x.pre _ _ hρ)) hu) hl ?_
                  cases hf : mf0 (.ref j :: as) s1 with
                  | fail => rw [hf] at p; exact p.elim
                  | exc e s2 =>
                    rw [hf] at p
                    exact fun ρ2 H2 C x2 r2 hC => p ρ2 H2 σ C (x.trans x2) r2 ((rl.mono x).mono x2) hC
                  | ok v s2 =>
                    rw [hf] at p
                    simp only at p
                    exact fun ρ2 H2 b x2 r2 _ => ⟨ρ2, s2, lo, r2, (rl.mono x).mono x2, p.mono (x.trans x2)⟩
                · rw [if_neg hl] at p
                  exact p.elim
          | _ => simp only [hj] at p; exact p.elim
      | _ => simp only [h0] at p; exact p.elim
/-- a def that begins with super().__init__(..) computes the pure function of its body -/
theorem fn_simS {qual file : Str} {st : Stmt} {f cc cda : Addr} {fd : FuncData} {N ps : List Str} {nn : Nat} {e : Expr} {es : List Expr} {rest : List Stmt} {p0 p1 ap pos pos' : Pos} {ar : Arg}
    (F : FunS K mg qual file st f fd Dc cc cda) (S : FnScopeS N ps (defScope st)) (hn : nn = ps.length) (h0 : N[0]? = some ar.arg) (hp0 : ar.arg ∈ ps) (hpar : ((defArgs st).posonlyargs ++ (defArgs st).args).head? = some ar) (hfile : ((P.main.file : Str) == file) = true) (htop : (P.main.scope.names.lookup (Str.ofString "super")).isSome = false)
    (hbody : defBody st = .Expr (.Call (.Attribute (.Call (.Name "super" p0) [] [] p1) "__init__" ap) (e :: es) [] pos) pos' :: rest) (ok : SupOk P w K mg base T Dc k n tab)
    (ha : ∀ (A : Around) (outer : List Env) (s : Shared) (H : Hp) (E : XK), Room k (A.deeper (PySem.W.ksEnv qual (defScope st) s.heap.objs.size f (.ref cda) cc)) → A.guards = some [] →
      PA (cxS (L2N.CX P w) P w K mg base N qual (defScope st) f (.ref cda) cc A outer s H E) (e :: es) (tA T (fun c d _ H' => E c d H') ma))
    (hr : ∀ (A : Around) (outer : List Env) (s : Shared) (H : Hp) (E : XK), Room k (A.deeper (PySem.W.ksEnv qual (defScope st) s.heap.objs.size f (.ref cda) cc)) → A.guards = some [] →
      PSs (cxS (L2N.CX P w) P w K mg base N qual (defScope st) f (.ref cda) cc A outer s H E) rest (tS T (fun c d _ H' => E c d H') mr))
    (hev : ∀ env : Env, ∃ pl, eval (.Call (.Attribute (.Call (.Name "super" p0) [] [] p1) "__init__" ap) (e :: es) [] pos) env = (do let ov ← attributeBase (.Call (.Name "super" p0) [] [] p1) "__init__" env (eval (.Call (.Name "super" p0) [] [] p1) env); standAt ap.atName; let (f, first) ← holding [ov] (getMethod ov "__init__" pl); callWith pos f first (backTo pos (starEach (e :: es) env)) []) := by intro _; exact ⟨_, rfl⟩)
    (hsw : ∀ env : Env, swapsWith (.Call (.Attribute (.Call (.Name "super" p0) [] [] p1) "__init__" ap) (e :: es) [] pos) none pos'.line env = pure false := by intro _; rfl)
    (hst : ∀ env, starEach (e :: es) env = (false, eval e env) :: starEach es env := by intro _; rfl) (hpl : ∀ env, (backTo pos (starEach es env)).any (·.1) = false := by intro _; rfl)
    (hx : T.xs = [] := by rfl) : FnG P w K mg base (k + 1) f fd ps (SpM T nn (fnM N.length (sSeq (sExpr (eSup (tabA n tab) ma)) mr))) := by
  obtain ⟨oc, od, kV, doc, pm, an, ct, osl, rfl, lk, hcd⟩ := F.ex
  obtain ⟨ccl, cdd, cvs, ccs, tf, hcode, hvs⟩ := F.code
  obtain ⟨cl, cld, csl, hcell⟩ := F.cell
  obtain ⟨cdD, hD⟩ := F.cls
  refine ⟨fun vs H Q E ⟨ρ, s, as, r, hv, hl, p⟩ => by rw [← hv.length, hl, hn], fun A outer s H args us vs Q E hroom hg e0 hb r hsp => ?_⟩
  have hvl : vs.length = ps.length := by
    obtain ⟨ρ, s', as, r, hv, hl, p⟩ := hsp
    rw [← hv.length, hl, hn]
  have KX : K.In s.heap := e0.mod.kin.keeps fun b o e => (e0.bs b o e).1
  have nl : s.heap.NoLimit := e0.mod.nolimit.keeps fun b o e => (e0.bs b o e).1
  refine ks_codeAny_call_defAt (fd := PySem.W.ksFn "__init__" qual (defArgs st) (defBody st) (defScope st) .none kV doc pm an (.ref cda) ct cc) (body := defBody st) (binds := ps.zip us) hroom.depth (KX _ _ lk) rfl nl (PySem.W.codeRec_of KX hcd) rfl hb S.nocell (fun y hy => S.par y.1 (List.of_mem_zip hy).1) (fun h1 hns hk => ?_) S.co S.gen S.kind
  have I : Inv (cxS (L2N.CX P w) P w K mg base N qual (defScope st) f (.ref cda) cc A outer s H E) [] (L2.start N vs) H { s with heap := h1, toks := s.toks + (ps.zip us).length } := inv_startS S hcell hroom.hd e0 hvl r hns hk
  show PySem.wpAt (model P w) (A.deeper (PySem.W.ksEnv qual (defScope st) s.heap.objs.size f (.ref cda) cc)) (.func (defBody st) (PySem.W.ksEnv qual (defScope st) s.heap.objs.size f (.ref cda) cc)) (execs (defBody st) (PySem.W.ksEnv qual (defScope st) s.heap.objs.size f (.ref cda) cc)) _ _ _
  have hroom' : Room k (A.deeper (PySem.W.ksEnv qual (defScope st) s.heap.objs.size f (.ref cda) cc)) := hroom.deeper _
  have tk : L2N.Takes (cxS (L2N.CX P w) P w K mg base N qual (defScope st) f (.ref cda) cc A outer s H E) (fun c d _ H' => E c d H') := L2N.takes_of (E := E) rfl rfl rfl rfl
  obtain ⟨a, C, dx, f2, fs, mf, fd2, ps2, z0, ea, hsub, hsup, hty, hfn, F2, hb2, q⟩ := sup_le ok (fn_body hx hsp)
  have HA := ha A outer s H E hroom' hg
  have HR := hr A outer s H E hroom' hg
  clear ha hr
  rw [hbody]
  obtain ⟨pl, hev⟩ := hev (PySem.W.ksEnv qual (defScope st) s.heap.objs.size f (.ref cda) cc)
  refine ks_wpAt_execs_cons (ks_wpAt_Expr_any (ks_wpAt_MethodCall (pl := pl) ?_ hev) (by simp [interactive, S.kind]) (hsw _))
  have X1 : K.In h1 := KX.keeps hk
  obtain ⟨oD, hD1, hD2⟩ : ∃ oD, h1.get? Dc = some oD ∧ oD.data = .cls cdD := by
    unfold PySem.W.clsIn at hD
    split at hD
    · rename_i c d cd' sl ho
      cases hD
      exact ⟨_, X1 _ _ ho, rfl⟩
    · cases hD
  obtain ⟨mb, b1, b2⟩ := I.mod.blt
  obtain ⟨m, hm, hloc⟩ := I.loc
  obtain ⟨u, ru, lu⟩ := hloc 0 ar.arg (.ref a) h0 z0 (.inl (S.par _ hp0))
  obtain rfl : u = Value.ref a := ru
  have hself : m ar.arg = some (.ref a) := by
    rcases lu with ⟨_, q⟩ | ⟨q, _⟩
    · exact q
    · have e : (defScope st).names.lookup ar.arg = some .local := S.par _ hp0
      have q : (defScope st).names.lookup ar.arg = some .cell ∨ (defScope st).names.lookup ar.arg = some .free := q
      rw [e] at q
      rcases q with q | q <;> cases q
  obtain ⟨mA, O, _⟩ := ins_get I.hok ea
  refine ks_wpAt_super_base (env := PySem.W.ksEnv qual (defScope st) s.heap.objs.size f (.ref cda) cc) S.sup S.cls (by decide) rfl (X1 _ _ lk) rfl hpar rfl (X1 _ _ hcode) rfl hvs hfile htop ?_
  refine PySem.W.ks_loadName_global S.kind S.sup (Calls.loadGlobal_builtin (I.mod.glob.keeps I.bk) F.sup (b1.keeps I.bk) ((b2 _ (by decide)).trans PyProof.Rows.Boot.«super») ⟨rfl, ?_⟩)
  refine wpAny_loadName_free S.kind S.cls (by show List.lookup _ [(Str.ofString "__class__", cc)] = some cc; simp [List.lookup]) ⟨_, X1 _ _ hcell, rfl⟩ ?_
  refine wpAny_loadName_local S.kind (S.par _ hp0) hm hself ?_
  refine ks_wpAny_isType_cls hD1 hD2 ⟨rfl, ?_⟩
  refine ks_wpAny_call_super hD1 hD2 O.obj rfl (fun c => by simp [PySem.W.instObj]) (PySem.W.looks_mroIn X1 hsub) (fun h2 es2 ek => ?_)
  have X2 : K.In h2 := X1.keeps ek
  cases hc : PySem.W.clsIn K C with
  | none => unfold PySem.W.ks_superIn at hsup; rw [hc] at hsup; cases hsup
  | some cd =>
    unfold PySem.W.ks_superIn at hsup
    rw [hc] at hsup
    obtain ⟨of, hof, hofc⟩ : ∃ of, h2.get? f2 = some of ∧ of.cls = .type "function" := by
      have ht' : (K.lookup f2).map (·.cls) = some (.type "function") := hty
      cases z : K.lookup f2 with
      | none => rw [z] at ht'; cases ht'
      | some of => rw [z] at ht'; exact ⟨of, X2 _ _ z, Option.some.inj ht'⟩
    have hxC : a ≠ C := by
      rintro rfl
      have e1 := ek _ _ O.obj
      unfold PySem.W.clsIn at hc
      split at hc
      · rename_i c d cd' sl ho
        have e2 := X2 _ _ ho
        rw [e1] at e2
        cases e2
      · cases hc
    refine ks_wpAny_getMethod_super es2 (PySem.W.looks_opaque X2 F.opq) (l₀ := cd.mro) ?_ rfl X2 hsup hof hofc hxC (by decide) ?_
    · exact fun A Q E s k q => wpAny_bind ((PySem.W.looks_clsIn X2 hc) A _ E s k (wpAny_pure q))
    · have k2 : ∀ b o, h1.get? b = some o → (h2.push (PySem.W.methodObj (.ref f2) (.ref a))).get? b = some o := fun b o z => Heap.get?_push_of_some _ (ek b o z)
      have sz : h1.objs.size ≤ h2.objs.size := Nat.le_of_lt (Heap.lt_size es2)
      have I2 := (I.kept (t' := s.toks + (ps.zip us).length + 1) k2).pins_of (pins' := [(h2.objs.size, PySem.W.methodObj (.ref f2) (.ref a))]) (fun p hp => by
        obtain rfl := List.mem_singleton.mp hp
        refine ⟨Heap.get?_push_at rfl rfl, I.hok.fresh sz, Nat.ne_of_gt (Nat.lt_of_lt_of_le I.lt sz), I.nofs sz, fun v => by simp [PySem.W.methodObj]⟩)
      refine PySem.W.callWith_of (P := PySem.W.MethP K h2.objs.size f2 (.ref a)) (by rw [hst]; show ((false || (backTo pos (starEach es _)).any (·.1)) || false) = false; rw [hpl]; rfl) (PySem.W.keeps_M hfn) ?_
      have HA' := HA.run pos _ _ (L2.start N vs) H _ I2 q
      rw [show (cxS (L2N.CX P w) P w K mg base N qual (defScope st) f (.ref cda) cc A outer s H E).env = PySem.W.ksEnv qual (defScope st) s.heap.objs.size f (.ref cda) cc from rfl] at HA'
      rw [hst] at HA' ⊢
      refine Calls.evalArgs_plain (thn HA' fun us3 s3 ⟨vs3, H3, I3, r3, q3⟩ => ?_)
      have pin := (I3.pin _ (List.mem_append_right _ (List.mem_singleton.mpr rfl))).1
      refine ⟨⟨pin, I3.kIn⟩, ?_⟩
      refine wpAny_call (PySem.W.method_call pin (codeAny_mono (code_G (us := .ref a :: us3) (vs := .ref a :: vs3) F2 hroom' hg hb2 .nil tk I3 (.cons rfl r3) q3) fun z s4 hz => ?_))
      cases z with
      | error y => exact hz
      | ok fl =>
        cases fl with
        | next => exact hz.elim
        | brk => exact hz.elim
        | cont => exact hz.elim
        | ret v =>
          obtain ⟨v', H4, I4, _, q4⟩ := hz
          refine wpAt_of_wpAny (wpAny_mono (HR.run [] s4 (L2.start N vs) H4 _ (I4.pins_of fun p hp => by simp at hp) q4) (fun fl s' hs => ?_) fun e s' hs => hs)
          cases fl with
          | ret u => obtain ⟨v, σ', H', J, rv, q⟩ := hs; exact ⟨v, H', J.os, J.bare, J.base, J.hok, rv, q⟩
          | next => obtain ⟨σ', H', J, q⟩ := hs; exact ⟨V.non, H', J.os, J.bare, J.base, J.hok, rfl, q⟩
          | brk => obtain ⟨_, _, _, q⟩ := hs; exact q.elim
          | cont => obtain ⟨_, _, _, q⟩ := hs; exact q.elim
end
end Sm

/-! S46: a written dict of defs, the call of a local that holds a def, keywords -/
namespace Sm
open PySem PySem.Spec PyProof.Rows L2
theorem takesN {X : Cx} : L2N.Takes X WF := fun _ _ ⟨_, _, _, _, _, _, _, _, _, _, _, _, _, _, _, _, w⟩ => w.elim
/-- D[e], D a written dict with the str keys of tbl -/
def eKix (tbl : List (Str × Vl)) (e : EM) : EM := fun lo => bnd (e lo) fun v s => match v with
  | .str z => match getS tbl z with
    | some u => .ok u s
    | none => .fail
  | _ => .fail
/-- f(..), f a local that holds a def -/
def eCallF (i : Nat) (tab : MTab) (a : AM) : EM := fun (lo : Lo) (s : Sto) => match (lo[i]? : Option (Option Vl)) with
  | some (some (.fn j)) => match tab j with
    | some mf => bnd (a lo) mf s
    | none => .fail
  | _ => .fail
def tabF (n : Nat) (tab : MTab) : MTab := fun c => (tab c).map (arg n)
/-- f(.., k = ..) -/
def eCallK (n : Nat) (das : List Vl) (m : Nat) (mf : List Vl → M Vl) (a k : AM) : EM := fun lo => bnd (a lo) fun as => bnd (k lo) fun zs s => if as.length = n ∧ zs.length = m then mf (as ++ das ++ zs) s else .fail
section
variable {X : Cx} {T : Tb} {W : WX} {k n i : Nat} {f : Addr} {fd : FuncData} {ps : List Str} {mf : List Vl → M Vl} {x : Str} {p pos : Pos} {e : Expr} {es : List Expr} {ma mk : AM} {me : EM}
theorem ce_kix {tbl : List (Str × Vl)} {a : Addr} (hg : Gl X x) (hm : X.mg x = some (.ref a)) (ok : ∀ z u, getS tbl z = some u → ∃ v, KDct X.K X.w a z v ∧ ∀ ρ H, RV T ρ H u v) (hb : PE X e (tE T W me)) (hdb : (x == ("__debug__" : Str)) = false := by decide) (hs : PlainIx e := by exact fun _ _ => rfl) :
    PE X (.Subscript (.Name x p) e pos) (tE T W (eKix tbl me)) := pe_mono (pe_ix ix_kdict (pe_glob (v := .ref a) hg hm rfl hdb) hb hs) fun σ H Q h => by
  show tE T W me σ H fun y H2 => rIxD X.K X.w (.ref a) y H2 Q
  refine tG_bnd (R := RV T) h fun ρ s lo v z H1 r rl hv q => ?_
  cases hv with
  | str y =>
    simp only at q
    cases hy : getS tbl y with
    | none => rw [hy] at q; exact q.elim
    | some u =>
      rw [hy] at q
      obtain ⟨v, k1, k2⟩ := ok y u hy
      exact ⟨a, y, v, rfl, rfl, k1, q ρ H1 v .refl r (k2 ρ H1)⟩
  | _ => exact q.elim
/-- the defs of the table -/
def FnsOk (X : Cx) (T : Tb) (k n : Nat) (tab : MTab) : Prop := ∀ j mf, tab j = some mf → ∀ f, T.fns[j]? = some f → ∃ (fd : FuncData) (ps : List Str), PySem.W.keepIn X.K (.ref f) = true ∧ FnG X.prog X.w X.K X.mg X.base k f fd ps (SpM T n mf) ∧ Binds X.K fd ps []
theorem ce_callF {tab : MTab} (ok : FnsOk X T k n tab) (hr : Room k X.A) (hgd : X.A.guards = some []) (tk : L2N.Takes X W) (hN : X.N[i]? = some x) (hv : Vis X.env.scope x) (ha : PA X (e :: es) (tA T W ma))
    (hdb : (x == ("__debug__" : Str)) = false := by decide) (hcd : (x == ("__classdict__" : Str)) = false := by decide)
    (he : starEach (e :: es) X.env = (false, eval e X.env) :: starEach es X.env := by rfl) (hpl : (backTo pos (starEach es X.env)).any (·.1) = false := by rfl) : PE X (.Call (.Name x p) (e :: es) [] pos) (tE T W (eCallF i (tabF n tab) ma)) := by
  refine ⟨fun pins s σ H Q I h => ?_⟩
  have h : ∃ (f : Addr) (mf : List Vl → M Vl) (fd : FuncData) (ps : List Str), σ[i]? = some (some (.ref f)) ∧ PySem.W.keepIn X.K (.ref f) = true ∧ FnG X.prog X.w X.K X.mg X.base k f fd ps (SpM T n mf) ∧ Binds X.K fd ps [] ∧ tA T W ma σ H fun vs H1 => SpM T n mf (vs ++ []) H1 Q fun c d H' => W c d σ H' := by
    obtain ⟨ρ, st, lo, r, rl, q⟩ := h
    have q : Po (RV T) T _ ρ H (eCallF i (tabF n tab) ma lo st) Q := q
    unfold eCallF at q
    cases h0 : lo[i]? with
    | none => rw [h0] at q; exact q.elim
    | some o =>
      cases o with
      | none => rw [h0] at q; exact q.elim
      | some v =>
        obtain ⟨z, hz, rv⟩ := rl.at_ i v h0
        rw [h0] at q
        cases rv with
        | @fn j f hj =>
          simp only at q
          cases ht : tabF n tab j with
          | none => rw [ht] at q; exact q.elim
          | some mf =>
            rw [ht] at q
            simp only at q
            unfold tabF at ht
            obtain ⟨mf0, hm0, rfl⟩ := Option.map_eq_some_iff.mp ht
            obtain ⟨fd, ps, k1, k2, k3⟩ := ok j mf0 hm0 f hj
            refine ⟨f, mf0, fd, ps, hz, k1, k2, k3, ?_⟩
            refine po_bnd (R := RVs T) (m := ma) r rl q fun ρ' s' as zs H' ext r' rl' has p' => ?_
            unfold arg at p'
            split at p'
            · rename_i hl
              rw [List.append_nil]
              exact spM_of r' has hl p'
            · exact p'.elim
        | _ => exact q.elim
  obtain ⟨f, mf, fd, ps, hs, hk, F, hb, ht⟩ := h
  refine wpAny_Call_Name_kw (thn ((pe_var (pos := p) hN hv hdb hcd).run pins s σ H (fun v H1 => v = .ref f ∧ H1 = H) I ⟨.ref f, hs, rfl, rfl⟩) fun u s1 ⟨v, H1, I1, r1, q1⟩ => ?_)
  obtain ⟨rfl, rfl⟩ := q1
  cases r1
  refine PySem.W.callWith_K (h₀ := X.base) I.ok.mod.kin hk (thn (ha.run pos pins s1 σ _ _ I1 ht) fun us s2 ⟨vs, H2, I2, r, q⟩ => ⟨I2.kIn, ?_⟩) he hpl
  exact run_G F hr hgd hb .nil tk I2 r q
/-- how a call with keywords binds: das between -/
structure BindKw (K : PySem.W.Frag) (fd : FuncData) (ps : List Str) (n : Nat) (ks : List Str) (das : List Vl) : Prop where
  ex : ∃ (its : List Value) (dvs : List V), KBn K fd ps n ks (fun us ws => us ++ its ++ ws) (fun vs zs => vs ++ dvs ++ zs) ∧ ∀ (T : Tb) (ρ : List Addr) (H : Hp), T.K = K → RVs T ρ H das dvs
end
/-! how binding facts are made -/
section
variable {K : PySem.W.Frag} {x qual : Str} {params : Arguments} {body : List Stmt} {scope : Scope} {dvs : List V} {kws : List (Str × V)} {f : Addr} {fd : FuncData} {ps ks : List Str} {n : Nat}
end
theorem FnH_mono {P : Program} {w : World} {K : PySem.W.Frag} {mg : Str → Option Value} {base : Heap} {CX : CXT} {j k : Nat} {f : Addr} {fd : FuncData} {ps : List Str} {sp : Sp} (F : L2H.FnH P w K mg base CX j f fd ps sp) (h : j ≤ k) : L2H.FnH P w K mg base CX k f fd ps sp :=
  ⟨F.len, fun A outer s H args us vs Q E p hr => F.run A outer s H args us vs Q E p (hr.mono h)⟩
/-- y = [.. in d.values() ..] on one line -/
theorem cs_setLcK {X : Cx} {T : Tb} {W : WX} {elt tg iter : Expr} {ifs : List Expr} {scope : Scope} {own : List (Str × Nat)} {pos spos py : Pos} {m : IM} {gt : TG} {gl : GL} {mt : TM} {me e : EM} (n : Nat) {i : Nat} {y : Str} (hc : X.calm = true) (hN : X.N.Nodup) (hy : X.N[i]? = some y) (hyl : X.env.scope.names.lookup y = some .local)
    (hsw : swapsWith (.ListComp elt [⟨tg, iter, ifs, 0⟩] scope pos) (some (.Name y py)) spos.line X.env = pure true) (hi : PI X tg iter (tI T W m)) (ok : BlkOk X.N X.env.scope scope own) (ho : TgOk T gt gl (own.map (·.2)))
    (hg : ∀ s H C cl fp, PG (X.blk s H scope (compEnvC scope cl C X.env) fp) tg gt) (ht : ∀ s H C cl fp, PTs (X.blk s H scope (compEnvC scope cl C X.env) fp) ifs (tT T WF mt))
    (he : ∀ s H C cl fp, PE (X.blk s H scope (compEnvC scope cl C X.env) fp) elt (tE T WF me)) (hs : ∀ x, foldedSetIterable iter X.env x = pure x := by intro _; rfl) (hx : T.xs = [] := by rfl) :
    PS X (.Assign [.Name y py] (.ListComp elt [⟨tg, iter, ifs, 0⟩] scope pos) spos) (tS T W (sSet i (eLock e (eLc n m gl mt me (own.map (·.2)))))) :=
  ps_mono (ps_lock (ps_setLc hc hN hy hyl hsw hi ok hg ht he hs)) fun D σ H h => by
    obtain ⟨d, u, h1, h2, h3⟩ := lock_le (t := tLc (tI T W m) gt (tT T WF mt) (tE T WF me) (own.map (fun x => x.2))) (fun _ _ z => lc_le hx ho z) (tasg_le h)
    exact ⟨d, u, h1, h2, fun od => h3 od⟩
theorem getS_mem {tbl : List (Str × Vl)} {z : Str} {u : Vl} (h : getS tbl z = some u) : (z, u) ∈ tbl := by
  induction tbl with
  | nil => simp [getS] at h
  | cons p r ih =>
    obtain ⟨k, v⟩ := p
    simp only [getS] at h
    split at h
    · rename_i e
      cases h
      subst e
      exact List.mem_cons_self ..
    · exact List.mem_cons_of_mem _ (ih h)
end Sm

/-! S139: dicts whose keys are tuples of ints and texts, written out at the place -/
namespace Sm
open PySem PySem.Spec PyProof.Rows L2
section
variable {κ : Type} [DecidableEq κ]
/-- in all its places, or at the end -/
def putA (kvs : List (κ × Vl)) (k : κ) (v : Vl) : List (κ × Vl) :=
  if (kvs.any fun kv => decide (kv.1 = k)) = true then kvs.map (fun kv => if kv.1 = k then (kv.1, v) else kv) else kvs ++ [(k, v)]
variable {T : Tb} {ρ : List Addr} {H : Hp}
theorem any_keys : ∀ {kvs : List (κ × Vl)} {vs : List (κ × V)} {k : κ}, vs.map (·.1) = kvs.map (·.1) → (vs.any fun kv => decide (kv.1 = k)) = (kvs.any fun kv => decide (kv.1 = k))
  | [], [], _, _ => rfl
  | [], _ :: _, _, e => by simp at e
  | _ :: _, [], _, e => by simp at e
  | p :: r, q :: t, k, e => by
    simp only [List.map_cons, List.cons.injEq] at e
    rw [List.any_cons, List.any_cons, e.1, any_keys (kvs := r) (vs := t) e.2]
theorem map_keys {k : κ} {v : Vl} {z : V} (hv : RV T ρ H v z) : ∀ {kvs : List (κ × Vl)} {vs : List (κ × V)}, vs.map (·.1) = kvs.map (·.1) → RVs T ρ H (kvs.map (·.2)) (vs.map (·.2)) →
    (vs.map fun kv => if kv.1 = k then (kv.1, z) else kv).map (·.1) = (kvs.map fun kv => if kv.1 = k then (kv.1, v) else kv).map (·.1) ∧ RVs T ρ H ((kvs.map fun kv => if kv.1 = k then (kv.1, v) else kv).map (·.2)) ((vs.map fun kv => if kv.1 = k then (kv.1, z) else kv).map (·.2))
  | [], [], _, _ => ⟨rfl, .nil⟩
  | [], _ :: _, e, _ => by simp at e
  | _ :: _, [], e, _ => by simp at e
  | p :: r, q :: t, e, h => by
    simp only [List.map_cons, List.cons.injEq] at e
    simp only [List.map_cons] at h
    cases h with
    | cons h1 h2 =>
      obtain ⟨a, b⟩ := map_keys hv e.2 h2
      rw [List.map_cons, List.map_cons, List.map_cons, List.map_cons, List.map_cons, List.map_cons, e.1]
      by_cases hk : p.1 = k
      · rw [if_pos hk, if_pos hk]
        exact ⟨by rw [a], .cons hv b⟩
      · rw [if_neg hk, if_neg hk]
        exact ⟨by rw [a, e.1], .cons h1 b⟩
theorem putA_ok {k : κ} {v : Vl} {z : V} (hv : RV T ρ H v z) {kvs : List (κ × Vl)} {vs : List (κ × V)} (e : vs.map (·.1) = kvs.map (·.1)) (h : RVs T ρ H (kvs.map (·.2)) (vs.map (·.2))) :
    (putK vs k z).map (·.1) = (putA kvs k v).map (·.1) ∧ RVs T ρ H ((putA kvs k v).map (·.2)) ((putK vs k z).map (·.2)) := by
  unfold putK putA
  rw [any_keys e]
  split
  · exact map_keys hv e h
  · simp only [List.map_append, List.map_cons, List.map_nil]
    exact ⟨by rw [e], h.append (.cons hv .nil)⟩
end
section
variable {T : Tb} {ρ : List Addr} {H : Hp}
theorem keysT_ok : ∀ {ys : List Vl} {zs : List V} {ks : List Key}, RVs T ρ H ys zs → mapO keyOf ys = some ks → zs = ks.map kV
  | [], _, ks, h, e => by
    cases h
    simp only [mapO] at e
    cases e
    rfl
  | y :: ys, _, ks, h, e => by
    cases h with
    | cons h1 h2 =>
      simp only [mapO] at e
      cases q : keyOf y with
      | none => simp only [q] at e; cases e
      | some k =>
        simp only [q] at e
        cases q2 : mapO keyOf ys with
        | none => simp only [q2] at e; cases e
        | some r =>
          simp only [q2] at e
          cases e
          rw [keyOf_ok h1 q, keysT_ok h2 q2]
          rfl
theorem Rel.dit {s : Sto} {i : Nat} {kvs : List (List Key × Vl)} {a : Addr} (r : Rel T ρ H s) (h : s[i]? = some (.dit kvs)) (ha : ρ[i]? = some a) :
    ∃ vs : List (List Key × V), H a = some (.dT vs) ∧ vs.map (·.1) = kvs.map (·.1) ∧ RVs T ρ H (kvs.map (·.2)) (vs.map (·.2)) := r.ob i a _ ha h
end
/-- {}, to have such keys -/
def eDict0T : EM := fun _ s => .ok (.ref s.length) (s ++ [.dit []])
def isDit (j : Nat) (s : Sto) : Bool := match s[j]? with
  | some (.dit _) => true
  | _ => false
/-- d.get((a, ..)) -/
def eDGetT (d : EM) (k : AM) : EM := fun lo => bnd (d lo) fun x s => match x with
  | .ref j => if isDit j s then bnd (k lo) (fun ys s => match s[j]?, mapO keyOf ys with
    | some (.dit kvs), some key => if ys.length ≤ LIM then .ok ((look kvs key).getD .non) s else .fail
    | _, _ => .fail) s else .fail
  | _ => .fail
/-- d[(a, ..)] = .. -/
def putTT (x : Vl) (ys : List Vl) (v : Vl) (s : Sto) : Option Sto := match x with
  | .ref j => match s[j]?, mapO keyOf ys with
    | some (.dit kvs), some key => if ys.length ≤ LIM ∧ kvs.length < LIM then some (s.set j (.dit (putA kvs key v))) else none
    | _, _ => none
  | _ => none
def gSbT (o : EM) (i : AM) : GM := fun v lo => bnd (o lo) fun x => bnd (i lo) fun ys => liftU (putTT x ys v) lo
section
variable {X : Cx} {T : Tb} {W : WX} {o e f : Expr} {es : List Expr} {apos cpos pos tpos : Pos} {md mk mv : EM} {mr : AM}
theorem ce_dict0T : PE X (.Dict [] [] pos) (tE T W eDict0T) := pe_mono pe_dnewT fun σ H Q h => by
  obtain ⟨ρ, s, lo, r, rl, p⟩ := h
  exact fun q hq => p (ρ ++ [q]) _ _ (r.newExt hq) (r.new (b := .dit []) hq ⟨[], upd_same, rfl, .nil⟩) r.newRef
theorem isDit_ok {ρ : List Addr} {H : Hp} {s : Sto} {j : Nat} {a : Addr} (r : Rel T ρ H s) (ha : ρ[j]? = some a) (h : isDit j s = true) : IsD H a := by
  unfold isDit at h
  split at h
  · rename_i kvs hj
    obtain ⟨vs, h1, _⟩ := r.dit hj ha
    exact .inr ⟨vs, .inl h1⟩
  · cases h
theorem ce_dgetT {x1} (hu : X.A.units + 1 < cLine) (ho : PE X o (tE T W md)) (he : PA X es (tA T W mr)) (m : M1 X o "get" apos (.Tuple es x1 tpos) cpos) : PE X (.Call (.Attribute o "get" apos) [.Tuple es x1 tpos] [] cpos) (tE T W (eDGetT md mr)) :=
  pe_mono (pe_dget1 hu ho (pe_tup he) m) fun σ H Q h => tG_bnd (R := RV T) h fun ρ s lo x z H1 r rl hx p => by
    cases x <;> try exact p.elim
    rename_i j
    obtain ⟨a, rfl, ha⟩ := hx.refE
    simp only at p
    split at p
    · rename_i hd
      refine ⟨a, rfl, isDit_ok r ha hd, po_bnd (R := RVs T) (m := mr) r rl p fun ρ' s' ys zs H' ext r' rl' hy p' => ?_⟩
      split at p'
      · rename_i kvs key hj hk
        split at p'
        · rename_i hl
          refine ⟨by rw [← hy.length, lim_eq]; exact hl, fun q hq => ?_⟩
          have r2 := r'.laid (o := .tup zs) hq
          have e2 : Ext T ρ' H' ρ' (upd H' q (.tup zs)) := ext_upd hq
          obtain ⟨vs, h1, h2, h3⟩ := r2.dit hj (ext.pre _ _ ha)
          have ey := keysT_ok hy hk
          subst ey
          refine ⟨_, DGet.t h1 upd_same, ?_⟩
          obtain ⟨q1, q2⟩ := look_ok (k := key) h2 h3
          cases q : look kvs key with
          | none => rw [q1 q]; rw [q] at p'; exact p' ρ' _ _ e2 r2 .non
          | some v => obtain ⟨z, hz, hv⟩ := q2 v q; rw [hz]; rw [q] at p'; exact p' ρ' _ _ e2 r2 hv
        · exact p'.elim
      · exact p'.elim
    · exact p.elim
theorem cg_subT {x1} (hu : X.A.units + 1 < cLine) (ho : PE X o (tE T W md)) (he : PA X es (tA T W mr)) (k : PG X (.Subscript o (.Tuple es x1 tpos) pos) (gSub (tE T W md) (tTup (tA T W mr)) rSetD)) : PG X (.Subscript o (.Tuple es x1 tpos) pos) (tGt T W (gSbT md mr)) :=
  pg_mono k fun v σ H Q h => by
    obtain ⟨ρ, s, lo, x, r, rl, hx, p⟩ := h
    refine po_bnd (R := RV T) (m := md) r rl p fun ρ1 s1 a z H1 ext1 r1 rl1 ha p1 => po_bnd (R := RVs T) (m := mr) r1 rl1 p1 fun ρ2 s2 ys zs H2 ext2 r2 rl2 hb p2 => ?_
    unfold liftU putTT at p2
    have ha := ha.mono ext2
    have hx := hx.mono (ext1.trans ext2)
    obtain ⟨j, rfl⟩ : ∃ j, a = .ref j := by
      cases a <;> first | exact p2.elim | exact ⟨_, rfl⟩
    obtain ⟨aa, rfl, hj⟩ := ha.refE
    simp only at p2
    cases e1 : s2[j]? with
    | none => rw [e1] at p2; exact p2.elim
    | some ob =>
      cases e2 : mapO keyOf ys with
      | none => rw [e1, e2] at p2; cases ob <;> exact p2.elim
      | some key =>
        rw [e1, e2] at p2
        cases ob <;> try exact p2.elim
        rename_i kvs
        simp only at p2
        by_cases hl : ys.length ≤ LIM ∧ kvs.length < LIM
        · rw [if_pos hl] at p2
          refine ⟨by rw [← hb.length, lim_eq]; exact hl.1, fun q hq => ?_⟩
          have r3 := r2.laid (o := .tup zs) hq
          have e3 : Ext T ρ2 H2 ρ2 (upd H2 q (.tup zs)) := ext_upd hq
          obtain ⟨vs, g1, g2, g3⟩ := r3.dit e1 hj
          have ey := keysT_ok hb e2
          subst ey
          have hlen : vs.length = kvs.length := by have := congrArg List.length g2; simpa using this
          refine ⟨aa, _, rfl, DPut.t g1 upd_same (by rw [hlen, lim_eq]; exact hl.2), ?_⟩
          have e4 := r3.setExt (o := .dT (putK vs key v)) hj g1
          obtain ⟨k1, k2⟩ := putA_ok (k := key) (hx.mono e3) g2 g3
          exact p2 ρ2 _ _ (e3.trans e4) (r3.set hj ⟨_, upd_same, k1, k2.mono e4⟩) (rl2.mono (e3.trans e4))
        · rw [if_neg hl] at p2
          exact p2.elim
end
end Sm

namespace K56
-- classes: Stopped=0 Machine=1 Collected=2 Planned=3
open PySem PySem.Spec PyProof.Rows L2 Sm
def top (i : Nat) : Stmt := PySem.Challenge.pw_maybegone_k56_fields_told.main.body.getD i (.Pass ⟨0, 0, 0, 0⟩)
abbrev st_inner_blocks : Stmt := top 4
abbrev st_listed : Stmt := top 5
abbrev st_MachineU_initU : Stmt := inClass (top 7) 0
abbrev st_Machine_begin_moment : Stmt := inClass (top 7) 1
abbrev st_Machine_decide : Stmt := inClass (top 7) 2
abbrev st_Machine_note : Stmt := inClass (top 7) 3
abbrev st_Machine_end_moment : Stmt := inClass (top 7) 4
abbrev st_Machine_ask : Stmt := inClass (top 7) 5
abbrev st_Machine_cell_of : Stmt := inClass (top 7) 6
abbrev st_Machine_stand : Stmt := inClass (top 7) 7
abbrev st_Machine_fill : Stmt := inClass (top 7) 8
abbrev st_Machine_held_by : Stmt := inClass (top 7) 9
abbrev st_Machine_reach_from : Stmt := inClass (top 7) 10
abbrev st_Machine_reached : Stmt := inClass (top 7) 11
abbrev st_Machine_comers : Stmt := inClass (top 7) 12
abbrev st_do_make : Stmt := top 8
abbrev st_do_wish : Stmt := top 9
abbrev st_do_keep : Stmt := top 10
abbrev st_do_name : Stmt := top 11
abbrev st_do_drop : Stmt := top 12
abbrev st_do_hold : Stmt := top 13
abbrev st_do_weak : Stmt := top 14
abbrev st_do_cut : Stmt := top 15
abbrev st_do_take : Stmt := top 16
abbrev st_do_say : Stmt := top 17
abbrev st_is_true : Stmt := top 19
abbrev st_do_ask : Stmt := top 18
abbrev st_Collected_wanted : Stmt := inClass (top 25) 1
abbrev st_Planned_wanted : Stmt := inClass (top 26) 1
abbrev st_Collected_begin_moment : Stmt := inClass (top 25) 2
abbrev st_enter : Stmt := top 21
abbrev st_Collected_end_moment : Stmt := inClass (top 25) 3
abbrev st_execute : Stmt := top 22
abbrev st_finish : Stmt := top 23
abbrev st_CollectedU_initU : Stmt := inClass (top 25) 0
abbrev st_PlannedU_initU : Stmt := inClass (top 26) 0
abbrev st_result_of : Stmt := top 27
abbrev st_run : Stmt := top 28
abbrev st__law_deck : Stmt := top 30
abbrev st__law_draw : Stmt := top 31
abbrev st__law_one : Stmt := top 32
abbrev st__law_names : Stmt := top 33
abbrev st__law_row : Stmt := top 34
abbrev st_law : Stmt := top 35
abbrev st_StoppedU_initU : Stmt := inClass (top 2) 0
abbrev cs_at_place : List Nat := [1, 2, 3]
abbrev cs_bits : List Nat := [1, 2, 3]
abbrev cs_block : List Nat := [1, 2, 3]
abbrev cs_cleared : List Nat := [1, 2, 3]
abbrev cs_contents : List Nat := [1, 2, 3]
abbrev cs_kept : List Nat := [1, 2, 3]
abbrev cs_lost : List Nat := [1, 2, 3]
abbrev cs_moment : List Nat := [1, 2, 3]
abbrev cs_quiet_places : List Nat := [1, 2, 3]
abbrev cs_replies : List Nat := [1, 2, 3]
abbrev cs_spoken : List Nat := [1, 2, 3]
abbrev cs_stands : List Nat := [1, 2, 3]
abbrev cs_there : List Nat := [1, 2, 3]
abbrev cs_wishes : List Nat := [1, 2, 3]
abbrev cs_wishes_at : List Nat := [1, 2, 3]
/-! the pure functions -/
def kdl_DEEDS : List (Str × Vl) := [("make", .fn 0), ("wish", .fn 1), ("keep", .fn 2), ("name", .fn 3), ("drop", .fn 4), ("hold", .fn 5), ("weak", .fn 6), ("cut", .fn 7), ("take", .fn 8), ("say", .fn 9), ("ask", .fn 10)]
def hit_Stopped : Nat → Option Bool := fun c => match c with
  | 0 => some true
  | _ => none
def b_inner_blocks : SM := (sSeq (sIf (tVal (eOp opEq (eOp opIx (eVar 0) (eC (.int 0))) (eC (.str "if")))) (sRet (eSl opSl (eVar 0) (some (eC (.int 2))) none)) sNil)
  (sRet (eIfM (tVal (eOp opEq (eOp opIx (eVar 0) (eC (.int 0))) (eC (.str "repeat")))) (eSl opSl (eVar 0) (some (eC (.int 2))) none) (eCB oTup aNil))))
def m_inner_blocks : List Vl → M Vl := fnM 1 b_inner_blocks
def b_listed (R : Nat → List Vl → M Vl) : SM := (sSeq (sSet 2 (eCB oLst aNil))
  (sSeq (sForX (aTup (eVar 0)) (gNm 3)
  (sSeq (sExpr (eBm .list oAppend (eVar 2) (aCons (eCB oTup (aCons (eVar 1) (aCons (eVar 3) aNil))) aNil)))
  (sForX (aTup (eCall (arg 1 m_inner_blocks) (aCons (eVar 3) aNil))) (gNm 4)
  (sExpr (eBm .list oExtend (eVar 2) (aCons (eCall (arg 2 (R 0)) (aCons (eVar 4) (aCons (eOp opAdd (eVar 1) (eC (.int 1))) aNil))) aNil))))))
  (sRet (eVar 2))))
def R0 : Nat → Nat → List Vl → M Vl
  | 0, _ => mFail
  | n + 1, 0 => fnM 5 (b_listed (R0 n))
  | _ + 1, _ => mFail
def m_listed : List Vl → M Vl := R0 12 0
def b_MachineU_initU : SM := (sSeq (sFldM cs_block "block" (eVar 0) (eOp opIx (eVar 1) (eC (.int 1))))
  (sSeq (sFldM cs_bits "bits" (eVar 0) (eVar 2))
  (sSeq (sFldM cs_at_place "at_place" (eVar 0) (eOp1 opNeg (eC (.int 1))))
  (sSeq (sFldM cs_moment "moment" (eVar 0) (eOp1 opNeg (eC (.int 1))))
  (sSeq (sFldM cs_stands "stands" (eVar 0) eDict0)
  (sSeq (sFldM cs_kept "kept" (eVar 0) eDict0)
  (sSeq (sFldM cs_contents "contents" (eVar 0) (eCB oLst aNil))
  (sSeq (sFldM cs_wishes "wishes" (eVar 0) (eCB oLst aNil))
  (sSeq (sFldM cs_lost "lost" (eVar 0) (eCB oLst aNil))
  (sSeq (sFldM cs_replies "replies" (eVar 0) (eCB oLst aNil))
  (sFldM cs_spoken "spoken" (eVar 0) (eCB oLst aNil))))))))))))
def m_MachineU_initU : List Vl → M Vl := fnM 3 b_MachineU_initU
def b_Machine_begin_moment : SM := (sRet (eC .non))
def m_Machine_begin_moment : List Vl → M Vl := fnM 1 b_Machine_begin_moment
def b_Machine_decide : SM := (sRet (eCB oInt (aCons (eOp opIx (eFld cs_lost "lost" (eVar 0)) (eVar 1)) aNil)))
def m_Machine_decide : List Vl → M Vl := fnM 2 b_Machine_decide
def tab_decide : MTab := fun c => match c with
  | 1 => some m_Machine_decide
  | 2 => some m_Machine_decide
  | 3 => some m_Machine_decide
  | _ => none
def b_Machine_note : SM := (sRet (eC .non))
def m_Machine_note : List Vl → M Vl := fnM 2 b_Machine_note
def tab_note : MTab := fun c => match c with
  | 1 => some m_Machine_note
  | 2 => some m_Machine_note
  | 3 => some m_Machine_note
  | _ => none
def b_Machine_end_moment : SM := (sRet (eC .non))
def m_Machine_end_moment : List Vl → M Vl := fnM 1 b_Machine_end_moment
def b_Machine_ask : SM := (sSeq (sIf (tVal (eOp opGe (eCB oLen (aCons (eFld cs_replies "replies" (eVar 0)) aNil)) (eC (.int 200)))) (sRaise 0 "why" (eC (.str "long"))) sNil)
  (sSeq (sExpr (eMeth "note" (tabA 1 tab_note) (eVar 0) (aCons (eCB oTup (aCons (eC (.str "ask")) (aCons (eVar 1) aNil))) aNil)))
  (sSeq (sSet 2 (eMeth "decide" (tabA 1 tab_decide) (eVar 0) (aCons (eVar 1) aNil)))
  (sSeq (sExpr (eBm .list oAppend (eFld cs_replies "replies" (eVar 0)) (aCons (eVar 2) aNil)))
  (sRet (eVar 2))))))
def m_Machine_ask : List Vl → M Vl := fnM 3 b_Machine_ask
def tab_ask : MTab := fun c => match c with
  | 1 => some m_Machine_ask
  | 2 => some m_Machine_ask
  | 3 => some m_Machine_ask
  | _ => none
def b_Machine_cell_of : SM := (sSeq (sSet 2 (eDGet1 (eFld cs_stands "stands" (eVar 0)) (eVar 1)))
  (sSeq (sIf (tVal (eOp opIsN (eVar 2) (eC .non))) (sRaise 0 "why" (eC (.str "name"))) sNil)
  (sRet (eVar 2))))
def m_Machine_cell_of : List Vl → M Vl := fnM 3 b_Machine_cell_of
def tab_cell_of : MTab := fun c => match c with
  | 1 => some m_Machine_cell_of
  | 2 => some m_Machine_cell_of
  | 3 => some m_Machine_cell_of
  | _ => none
def b_Machine_stand : SM := (sSeq (sAsg (gSb opSet (eFld cs_stands "stands" (eVar 0)) (eVar 1)) (eVar 2))
  (sExpr (eMeth "note" (tabA 1 tab_note) (eVar 0) (aCons (eCB oTup (aCons (eC (.str "stand")) (aCons (eVar 1) (aCons (eVar 2) aNil)))) aNil))))
def m_Machine_stand : List Vl → M Vl := fnM 3 b_Machine_stand
def tab_stand : MTab := fun c => match c with
  | 1 => some m_Machine_stand
  | 2 => some m_Machine_stand
  | 3 => some m_Machine_stand
  | _ => none
def b_Machine_fill : SM := (sSeq (sSet 5 (eDGet1 (eOp opIx (eFld cs_contents "contents" (eVar 0)) (eVar 1)) (eVar 2)))
  (sSeq (sIf (tVal (eVar 4)) (sExpr (eMeth "note" (tabA 1 tab_note) (eVar 0) (aCons (eCB oTup (aCons (eC (.str "hold")) (aCons (eVar 1) (aCons (eVar 2) (aCons (eVar 3) aNil))))) aNil))) (sIf (tAndM (tVal (eOp opNotN (eVar 5) (eC .non))) (tVal (eOp opIx (eVar 5) (eC (.int 1))))) (sExpr (eMeth "note" (tabA 1 tab_note) (eVar 0) (aCons (eCB oTup (aCons (eC (.str "hold")) (aCons (eVar 1) (aCons (eVar 2) (aCons (eC .non) aNil))))) aNil))) sNil))
  (sAsg (gSb opSet (eOp opIx (eFld cs_contents "contents" (eVar 0)) (eVar 1)) (eVar 2)) (eIfM (tVal (eOp opIsN (eVar 3) (eC .non))) (eC .non) (eCB oTup (aCons (eVar 3) (aCons (eVar 4) aNil)))))))
def m_Machine_fill : List Vl → M Vl := fnM 6 b_Machine_fill
def tab_fill : MTab := fun c => match c with
  | 1 => some m_Machine_fill
  | 2 => some m_Machine_fill
  | 3 => some m_Machine_fill
  | _ => none
def b_Machine_held_by : SM := (sRet (eLock (eOp opIx (eFld cs_contents "contents" (eVar 0)) (eVar 1)) (eLc 100000 (iVal (eOp opIx (eFld cs_contents "contents" (eVar 0)) (eVar 1))) (glN 2) (tAndM (tVal (eOp opNotN (eVar 2) (eC .non))) (tVal (eOp opIx (eVar 2) (eC (.int 1))))) (eOp opIx (eVar 2) (eC (.int 0))) [2])))
def m_Machine_held_by : List Vl → M Vl := fnM 3 b_Machine_held_by
def tab_held_by : MTab := fun c => match c with
  | 1 => some m_Machine_held_by
  | 2 => some m_Machine_held_by
  | 3 => some m_Machine_held_by
  | _ => none
def b_Machine_reach_from : SM := (sSeq (sSet 2 (eOp opMul (eCB oLst (aCons (eC (.bl false)) aNil)) (eCB oLen (aCons (eFld cs_contents "contents" (eVar 0)) aNil))))
  (sSeq (sSet 3 (eCB oList (aCons (eVar 1) aNil)))
  (sSeq (loopW (tVal (eOp opNe (eVar 3) (eCB oLst aNil))) (sSeq (sSet 4 (eBm0 .list oPop (eVar 3)))
  (sIf (tNotM (tVal (eOp opIx (eVar 2) (eVar 4)))) (sSeq (sAsg (gSb opSet (eVar 2) (eVar 4)) (eC (.bl true)))
  (sExpr (eBm .list oExtend (eVar 3) (aCons (eMeth "held_by" (tabA 1 tab_held_by) (eVar 0) (aCons (eVar 4) aNil)) aNil)))) sNil)) 100000)
  (sRet (eVar 2)))))
def m_Machine_reach_from : List Vl → M Vl := fnM 5 b_Machine_reach_from
def tab_reach_from : MTab := fun c => match c with
  | 1 => some m_Machine_reach_from
  | 2 => some m_Machine_reach_from
  | 3 => some m_Machine_reach_from
  | _ => none
def b_Machine_reached : SM := (sSeq (sSet 1 (eLock (eFld cs_stands "stands" (eVar 0)) (eLc 100000 (iVal (eFld cs_stands "stands" (eVar 0))) (glN 2) (tVal (eOp opNotN (eVar 2) (eC .non))) (eVar 2) [2])))
  (sRet (eMeth "reach_from" (tabA 1 tab_reach_from) (eVar 0) (aCons (eOp opAdd (eVar 1) (eCB oList (aCons (eFld cs_kept "kept" (eVar 0)) aNil))) aNil))))
def m_Machine_reached : List Vl → M Vl := fnM 3 b_Machine_reached
def tab_reached : MTab := fun c => match c with
  | 1 => some m_Machine_reached
  | 2 => some m_Machine_reached
  | 3 => some m_Machine_reached
  | _ => none
def b_Machine_comers : SM := (sSeq (sSet 2 (eDict [((eVar 1), (eC (.bl true)))]))
  (sSeq (sSet 3 (eC (.bl true)))
  (sSeq (loopW (tVal (eVar 3)) (sSeq (sSet 3 (eC (.bl false)))
  (sForX (aRng (aCons (eCB oLen (aCons (eFld cs_contents "contents" (eVar 0)) aNil)) aNil)) (gNm 4)
  (sIf (tAndM (tVal (eOp opNotIn (eVar 4) (eVar 2))) (tNotM (tVal (eOp opIx (eFld cs_lost "lost" (eVar 0)) (eVar 4))))) (sIf (tVal (eOp opNe (eLc 100000 (iLst (eMeth "held_by" (tabA 1 tab_held_by) (eVar 0) (aCons (eVar 4) aNil))) (glN 5) (tVal (eOp opIn (eVar 5) (eVar 2))) (eVar 5) [5]) (eCB oLst aNil))) (sSeq (sAsg (gSb opSet (eVar 2) (eVar 4)) (eC (.bl true)))
  (sSet 3 (eC (.bl true)))) sNil) sNil))) 100000)
  (sRet (eCB oSortS (aCons (eCB oList (aCons (eVar 2) aNil)) aNil))))))
def m_Machine_comers : List Vl → M Vl := fnM 6 b_Machine_comers
def tab_comers : MTab := fun c => match c with
  | 1 => some m_Machine_comers
  | 2 => some m_Machine_comers
  | 3 => some m_Machine_comers
  | _ => none
def b_do_make : SM := (sSeq (sSet 2 (eCB oLen (aCons (eFld cs_contents "contents" (eVar 0)) aNil)))
  (sSeq (sExpr (eBm .list oAppend (eFld cs_contents "contents" (eVar 0)) (aCons eDict0 aNil)))
  (sSeq (sExpr (eBm .list oAppend (eFld cs_wishes "wishes" (eVar 0)) (aCons (eC .non) aNil)))
  (sSeq (sExpr (eBm .list oAppend (eFld cs_lost "lost" (eVar 0)) (aCons (eC (.bl false)) aNil)))
  (sSeq (sExpr (eMeth "note" (tabA 1 tab_note) (eVar 0) (aCons (eCB oTup (aCons (eC (.str "make")) (aCons (eVar 2) aNil))) aNil)))
  (sExpr (eMeth "stand" (tabA 2 tab_stand) (eVar 0) (aCons (eOp opIx (eVar 1) (eC (.int 1))) (aCons (eVar 2) aNil)))))))))
def m_do_make : List Vl → M Vl := fnM 3 b_do_make
def b_do_wish : SM := (sAsg (gSb opSet (eFld cs_wishes "wishes" (eVar 0)) (eMeth "cell_of" (tabA 1 tab_cell_of) (eVar 0) (aCons (eOp opIx (eVar 1) (eC (.int 1))) aNil))) (eOp opIx (eVar 1) (eC (.int 2))))
def m_do_wish : List Vl → M Vl := fnM 2 b_do_wish
def b_do_keep : SM := (sSeq (sSet 2 (eMeth "cell_of" (tabA 1 tab_cell_of) (eVar 0) (aCons (eOp opIx (eVar 1) (eC (.int 1))) aNil)))
  (sSeq (sAsg (gSb opSet (eFld cs_kept "kept" (eVar 0)) (eVar 2)) (eC (.bl true)))
  (sExpr (eMeth "note" (tabA 1 tab_note) (eVar 0) (aCons (eCB oTup (aCons (eC (.str "keep")) (aCons (eVar 2) aNil))) aNil)))))
def m_do_keep : List Vl → M Vl := fnM 3 b_do_keep
def b_do_name : SM := (sExpr (eMeth "stand" (tabA 2 tab_stand) (eVar 0) (aCons (eOp opIx (eVar 1) (eC (.int 1))) (aCons (eMeth "cell_of" (tabA 1 tab_cell_of) (eVar 0) (aCons (eOp opIx (eVar 1) (eC (.int 2))) aNil)) aNil))))
def m_do_name : List Vl → M Vl := fnM 2 b_do_name
def b_do_drop : SM := (sExpr (eMeth "stand" (tabA 2 tab_stand) (eVar 0) (aCons (eOp opIx (eVar 1) (eC (.int 1))) (aCons (eC .non) aNil))))
def m_do_drop : List Vl → M Vl := fnM 2 b_do_drop
def b_do_hold : SM := (sSeq (sPar 2 3 (aCons (eMeth "cell_of" (tabA 1 tab_cell_of) (eVar 0) (aCons (eOp opIx (eVar 1) (eC (.int 1))) aNil)) (aCons (eMeth "cell_of" (tabA 1 tab_cell_of) (eVar 0) (aCons (eOp opIx (eVar 1) (eC (.int 3))) aNil)) aNil)))
  (sExpr (eMeth "fill" (tabA 4 tab_fill) (eVar 0) (aCons (eVar 2) (aCons (eOp opIx (eVar 1) (eC (.int 2))) (aCons (eVar 3) (aCons (eC (.bl true)) aNil)))))))
def m_do_hold : List Vl → M Vl := fnM 4 b_do_hold
def b_do_weak : SM := (sSeq (sPar 2 3 (aCons (eMeth "cell_of" (tabA 1 tab_cell_of) (eVar 0) (aCons (eOp opIx (eVar 1) (eC (.int 1))) aNil)) (aCons (eMeth "cell_of" (tabA 1 tab_cell_of) (eVar 0) (aCons (eOp opIx (eVar 1) (eC (.int 3))) aNil)) aNil)))
  (sExpr (eMeth "fill" (tabA 4 tab_fill) (eVar 0) (aCons (eVar 2) (aCons (eOp opIx (eVar 1) (eC (.int 2))) (aCons (eVar 3) (aCons (eC (.bl false)) aNil)))))))
def m_do_weak : List Vl → M Vl := fnM 4 b_do_weak
def b_do_cut : SM := (sExpr (eMeth "fill" (tabA 4 tab_fill) (eVar 0) (aCons (eMeth "cell_of" (tabA 1 tab_cell_of) (eVar 0) (aCons (eOp opIx (eVar 1) (eC (.int 1))) aNil)) (aCons (eOp opIx (eVar 1) (eC (.int 2))) (aCons (eC .non) (aCons (eC (.bl false)) aNil))))))
def m_do_cut : List Vl → M Vl := fnM 2 b_do_cut
def b_do_take : SM := (sSeq (sSet 2 (eDGet1 (eOp opIx (eFld cs_contents "contents" (eVar 0)) (eMeth "cell_of" (tabA 1 tab_cell_of) (eVar 0) (aCons (eOp opIx (eVar 1) (eC (.int 2))) aNil))) (eOp opIx (eVar 1) (eC (.int 3)))))
  (sSeq (sSet 3 (eC .non))
  (sSeq (sIf (tAndM (tVal (eOp opNotN (eVar 2) (eC .non))) (tVal (eOp opEq (eMeth "ask" (tabA 1 tab_ask) (eVar 0) (aCons (eOp opIx (eVar 2) (eC (.int 0))) aNil)) (eC (.int 0))))) (sSet 3 (eOp opIx (eVar 2) (eC (.int 0)))) sNil)
  (sExpr (eMeth "stand" (tabA 2 tab_stand) (eVar 0) (aCons (eOp opIx (eVar 1) (eC (.int 1))) (aCons (eVar 3) aNil)))))))
def m_do_take : List Vl → M Vl := fnM 4 b_do_take
def b_do_say : SM := (sExpr (eBm .list oAppend (eFld cs_spoken "spoken" (eVar 0)) (aCons (eCB oTup (aCons (eC (.str "said")) (aCons (eOp opIx (eVar 1) (eC (.int 1))) aNil))) aNil)))
def m_do_say : List Vl → M Vl := fnM 2 b_do_say
def b_is_true (R : Nat → List Vl → M Vl) : SM := (sSeq (sSet 2 (eOp opIx (eVar 1) (eC (.int 0))))
  (sSeq (sIf (tVal (eOp opEq (eVar 2) (eC (.str "not")))) (sRet (eNotM (eCall (arg 2 (R 0)) (aCons (eVar 0) (aCons (eOp opIx (eVar 1) (eC (.int 1))) aNil))))) sNil)
  (sSeq (sIf (tVal (eOp opEq (eVar 2) (eC (.str "given")))) (sRet (eOp opEq (eOp opIx (eFld cs_bits "bits" (eVar 0)) (eOp opIx (eVar 1) (eC (.int 1)))) (eC (.int 1)))) sNil)
  (sSeq (sIf (tVal (eOp opEq (eVar 2) (eC (.str "set")))) (sRet (eOp opNotN (eDGet1 (eFld cs_stands "stands" (eVar 0)) (eOp opIx (eVar 1) (eC (.int 1)))) (eC .non))) sNil)
  (sSeq (sIf (tVal (eOp opEq (eVar 2) (eC (.str "same")))) (sRet (eOp opEq (eMeth "cell_of" (tabA 1 tab_cell_of) (eVar 0) (aCons (eOp opIx (eVar 1) (eC (.int 1))) aNil)) (eMeth "cell_of" (tabA 1 tab_cell_of) (eVar 0) (aCons (eOp opIx (eVar 1) (eC (.int 2))) aNil)))) sNil)
  (sSeq (sIf (tVal (eOp opEq (eVar 2) (eC (.str "full")))) (sSeq (sSet 3 (eDGet1 (eOp opIx (eFld cs_contents "contents" (eVar 0)) (eMeth "cell_of" (tabA 1 tab_cell_of) (eVar 0) (aCons (eOp opIx (eVar 1) (eC (.int 1))) aNil))) (eOp opIx (eVar 1) (eC (.int 2)))))
  (sRet (eAndM (eOp opNotN (eVar 3) (eC .non)) (eOp opEq (eMeth "ask" (tabA 1 tab_ask) (eVar 0) (aCons (eOp opIx (eVar 3) (eC (.int 0))) aNil)) (eC (.int 0)))))) sNil)
  (sSeq (sFor 100000 (iEnm (aCons (eFld cs_wishes "wishes" (eVar 0)) aNil)) (gTp [4, 5])
  (sIf (tAndM (tVal (eOp opEq (eVar 5) (eOp opIx (eVar 1) (eC (.int 1))))) (tVal (eOp opEq (eMeth "ask" (tabA 1 tab_ask) (eVar 0) (aCons (eVar 4) aNil)) (eC (.int 1))))) (sRet (eC (.bl true))) sNil))
  (sRet (eC (.bl false))))))))))
def R1 : Nat → Nat → List Vl → M Vl
  | 0, _ => mFail
  | n + 1, 0 => fnM 6 (b_is_true (R1 n))
  | _ + 1, _ => mFail
def m_is_true : List Vl → M Vl := R1 12 0
def b_do_ask : SM := (sExpr (eBm .list oAppend (eFld cs_spoken "spoken" (eVar 0)) (aCons (eIfM (tVal (eCall (arg 2 m_is_true) (aCons (eVar 0) (aCons (eOp opIx (eVar 1) (eC (.int 1))) aNil)))) (eCB oTup (aCons (eC (.str "yes")) aNil)) (eCB oTup (aCons (eC (.str "no")) aNil))) aNil)))
def m_do_ask : List Vl → M Vl := fnM 2 b_do_ask
def tab_fns : MTab := fun c => match c with
  | 0 => some m_do_make
  | 1 => some m_do_wish
  | 2 => some m_do_keep
  | 3 => some m_do_name
  | 4 => some m_do_drop
  | 5 => some m_do_hold
  | 6 => some m_do_weak
  | 7 => some m_do_cut
  | 8 => some m_do_take
  | 9 => some m_do_say
  | 10 => some m_do_ask
  | _ => none
def b_Collected_wanted : SM := (sRet (eCB oLst aNil))
def m_Collected_wanted : List Vl → M Vl := fnM 1 b_Collected_wanted
def b_Planned_wanted : SM := (sRet (eDGet2 (eFld cs_wishes_at "wishes_at" (eVar 0)) (eFld cs_moment "moment" (eVar 0)) (eCB oLst aNil)))
def m_Planned_wanted : List Vl → M Vl := fnM 1 b_Planned_wanted
def tab_wanted : MTab := fun c => match c with
  | 2 => some m_Collected_wanted
  | 3 => some m_Planned_wanted
  | _ => none
def b_Collected_begin_moment : SM := (sSeq (sIf (tVal (eOp opIn (eFld cs_at_place "at_place" (eVar 0)) (eFld cs_quiet_places "quiet_places" (eVar 0)))) sRetN sNil)
  (sSeq (sSet 1 (eMeth "wanted" (tabA 0 tab_wanted) (eVar 0) aNil))
  (sSeq (sIf (tVal (eOp opEq (eVar 1) (eCB oLst aNil))) sRetN sNil)
  (sSeq (sSet 2 (eMeth "reached" (tabA 0 tab_reached) (eVar 0) aNil))
  (sSeq (sSet 3 (eCB oLst aNil))
  (sSeq (sFor 100000 (iLst (eVar 1)) (gNm 4)
  (sIf (tAndM (tVal (eOp opLt (eVar 4) (eCB oLen (aCons (eFld cs_lost "lost" (eVar 0)) aNil)))) (tAndM (tNotM (tVal (eOp opIx (eFld cs_lost "lost" (eVar 0)) (eVar 4)))) (tNotM (tVal (eOp opIx (eVar 2) (eVar 4)))))) (sExpr (eBm .list oExtend (eVar 3) (aCons (eLc 100000 (iLst (eMeth "comers" (tabA 1 tab_comers) (eVar 0) (aCons (eVar 4) aNil))) (glN 5) (tVal (eOp opNotIn (eVar 5) (eVar 3))) (eVar 5) [5]) aNil))) sNil))
  (sFor 100000 (iLst (eCB oSortS (aCons (eVar 3) aNil))) (gNm 4)
  (sSeq (sAsg (gSb opSet (eFld cs_lost "lost" (eVar 0)) (eVar 4)) (eC (.bl true)))
  (sExpr (eBm .list oAppend (eFld cs_cleared "cleared" (eVar 0)) (aCons (eCB oTup (aCons (eFld cs_moment "moment" (eVar 0)) (aCons (eVar 4) aNil))) aNil)))))))))))
def m_Collected_begin_moment : List Vl → M Vl := fnM 6 b_Collected_begin_moment
def tab_begin_moment : MTab := fun c => match c with
  | 1 => some m_Machine_begin_moment
  | 2 => some m_Collected_begin_moment
  | 3 => some m_Collected_begin_moment
  | _ => none
def b_enter : SM := (sSeq (sFldM cs_at_place "at_place" (eVar 0) (eVar 1))
  (sSeq (sFldA cs_moment "moment" opIAdd (eVar 0) (eC (.int 1)))
  (sExpr (eMeth "begin_moment" (tabA 0 tab_begin_moment) (eVar 0) aNil))))
def m_enter : List Vl → M Vl := fnM 2 b_enter
def b_Collected_end_moment : SM := (sExpr (eBm .list oAppend (eFld cs_there "there" (eVar 0)) (aCons (eOp opSub (eCB oLen (aCons (eFld cs_lost "lost" (eVar 0)) aNil)) (eCB oLen (aCons (eFld cs_cleared "cleared" (eVar 0)) aNil))) aNil)))
def m_Collected_end_moment : List Vl → M Vl := fnM 1 b_Collected_end_moment
def tab_end_moment : MTab := fun c => match c with
  | 1 => some m_Machine_end_moment
  | 2 => some m_Collected_end_moment
  | 3 => some m_Collected_end_moment
  | _ => none
def b_execute (R : Nat → List Vl → M Vl) : SM := (sForX (aTup (eVar 1)) (gNm 3)
  (sSeq (sExpr (eCall (arg 2 m_enter) (aCons (eVar 0) (aCons (eVar 2) aNil))))
  (sSeq (sSet 4 (eOp opAdd (eVar 2) (eC (.int 1))))
  (sSeq (sIf (tVal (eOp opEq (eOp opIx (eVar 3) (eC (.int 0))) (eC (.str "if")))) (sSeq (sSet 5 (eIfM (tVal (eCall (arg 2 m_is_true) (aCons (eVar 0) (aCons (eOp opIx (eVar 3) (eC (.int 1))) aNil)))) (eC (.int 2)) (eC (.int 3))))
  (sSeq (sExpr (eMeth "end_moment" (tabA 0 tab_end_moment) (eVar 0) aNil))
  (sSeq (sIf (tVal (eOp opEq (eVar 5) (eC (.int 3)))) (sAug 4 opIAdd (eCB oLen (aCons (eCall (arg 2 m_listed) (aCons (eOp opIx (eVar 3) (eC (.int 2))) (aCons (eC (.int 0)) aNil))) aNil))) sNil)
  (sExpr (eCall (arg 3 (R 0)) (aCons (eVar 0) (aCons (eOp opIx (eVar 3) (eVar 5)) (aCons (eVar 4) aNil)))))))) (sIf (tVal (eOp opEq (eOp opIx (eVar 3) (eC (.int 0))) (eC (.str "repeat")))) (sSeq (sExpr (eMeth "end_moment" (tabA 0 tab_end_moment) (eVar 0) aNil))
  (sForX (aRng (aCons (eOp opIx (eVar 3) (eC (.int 1))) aNil)) (gNm 6)
  (sExpr (eCall (arg 3 (R 0)) (aCons (eVar 0) (aCons (eOp opIx (eVar 3) (eC (.int 2))) (aCons (eVar 4) aNil))))))) (sSeq (sSet 7 (eKix kdl_DEEDS (eOp opIx (eVar 3) (eC (.int 0)))))
  (sSeq (sExpr (eCallF 7 (tabF 2 tab_fns) (aCons (eVar 0) (aCons (eVar 3) aNil))))
  (sExpr (eMeth "end_moment" (tabA 0 tab_end_moment) (eVar 0) aNil))))))
  (sAug 2 opIAdd (eOp opAdd (eC (.int 1)) (eCB oSum (aCons (eLcX (aTup (eCall (arg 1 m_inner_blocks) (aCons (eVar 3) aNil))) (glN 8) tTrue (eCB oLen (aCons (eCall (arg 2 m_listed) (aCons (eVar 8) (aCons (eC (.int 0)) aNil))) aNil)) [8]) aNil))))))))
def R2 : Nat → Nat → List Vl → M Vl
  | 0, _ => mFail
  | n + 1, 0 => fnM 9 (b_execute (R2 n))
  | _ + 1, _ => mFail
def m_execute : List Vl → M Vl := R2 12 0
def b_finish : SM := (sSeq (sTryAs hit_Stopped 1 (sExpr (eCall (arg 3 m_execute) (aCons (eVar 0) (aCons (eFld cs_block "block" (eVar 0)) (aCons (eC (.int 0)) aNil))))) (fun e => (sSeq (sExpr (eMeth "end_moment" (tabA 0 tab_end_moment) (eVar 0) aNil))
  (sRet (eCB oTup (aCons (eXf 1 e "why") (aCons (eFld cs_at_place "at_place" (eVar 0)) aNil)))))))
  (sRet (eC .non)))
def m_finish : List Vl → M Vl := fnM 2 b_finish
def sup_Collected : MTab := fun c => match c with
  | 2 => some m_MachineU_initU
  | 3 => some m_MachineU_initU
  | _ => none
def b_CollectedU_initU : SM := (sSeq (sExpr (eSup (tabA 2 sup_Collected) (aCons (eVar 1) (aCons (eVar 2) aNil))))
  (sSeq (sFldM cs_quiet_places "quiet_places" (eVar 0) (eVar 3))
  (sSeq (sFldM cs_cleared "cleared" (eVar 0) (eCB oLst aNil))
  (sFldM cs_there "there" (eVar 0) (eCB oLst aNil)))))
def m_CollectedU_initU : List Vl → M Vl := fnM 4 b_CollectedU_initU
def sup_Planned : MTab := fun c => match c with
  | 3 => some m_CollectedU_initU
  | _ => none
def b_PlannedU_initU : SM := (sSeq (sExpr (eSup (tabA 3 sup_Planned) (aCons (eVar 1) (aCons (eVar 2) (aCons (eVar 4) aNil)))))
  (sSeq (sFldM cs_wishes_at "wishes_at" (eVar 0) eDict0)
  (sForX (aTup (eVar 3)) (gTp [5, 6])
  (sExpr (eBm .list oAppend (eDSet (eFld cs_wishes_at "wishes_at" (eVar 0)) (eVar 5) (eCB oLst aNil)) (aCons (eVar 6) aNil))))))
def m_PlannedU_initU : List Vl → M Vl := fnM 7 b_PlannedU_initU
def b_result_of : SM := (sSeq (sSet 1 (eCall (arg 1 m_finish) (aCons (eVar 0) aNil)))
  (sRet (eCB oTup (aCons (eCB oTuple (aCons (eFld cs_spoken "spoken" (eVar 0)) aNil)) (aCons (eVar 1) (aCons (eCB oTuple (aCons (eFld cs_replies "replies" (eVar 0)) aNil)) (aCons (eCB oTuple (aCons (eFld cs_cleared "cleared" (eVar 0)) aNil)) aNil)))))))
def m_result_of : List Vl → M Vl := fnM 2 b_result_of
def b_run : SM := (sRet (eCall (arg 1 m_result_of) (aCons (eMake 3 (argI 4 m_PlannedU_initU) (aCons (eVar 0) (aCons (eVar 1) (aCons (eVar 2) (aCons (eVar 3) aNil))))) aNil)))
def m_run : List Vl → M Vl := fnM 4 b_run
def b__law_deck : SM := (sRet (eCB oLst (aCons (eLc 100000 (iLst (eSl opSl (eVar 0) none (some (eC (.int 63))))) (glN 1) tTrue (eCB oAbs (aCons (eVar 1) aNil)) [1]) (aCons (eC (.int 0)) aNil))))
def m__law_deck : List Vl → M Vl := fnM 2 b__law_deck
def b__law_draw : SM := (sSeq (sAsg (gSb opSet (eVar 0) (eC (.int 1))) (eOp opAdd (eOp opIx (eVar 0) (eC (.int 1))) (eC (.int 1))))
  (sSeq (sAsg (gTp [3, 4]) (eCB oTup (aCons (eC (.int 0)) (aCons (eOp1 opNeg (eC (.int 1))) aNil))))
  (sSeq (sIf (tVal (eOp opGt (eCB oLen (aCons (eOp opIx (eVar 0) (eC (.int 0))) aNil)) (eC (.int 0)))) (sSeq (sSet 4 (eOp opMod (eCB oInt (aCons (eOp opIx (eVar 0) (eC (.int 1))) aNil)) (eCB oLen (aCons (eOp opIx (eVar 0) (eC (.int 0))) aNil))))
  (sSet 3 (eOp opIx (eOp opIx (eVar 0) (eC (.int 0))) (eVar 4)))) sNil)
  (sSeq (sIf (tVal (eOp opGe (eVar 3) (eOp opPow (eC (.int 10)) (eC (.int 18))))) (sSeq (sAsg (gSb opSet (eOp opIx (eVar 0) (eC (.int 0))) (eVar 4)) (eOp opFdiv (eCB oInt (aCons (eVar 3) aNil)) (eVar 1)))
  (sRet (eOp opMod (eCB oInt (aCons (eVar 3) aNil)) (eVar 1)))) sNil)
  (sSeq (sSet 2 (eOp opAdd (eOp opAdd (eOp opMod (eCB oInt (aCons (eVar 3) aNil)) (eC (.int 2147483563))) (eOp opMul (eC (.int 8117)) (eOp opIx (eVar 0) (eC (.int 1))))) (eC (.int 3))))
  (sRet (eOp opMod (eCB oInt (aCons (eOp opMod (eCB oInt (aCons (eOp opPow (eVar 2) (eC (.int 5))) aNil)) (eC (.int 2147483629))) aNil)) (eVar 1))))))))
def m__law_draw : List Vl → M Vl := fnM 5 b__law_draw
def b__law_one : SM := (sRet (eOp opIx (eVar 1) (eCall (arg 2 m__law_draw) (aCons (eVar 0) (aCons (eCB oLen (aCons (eVar 1) aNil)) aNil)))))
def m__law_one : List Vl → M Vl := fnM 2 b__law_one
def b__law_names : SM := (sSeq (sSet 2 (eC (.str "abcdefghijklmnopqrstuvwxyz")))
  (sSeq (sSet 3 (eBm .str oJoin (eC (.str "")) (aCons (eLcX (aRng (aCons (eOp opAdd (eC (.int 1)) (eCall (arg 2 m__law_draw) (aCons (eVar 0) (aCons (eC (.int 3)) aNil)))) aNil)) (glN 5) tTrue (eCall (arg 2 m__law_one) (aCons (eVar 0) (aCons (eVar 2) aNil))) [5]) aNil)))
  (sSeq (sSet 4 (eBm .str oJoin (eC (.str "")) (aCons (eLcX (aRng (aCons (eCall (arg 2 m__law_draw) (aCons (eVar 0) (aCons (eC (.int 3)) aNil))) aNil)) (glN 5) tTrue (eCall (arg 2 m__law_one) (aCons (eVar 0) (aCons (eVar 2) aNil))) [5]) aNil)))
  (sRet (eLcX (aRng (aCons (eVar 1) aNil)) (glN 5) tTrue (eOp opAdd (eOp opAdd (eVar 3) (eCB oStr (aCons (eVar 5) aNil))) (eVar 4)) [5])))))
def m__law_names : List Vl → M Vl := fnM 6 b__law_names
def b__law_row : SM := (sSeq (sSet 3 (eCall (arg 2 m__law_draw) (aCons (eVar 0) (aCons (eC (.int 11)) aNil))))
  (sSeq (sPar3 4 5 6 (aCons (eCall (arg 2 m__law_one) (aCons (eVar 0) (aCons (eVar 1) aNil))) (aCons (eCall (arg 2 m__law_one) (aCons (eVar 0) (aCons (eVar 1) aNil))) (aCons (eCall (arg 2 m__law_one) (aCons (eVar 0) (aCons (eVar 2) aNil))) aNil))))
  (sSeq (sIf (tVal (eOp opLt (eVar 3) (eC (.int 6)))) (sRet (eCB oTup (aCons (eOp opIx (eCB oLst (aCons (eC (.str "hold")) (aCons (eC (.str "weak")) aNil))) (eOp opMod (eVar 3) (eC (.int 2)))) (aCons (eVar 4) (aCons (eVar 6) (aCons (eVar 5) aNil)))))) sNil)
  (sSeq (sIf (tVal (eOp opEq (eVar 3) (eC (.int 6)))) (sRet (eCB oTup (aCons (eC (.str "cut")) (aCons (eVar 4) (aCons (eVar 6) aNil))))) sNil)
  (sSeq (sIf (tVal (eOp opLt (eVar 3) (eC (.int 9)))) (sRet (eCB oTup (aCons (eC (.str "take")) (aCons (eOp opAdd (eC (.str "taken")) (eCB oStr (aCons (eVar 3) aNil))) (aCons (eVar 4) (aCons (eVar 6) aNil)))))) sNil)
  (sRet (eCB oTup (aCons (eC (.str "ask")) (aCons (eOp opIx (eCB oLst (aCons (eCB oTup (aCons (eC (.str "full")) (aCons (eVar 4) (aCons (eVar 6) aNil)))) (aCons (eCB oTup (aCons (eC (.str "not")) (aCons (eCB oTup (aCons (eC (.str "full")) (aCons (eVar 4) (aCons (eVar 6) aNil)))) aNil))) aNil))) (eOp opSub (eVar 3) (eC (.int 9)))) aNil)))))))))
def m__law_row : List Vl → M Vl := fnM 7 b__law_row
def b_law : SM := (sSeq (sSet 1 (eCall (arg 1 m__law_deck) (aCons (eVar 0) aNil)))
  (sSeq (sAsg (gTp [7, 8]) (eCB oTup (aCons (eOp opAdd (eC (.int 3)) (eCall (arg 2 m__law_draw) (aCons (eVar 1) (aCons (eC (.int 2)) aNil)))) (aCons (eCall (arg 2 m__law_names) (aCons (eVar 1) (aCons (eC (.int 7)) aNil))) aNil))))
  (sSeq (sAsg (gTp [4, 9, 10, 11]) (eCB oTup (aCons (eLcX (aRng (aCons (eVar 7) aNil)) (glN 3) tTrue (eCB oTup (aCons (eC (.str "make")) (aCons (eOp opIx (eVar 8) (eVar 3)) aNil))) [3]) (aCons eDict0T (aCons (eCB oLst aNil) (aCons (eC (.int 0)) aNil))))))
  (sSeq (sSet 2 (eCB oDictP (aCons (eLcX (aRng (aCons (eVar 7) aNil)) (glN 3) tTrue (eCB oTup (aCons (eOp opIx (eVar 8) (eVar 3)) (aCons (eVar 3) aNil))) [3]) aNil)))
  (sSeq (sForX (aRng (aCons (eCall (arg 2 m__law_draw) (aCons (eVar 1) (aCons (eC (.int 23)) aNil))) aNil)) (gNm 3)
  (sSeq (sSet 12 (eCall (arg 3 m__law_row) (aCons (eVar 1) (aCons (eSl opSl (eVar 8) none (some (eVar 7))) (aCons (eSl opSl (eVar 8) (some (eC (.int 4))) none) aNil)))))
  (sSeq (sIf (tVal (eOp opIn (eOp opIx (eVar 12) (eC (.int 0))) (eCB oLst (aCons (eC (.str "hold")) (aCons (eC (.str "weak")) aNil))))) (sAsg (gSbT (eVar 9) (aCons (eOp opIx (eVar 2) (eOp opIx (eVar 12) (eC (.int 1)))) (aCons (eOp opIx (eVar 12) (eC (.int 2))) aNil))) (eOp opIx (eVar 2) (eOp opIx (eVar 12) (eC (.int 3))))) (sIf (tVal (eOp opEq (eOp opIx (eVar 12) (eC (.int 0))) (eC (.str "cut")))) (sAsg (gSbT (eVar 9) (aCons (eOp opIx (eVar 2) (eOp opIx (eVar 12) (eC (.int 1)))) (aCons (eOp opIx (eVar 12) (eC (.int 2))) aNil))) (eC .non)) (sSeq (sAsg (gTp [14, 15]) (eIfM (tVal (eOp opEq (eOp opIx (eVar 12) (eC (.int 0))) (eC (.str "take")))) (eCB oTup (aCons (eOp opIx (eVar 12) (eC (.int 2))) (aCons (eOp opIx (eVar 12) (eC (.int 3))) aNil))) (eIfM (tVal (eOp opEq (eOp opIx (eOp opIx (eVar 12) (eC (.int 1))) (eC (.int 0))) (eC (.str "full")))) (eSl opSl (eOp opIx (eVar 12) (eC (.int 1))) (some (eOp1 opNeg (eC (.int 2)))) none) (eSl opSl (eOp opIx (eOp opIx (eVar 12) (eC (.int 1))) (eC (.int 1))) (some (eC (.int 1))) none))))
  (sSeq (sSet 13 (eDGetT (eVar 9) (aCons (eOp opIx (eVar 2) (eVar 14)) (aCons (eVar 15) aNil))))
  (sSeq (sSet 11 (eOp opAdd (eVar 11) (eCB oInt (aCons (eOp opNotN (eVar 13) (eC .non)) aNil))))
  (sIf (tVal (eOp opEq (eOp opIx (eVar 12) (eC (.int 0))) (eC (.str "take")))) (sSeq (sExpr (eBm .list oAppend (eVar 4) (aCons (eVar 12) aNil)))
  (sSeq (sSet 12 (eCB oTup (aCons (eC (.str "ask")) (aCons (eCB oTup (aCons (eC (.str "set")) (aCons (eOp opIx (eVar 12) (eC (.int 1))) aNil))) aNil))))
  (sExpr (eBm .list oAppend (eVar 10) (aCons (eIfM (tVal (eOp opIsN (eVar 13) (eC .non))) (eCB oTup (aCons (eC (.str "no")) aNil)) (eCB oTup (aCons (eC (.str "yes")) aNil))) aNil))))) (sExpr (eBm .list oAppend (eVar 10) (aCons (eIfM (tVal (eOp opEq (eOp opNotN (eVar 13) (eC .non)) (eOp opEq (eOp opIx (eOp opIx (eVar 12) (eC (.int 1))) (eC (.int 0))) (eC (.str "full"))))) (eCB oTup (aCons (eC (.str "yes")) aNil)) (eCB oTup (aCons (eC (.str "no")) aNil))) aNil)))))))))
  (sExpr (eBm .list oAppend (eVar 4) (aCons (eVar 12) aNil))))))
  (sSeq (sSet 4 (eSl opSl (eVar 4) none (some (eC (.int 30)))))
  (sSeq (sSet 5 (eCB oLen (aCons (eLc 100000 (iLst (eVar 4)) (glN 12) (tVal (eOp opEq (eOp opIx (eVar 12) (eC (.int 0))) (eC (.str "ask")))) (eVar 12) [12]) aNil)))
  (sSeq (sSet 6 (eCall (dflM 4 [(.tup []), (.tup [])] m_run) (aCons (eCB oTup (aCons (eC (.int 0)) (aCons (eCB oTuple (aCons (eVar 4) aNil)) aNil))) (aCons (eCB oTup aNil) aNil))))
  (sSeq (sIf (tAndM (tVal (eOp opLt (eCB oLen (aCons (eVar 4) aNil)) (eC (.int 30)))) (tVal (eOp opNe (eCB oLen (aCons (eOp opIx (eVar 6) (eC (.int 2))) aNil)) (eVar 11)))) (sRet (eC (.bl false))) sNil)
  (sSeq (sIf (tOrM (tVal (eOp opNe (eLcX (aTup (eOp opIx (eVar 6) (eC (.int 2)))) (glN 16) (tVal (eOp opNe (eVar 16) (eC (.int 0)))) (eVar 16) [16]) (eCB oLst aNil))) (tVal (eOp opNe (eOp opIx (eVar 6) (eC (.int 3))) (eCB oTup aNil)))) (sRet (eC (.bl false))) sNil)
  (sRet (eOp opEq (eCB oRepr (aCons (eSl opSl (eVar 6) none (some (eC (.int 2)))) aNil)) (eCB oRepr (aCons (eCB oTup (aCons (eCB oTuple (aCons (eSl opSl (eVar 10) none (some (eVar 5))) aNil)) (aCons (eC .non) aNil))) aNil))))))))))))))
def m_law : List Vl → M Vl := fnM 17 b_law
/-! what the top has left -/
structure TX (K : PySem.W.Frag) (mg : Str → Option Value) where
  file : Str
  C_Machine : Addr
  C_Collected : Addr
  C_Planned : Addr
  C_Stopped : Addr
  gc_Stopped : mg "Stopped" = some (.ref C_Stopped)
  f_inner_blocks : Addr
  d_inner_blocks : FuncData
  F_inner_blocks : Fun K "inner_blocks" "inner_blocks" st_inner_blocks f_inner_blocks d_inner_blocks
  b_inner_blocks : Binds K d_inner_blocks ["statement"] []
  g_inner_blocks : mg "inner_blocks" = some (.ref f_inner_blocks)
  f_listed : Addr
  d_listed : FuncData
  F_listed : Fun K "listed" "listed" st_listed f_listed d_listed
  b_listed : Binds K d_listed ["block", "depth"] []
  g_listed : mg "listed" = some (.ref f_listed)
  f_MachineU_initU : Addr
  d_MachineU_initU : FuncData
  F_MachineU_initU : Fun K "__init__" "Machine.__init__" st_MachineU_initU f_MachineU_initU d_MachineU_initU
  b_MachineU_initU : Binds K d_MachineU_initU ["self", "program", "inputs"] []
  f_Machine_begin_moment : Addr
  d_Machine_begin_moment : FuncData
  F_Machine_begin_moment : Fun K "begin_moment" "Machine.begin_moment" st_Machine_begin_moment f_Machine_begin_moment d_Machine_begin_moment
  b_Machine_begin_moment : Binds K d_Machine_begin_moment ["self"] []
  f_Machine_decide : Addr
  d_Machine_decide : FuncData
  F_Machine_decide : Fun K "decide" "Machine.decide" st_Machine_decide f_Machine_decide d_Machine_decide
  b_Machine_decide : Binds K d_Machine_decide ["self", "cell"] []
  f_Machine_note : Addr
  d_Machine_note : FuncData
  F_Machine_note : Fun K "note" "Machine.note" st_Machine_note f_Machine_note d_Machine_note
  b_Machine_note : Binds K d_Machine_note ["self", "event"] []
  f_Machine_end_moment : Addr
  d_Machine_end_moment : FuncData
  F_Machine_end_moment : Fun K "end_moment" "Machine.end_moment" st_Machine_end_moment f_Machine_end_moment d_Machine_end_moment
  b_Machine_end_moment : Binds K d_Machine_end_moment ["self"] []
  f_Machine_ask : Addr
  d_Machine_ask : FuncData
  F_Machine_ask : Fun K "ask" "Machine.ask" st_Machine_ask f_Machine_ask d_Machine_ask
  b_Machine_ask : Binds K d_Machine_ask ["self", "cell"] []
  f_Machine_cell_of : Addr
  d_Machine_cell_of : FuncData
  F_Machine_cell_of : Fun K "cell_of" "Machine.cell_of" st_Machine_cell_of f_Machine_cell_of d_Machine_cell_of
  b_Machine_cell_of : Binds K d_Machine_cell_of ["self", "name"] []
  f_Machine_stand : Addr
  d_Machine_stand : FuncData
  F_Machine_stand : Fun K "stand" "Machine.stand" st_Machine_stand f_Machine_stand d_Machine_stand
  b_Machine_stand : Binds K d_Machine_stand ["self", "name", "cell"] []
  f_Machine_fill : Addr
  d_Machine_fill : FuncData
  F_Machine_fill : Fun K "fill" "Machine.fill" st_Machine_fill f_Machine_fill d_Machine_fill
  b_Machine_fill : Binds K d_Machine_fill ["self", "holder", "field", "cell", "is_strong"] []
  f_Machine_held_by : Addr
  d_Machine_held_by : FuncData
  F_Machine_held_by : Fun K "held_by" "Machine.held_by" st_Machine_held_by f_Machine_held_by d_Machine_held_by
  b_Machine_held_by : Binds K d_Machine_held_by ["self", "holder"] []
  f_Machine_reach_from : Addr
  d_Machine_reach_from : FuncData
  F_Machine_reach_from : Fun K "reach_from" "Machine.reach_from" st_Machine_reach_from f_Machine_reach_from d_Machine_reach_from
  b_Machine_reach_from : Binds K d_Machine_reach_from ["self", "starts"] []
  f_Machine_reached : Addr
  d_Machine_reached : FuncData
  F_Machine_reached : Fun K "reached" "Machine.reached" st_Machine_reached f_Machine_reached d_Machine_reached
  b_Machine_reached : Binds K d_Machine_reached ["self"] []
  f_Machine_comers : Addr
  d_Machine_comers : FuncData
  F_Machine_comers : Fun K "comers" "Machine.comers" st_Machine_comers f_Machine_comers d_Machine_comers
  b_Machine_comers : Binds K d_Machine_comers ["self", "cell"] []
  f_do_make : Addr
  d_do_make : FuncData
  F_do_make : Fun K "do_make" "do_make" st_do_make f_do_make d_do_make
  b_do_make : Binds K d_do_make ["machine", "statement"] []
  g_do_make : mg "do_make" = some (.ref f_do_make)
  f_do_wish : Addr
  d_do_wish : FuncData
  F_do_wish : Fun K "do_wish" "do_wish" st_do_wish f_do_wish d_do_wish
  b_do_wish : Binds K d_do_wish ["machine", "statement"] []
  g_do_wish : mg "do_wish" = some (.ref f_do_wish)
  f_do_keep : Addr
  d_do_keep : FuncData
  F_do_keep : Fun K "do_keep" "do_keep" st_do_keep f_do_keep d_do_keep
  b_do_keep : Binds K d_do_keep ["machine", "statement"] []
  g_do_keep : mg "do_keep" = some (.ref f_do_keep)
  f_do_name : Addr
  d_do_name : FuncData
  F_do_name : Fun K "do_name" "do_name" st_do_name f_do_name d_do_name
  b_do_name : Binds K d_do_name ["machine", "statement"] []
  g_do_name : mg "do_name" = some (.ref f_do_name)
  f_do_drop : Addr
  d_do_drop : FuncData
  F_do_drop : Fun K "do_drop" "do_drop" st_do_drop f_do_drop d_do_drop
  b_do_drop : Binds K d_do_drop ["machine", "statement"] []
  g_do_drop : mg "do_drop" = some (.ref f_do_drop)
  f_do_hold : Addr
  d_do_hold : FuncData
  F_do_hold : Fun K "do_hold" "do_hold" st_do_hold f_do_hold d_do_hold
  b_do_hold : Binds K d_do_hold ["machine", "statement"] []
  g_do_hold : mg "do_hold" = some (.ref f_do_hold)
  f_do_weak : Addr
  d_do_weak : FuncData
  F_do_weak : Fun K "do_weak" "do_weak" st_do_weak f_do_weak d_do_weak
  b_do_weak : Binds K d_do_weak ["machine", "statement"] []
  g_do_weak : mg "do_weak" = some (.ref f_do_weak)
  f_do_cut : Addr
  d_do_cut : FuncData
  F_do_cut : Fun K "do_cut" "do_cut" st_do_cut f_do_cut d_do_cut
  b_do_cut : Binds K d_do_cut ["machine", "statement"] []
  g_do_cut : mg "do_cut" = some (.ref f_do_cut)
  f_do_take : Addr
  d_do_take : FuncData
  F_do_take : Fun K "do_take" "do_take" st_do_take f_do_take d_do_take
  b_do_take : Binds K d_do_take ["machine", "statement"] []
  g_do_take : mg "do_take" = some (.ref f_do_take)
  f_do_say : Addr
  d_do_say : FuncData
  F_do_say : Fun K "do_say" "do_say" st_do_say f_do_say d_do_say
  b_do_say : Binds K d_do_say ["machine", "statement"] []
  g_do_say : mg "do_say" = some (.ref f_do_say)
  f_is_true : Addr
  d_is_true : FuncData
  F_is_true : Fun K "is_true" "is_true" st_is_true f_is_true d_is_true
  b_is_true : Binds K d_is_true ["machine", "test"] []
  g_is_true : mg "is_true" = some (.ref f_is_true)
  f_do_ask : Addr
  d_do_ask : FuncData
  F_do_ask : Fun K "do_ask" "do_ask" st_do_ask f_do_ask d_do_ask
  b_do_ask : Binds K d_do_ask ["machine", "statement"] []
  g_do_ask : mg "do_ask" = some (.ref f_do_ask)
  f_Collected_wanted : Addr
  d_Collected_wanted : FuncData
  F_Collected_wanted : Fun K "wanted" "Collected.wanted" st_Collected_wanted f_Collected_wanted d_Collected_wanted
  b_Collected_wanted : Binds K d_Collected_wanted ["self"] []
  f_Planned_wanted : Addr
  d_Planned_wanted : FuncData
  F_Planned_wanted : Fun K "wanted" "Planned.wanted" st_Planned_wanted f_Planned_wanted d_Planned_wanted
  b_Planned_wanted : Binds K d_Planned_wanted ["self"] []
  f_Collected_begin_moment : Addr
  d_Collected_begin_moment : FuncData
  F_Collected_begin_moment : Fun K "begin_moment" "Collected.begin_moment" st_Collected_begin_moment f_Collected_begin_moment d_Collected_begin_moment
  b_Collected_begin_moment : Binds K d_Collected_begin_moment ["self"] []
  f_enter : Addr
  d_enter : FuncData
  F_enter : Fun K "enter" "enter" st_enter f_enter d_enter
  b_enter : Binds K d_enter ["machine", "place"] []
  g_enter : mg "enter" = some (.ref f_enter)
  f_Collected_end_moment : Addr
  d_Collected_end_moment : FuncData
  F_Collected_end_moment : Fun K "end_moment" "Collected.end_moment" st_Collected_end_moment f_Collected_end_moment d_Collected_end_moment
  b_Collected_end_moment : Binds K d_Collected_end_moment ["self"] []
  f_execute : Addr
  d_execute : FuncData
  F_execute : Fun K "execute" "execute" st_execute f_execute d_execute
  b_execute : Binds K d_execute ["machine", "block", "place"] []
  g_execute : mg "execute" = some (.ref f_execute)
  f_finish : Addr
  d_finish : FuncData
  F_finish : Fun K "finish" "finish" st_finish f_finish d_finish
  b_finish : Binds K d_finish ["machine"] []
  g_finish : mg "finish" = some (.ref f_finish)
  f_CollectedU_initU : Addr
  d_CollectedU_initU : FuncData
  cc_CollectedU_initU : Addr
  cda_CollectedU_initU : Addr
  S_CollectedU_initU : FunS K mg "Collected.__init__" file st_CollectedU_initU f_CollectedU_initU d_CollectedU_initU C_Collected cc_CollectedU_initU cda_CollectedU_initU
  b_CollectedU_initU : Binds K d_CollectedU_initU ["self", "program", "inputs", "paused"] []
  f_PlannedU_initU : Addr
  d_PlannedU_initU : FuncData
  cc_PlannedU_initU : Addr
  cda_PlannedU_initU : Addr
  S_PlannedU_initU : FunS K mg "Planned.__init__" file st_PlannedU_initU f_PlannedU_initU d_PlannedU_initU C_Planned cc_PlannedU_initU cda_PlannedU_initU
  b_PlannedU_initU : Binds K d_PlannedU_initU ["self", "program", "inputs", "plan", "paused"] []
  f_result_of : Addr
  d_result_of : FuncData
  F_result_of : Fun K "result_of" "result_of" st_result_of f_result_of d_result_of
  b_result_of : Binds K d_result_of ["machine"] []
  g_result_of : mg "result_of" = some (.ref f_result_of)
  f_run : Addr
  d_run : FuncData
  e_run_0 : Addr
  e_run_1 : Addr
  F_run : FunD K "run" "run" (defArgs st_run) (defBody st_run) (defScope st_run) [V.ref e_run_0] [("paused", V.ref e_run_1)] f_run d_run
  b_run_0 : BindD K d_run ["program", "inputs", "plan", "paused"] [(.tup []), (.tup [])]
  b_run_1 : BindD K d_run ["program", "inputs", "plan", "paused"] [(.tup [])]
  g_run : mg "run" = some (.ref f_run)
  f__law_deck : Addr
  d__law_deck : FuncData
  F__law_deck : Fun K "_law_deck" "_law_deck" st__law_deck f__law_deck d__law_deck
  b__law_deck : Binds K d__law_deck ["_law_script"] []
  g__law_deck : mg "_law_deck" = some (.ref f__law_deck)
  f__law_draw : Addr
  d__law_draw : FuncData
  F__law_draw : Fun K "_law_draw" "_law_draw" st__law_draw f__law_draw d__law_draw
  b__law_draw : Binds K d__law_draw ["_law_deck_here", "_law_many"] []
  g__law_draw : mg "_law_draw" = some (.ref f__law_draw)
  f__law_one : Addr
  d__law_one : FuncData
  F__law_one : Fun K "_law_one" "_law_one" st__law_one f__law_one d__law_one
  b__law_one : Binds K d__law_one ["_law_deck_here", "_law_items"] []
  g__law_one : mg "_law_one" = some (.ref f__law_one)
  f__law_names : Addr
  d__law_names : FuncData
  F__law_names : Fun K "_law_names" "_law_names" st__law_names f__law_names d__law_names
  b__law_names : Binds K d__law_names ["_law_deck_here", "_law_count"] []
  g__law_names : mg "_law_names" = some (.ref f__law_names)
  f__law_row : Addr
  d__law_row : FuncData
  F__law_row : Fun K "_law_row" "_law_row" st__law_row f__law_row d__law_row
  b__law_row : Binds K d__law_row ["_law_deck_here", "_law_names_here", "_law_fields"] []
  g__law_row : mg "_law_row" = some (.ref f__law_row)
  f_law : Addr
  d_law : FuncData
  F_law : Fun K "law" "law" st_law f_law d_law
  b_law : Binds K d_law ["_law_script"] []
  g_law : mg "law" = some (.ref f_law)
  f_StoppedU_initU : Addr
  d_StoppedU_initU : FuncData
  F_StoppedU_initU : Fun K "__init__" "Stopped.__init__" st_StoppedU_initU f_StoppedU_initU d_StoppedU_initU
  b_StoppedU_initU : Binds K d_StoppedU_initU ["self", "why"] []
  cl_Machine : Cls K C_Machine
  na_Machine_at_place : NoAttr K C_Machine "at_place"
  na_Machine_bits : NoAttr K C_Machine "bits"
  na_Machine_block : NoAttr K C_Machine "block"
  na_Machine_cleared : NoAttr K C_Machine "cleared"
  na_Machine_contents : NoAttr K C_Machine "contents"
  na_Machine_kept : NoAttr K C_Machine "kept"
  na_Machine_lost : NoAttr K C_Machine "lost"
  na_Machine_moment : NoAttr K C_Machine "moment"
  na_Machine_quiet_places : NoAttr K C_Machine "quiet_places"
  na_Machine_replies : NoAttr K C_Machine "replies"
  na_Machine_spoken : NoAttr K C_Machine "spoken"
  na_Machine_stands : NoAttr K C_Machine "stands"
  na_Machine_there : NoAttr K C_Machine "there"
  na_Machine_wishes : NoAttr K C_Machine "wishes"
  na_Machine_wishes_at : NoAttr K C_Machine "wishes_at"
  mt_Machine_ask : Meth K C_Machine "ask" f_Machine_ask
  mt_Machine_begin_moment : Meth K C_Machine "begin_moment" f_Machine_begin_moment
  mt_Machine_cell_of : Meth K C_Machine "cell_of" f_Machine_cell_of
  mt_Machine_comers : Meth K C_Machine "comers" f_Machine_comers
  mt_Machine_decide : Meth K C_Machine "decide" f_Machine_decide
  mt_Machine_end_moment : Meth K C_Machine "end_moment" f_Machine_end_moment
  mt_Machine_fill : Meth K C_Machine "fill" f_Machine_fill
  mt_Machine_held_by : Meth K C_Machine "held_by" f_Machine_held_by
  mt_Machine_note : Meth K C_Machine "note" f_Machine_note
  mt_Machine_reach_from : Meth K C_Machine "reach_from" f_Machine_reach_from
  mt_Machine_reached : Meth K C_Machine "reached" f_Machine_reached
  mt_Machine_stand : Meth K C_Machine "stand" f_Machine_stand
  cl_Collected : Cls K C_Collected
  na_Collected_at_place : NoAttr K C_Collected "at_place"
  na_Collected_bits : NoAttr K C_Collected "bits"
  na_Collected_block : NoAttr K C_Collected "block"
  na_Collected_cleared : NoAttr K C_Collected "cleared"
  na_Collected_contents : NoAttr K C_Collected "contents"
  na_Collected_kept : NoAttr K C_Collected "kept"
  na_Collected_lost : NoAttr K C_Collected "lost"
  na_Collected_moment : NoAttr K C_Collected "moment"
  na_Collected_quiet_places : NoAttr K C_Collected "quiet_places"
  na_Collected_replies : NoAttr K C_Collected "replies"
  na_Collected_spoken : NoAttr K C_Collected "spoken"
  na_Collected_stands : NoAttr K C_Collected "stands"
  na_Collected_there : NoAttr K C_Collected "there"
  na_Collected_wishes : NoAttr K C_Collected "wishes"
  na_Collected_wishes_at : NoAttr K C_Collected "wishes_at"
  mt_Collected_ask : Meth K C_Collected "ask" f_Machine_ask
  mt_Collected_begin_moment : Meth K C_Collected "begin_moment" f_Collected_begin_moment
  mt_Collected_cell_of : Meth K C_Collected "cell_of" f_Machine_cell_of
  mt_Collected_comers : Meth K C_Collected "comers" f_Machine_comers
  mt_Collected_decide : Meth K C_Collected "decide" f_Machine_decide
  mt_Collected_end_moment : Meth K C_Collected "end_moment" f_Collected_end_moment
  mt_Collected_fill : Meth K C_Collected "fill" f_Machine_fill
  mt_Collected_held_by : Meth K C_Collected "held_by" f_Machine_held_by
  mt_Collected_note : Meth K C_Collected "note" f_Machine_note
  mt_Collected_reach_from : Meth K C_Collected "reach_from" f_Machine_reach_from
  mt_Collected_reached : Meth K C_Collected "reached" f_Machine_reached
  mt_Collected_stand : Meth K C_Collected "stand" f_Machine_stand
  mt_Collected_wanted : Meth K C_Collected "wanted" f_Collected_wanted
  cl_Planned : Cls K C_Planned
  gc_Planned : mg "Planned" = some (.ref C_Planned)
  mk_Planned : Mk K C_Planned f_PlannedU_initU
  na_Planned_at_place : NoAttr K C_Planned "at_place"
  na_Planned_bits : NoAttr K C_Planned "bits"
  na_Planned_block : NoAttr K C_Planned "block"
  na_Planned_cleared : NoAttr K C_Planned "cleared"
  na_Planned_contents : NoAttr K C_Planned "contents"
  na_Planned_kept : NoAttr K C_Planned "kept"
  na_Planned_lost : NoAttr K C_Planned "lost"
  na_Planned_moment : NoAttr K C_Planned "moment"
  na_Planned_quiet_places : NoAttr K C_Planned "quiet_places"
  na_Planned_replies : NoAttr K C_Planned "replies"
  na_Planned_spoken : NoAttr K C_Planned "spoken"
  na_Planned_stands : NoAttr K C_Planned "stands"
  na_Planned_there : NoAttr K C_Planned "there"
  na_Planned_wishes : NoAttr K C_Planned "wishes"
  na_Planned_wishes_at : NoAttr K C_Planned "wishes_at"
  mt_Planned_ask : Meth K C_Planned "ask" f_Machine_ask
  mt_Planned_begin_moment : Meth K C_Planned "begin_moment" f_Collected_begin_moment
  mt_Planned_cell_of : Meth K C_Planned "cell_of" f_Machine_cell_of
  mt_Planned_comers : Meth K C_Planned "comers" f_Machine_comers
  mt_Planned_decide : Meth K C_Planned "decide" f_Machine_decide
  mt_Planned_end_moment : Meth K C_Planned "end_moment" f_Collected_end_moment
  mt_Planned_fill : Meth K C_Planned "fill" f_Machine_fill
  mt_Planned_held_by : Meth K C_Planned "held_by" f_Machine_held_by
  mt_Planned_note : Meth K C_Planned "note" f_Machine_note
  mt_Planned_reach_from : Meth K C_Planned "reach_from" f_Machine_reach_from
  mt_Planned_reached : Meth K C_Planned "reached" f_Machine_reached
  mt_Planned_stand : Meth K C_Planned "stand" f_Machine_stand
  mt_Planned_wanted : Meth K C_Planned "wanted" f_Planned_wanted
  t_MAX_QUESTIONS : Tok
  g_MAX_QUESTIONS : mg "MAX_QUESTIONS" = some (.int 200 t_MAX_QUESTIONS)
  n_abs : mg "abs" = none
  n_dict : mg "dict" = none
  n_enumerate : mg "enumerate" = none
  n_int : mg "int" = none
  n_len : mg "len" = none
  n_list : mg "list" = none
  n_range : mg "range" = none
  n_repr : mg "repr" = none
  n_sorted : mg "sorted" = none
  n_str : mg "str" = none
  n_sum : mg "sum" = none
  n_tuple : mg "tuple" = none
  ox_Stopped : OxT K mg "Stopped" "why" C_Stopped f_StoppedU_initU
  em_Stopped_Stopped : PySem.W.exmOne K (.ref C_Stopped) (.ref C_Stopped) = some true
  xc_Stopped_Stopped : XfC K C_Stopped
  nf_Stopped_Stopped_why : PySem.W.findIn K (.ref C_Stopped) "why" = some none
  t_DEEDS : Addr
  es_DEEDS : Array DictEntry
  n_DEEDS : Nat
  g_DEEDS : mg "DEEDS" = some (.ref t_DEEDS)
  lD_DEEDS : K.lookup t_DEEDS = some ⟨.type "dict", none, .dict es_DEEDS n_DEEDS, #[]⟩
  kn_DEEDS_0 : PySem.W.nsIn K t_DEEDS "make" = some (some (.ref f_do_make))
  kn_DEEDS_1 : PySem.W.nsIn K t_DEEDS "wish" = some (some (.ref f_do_wish))
  kn_DEEDS_2 : PySem.W.nsIn K t_DEEDS "keep" = some (some (.ref f_do_keep))
  kn_DEEDS_3 : PySem.W.nsIn K t_DEEDS "name" = some (some (.ref f_do_name))
  kn_DEEDS_4 : PySem.W.nsIn K t_DEEDS "drop" = some (some (.ref f_do_drop))
  kn_DEEDS_5 : PySem.W.nsIn K t_DEEDS "hold" = some (some (.ref f_do_hold))
  kn_DEEDS_6 : PySem.W.nsIn K t_DEEDS "weak" = some (some (.ref f_do_weak))
  kn_DEEDS_7 : PySem.W.nsIn K t_DEEDS "cut" = some (some (.ref f_do_cut))
  kn_DEEDS_8 : PySem.W.nsIn K t_DEEDS "take" = some (some (.ref f_do_take))
  kn_DEEDS_9 : PySem.W.nsIn K t_DEEDS "say" = some (some (.ref f_do_say))
  kn_DEEDS_10 : PySem.W.nsIn K t_DEEDS "ask" = some (some (.ref f_do_ask))
  st_Collected : PySem.W.typeIn K (.ref f_MachineU_initU) = some (.type "function")
  sf_Collected : PySem.W.fnIn K f_MachineU_initU = true
  sm_Collected_Collected : PySem.W.mroIn K C_Collected (.ref C_Collected) = some true
  ss_Collected_Collected : PySem.W.ks_superIn K C_Collected C_Collected "__init__" = some (some (.ref f_MachineU_initU))
  sm_Planned_Collected : PySem.W.mroIn K C_Planned (.ref C_Collected) = some true
  ss_Planned_Collected : PySem.W.ks_superIn K C_Planned C_Collected "__init__" = some (some (.ref f_MachineU_initU))
  st_Planned : PySem.W.typeIn K (.ref f_CollectedU_initU) = some (.type "function")
  sf_Planned : PySem.W.fnIn K f_CollectedU_initU = true
  sm_Planned_Planned : PySem.W.mroIn K C_Planned (.ref C_Planned) = some true
  ss_Planned_Planned : PySem.W.ks_superIn K C_Planned C_Planned "__init__" = some (some (.ref f_CollectedU_initU))
def TX.T {K : PySem.W.Frag} {mg : Str → Option Value} (X : TX K mg) (w : World) : Tb := ⟨K, w, [X.C_Stopped, X.C_Machine, X.C_Collected, X.C_Planned], [X.f_do_make, X.f_do_wish, X.f_do_keep, X.f_do_name, X.f_do_drop, X.f_do_hold, X.f_do_weak, X.f_do_cut, X.f_do_take, X.f_do_say, X.f_do_ask], []⟩
structure TX.PO {K : PySem.W.Frag} {mg : Str → Option Value} (X : TX K mg) (P : Program) (w : World) : Prop where
  file : ((P.main.file : Str) == X.file) = true
  sup : (P.main.scope.names.lookup (Str.ofString "super")).isSome = false
  kl_DEEDS : PySem.W.KeysLit w.params X.es_DEEDS.toList
theorem TX.hit1_Stopped {K : PySem.W.Frag} {mg : Str → Option Value} (X : TX K mg) (w : World) : ∀ c C, hit_Stopped c = some true → (X.T w).cl[c]? = some C → PySem.W.exmOne K (.ref C) (.ref X.C_Stopped) = some true := by
  intro c C h1 h2
  unfold hit_Stopped at h1
  split at h1
  · cases h2
    exact X.em_Stopped_Stopped
  · cases h1
theorem TX.hit0_Stopped {K : PySem.W.Frag} {mg : Str → Option Value} (X : TX K mg) (w : World) : ∀ c C, hit_Stopped c = some false → (X.T w).cl[c]? = some C → PySem.W.exmOne K (.ref C) (.ref X.C_Stopped) = some false := by
  intro c C h1 h2
  unfold hit_Stopped at h1
  split at h1
  · cases h1
  · cases h1
theorem TX.xf_Stopped_why {K : PySem.W.Frag} {mg : Str → Option Value} (X : TX K mg) (w : World) : ∀ c C, hit_Stopped c = some true → (X.T w).cl[c]? = some C → XfC K C ∧ PySem.W.findIn K (.ref C) "why" = some none := by
  intro c C h1 h2
  unfold hit_Stopped at h1
  split at h1
  · cases h2
    exact ⟨X.xc_Stopped_Stopped, X.nf_Stopped_Stopped_why⟩
  · cases h1
theorem TX.kd_DEEDS {K : PySem.W.Frag} {mg : Str → Option Value} (X : TX K mg) {P : Program} {w : World} (hP : X.PO P w) : ∀ z u, getS kdl_DEEDS z = some u → ∃ v, KDct K w X.t_DEEDS z v ∧ ∀ ρ H, RV (X.T w) ρ H u v := by
  intro z u h
  have m := getS_mem h
  simp only [kdl_DEEDS, List.mem_cons, List.not_mem_nil, or_false, Prod.mk.injEq] at m
  rcases m with ⟨rfl, rfl⟩ | ⟨rfl, rfl⟩ | ⟨rfl, rfl⟩ | ⟨rfl, rfl⟩ | ⟨rfl, rfl⟩ | ⟨rfl, rfl⟩ | ⟨rfl, rfl⟩ | ⟨rfl, rfl⟩ | ⟨rfl, rfl⟩ | ⟨rfl, rfl⟩ | ⟨rfl, rfl⟩
  · exact ⟨V.ref X.f_do_make, ⟨X.es_DEEDS, X.n_DEEDS, .ref X.f_do_make, X.lD_DEEDS, hP.kl_DEEDS, X.kn_DEEDS_0, rfl⟩, fun ρ H => .fn rfl⟩
  · exact ⟨V.ref X.f_do_wish, ⟨X.es_DEEDS, X.n_DEEDS, .ref X.f_do_wish, X.lD_DEEDS, hP.kl_DEEDS, X.kn_DEEDS_1, rfl⟩, fun ρ H => .fn rfl⟩
  · exact ⟨V.ref X.f_do_keep, ⟨X.es_DEEDS, X.n_DEEDS, .ref X.f_do_keep, X.lD_DEEDS, hP.kl_DEEDS, X.kn_DEEDS_2, rfl⟩, fun ρ H => .fn rfl⟩
  · exact ⟨V.ref X.f_do_name, ⟨X.es_DEEDS, X.n_DEEDS, .ref X.f_do_name, X.lD_DEEDS, hP.kl_DEEDS, X.kn_DEEDS_3, rfl⟩, fun ρ H => .fn rfl⟩
  · exact ⟨V.ref X.f_do_drop, ⟨X.es_DEEDS, X.n_DEEDS, .ref X.f_do_drop, X.lD_DEEDS, hP.kl_DEEDS, X.kn_DEEDS_4, rfl⟩, fun ρ H => .fn rfl⟩
  · exact ⟨V.ref X.f_do_hold, ⟨X.es_DEEDS, X.n_DEEDS, .ref X.f_do_hold, X.lD_DEEDS, hP.kl_DEEDS, X.kn_DEEDS_5, rfl⟩, fun ρ H => .fn rfl⟩
  · exact ⟨V.ref X.f_do_weak, ⟨X.es_DEEDS, X.n_DEEDS, .ref X.f_do_weak, X.lD_DEEDS, hP.kl_DEEDS, X.kn_DEEDS_6, rfl⟩, fun ρ H => .fn rfl⟩
  · exact ⟨V.ref X.f_do_cut, ⟨X.es_DEEDS, X.n_DEEDS, .ref X.f_do_cut, X.lD_DEEDS, hP.kl_DEEDS, X.kn_DEEDS_7, rfl⟩, fun ρ H => .fn rfl⟩
  · exact ⟨V.ref X.f_do_take, ⟨X.es_DEEDS, X.n_DEEDS, .ref X.f_do_take, X.lD_DEEDS, hP.kl_DEEDS, X.kn_DEEDS_8, rfl⟩, fun ρ H => .fn rfl⟩
  · exact ⟨V.ref X.f_do_say, ⟨X.es_DEEDS, X.n_DEEDS, .ref X.f_do_say, X.lD_DEEDS, hP.kl_DEEDS, X.kn_DEEDS_9, rfl⟩, fun ρ H => .fn rfl⟩
  · exact ⟨V.ref X.f_do_ask, ⟨X.es_DEEDS, X.n_DEEDS, .ref X.f_do_ask, X.lD_DEEDS, hP.kl_DEEDS, X.kn_DEEDS_10, rfl⟩, fun ρ H => .fn rfl⟩
theorem TX.fo_at_place {K : PySem.W.Frag} {mg : Str → Option Value} (X : TX K mg) (w : World) : FldOk (X.T w) cs_at_place "at_place" := by
  intro c hc C h
  simp only [cs_at_place, List.mem_cons, List.not_mem_nil, or_false] at hc
  rcases hc with rfl | rfl | rfl
  · cases h
    exact ⟨X.cl_Machine, X.na_Machine_at_place⟩
  · cases h
    exact ⟨X.cl_Collected, X.na_Collected_at_place⟩
  · cases h
    exact ⟨X.cl_Planned, X.na_Planned_at_place⟩
theorem TX.fo_bits {K : PySem.W.Frag} {mg : Str → Option Value} (X : TX K mg) (w : World) : FldOk (X.T w) cs_bits "bits" := by
  intro c hc C h
  simp only [cs_bits, List.mem_cons, List.not_mem_nil, or_false] at hc
  rcases hc with rfl | rfl | rfl
  · cases h
    exact ⟨X.cl_Machine, X.na_Machine_bits⟩
  · cases h
    exact ⟨X.cl_Collected, X.na_Collected_bits⟩
  · cases h
    exact ⟨X.cl_Planned, X.na_Planned_bits⟩
theorem TX.fo_block {K : PySem.W.Frag} {mg : Str → Option Value} (X : TX K mg) (w : World) : FldOk (X.T w) cs_block "block" := by
  intro c hc C h
  simp only [cs_block, List.mem_cons, List.not_mem_nil, or_false] at hc
  rcases hc with rfl | rfl | rfl
  · cases h
    exact ⟨X.cl_Machine, X.na_Machine_block⟩
  · cases h
    exact ⟨X.cl_Collected, X.na_Collected_block⟩
  · cases h
    exact ⟨X.cl_Planned, X.na_Planned_block⟩
theorem TX.fo_cleared {K : PySem.W.Frag} {mg : Str → Option Value} (X : TX K mg) (w : World) : FldOk (X.T w) cs_cleared "cleared" := by
  intro c hc C h
  simp only [cs_cleared, List.mem_cons, List.not_mem_nil, or_false] at hc
  rcases hc with rfl | rfl | rfl
  · cases h
    exact ⟨X.cl_Machine, X.na_Machine_cleared⟩
  · cases h
    exact ⟨X.cl_Collected, X.na_Collected_cleared⟩
  · cases h
    exact ⟨X.cl_Planned, X.na_Planned_cleared⟩
theorem TX.fo_contents {K : PySem.W.Frag} {mg : Str → Option Value} (X : TX K mg) (w : World) : FldOk (X.T w) cs_contents "contents" := by
  intro c hc C h
  simp only [cs_contents, List.mem_cons, List.not_mem_nil, or_false] at hc
  rcases hc with rfl | rfl | rfl
  · cases h
    exact ⟨X.cl_Machine, X.na_Machine_contents⟩
  · cases h
    exact ⟨X.cl_Collected, X.na_Collected_contents⟩
  · cases h
    exact ⟨X.cl_Planned, X.na_Planned_contents⟩
theorem TX.fo_kept {K : PySem.W.Frag} {mg : Str → Option Value} (X : TX K mg) (w : World) : FldOk (X.T w) cs_kept "kept" := by
  intro c hc C h
  simp only [cs_kept, List.mem_cons, List.not_mem_nil, or_false] at hc
  rcases hc with rfl | rfl | rfl
  · cases h
    exact ⟨X.cl_Machine, X.na_Machine_kept⟩
  · cases h
    exact ⟨X.cl_Collected, X.na_Collected_kept⟩
  · cases h
    exact ⟨X.cl_Planned, X.na_Planned_kept⟩
theorem TX.fo_lost {K : PySem.W.Frag} {mg : Str → Option Value} (X : TX K mg) (w : World) : FldOk (X.T w) cs_lost "lost" := by
  intro c hc C h
  simp only [cs_lost, List.mem_cons, List.not_mem_nil, or_false] at hc
  rcases hc with rfl | rfl | rfl
  · cases h
    exact ⟨X.cl_Machine, X.na_Machine_lost⟩
  · cases h
    exact ⟨X.cl_Collected, X.na_Collected_lost⟩
  · cases h
    exact ⟨X.cl_Planned, X.na_Planned_lost⟩
theorem TX.fo_moment {K : PySem.W.Frag} {mg : Str → Option Value} (X : TX K mg) (w : World) : FldOk (X.T w) cs_moment "moment" := by
  intro c hc C h
  simp only [cs_moment, List.mem_cons, List.not_mem_nil, or_false] at hc
  rcases hc with rfl | rfl | rfl
  · cases h
    exact ⟨X.cl_Machine, X.na_Machine_moment⟩
  · cases h
    exact ⟨X.cl_Collected, X.na_Collected_moment⟩
  · cases h
    exact ⟨X.cl_Planned, X.na_Planned_moment⟩
theorem TX.fo_quiet_places {K : PySem.W.Frag} {mg : Str → Option Value} (X : TX K mg) (w : World) : FldOk (X.T w) cs_quiet_places "quiet_places" := by
  intro c hc C h
  simp only [cs_quiet_places, List.mem_cons, List.not_mem_nil, or_false] at hc
  rcases hc with rfl | rfl | rfl
  · cases h
    exact ⟨X.cl_Machine, X.na_Machine_quiet_places⟩
  · cases h
    exact ⟨X.cl_Collected, X.na_Collected_quiet_places⟩
  · cases h
    exact ⟨X.cl_Planned, X.na_Planned_quiet_places⟩
theorem TX.fo_replies {K : PySem.W.Frag} {mg : Str → Option Value} (X : TX K mg) (w : World) : FldOk (X.T w) cs_replies "replies" := by
  intro c hc C h
  simp only [cs_replies, List.mem_cons, List.not_mem_nil, or_false] at hc
  rcases hc with rfl | rfl | rfl
  · cases h
    exact ⟨X.cl_Machine, X.na_Machine_replies⟩
  · cases h
    exact ⟨X.cl_Collected, X.na_Collected_replies⟩
  · cases h
    exact ⟨X.cl_Planned, X.na_Planned_replies⟩
theorem TX.fo_spoken {K : PySem.W.Frag} {mg : Str → Option Value} (X : TX K mg) (w : World) : FldOk (X.T w) cs_spoken "spoken" := by
  intro c hc C h
  simp only [cs_spoken, List.mem_cons, List.not_mem_nil, or_false] at hc
  rcases hc with rfl | rfl | rfl
  · cases h
    exact ⟨X.cl_Machine, X.na_Machine_spoken⟩
  · cases h
    exact ⟨X.cl_Collected, X.na_Collected_spoken⟩
  · cases h
    exact ⟨X.cl_Planned, X.na_Planned_spoken⟩
theorem TX.fo_stands {K : PySem.W.Frag} {mg : Str → Option Value} (X : TX K mg) (w : World) : FldOk (X.T w) cs_stands "stands" := by
  intro c hc C h
  simp only [cs_stands, List.mem_cons, List.not_mem_nil, or_false] at hc
  rcases hc with rfl | rfl | rfl
  · cases h
    exact ⟨X.cl_Machine, X.na_Machine_stands⟩
  · cases h
    exact ⟨X.cl_Collected, X.na_Collected_stands⟩
  · cases h
    exact ⟨X.cl_Planned, X.na_Planned_stands⟩
theorem TX.fo_there {K : PySem.W.Frag} {mg : Str → Option Value} (X : TX K mg) (w : World) : FldOk (X.T w) cs_there "there" := by
  intro c hc C h
  simp only [cs_there, List.mem_cons, List.not_mem_nil, or_false] at hc
  rcases hc with rfl | rfl | rfl
  · cases h
    exact ⟨X.cl_Machine, X.na_Machine_there⟩
  · cases h
    exact ⟨X.cl_Collected, X.na_Collected_there⟩
  · cases h
    exact ⟨X.cl_Planned, X.na_Planned_there⟩
theorem TX.fo_wishes {K : PySem.W.Frag} {mg : Str → Option Value} (X : TX K mg) (w : World) : FldOk (X.T w) cs_wishes "wishes" := by
  intro c hc C h
  simp only [cs_wishes, List.mem_cons, List.not_mem_nil, or_false] at hc
  rcases hc with rfl | rfl | rfl
  · cases h
    exact ⟨X.cl_Machine, X.na_Machine_wishes⟩
  · cases h
    exact ⟨X.cl_Collected, X.na_Collected_wishes⟩
  · cases h
    exact ⟨X.cl_Planned, X.na_Planned_wishes⟩
theorem TX.fo_wishes_at {K : PySem.W.Frag} {mg : Str → Option Value} (X : TX K mg) (w : World) : FldOk (X.T w) cs_wishes_at "wishes_at" := by
  intro c hc C h
  simp only [cs_wishes_at, List.mem_cons, List.not_mem_nil, or_false] at hc
  rcases hc with rfl | rfl | rfl
  · cases h
    exact ⟨X.cl_Machine, X.na_Machine_wishes_at⟩
  · cases h
    exact ⟨X.cl_Collected, X.na_Collected_wishes_at⟩
  · cases h
    exact ⟨X.cl_Planned, X.na_Planned_wishes_at⟩
/-! each def computes its pure function -/
theorem sc_inner_blocks : FnScope ["statement"] ["statement"] (defScope st_inner_blocks) := ⟨rfl, rfl, rfl, by decide +kernel, rfl, by decide +kernel, by decide +kernel⟩
theorem sim_inner_blocks {P : Program} {w : World} {K : PySem.W.Frag} {mg : Str → Option Value} {base : Heap} (X : TX K mg) (hP : X.PO P w) : FnG P w K mg base 1 X.f_inner_blocks X.d_inner_blocks ["statement"] (SpM (X.T w) 1 m_inner_blocks) := by
  refine fn_sim (k := 0) (N := ["statement"]) (T := X.T w) (b := b_inner_blocks) X.F_inner_blocks sc_inner_blocks rfl fun cdv A outer s H E hr hg => ?_
  have tk := L2N.takes_of (X := cxOf (L2N.CX P w) P w K mg base ["statement"] "inner_blocks" (defScope st_inner_blocks) X.f_inner_blocks cdv A outer s H E) (E := E) rfl rfl rfl rfl
  unfold b_inner_blocks
  exact (cs_cons (cs_if (ct_cmp (o_eq hr.units) (ce_ix (o_ix (hu_of hr)) (ce_var 0) ce_int) ce_str) (cs_one (cs_ret (ce_slice o_sl (ce_var 0) (co_some ce_int) co_none))) cs_nil)
  (cs_one (cs_ret (ce_if (ct_cmp (o_eq hr.units) (ce_ix (o_ix (hu_of hr)) (ce_var 0) ce_int) ce_str) (ce_slice o_sl (ce_var 0) (co_some ce_int) co_none) (ce_tup ca_nil)))))
theorem sc_listed : FnScope ["block", "depth", "found", "statement", "inner"] ["block", "depth"] (defScope st_listed) := ⟨rfl, rfl, rfl, by decide +kernel, rfl, by decide +kernel, by decide +kernel⟩
theorem sims0 {P : Program} {w : World} {K : PySem.W.Frag} {mg : Str → Option Value} {base : Heap} (X : TX K mg) (hP : X.PO P w) : ∀ n : Nat, FnG P w K mg base (1 + 1 * n) X.f_listed X.d_listed ["block", "depth"] (SpM (X.T w) 2 (R0 n 0))
  | 0 => fnG_fail
  | n + 1 => by
    have ih_listed := sims0 (P := P) (w := w) (base := base) X hP n
    · refine fn_sim (k := 1 + 1 * n + 0) (N := ["block", "depth", "found", "statement", "inner"]) (T := X.T w) (b := b_listed (R0 n)) X.F_listed sc_listed rfl fun cdv A outer s H E hr hg => ?_
      have tk := L2N.takes_of (X := cxOf (L2N.CX P w) P w K mg base ["block", "depth", "found", "statement", "inner"] "listed" (defScope st_listed) X.f_listed cdv A outer s H E) (E := E) rfl rfl rfl rfl
      unfold b_listed
      exact (cs_cons (cs_set (i := 2) sc_listed.nd rfl (by first | exact Or.inl rfl | exact Or.inr rfl) (ce_lst ca_nil))
  (cs_cons (cs_forX (passes_of rfl) rfl (ci_tup (ce_var 0)) (cg_name (n := 3) sc_listed.nd rfl (by first | exact Or.inl rfl | exact Or.inr rfl))
  (cs_cons (cs_expr (ce_bm (t := .list) PySem.F.plainAttrs_list PySem.F.slot_list_append PySem.F.type_list_append m_append (ce_var 2) (ca_cons (ce_tup (ca_cons (ce_var 1) (ca_cons (ce_var 3) ca_nil))) ca_nil)))
  (cs_one (cs_forX (passes_of rfl) rfl (ci_tup (ce_call (sim_inner_blocks X hP) (hr.mono (by omega)) hg rfl X.g_inner_blocks X.F_inner_blocks.kp X.b_inner_blocks tk (ca_cons (ce_var 3) ca_nil))) (cg_name (n := 4) sc_listed.nd rfl (by first | exact Or.inl rfl | exact Or.inr rfl))
  (cs_one (cs_expr (ce_bm (t := .list) PySem.F.plainAttrs_list PySem.F.slot_list_extend PySem.F.type_list_extend m_extend (ce_var 2) (ca_cons (ce_call ih_listed (hr.mono (by omega)) hg rfl X.g_listed X.F_listed.kp X.b_listed tk (ca_cons (ce_var 4) (ca_cons (ce_op o_add (ce_var 1) ce_int) ca_nil))) ca_nil))))))))
  (cs_one (cs_ret (ce_var 2)))))
theorem sim_listed {P : Program} {w : World} {K : PySem.W.Frag} {mg : Str → Option Value} {base : Heap} (X : TX K mg) (hP : X.PO P w) : FnG P w K mg base 13 X.f_listed X.d_listed ["block", "depth"] (SpM (X.T w) 2 m_listed) := (sims0 (P := P) (w := w) (base := base) X hP 12)
theorem sc_MachineU_initU : FnScope ["self", "program", "inputs"] ["self", "program", "inputs"] (defScope st_MachineU_initU) := ⟨rfl, rfl, rfl, by decide +kernel, rfl, by decide +kernel, by decide +kernel⟩
theorem sim_MachineU_initU {P : Program} {w : World} {K : PySem.W.Frag} {mg : Str → Option Value} {base : Heap} (X : TX K mg) (hP : X.PO P w) : FnG P w K mg base 1 X.f_MachineU_initU X.d_MachineU_initU ["self", "program", "inputs"] (SpM (X.T w) 3 m_MachineU_initU) := by
  refine fn_sim (k := 0) (N := ["self", "program", "inputs"]) (T := X.T w) (b := b_MachineU_initU) X.F_MachineU_initU sc_MachineU_initU rfl fun cdv A outer s H E hr hg => ?_
  have tk := L2N.takes_of (X := cxOf (L2N.CX P w) P w K mg base ["self", "program", "inputs"] "Machine.__init__" (defScope st_MachineU_initU) X.f_MachineU_initU cdv A outer s H E) (E := E) rfl rfl rfl rfl
  unfold b_MachineU_initU
  exact (cs_cons (cs_fld (X.fo_block w) (ce_var 0) (ce_ix (o_ix (hu_of hr)) (ce_var 1) ce_int))
  (cs_cons (cs_fld (X.fo_bits w) (ce_var 0) (ce_var 2))
  (cs_cons (cs_fld (X.fo_at_place w) (ce_var 0) (ce_un o_neg ce_int))
  (cs_cons (cs_fld (X.fo_moment w) (ce_var 0) (ce_un o_neg ce_int))
  (cs_cons (cs_fld (X.fo_stands w) (ce_var 0) ce_dict0)
  (cs_cons (cs_fld (X.fo_kept w) (ce_var 0) ce_dict0)
  (cs_cons (cs_fld (X.fo_contents w) (ce_var 0) (ce_lst ca_nil))
  (cs_cons (cs_fld (X.fo_wishes w) (ce_var 0) (ce_lst ca_nil))
  (cs_cons (cs_fld (X.fo_lost w) (ce_var 0) (ce_lst ca_nil))
  (cs_cons (cs_fld (X.fo_replies w) (ce_var 0) (ce_lst ca_nil))
  (cs_one (cs_fld (X.fo_spoken w) (ce_var 0) (ce_lst ca_nil)))))))))))))
theorem sc_Machine_begin_moment : FnScope ["self"] ["self"] (defScope st_Machine_begin_moment) := ⟨rfl, rfl, rfl, by decide +kernel, rfl, by decide +kernel, by decide +kernel⟩
theorem sim_Machine_begin_moment {P : Program} {w : World} {K : PySem.W.Frag} {mg : Str → Option Value} {base : Heap} (X : TX K mg) (hP : X.PO P w) : FnG P w K mg base 1 X.f_Machine_begin_moment X.d_Machine_begin_moment ["self"] (SpM (X.T w) 1 m_Machine_begin_moment) := by
  refine fn_sim (k := 0) (N := ["self"]) (T := X.T w) (b := b_Machine_begin_moment) X.F_Machine_begin_moment sc_Machine_begin_moment rfl fun cdv A outer s H E hr hg => ?_
  have tk := L2N.takes_of (X := cxOf (L2N.CX P w) P w K mg base ["self"] "Machine.begin_moment" (defScope st_Machine_begin_moment) X.f_Machine_begin_moment cdv A outer s H E) (E := E) rfl rfl rfl rfl
  unfold b_Machine_begin_moment
  exact (cs_one (cs_ret ce_non))
theorem sc_Machine_decide : FnScope ["self", "cell"] ["self", "cell"] (defScope st_Machine_decide) := ⟨rfl, rfl, rfl, by decide +kernel, rfl, by decide +kernel, by decide +kernel⟩
theorem sim_Machine_decide {P : Program} {w : World} {K : PySem.W.Frag} {mg : Str → Option Value} {base : Heap} (X : TX K mg) (hP : X.PO P w) : FnG P w K mg base 1 X.f_Machine_decide X.d_Machine_decide ["self", "cell"] (SpM (X.T w) 2 m_Machine_decide) := by
  refine fn_sim (k := 0) (N := ["self", "cell"]) (T := X.T w) (b := b_Machine_decide) X.F_Machine_decide sc_Machine_decide rfl fun cdv A outer s H E hr hg => ?_
  have tk := L2N.takes_of (X := cxOf (L2N.CX P w) P w K mg base ["self", "cell"] "Machine.decide" (defScope st_Machine_decide) X.f_Machine_decide cdv A outer s H E) (E := E) rfl rfl rfl rfl
  unfold b_Machine_decide
  exact (cs_one (cs_ret (ce_callTy (c_int) rfl X.n_int (by decide +kernel) (ca_cons (ce_ix (o_ix (hu_of hr)) (ce_fld (X.fo_lost w) (ce_var 0)) (ce_var 1)) ca_nil))))
theorem mo_decide {P : Program} {w : World} {K : PySem.W.Frag} {mg : Str → Option Value} {base : Heap} (X : TX K mg) (hP : X.PO P w) : ∀ c mf, tab_decide c = some mf → ∀ C, (X.T w).cl[c]? = some C → ∃ (f : Addr) (fd : FuncData) (ps : List Str), Cls (X.T w).K C ∧ Meth (X.T w).K C "decide" f ∧ FnG P w K mg base 1 f fd ps (SpM (X.T w) (1 + 1) mf) ∧ Binds K fd ps [] := by
  intro c mf h C hC
  unfold tab_decide at h
  split at h
  · cases h
    cases hC
    exact ⟨_, _, _, X.cl_Machine, X.mt_Machine_decide, (sim_Machine_decide X hP).mono (by decide), X.b_Machine_decide⟩
  · cases h
    cases hC
    exact ⟨_, _, _, X.cl_Collected, X.mt_Collected_decide, (sim_Machine_decide X hP).mono (by decide), X.b_Machine_decide⟩
  · cases h
    cases hC
    exact ⟨_, _, _, X.cl_Planned, X.mt_Planned_decide, (sim_Machine_decide X hP).mono (by decide), X.b_Machine_decide⟩
  · cases h
theorem sc_Machine_note : FnScope ["self", "event"] ["self", "event"] (defScope st_Machine_note) := ⟨rfl, rfl, rfl, by decide +kernel, rfl, by decide +kernel, by decide +kernel⟩
theorem sim_Machine_note {P : Program} {w : World} {K : PySem.W.Frag} {mg : Str → Option Value} {base : Heap} (X : TX K mg) (hP : X.PO P w) : FnG P w K mg base 1 X.f_Machine_note X.d_Machine_note ["self", "event"] (SpM (X.T w) 2 m_Machine_note) := by
  refine fn_sim (k := 0) (N := ["self", "event"]) (T := X.T w) (b := b_Machine_note) X.F_Machine_note sc_Machine_note rfl fun cdv A outer s H E hr hg => ?_
  have tk := L2N.takes_of (X := cxOf (L2N.CX P w) P w K mg base ["self", "event"] "Machine.note" (defScope st_Machine_note) X.f_Machine_note cdv A outer s H E) (E := E) rfl rfl rfl rfl
  unfold b_Machine_note
  exact (cs_one (cs_ret ce_non))
theorem mo_note {P : Program} {w : World} {K : PySem.W.Frag} {mg : Str → Option Value} {base : Heap} (X : TX K mg) (hP : X.PO P w) : ∀ c mf, tab_note c = some mf → ∀ C, (X.T w).cl[c]? = some C → ∃ (f : Addr) (fd : FuncData) (ps : List Str), Cls (X.T w).K C ∧ Meth (X.T w).K C "note" f ∧ FnG P w K mg base 1 f fd ps (SpM (X.T w) (1 + 1) mf) ∧ Binds K fd ps [] := by
  intro c mf h C hC
  unfold tab_note at h
  split at h
  · cases h
    cases hC
    exact ⟨_, _, _, X.cl_Machine, X.mt_Machine_note, (sim_Machine_note X hP).mono (by decide), X.b_Machine_note⟩
  · cases h
    cases hC
    exact ⟨_, _, _, X.cl_Collected, X.mt_Collected_note, (sim_Machine_note X hP).mono (by decide), X.b_Machine_note⟩
  · cases h
    cases hC
    exact ⟨_, _, _, X.cl_Planned, X.mt_Planned_note, (sim_Machine_note X hP).mono (by decide), X.b_Machine_note⟩
  · cases h
theorem sc_Machine_end_moment : FnScope ["self"] ["self"] (defScope st_Machine_end_moment) := ⟨rfl, rfl, rfl, by decide +kernel, rfl, by decide +kernel, by decide +kernel⟩
theorem sim_Machine_end_moment {P : Program} {w : World} {K : PySem.W.Frag} {mg : Str → Option Value} {base : Heap} (X : TX K mg) (hP : X.PO P w) : FnG P w K mg base 1 X.f_Machine_end_moment X.d_Machine_end_moment ["self"] (SpM (X.T w) 1 m_Machine_end_moment) := by
  refine fn_sim (k := 0) (N := ["self"]) (T := X.T w) (b := b_Machine_end_moment) X.F_Machine_end_moment sc_Machine_end_moment rfl fun cdv A outer s H E hr hg => ?_
  have tk := L2N.takes_of (X := cxOf (L2N.CX P w) P w K mg base ["self"] "Machine.end_moment" (defScope st_Machine_end_moment) X.f_Machine_end_moment cdv A outer s H E) (E := E) rfl rfl rfl rfl
  unfold b_Machine_end_moment
  exact (cs_one (cs_ret ce_non))
theorem sc_Machine_ask : FnScope ["self", "cell", "answer"] ["self", "cell"] (defScope st_Machine_ask) := ⟨rfl, rfl, rfl, by decide +kernel, rfl, by decide +kernel, by decide +kernel⟩
theorem sim_Machine_ask {P : Program} {w : World} {K : PySem.W.Frag} {mg : Str → Option Value} {base : Heap} (X : TX K mg) (hP : X.PO P w) : FnG P w K mg base 2 X.f_Machine_ask X.d_Machine_ask ["self", "cell"] (SpM (X.T w) 2 m_Machine_ask) := by
  refine fn_sim (k := 1) (N := ["self", "cell", "answer"]) (T := X.T w) (b := b_Machine_ask) X.F_Machine_ask sc_Machine_ask rfl fun cdv A outer s H E hr hg => ?_
  have tk := L2N.takes_of (X := cxOf (L2N.CX P w) P w K mg base ["self", "cell", "answer"] "Machine.ask" (defScope st_Machine_ask) X.f_Machine_ask cdv A outer s H E) (E := E) rfl rfl rfl rfl
  unfold b_Machine_ask
  exact (cs_cons (cs_if (ct_cmp o_ge (ce_callB (c_len) rfl X.n_len (by decide +kernel) (ca_cons (ce_fld (X.fo_replies w) (ce_var 0)) ca_nil)) (ce_of (z := .int 200) (pe_glob rfl X.g_MAX_QUESTIONS ⟨_, rfl⟩) fun _ _ => .int _)) (cs_one (cs_raise rfl X.ox_Stopped rfl hr tk rfl ce_str)) cs_nil)
  (cs_cons (cs_expr (ce_meth (mo_note X hP) (hr.mono (by decide)) hg tk (ce_var 0) (ca_cons (ce_tup (ca_cons ce_str (ca_cons (ce_var 1) ca_nil))) ca_nil)))
  (cs_cons (cs_set (i := 2) sc_Machine_ask.nd rfl (by first | exact Or.inl rfl | exact Or.inr rfl) (ce_meth (mo_decide X hP) (hr.mono (by decide)) hg tk (ce_var 0) (ca_cons (ce_var 1) ca_nil)))
  (cs_cons (cs_expr (ce_bm (t := .list) PySem.F.plainAttrs_list PySem.F.slot_list_append PySem.F.type_list_append m_append (ce_fld (X.fo_replies w) (ce_var 0)) (ca_cons (ce_var 2) ca_nil)))
  (cs_one (cs_ret (ce_var 2)))))))
theorem mo_ask {P : Program} {w : World} {K : PySem.W.Frag} {mg : Str → Option Value} {base : Heap} (X : TX K mg) (hP : X.PO P w) : ∀ c mf, tab_ask c = some mf → ∀ C, (X.T w).cl[c]? = some C → ∃ (f : Addr) (fd : FuncData) (ps : List Str), Cls (X.T w).K C ∧ Meth (X.T w).K C "ask" f ∧ FnG P w K mg base 2 f fd ps (SpM (X.T w) (1 + 1) mf) ∧ Binds K fd ps [] := by
  intro c mf h C hC
  unfold tab_ask at h
  split at h
  · cases h
    cases hC
    exact ⟨_, _, _, X.cl_Machine, X.mt_Machine_ask, (sim_Machine_ask X hP).mono (by decide), X.b_Machine_ask⟩
  · cases h
    cases hC
    exact ⟨_, _, _, X.cl_Collected, X.mt_Collected_ask, (sim_Machine_ask X hP).mono (by decide), X.b_Machine_ask⟩
  · cases h
    cases hC
    exact ⟨_, _, _, X.cl_Planned, X.mt_Planned_ask, (sim_Machine_ask X hP).mono (by decide), X.b_Machine_ask⟩
  · cases h
theorem sc_Machine_cell_of : FnScope ["self", "name", "cell"] ["self", "name"] (defScope st_Machine_cell_of) := ⟨rfl, rfl, rfl, by decide +kernel, rfl, by decide +kernel, by decide +kernel⟩
theorem sim_Machine_cell_of {P : Program} {w : World} {K : PySem.W.Frag} {mg : Str → Option Value} {base : Heap} (X : TX K mg) (hP : X.PO P w) : FnG P w K mg base 1 X.f_Machine_cell_of X.d_Machine_cell_of ["self", "name"] (SpM (X.T w) 2 m_Machine_cell_of) := by
  refine fn_sim (k := 0) (N := ["self", "name", "cell"]) (T := X.T w) (b := b_Machine_cell_of) X.F_Machine_cell_of sc_Machine_cell_of rfl fun cdv A outer s H E hr hg => ?_
  have tk := L2N.takes_of (X := cxOf (L2N.CX P w) P w K mg base ["self", "name", "cell"] "Machine.cell_of" (defScope st_Machine_cell_of) X.f_Machine_cell_of cdv A outer s H E) (E := E) rfl rfl rfl rfl
  unfold b_Machine_cell_of
  exact (cs_cons (cs_set (i := 2) sc_Machine_cell_of.nd rfl (by first | exact Or.inl rfl | exact Or.inr rfl) (ce_dget1 (hu_of hr) (ce_fld (X.fo_stands w) (ce_var 0)) (ce_var 1) ⟨rfl, rfl, rfl, rfl⟩))
  (cs_cons (cs_if (ct_cmp o_isN (ce_var 2) ce_non) (cs_one (cs_raise rfl X.ox_Stopped rfl hr tk rfl ce_str)) cs_nil)
  (cs_one (cs_ret (ce_var 2)))))
theorem mo_cell_of {P : Program} {w : World} {K : PySem.W.Frag} {mg : Str → Option Value} {base : Heap} (X : TX K mg) (hP : X.PO P w) : ∀ c mf, tab_cell_of c = some mf → ∀ C, (X.T w).cl[c]? = some C → ∃ (f : Addr) (fd : FuncData) (ps : List Str), Cls (X.T w).K C ∧ Meth (X.T w).K C "cell_of" f ∧ FnG P w K mg base 1 f fd ps (SpM (X.T w) (1 + 1) mf) ∧ Binds K fd ps [] := by
  intro c mf h C hC
  unfold tab_cell_of at h
  split at h
  · cases h
    cases hC
    exact ⟨_, _, _, X.cl_Machine, X.mt_Machine_cell_of, (sim_Machine_cell_of X hP).mono (by decide), X.b_Machine_cell_of⟩
  · cases h
    cases hC
    exact ⟨_, _, _, X.cl_Collected, X.mt_Collected_cell_of, (sim_Machine_cell_of X hP).mono (by decide), X.b_Machine_cell_of⟩
  · cases h
    cases hC
    exact ⟨_, _, _, X.cl_Planned, X.mt_Planned_cell_of, (sim_Machine_cell_of X hP).mono (by decide), X.b_Machine_cell_of⟩
  · cases h
theorem sc_Machine_stand : FnScope ["self", "name", "cell"] ["self", "name", "cell"] (defScope st_Machine_stand) := ⟨rfl, rfl, rfl, by decide +kernel, rfl, by decide +kernel, by decide +kernel⟩
theorem sim_Machine_stand {P : Program} {w : World} {K : PySem.W.Frag} {mg : Str → Option Value} {base : Heap} (X : TX K mg) (hP : X.PO P w) : FnG P w K mg base 2 X.f_Machine_stand X.d_Machine_stand ["self", "name", "cell"] (SpM (X.T w) 3 m_Machine_stand) := by
  refine fn_sim (k := 1) (N := ["self", "name", "cell"]) (T := X.T w) (b := b_Machine_stand) X.F_Machine_stand sc_Machine_stand rfl fun cdv A outer s H E hr hg => ?_
  have tk := L2N.takes_of (X := cxOf (L2N.CX P w) P w K mg base ["self", "name", "cell"] "Machine.stand" (defScope st_Machine_stand) X.f_Machine_stand cdv A outer s H E) (E := E) rfl rfl rfl rfl
  unfold b_Machine_stand
  exact (cs_cons (cs_asg (ce_var 2) (cg_sub (ce_fld (X.fo_stands w) (ce_var 0)) (ce_var 1) (p_set (hu_of hr)) (pg_sub (ce_fld (X.fo_stands w) (ce_var 0)) (ce_var 1) (p_set (hu_of hr)))))
  (cs_one (cs_expr (ce_meth (mo_note X hP) (hr.mono (by decide)) hg tk (ce_var 0) (ca_cons (ce_tup (ca_cons ce_str (ca_cons (ce_var 1) (ca_cons (ce_var 2) ca_nil)))) ca_nil)))))
theorem mo_stand {P : Program} {w : World} {K : PySem.W.Frag} {mg : Str → Option Value} {base : Heap} (X : TX K mg) (hP : X.PO P w) : ∀ c mf, tab_stand c = some mf → ∀ C, (X.T w).cl[c]? = some C → ∃ (f : Addr) (fd : FuncData) (ps : List Str), Cls (X.T w).K C ∧ Meth (X.T w).K C "stand" f ∧ FnG P w K mg base 2 f fd ps (SpM (X.T w) (2 + 1) mf) ∧ Binds K fd ps [] := by
  intro c mf h C hC
  unfold tab_stand at h
  split at h
  · cases h
    cases hC
    exact ⟨_, _, _, X.cl_Machine, X.mt_Machine_stand, (sim_Machine_stand X hP).mono (by decide), X.b_Machine_stand⟩
  · cases h
    cases hC
    exact ⟨_, _, _, X.cl_Collected, X.mt_Collected_stand, (sim_Machine_stand X hP).mono (by decide), X.b_Machine_stand⟩
  · cases h
    cases hC
    exact ⟨_, _, _, X.cl_Planned, X.mt_Planned_stand, (sim_Machine_stand X hP).mono (by decide), X.b_Machine_stand⟩
  · cases h
theorem sc_Machine_fill : FnScope ["self", "holder", "field", "cell", "is_strong", "before"] ["self", "holder", "field", "cell", "is_strong"] (defScope st_Machine_fill) := ⟨rfl, rfl, rfl, by decide +kernel, rfl, by decide +kernel, by decide +kernel⟩
theorem sim_Machine_fill {P : Program} {w : World} {K : PySem.W.Frag} {mg : Str → Option Value} {base : Heap} (X : TX K mg) (hP : X.PO P w) : FnG P w K mg base 2 X.f_Machine_fill X.d_Machine_fill ["self", "holder", "field", "cell", "is_strong"] (SpM (X.T w) 5 m_Machine_fill) := by
  refine fn_sim (k := 1) (N := ["self", "holder", "field", "cell", "is_strong", "before"]) (T := X.T w) (b := b_Machine_fill) X.F_Machine_fill sc_Machine_fill rfl fun cdv A outer s H E hr hg => ?_
  have tk := L2N.takes_of (X := cxOf (L2N.CX P w) P w K mg base ["self", "holder", "field", "cell", "is_strong", "before"] "Machine.fill" (defScope st_Machine_fill) X.f_Machine_fill cdv A outer s H E) (E := E) rfl rfl rfl rfl
  unfold b_Machine_fill
  exact (cs_cons (cs_set (i := 5) sc_Machine_fill.nd rfl (by first | exact Or.inl rfl | exact Or.inr rfl) (ce_dget1 (hu_of hr) (ce_ix (o_ix (hu_of hr)) (ce_fld (X.fo_contents w) (ce_var 0)) (ce_var 1)) (ce_var 2) ⟨rfl, rfl, rfl, rfl⟩))
  (cs_cons (cs_if (ct_val (ce_var 4)) (cs_one (cs_expr (ce_meth (mo_note X hP) (hr.mono (by decide)) hg tk (ce_var 0) (ca_cons (ce_tup (ca_cons ce_str (ca_cons (ce_var 1) (ca_cons (ce_var 2) (ca_cons (ce_var 3) ca_nil))))) ca_nil)))) (cs_one (cs_if (PW.pt (cw_and (ct_cmp o_notN (ce_var 5) ce_non) (cw_and1 (ct_val (ce_ix (o_ix (hu_of hr)) (ce_var 5) ce_int))))) (cs_one (cs_expr (ce_meth (mo_note X hP) (hr.mono (by decide)) hg tk (ce_var 0) (ca_cons (ce_tup (ca_cons ce_str (ca_cons (ce_var 1) (ca_cons (ce_var 2) (ca_cons ce_non ca_nil))))) ca_nil)))) cs_nil)))
  (cs_one (cs_asg (ce_if (ct_cmp o_isN (ce_var 3) ce_non) ce_non (ce_tup (ca_cons (ce_var 3) (ca_cons (ce_var 4) ca_nil)))) (cg_sub (ce_ix (o_ix (hu_of hr)) (ce_fld (X.fo_contents w) (ce_var 0)) (ce_var 1)) (ce_var 2) (p_set (hu_of hr)) (pg_sub (ce_ix (o_ix (hu_of hr)) (ce_fld (X.fo_contents w) (ce_var 0)) (ce_var 1)) (ce_var 2) (p_set (hu_of hr))))))))
theorem mo_fill {P : Program} {w : World} {K : PySem.W.Frag} {mg : Str → Option Value} {base : Heap} (X : TX K mg) (hP : X.PO P w) : ∀ c mf, tab_fill c = some mf → ∀ C, (X.T w).cl[c]? = some C → ∃ (f : Addr) (fd : FuncData) (ps : List Str), Cls (X.T w).K C ∧ Meth (X.T w).K C "fill" f ∧ FnG P w K mg base 2 f fd ps (SpM (X.T w) (4 + 1) mf) ∧ Binds K fd ps [] := by
  intro c mf h C hC
  unfold tab_fill at h
  split at h
  · cases h
    cases hC
    exact ⟨_, _, _, X.cl_Machine, X.mt_Machine_fill, (sim_Machine_fill X hP).mono (by decide), X.b_Machine_fill⟩
  · cases h
    cases hC
    exact ⟨_, _, _, X.cl_Collected, X.mt_Collected_fill, (sim_Machine_fill X hP).mono (by decide), X.b_Machine_fill⟩
  · cases h
    cases hC
    exact ⟨_, _, _, X.cl_Planned, X.mt_Planned_fill, (sim_Machine_fill X hP).mono (by decide), X.b_Machine_fill⟩
  · cases h
theorem sc_Machine_held_by : FnScope ["self", "holder", "row"] ["self", "holder"] (defScope st_Machine_held_by) := ⟨rfl, rfl, rfl, by decide +kernel, rfl, by decide +kernel, by decide +kernel⟩
theorem sim_Machine_held_by {P : Program} {w : World} {K : PySem.W.Frag} {mg : Str → Option Value} {base : Heap} (X : TX K mg) (hP : X.PO P w) : FnG P w K mg base 1 X.f_Machine_held_by X.d_Machine_held_by ["self", "holder"] (SpM (X.T w) 2 m_Machine_held_by) := by
  refine fn_sim (k := 0) (N := ["self", "holder", "row"]) (T := X.T w) (b := b_Machine_held_by) X.F_Machine_held_by sc_Machine_held_by rfl fun cdv A outer s H E hr hg => ?_
  have tk := L2N.takes_of (X := cxOf (L2N.CX P w) P w K mg base ["self", "holder", "row"] "Machine.held_by" (defScope st_Machine_held_by) X.f_Machine_held_by cdv A outer s H E) (E := E) rfl rfl rfl rfl
  unfold b_Machine_held_by
  exact (cs_one (cs_ret (ce_lock (ce_lc (own := [("row", 2)]) 100000 rfl sc_Machine_held_by.nd (ci_vals (ce_ix (o_ix (hu_of hr)) (ce_fld (X.fo_contents w) (ce_var 0)) (ce_var 1))) (blkOk_by (by kernel_rfl)) (tg_name (List.mem_cons_self ..)) (fun _ _ _ _ _ => pg_name (i := 2) sc_Machine_held_by.nd rfl (by first | exact Or.inl rfl | exact Or.inr rfl)) (fun _ _ _ _ _ => (cts_one (PW.pt (cw_and (ct_cmp o_notN (ce_var 2) ce_non) (cw_and1 (ct_val (ce_ix (o_ix (hu_of hr)) (ce_var 2) ce_int))))))) (fun _ _ _ _ _ => (ce_ix (o_ix (hu_of hr)) (ce_var 2) ce_int))))))
theorem mo_held_by {P : Program} {w : World} {K : PySem.W.Frag} {mg : Str → Option Value} {base : Heap} (X : TX K mg) (hP : X.PO P w) : ∀ c mf, tab_held_by c = some mf → ∀ C, (X.T w).cl[c]? = some C → ∃ (f : Addr) (fd : FuncData) (ps : List Str), Cls (X.T w).K C ∧ Meth (X.T w).K C "held_by" f ∧ FnG P w K mg base 1 f fd ps (SpM (X.T w) (1 + 1) mf) ∧ Binds K fd ps [] := by
  intro c mf h C hC
  unfold tab_held_by at h
  split at h
  · cases h
    cases hC
    exact ⟨_, _, _, X.cl_Machine, X.mt_Machine_held_by, (sim_Machine_held_by X hP).mono (by decide), X.b_Machine_held_by⟩
  · cases h
    cases hC
    exact ⟨_, _, _, X.cl_Collected, X.mt_Collected_held_by, (sim_Machine_held_by X hP).mono (by decide), X.b_Machine_held_by⟩
  · cases h
    cases hC
    exact ⟨_, _, _, X.cl_Planned, X.mt_Planned_held_by, (sim_Machine_held_by X hP).mono (by decide), X.b_Machine_held_by⟩
  · cases h
theorem sc_Machine_reach_from : FnScope ["self", "starts", "found", "waiting", "cell"] ["self", "starts"] (defScope st_Machine_reach_from) := ⟨rfl, rfl, rfl, by decide +kernel, rfl, by decide +kernel, by decide +kernel⟩
theorem sim_Machine_reach_from {P : Program} {w : World} {K : PySem.W.Frag} {mg : Str → Option Value} {base : Heap} (X : TX K mg) (hP : X.PO P w) : FnG P w K mg base 2 X.f_Machine_reach_from X.d_Machine_reach_from ["self", "starts"] (SpM (X.T w) 2 m_Machine_reach_from) := by
  refine fn_sim (k := 1) (N := ["self", "starts", "found", "waiting", "cell"]) (T := X.T w) (b := b_Machine_reach_from) X.F_Machine_reach_from sc_Machine_reach_from rfl fun cdv A outer s H E hr hg => ?_
  have tk := L2N.takes_of (X := cxOf (L2N.CX P w) P w K mg base ["self", "starts", "found", "waiting", "cell"] "Machine.reach_from" (defScope st_Machine_reach_from) X.f_Machine_reach_from cdv A outer s H E) (E := E) rfl rfl rfl rfl
  unfold b_Machine_reach_from
  exact (cs_cons (cs_set (i := 2) sc_Machine_reach_from.nd rfl (by first | exact Or.inl rfl | exact Or.inr rfl) (ce_op o_mul (ce_lst (ca_cons ce_bl ca_nil)) (ce_callB (c_len) rfl X.n_len (by decide +kernel) (ca_cons (ce_fld (X.fo_contents w) (ce_var 0)) ca_nil))))
  (cs_cons (cs_set (i := 3) sc_Machine_reach_from.nd rfl (by first | exact Or.inl rfl | exact Or.inr rfl) (ce_callTy (c_list) rfl X.n_list (by decide +kernel) (ca_cons (ce_var 1) ca_nil)))
  (cs_cons (cs_while 100000 (passes_of rfl) (ct_cmp (o_ne hr.units) (ce_var 3) (ce_lst ca_nil)) (cs_cons (cs_set (i := 4) sc_Machine_reach_from.nd rfl (by first | exact Or.inl rfl | exact Or.inr rfl) (ce_bm0 (t := .list) PySem.F.plainAttrs_list PySem.F.slot_list_pop PySem.F.type_list_pop m_pop (ce_var 3)))
  (cs_one (cs_if (ct_not (ct_val (ce_ix (o_ix (hu_of hr)) (ce_var 2) (ce_var 4)))) (cs_cons (cs_asg ce_bl (cg_sub (ce_var 2) (ce_var 4) (p_set (hu_of hr)) (pg_sub (ce_var 2) (ce_var 4) (p_set (hu_of hr)))))
  (cs_one (cs_expr (ce_bm (t := .list) PySem.F.plainAttrs_list PySem.F.slot_list_extend PySem.F.type_list_extend m_extend (ce_var 3) (ca_cons (ce_meth (mo_held_by X hP) (hr.mono (by decide)) hg tk (ce_var 0) (ca_cons (ce_var 4) ca_nil)) ca_nil))))) cs_nil))))
  (cs_one (cs_ret (ce_var 2))))))
theorem mo_reach_from {P : Program} {w : World} {K : PySem.W.Frag} {mg : Str → Option Value} {base : Heap} (X : TX K mg) (hP : X.PO P w) : ∀ c mf, tab_reach_from c = some mf → ∀ C, (X.T w).cl[c]? = some C → ∃ (f : Addr) (fd : FuncData) (ps : List Str), Cls (X.T w).K C ∧ Meth (X.T w).K C "reach_from" f ∧ FnG P w K mg base 2 f fd ps (SpM (X.T w) (1 + 1) mf) ∧ Binds K fd ps [] := by
  intro c mf h C hC
  unfold tab_reach_from at h
  split at h
  · cases h
    cases hC
    exact ⟨_, _, _, X.cl_Machine, X.mt_Machine_reach_from, (sim_Machine_reach_from X hP).mono (by decide), X.b_Machine_reach_from⟩
  · cases h
    cases hC
    exact ⟨_, _, _, X.cl_Collected, X.mt_Collected_reach_from, (sim_Machine_reach_from X hP).mono (by decide), X.b_Machine_reach_from⟩
  · cases h
    cases hC
    exact ⟨_, _, _, X.cl_Planned, X.mt_Planned_reach_from, (sim_Machine_reach_from X hP).mono (by decide), X.b_Machine_reach_from⟩
  · cases h
theorem sc_Machine_reached : FnScope ["self", "starts", "cell"] ["self"] (defScope st_Machine_reached) := ⟨rfl, rfl, rfl, by decide +kernel, rfl, by decide +kernel, by decide +kernel⟩
theorem sim_Machine_reached {P : Program} {w : World} {K : PySem.W.Frag} {mg : Str → Option Value} {base : Heap} (X : TX K mg) (hP : X.PO P w) : FnG P w K mg base 3 X.f_Machine_reached X.d_Machine_reached ["self"] (SpM (X.T w) 1 m_Machine_reached) := by
  refine fn_sim (k := 2) (N := ["self", "starts", "cell"]) (T := X.T w) (b := b_Machine_reached) X.F_Machine_reached sc_Machine_reached rfl fun cdv A outer s H E hr hg => ?_
  have tk := L2N.takes_of (X := cxOf (L2N.CX P w) P w K mg base ["self", "starts", "cell"] "Machine.reached" (defScope st_Machine_reached) X.f_Machine_reached cdv A outer s H E) (E := E) rfl rfl rfl rfl
  unfold b_Machine_reached
  exact (cs_cons (cs_setLcK (i := 1) (own := [("cell", 2)]) 100000 rfl sc_Machine_reached.nd rfl rfl (sw_true rfl rfl rfl (by kernel_rfl)) (ci_vals (ce_fld (X.fo_stands w) (ce_var 0))) (blkOk_by (by kernel_rfl)) (tg_name (List.mem_cons_self ..)) (fun _ _ _ _ _ => pg_name (i := 2) sc_Machine_reached.nd rfl (by first | exact Or.inl rfl | exact Or.inr rfl)) (fun _ _ _ _ _ => (cts_one (ct_cmp o_notN (ce_var 2) ce_non))) (fun _ _ _ _ _ => (ce_var 2)))
  (cs_one (cs_ret (ce_meth (mo_reach_from X hP) (hr.mono (by decide)) hg tk (ce_var 0) (ca_cons (ce_op o_add (ce_var 1) (ce_callTy (c_list) rfl X.n_list (by decide +kernel) (ca_cons (ce_fld (X.fo_kept w) (ce_var 0)) ca_nil))) ca_nil)))))
theorem mo_reached {P : Program} {w : World} {K : PySem.W.Frag} {mg : Str → Option Value} {base : Heap} (X : TX K mg) (hP : X.PO P w) : ∀ c mf, tab_reached c = some mf → ∀ C, (X.T w).cl[c]? = some C → ∃ (f : Addr) (fd : FuncData) (ps : List Str), Cls (X.T w).K C ∧ Meth (X.T w).K C "reached" f ∧ FnG P w K mg base 3 f fd ps (SpM (X.T w) (0 + 1) mf) ∧ Binds K fd ps [] := by
  intro c mf h C hC
  unfold tab_reached at h
  split at h
  · cases h
    cases hC
    exact ⟨_, _, _, X.cl_Machine, X.mt_Machine_reached, (sim_Machine_reached X hP).mono (by decide), X.b_Machine_reached⟩
  · cases h
    cases hC
    exact ⟨_, _, _, X.cl_Collected, X.mt_Collected_reached, (sim_Machine_reached X hP).mono (by decide), X.b_Machine_reached⟩
  · cases h
    cases hC
    exact ⟨_, _, _, X.cl_Planned, X.mt_Planned_reached, (sim_Machine_reached X hP).mono (by decide), X.b_Machine_reached⟩
  · cases h
theorem sc_Machine_comers : FnScope ["self", "cell", "found", "is_new", "other", "one"] ["self", "cell"] (defScope st_Machine_comers) := ⟨rfl, rfl, rfl, by decide +kernel, rfl, by decide +kernel, by decide +kernel⟩
theorem sim_Machine_comers {P : Program} {w : World} {K : PySem.W.Frag} {mg : Str → Option Value} {base : Heap} (X : TX K mg) (hP : X.PO P w) : FnG P w K mg base 2 X.f_Machine_comers X.d_Machine_comers ["self", "cell"] (SpM (X.T w) 2 m_Machine_comers) := by
  refine fn_sim (k := 1) (N := ["self", "cell", "found", "is_new", "other", "one"]) (T := X.T w) (b := b_Machine_comers) X.F_Machine_comers sc_Machine_comers rfl fun cdv A outer s H E hr hg => ?_
  have tk := L2N.takes_of (X := cxOf (L2N.CX P w) P w K mg base ["self", "cell", "found", "is_new", "other", "one"] "Machine.comers" (defScope st_Machine_comers) X.f_Machine_comers cdv A outer s H E) (E := E) rfl rfl rfl rfl
  unfold b_Machine_comers
  exact (cs_cons (cs_set (i := 2) sc_Machine_comers.nd rfl (by first | exact Or.inl rfl | exact Or.inr rfl) (ce_dict (ps := [((eVar 1), (eC (.bl true)))]) (pps_cons (ce_var 1) ce_bl pps_nil)))
  (cs_cons (cs_set (i := 3) sc_Machine_comers.nd rfl (by first | exact Or.inl rfl | exact Or.inr rfl) ce_bl)
  (cs_cons (cs_while 100000 (passes_of rfl) (ct_val (ce_var 3)) (cs_cons (cs_set (i := 3) sc_Machine_comers.nd rfl (by first | exact Or.inl rfl | exact Or.inr rfl) ce_bl)
  (cs_one (cs_forX (passes_of rfl) rfl (ci_rng1 rfl X.n_range (ca_cons (ce_callB (c_len) rfl X.n_len (by decide +kernel) (ca_cons (ce_fld (X.fo_contents w) (ce_var 0)) ca_nil)) ca_nil)) (cg_name (n := 4) sc_Machine_comers.nd rfl (by first | exact Or.inl rfl | exact Or.inr rfl))
  (cs_one (cs_if (PW.pt (cw_and (ct_cmp (o_notIn (hu_of hr)) (ce_var 4) (ce_var 2)) (cw_and1 (ct_not (ct_val (ce_ix (o_ix (hu_of hr)) (ce_fld (X.fo_lost w) (ce_var 0)) (ce_var 4))))))) (cs_one (cs_if (ct_cmp (o_ne hr.units) (ce_lc (own := [("one", 5)]) 100000 rfl sc_Machine_comers.nd (ci_lst (ce_meth (mo_held_by X hP) (hr.mono (by decide)) hg tk (ce_var 0) (ca_cons (ce_var 4) ca_nil))) (blkOk_by (by kernel_rfl)) (tg_name (List.mem_cons_self ..)) (fun _ _ _ _ _ => pg_name (i := 5) sc_Machine_comers.nd rfl (by first | exact Or.inl rfl | exact Or.inr rfl)) (fun _ _ _ _ _ => (cts_one (ct_cmp (o_in (hu_of hr)) (ce_var 5) (ce_var 2)))) (fun _ _ _ _ _ => (ce_var 5))) (ce_lst ca_nil)) (cs_cons (cs_asg ce_bl (cg_sub (ce_var 2) (ce_var 4) (p_set (hu_of hr)) (pg_sub (ce_var 2) (ce_var 4) (p_set (hu_of hr)))))
  (cs_one (cs_set (i := 3) sc_Machine_comers.nd rfl (by first | exact Or.inl rfl | exact Or.inr rfl) ce_bl))) cs_nil)) cs_nil))))))
  (cs_one (cs_ret (ce_callB (c_sortS) rfl X.n_sorted (by decide +kernel) (ca_cons (ce_callTy (c_list) rfl X.n_list (by decide +kernel) (ca_cons (ce_var 2) ca_nil)) ca_nil)))))))
theorem mo_comers {P : Program} {w : World} {K : PySem.W.Frag} {mg : Str → Option Value} {base : Heap} (X : TX K mg) (hP : X.PO P w) : ∀ c mf, tab_comers c = some mf → ∀ C, (X.T w).cl[c]? = some C → ∃ (f : Addr) (fd : FuncData) (ps : List Str), Cls (X.T w).K C ∧ Meth (X.T w).K C "comers" f ∧ FnG P w K mg base 2 f fd ps (SpM (X.T w) (1 + 1) mf) ∧ Binds K fd ps [] := by
  intro c mf h C hC
  unfold tab_comers at h
  split at h
  · cases h
    cases hC
    exact ⟨_, _, _, X.cl_Machine, X.mt_Machine_comers, (sim_Machine_comers X hP).mono (by decide), X.b_Machine_comers⟩
  · cases h
    cases hC
    exact ⟨_, _, _, X.cl_Collected, X.mt_Collected_comers, (sim_Machine_comers X hP).mono (by decide), X.b_Machine_comers⟩
  · cases h
    cases hC
    exact ⟨_, _, _, X.cl_Planned, X.mt_Planned_comers, (sim_Machine_comers X hP).mono (by decide), X.b_Machine_comers⟩
  · cases h
theorem sc_do_make : FnScope ["machine", "statement", "cell"] ["machine", "statement"] (defScope st_do_make) := ⟨rfl, rfl, rfl, by decide +kernel, rfl, by decide +kernel, by decide +kernel⟩
theorem sim_do_make {P : Program} {w : World} {K : PySem.W.Frag} {mg : Str → Option Value} {base : Heap} (X : TX K mg) (hP : X.PO P w) : FnG P w K mg base 3 X.f_do_make X.d_do_make ["machine", "statement"] (SpM (X.T w) 2 m_do_make) := by
  refine fn_sim (k := 2) (N := ["machine", "statement", "cell"]) (T := X.T w) (b := b_do_make) X.F_do_make sc_do_make rfl fun cdv A outer s H E hr hg => ?_
  have tk := L2N.takes_of (X := cxOf (L2N.CX P w) P w K mg base ["machine", "statement", "cell"] "do_make" (defScope st_do_make) X.f_do_make cdv A outer s H E) (E := E) rfl rfl rfl rfl
  unfold b_do_make
  exact (cs_cons (cs_set (i := 2) sc_do_make.nd rfl (by first | exact Or.inl rfl | exact Or.inr rfl) (ce_callB (c_len) rfl X.n_len (by decide +kernel) (ca_cons (ce_fld (X.fo_contents w) (ce_var 0)) ca_nil)))
  (cs_cons (cs_expr (ce_bm (t := .list) PySem.F.plainAttrs_list PySem.F.slot_list_append PySem.F.type_list_append m_append (ce_fld (X.fo_contents w) (ce_var 0)) (ca_cons ce_dict0 ca_nil)))
  (cs_cons (cs_expr (ce_bm (t := .list) PySem.F.plainAttrs_list PySem.F.slot_list_append PySem.F.type_list_append m_append (ce_fld (X.fo_wishes w) (ce_var 0)) (ca_cons ce_non ca_nil)))
  (cs_cons (cs_expr (ce_bm (t := .list) PySem.F.plainAttrs_list PySem.F.slot_list_append PySem.F.type_list_append m_append (ce_fld (X.fo_lost w) (ce_var 0)) (ca_cons ce_bl ca_nil)))
  (cs_cons (cs_expr (ce_meth (mo_note X hP) (hr.mono (by decide)) hg tk (ce_var 0) (ca_cons (ce_tup (ca_cons ce_str (ca_cons (ce_var 2) ca_nil))) ca_nil)))
  (cs_one (cs_expr (ce_meth (mo_stand X hP) (hr.mono (by decide)) hg tk (ce_var 0) (ca_cons (ce_ix (o_ix (hu_of hr)) (ce_var 1) ce_int) (ca_cons (ce_var 2) ca_nil))))))))))
theorem sc_do_wish : FnScope ["machine", "statement"] ["machine", "statement"] (defScope st_do_wish) := ⟨rfl, rfl, rfl, by decide +kernel, rfl, by decide +kernel, by decide +kernel⟩
theorem sim_do_wish {P : Program} {w : World} {K : PySem.W.Frag} {mg : Str → Option Value} {base : Heap} (X : TX K mg) (hP : X.PO P w) : FnG P w K mg base 2 X.f_do_wish X.d_do_wish ["machine", "statement"] (SpM (X.T w) 2 m_do_wish) := by
  refine fn_sim (k := 1) (N := ["machine", "statement"]) (T := X.T w) (b := b_do_wish) X.F_do_wish sc_do_wish rfl fun cdv A outer s H E hr hg => ?_
  have tk := L2N.takes_of (X := cxOf (L2N.CX P w) P w K mg base ["machine", "statement"] "do_wish" (defScope st_do_wish) X.f_do_wish cdv A outer s H E) (E := E) rfl rfl rfl rfl
  unfold b_do_wish
  exact (cs_one (cs_asg (ce_ix (o_ix (hu_of hr)) (ce_var 1) ce_int) (cg_sub (ce_fld (X.fo_wishes w) (ce_var 0)) (ce_meth (mo_cell_of X hP) (hr.mono (by decide)) hg tk (ce_var 0) (ca_cons (ce_ix (o_ix (hu_of hr)) (ce_var 1) ce_int) ca_nil)) (p_set (hu_of hr)) (pg_sub (ce_fld (X.fo_wishes w) (ce_var 0)) (ce_meth (mo_cell_of X hP) (hr.mono (by decide)) hg tk (ce_var 0) (ca_cons (ce_ix (o_ix (hu_of hr)) (ce_var 1) ce_int) ca_nil)) (p_set (hu_of hr))))))
theorem sc_do_keep : FnScope ["machine", "statement", "cell"] ["machine", "statement"] (defScope st_do_keep) := ⟨rfl, rfl, rfl, by decide +kernel, rfl, by decide +kernel, by decide +kernel⟩
theorem sim_do_keep {P : Program} {w : World} {K : PySem.W.Frag} {mg : Str → Option Value} {base : Heap} (X : TX K mg) (hP : X.PO P w) : FnG P w K mg base 2 X.f_do_keep X.d_do_keep ["machine", "statement"] (SpM (X.T w) 2 m_do_keep) := by
  refine fn_sim (k := 1) (N := ["machine", "statement", "cell"]) (T := X.T w) (b := b_do_keep) X.F_do_keep sc_do_keep rfl fun cdv A outer s H E hr hg => ?_
  have tk := L2N.takes_of (X := cxOf (L2N.CX P w) P w K mg base ["machine", "statement", "cell"] "do_keep" (defScope st_do_keep) X.f_do_keep cdv A outer s H E) (E := E) rfl rfl rfl rfl
  unfold b_do_keep
  exact (cs_cons (cs_set (i := 2) sc_do_keep.nd rfl (by first | exact Or.inl rfl | exact Or.inr rfl) (ce_meth (mo_cell_of X hP) (hr.mono (by decide)) hg tk (ce_var 0) (ca_cons (ce_ix (o_ix (hu_of hr)) (ce_var 1) ce_int) ca_nil)))
  (cs_cons (cs_asg ce_bl (cg_sub (ce_fld (X.fo_kept w) (ce_var 0)) (ce_var 2) (p_set (hu_of hr)) (pg_sub (ce_fld (X.fo_kept w) (ce_var 0)) (ce_var 2) (p_set (hu_of hr)))))
  (cs_one (cs_expr (ce_meth (mo_note X hP) (hr.mono (by decide)) hg tk (ce_var 0) (ca_cons (ce_tup (ca_cons ce_str (ca_cons (ce_var 2) ca_nil))) ca_nil))))))
theorem sc_do_name : FnScope ["machine", "statement"] ["machine", "statement"] (defScope st_do_name) := ⟨rfl, rfl, rfl, by decide +kernel, rfl, by decide +kernel, by decide +kernel⟩
theorem sim_do_name {P : Program} {w : World} {K : PySem.W.Frag} {mg : Str → Option Value} {base : Heap} (X : TX K mg) (hP : X.PO P w) : FnG P w K mg base 3 X.f_do_name X.d_do_name ["machine", "statement"] (SpM (X.T w) 2 m_do_name) := by
  refine fn_sim (k := 2) (N := ["machine", "statement"]) (T := X.T w) (b := b_do_name) X.F_do_name sc_do_name rfl fun cdv A outer s H E hr hg => ?_
  have tk := L2N.takes_of (X := cxOf (L2N.CX P w) P w K mg base ["machine", "statement"] "do_name" (defScope st_do_name) X.f_do_name cdv A outer s H E) (E := E) rfl rfl rfl rfl
  unfold b_do_name
  exact (cs_one (cs_expr (ce_meth (mo_stand X hP) (hr.mono (by decide)) hg tk (ce_var 0) (ca_cons (ce_ix (o_ix (hu_of hr)) (ce_var 1) ce_int) (ca_cons (ce_meth (mo_cell_of X hP) (hr.mono (by decide)) hg tk (ce_var 0) (ca_cons (ce_ix (o_ix (hu_of hr)) (ce_var 1) ce_int) ca_nil)) ca_nil)))))
theorem sc_do_drop : FnScope ["machine", "statement"] ["machine", "statement"] (defScope st_do_drop) := ⟨rfl, rfl, rfl, by decide +kernel, rfl, by decide +kernel, by decide +kernel⟩
theorem sim_do_drop {P : Program} {w : World} {K : PySem.W.Frag} {mg : Str → Option Value} {base : Heap} (X : TX K mg) (hP : X.PO P w) : FnG P w K mg base 3 X.f_do_drop X.d_do_drop ["machine", "statement"] (SpM (X.T w) 2 m_do_drop) := by
  refine fn_sim (k := 2) (N := ["machine", "statement"]) (T := X.T w) (b := b_do_drop) X.F_do_drop sc_do_drop rfl fun cdv A outer s H E hr hg => ?_
  have tk := L2N.takes_of (X := cxOf (L2N.CX P w) P w K mg base ["machine", "statement"] "do_drop" (defScope st_do_drop) X.f_do_drop cdv A outer s H E) (E := E) rfl rfl rfl rfl
  unfold b_do_drop
  exact (cs_one (cs_expr (ce_meth (mo_stand X hP) (hr.mono (by decide)) hg tk (ce_var 0) (ca_cons (ce_ix (o_ix (hu_of hr)) (ce_var 1) ce_int) (ca_cons ce_non ca_nil)))))
theorem sc_do_hold : FnScope ["machine", "statement", "holder", "cell"] ["machine", "statement"] (defScope st_do_hold) := ⟨rfl, rfl, rfl, by decide +kernel, rfl, by decide +kernel, by decide +kernel⟩
theorem sim_do_hold {P : Program} {w : World} {K : PySem.W.Frag} {mg : Str → Option Value} {base : Heap} (X : TX K mg) (hP : X.PO P w) : FnG P w K mg base 3 X.f_do_hold X.d_do_hold ["machine", "statement"] (SpM (X.T w) 2 m_do_hold) := by
  refine fn_sim (k := 2) (N := ["machine", "statement", "holder", "cell"]) (T := X.T w) (b := b_do_hold) X.F_do_hold sc_do_hold rfl fun cdv A outer s H E hr hg => ?_
  have tk := L2N.takes_of (X := cxOf (L2N.CX P w) P w K mg base ["machine", "statement", "holder", "cell"] "do_hold" (defScope st_do_hold) X.f_do_hold cdv A outer s H E) (E := E) rfl rfl rfl rfl
  unfold b_do_hold
  exact (cs_cons (cs_par (i := 2) (j := 3) rfl sc_do_hold.nd rfl rfl (by decide) rfl rfl (ca_cons (ce_meth (mo_cell_of X hP) (hr.mono (by decide)) hg tk (ce_var 0) (ca_cons (ce_ix (o_ix (hu_of hr)) (ce_var 1) ce_int) ca_nil)) (ca_cons (ce_meth (mo_cell_of X hP) (hr.mono (by decide)) hg tk (ce_var 0) (ca_cons (ce_ix (o_ix (hu_of hr)) (ce_var 1) ce_int) ca_nil)) ca_nil)) (by rfl))
  (cs_one (cs_expr (ce_meth (mo_fill X hP) (hr.mono (by decide)) hg tk (ce_var 0) (ca_cons (ce_var 2) (ca_cons (ce_ix (o_ix (hu_of hr)) (ce_var 1) ce_int) (ca_cons (ce_var 3) (ca_cons ce_bl ca_nil))))))))
theorem sc_do_weak : FnScope ["machine", "statement", "holder", "cell"] ["machine", "statement"] (defScope st_do_weak) := ⟨rfl, rfl, rfl, by decide +kernel, rfl, by decide +kernel, by decide +kernel⟩
theorem sim_do_weak {P : Program} {w : World} {K : PySem.W.Frag} {mg : Str → Option Value} {base : Heap} (X : TX K mg) (hP : X.PO P w) : FnG P w K mg base 3 X.f_do_weak X.d_do_weak ["machine", "statement"] (SpM (X.T w) 2 m_do_weak) := by
  refine fn_sim (k := 2) (N := ["machine", "statement", "holder", "cell"]) (T := X.T w) (b := b_do_weak) X.F_do_weak sc_do_weak rfl fun cdv A outer s H E hr hg => ?_
  have tk := L2N.takes_of (X := cxOf (L2N.CX P w) P w K mg base ["machine", "statement", "holder", "cell"] "do_weak" (defScope st_do_weak) X.f_do_weak cdv A outer s H E) (E := E) rfl rfl rfl rfl
  unfold b_do_weak
  exact (cs_cons (cs_par (i := 2) (j := 3) rfl sc_do_weak.nd rfl rfl (by decide) rfl rfl (ca_cons (ce_meth (mo_cell_of X hP) (hr.mono (by decide)) hg tk (ce_var 0) (ca_cons (ce_ix (o_ix (hu_of hr)) (ce_var 1) ce_int) ca_nil)) (ca_cons (ce_meth (mo_cell_of X hP) (hr.mono (by decide)) hg tk (ce_var 0) (ca_cons (ce_ix (o_ix (hu_of hr)) (ce_var 1) ce_int) ca_nil)) ca_nil)) (by rfl))
  (cs_one (cs_expr (ce_meth (mo_fill X hP) (hr.mono (by decide)) hg tk (ce_var 0) (ca_cons (ce_var 2) (ca_cons (ce_ix (o_ix (hu_of hr)) (ce_var 1) ce_int) (ca_cons (ce_var 3) (ca_cons ce_bl ca_nil))))))))
theorem sc_do_cut : FnScope ["machine", "statement"] ["machine", "statement"] (defScope st_do_cut) := ⟨rfl, rfl, rfl, by decide +kernel, rfl, by decide +kernel, by decide +kernel⟩
theorem sim_do_cut {P : Program} {w : World} {K : PySem.W.Frag} {mg : Str → Option Value} {base : Heap} (X : TX K mg) (hP : X.PO P w) : FnG P w K mg base 3 X.f_do_cut X.d_do_cut ["machine", "statement"] (SpM (X.T w) 2 m_do_cut) := by
  refine fn_sim (k := 2) (N := ["machine", "statement"]) (T := X.T w) (b := b_do_cut) X.F_do_cut sc_do_cut rfl fun cdv A outer s H E hr hg => ?_
  have tk := L2N.takes_of (X := cxOf (L2N.CX P w) P w K mg base ["machine", "statement"] "do_cut" (defScope st_do_cut) X.f_do_cut cdv A outer s H E) (E := E) rfl rfl rfl rfl
  unfold b_do_cut
  exact (cs_one (cs_expr (ce_meth (mo_fill X hP) (hr.mono (by decide)) hg tk (ce_var 0) (ca_cons (ce_meth (mo_cell_of X hP) (hr.mono (by decide)) hg tk (ce_var 0) (ca_cons (ce_ix (o_ix (hu_of hr)) (ce_var 1) ce_int) ca_nil)) (ca_cons (ce_ix (o_ix (hu_of hr)) (ce_var 1) ce_int) (ca_cons ce_non (ca_cons ce_bl ca_nil)))))))
theorem sc_do_take : FnScope ["machine", "statement", "row", "cell"] ["machine", "statement"] (defScope st_do_take) := ⟨rfl, rfl, rfl, by decide +kernel, rfl, by decide +kernel, by decide +kernel⟩
theorem sim_do_take {P : Program} {w : World} {K : PySem.W.Frag} {mg : Str → Option Value} {base : Heap} (X : TX K mg) (hP : X.PO P w) : FnG P w K mg base 3 X.f_do_take X.d_do_take ["machine", "statement"] (SpM (X.T w) 2 m_do_take) := by
  refine fn_sim (k := 2) (N := ["machine", "statement", "row", "cell"]) (T := X.T w) (b := b_do_take) X.F_do_take sc_do_take rfl fun cdv A outer s H E hr hg => ?_
  have tk := L2N.takes_of (X := cxOf (L2N.CX P w) P w K mg base ["machine", "statement", "row", "cell"] "do_take" (defScope st_do_take) X.f_do_take cdv A outer s H E) (E := E) rfl rfl rfl rfl
  unfold b_do_take
  exact (cs_cons (cs_set (i := 2) sc_do_take.nd rfl (by first | exact Or.inl rfl | exact Or.inr rfl) (ce_dget1 (hu_of hr) (ce_ix (o_ix (hu_of hr)) (ce_fld (X.fo_contents w) (ce_var 0)) (ce_meth (mo_cell_of X hP) (hr.mono (by decide)) hg tk (ce_var 0) (ca_cons (ce_ix (o_ix (hu_of hr)) (ce_var 1) ce_int) ca_nil))) (ce_ix (o_ix (hu_of hr)) (ce_var 1) ce_int) ⟨rfl, rfl, rfl, rfl⟩))
  (cs_cons (cs_set (i := 3) sc_do_take.nd rfl (by first | exact Or.inl rfl | exact Or.inr rfl) ce_non)
  (cs_cons (cs_if (PW.pt (cw_and (ct_cmp o_notN (ce_var 2) ce_non) (cw_and1 (ct_cmp (o_eq hr.units) (ce_meth (mo_ask X hP) (hr.mono (by decide)) hg tk (ce_var 0) (ca_cons (ce_ix (o_ix (hu_of hr)) (ce_var 2) ce_int) ca_nil)) ce_int)))) (cs_one (cs_set (i := 3) sc_do_take.nd rfl (by first | exact Or.inl rfl | exact Or.inr rfl) (ce_ix (o_ix (hu_of hr)) (ce_var 2) ce_int))) cs_nil)
  (cs_one (cs_expr (ce_meth (mo_stand X hP) (hr.mono (by decide)) hg tk (ce_var 0) (ca_cons (ce_ix (o_ix (hu_of hr)) (ce_var 1) ce_int) (ca_cons (ce_var 3) ca_nil))))))))
theorem sc_do_say : FnScope ["machine", "statement"] ["machine", "statement"] (defScope st_do_say) := ⟨rfl, rfl, rfl, by decide +kernel, rfl, by decide +kernel, by decide +kernel⟩
theorem sim_do_say {P : Program} {w : World} {K : PySem.W.Frag} {mg : Str → Option Value} {base : Heap} (X : TX K mg) (hP : X.PO P w) : FnG P w K mg base 1 X.f_do_say X.d_do_say ["machine", "statement"] (SpM (X.T w) 2 m_do_say) := by
  refine fn_sim (k := 0) (N := ["machine", "statement"]) (T := X.T w) (b := b_do_say) X.F_do_say sc_do_say rfl fun cdv A outer s H E hr hg => ?_
  have tk := L2N.takes_of (X := cxOf (L2N.CX P w) P w K mg base ["machine", "statement"] "do_say" (defScope st_do_say) X.f_do_say cdv A outer s H E) (E := E) rfl rfl rfl rfl
  unfold b_do_say
  exact (cs_one (cs_expr (ce_bm (t := .list) PySem.F.plainAttrs_list PySem.F.slot_list_append PySem.F.type_list_append m_append (ce_fld (X.fo_spoken w) (ce_var 0)) (ca_cons (ce_tup (ca_cons ce_str (ca_cons (ce_ix (o_ix (hu_of hr)) (ce_var 1) ce_int) ca_nil))) ca_nil))))
theorem sc_is_true : FnScope ["machine", "test", "sort", "row", "cell", "word"] ["machine", "test"] (defScope st_is_true) := ⟨rfl, rfl, rfl, by decide +kernel, rfl, by decide +kernel, by decide +kernel⟩
theorem sims1 {P : Program} {w : World} {K : PySem.W.Frag} {mg : Str → Option Value} {base : Heap} (X : TX K mg) (hP : X.PO P w) : ∀ n : Nat, FnG P w K mg base (2 + 1 * n) X.f_is_true X.d_is_true ["machine", "test"] (SpM (X.T w) 2 (R1 n 0))
  | 0 => fnG_fail
  | n + 1 => by
    have ih_is_true := sims1 (P := P) (w := w) (base := base) X hP n
    · refine fn_sim (k := 2 + 1 * n + 0) (N := ["machine", "test", "sort", "row", "cell", "word"]) (T := X.T w) (b := b_is_true (R1 n)) X.F_is_true sc_is_true rfl fun cdv A outer s H E hr hg => ?_
      have tk := L2N.takes_of (X := cxOf (L2N.CX P w) P w K mg base ["machine", "test", "sort", "row", "cell", "word"] "is_true" (defScope st_is_true) X.f_is_true cdv A outer s H E) (E := E) rfl rfl rfl rfl
      unfold b_is_true
      exact (cs_cons (cs_set (i := 2) sc_is_true.nd rfl (by first | exact Or.inl rfl | exact Or.inr rfl) (ce_ix (o_ix (hu_of hr)) (ce_var 1) ce_int))
  (cs_cons (cs_if (ct_cmp (o_eq hr.units) (ce_var 2) ce_str) (cs_one (cs_ret (ce_not (ce_call ih_is_true (hr.mono (by omega)) hg rfl X.g_is_true X.F_is_true.kp X.b_is_true tk (ca_cons (ce_var 0) (ca_cons (ce_ix (o_ix (hu_of hr)) (ce_var 1) ce_int) ca_nil)))))) cs_nil)
  (cs_cons (cs_if (ct_cmp (o_eq hr.units) (ce_var 2) ce_str) (cs_one (cs_ret (ce_cmp (o_eq hr.units) (ce_ix (o_ix (hu_of hr)) (ce_fld (X.fo_bits w) (ce_var 0)) (ce_ix (o_ix (hu_of hr)) (ce_var 1) ce_int)) ce_int))) cs_nil)
  (cs_cons (cs_if (ct_cmp (o_eq hr.units) (ce_var 2) ce_str) (cs_one (cs_ret (ce_cmp o_notN (ce_dget1 (hu_of hr) (ce_fld (X.fo_stands w) (ce_var 0)) (ce_ix (o_ix (hu_of hr)) (ce_var 1) ce_int) ⟨rfl, rfl, rfl, rfl⟩) ce_non))) cs_nil)
  (cs_cons (cs_if (ct_cmp (o_eq hr.units) (ce_var 2) ce_str) (cs_one (cs_ret (ce_cmp (o_eq hr.units) (ce_meth (mo_cell_of X hP) (hr.mono (by omega)) hg tk (ce_var 0) (ca_cons (ce_ix (o_ix (hu_of hr)) (ce_var 1) ce_int) ca_nil)) (ce_meth (mo_cell_of X hP) (hr.mono (by omega)) hg tk (ce_var 0) (ca_cons (ce_ix (o_ix (hu_of hr)) (ce_var 1) ce_int) ca_nil))))) cs_nil)
  (cs_cons (cs_if (ct_cmp (o_eq hr.units) (ce_var 2) ce_str) (cs_cons (cs_set (i := 3) sc_is_true.nd rfl (by first | exact Or.inl rfl | exact Or.inr rfl) (ce_dget1 (hu_of hr) (ce_ix (o_ix (hu_of hr)) (ce_fld (X.fo_contents w) (ce_var 0)) (ce_meth (mo_cell_of X hP) (hr.mono (by omega)) hg tk (ce_var 0) (ca_cons (ce_ix (o_ix (hu_of hr)) (ce_var 1) ce_int) ca_nil))) (ce_ix (o_ix (hu_of hr)) (ce_var 1) ce_int) ⟨rfl, rfl, rfl, rfl⟩))
  (cs_one (cs_ret (ce_and (ce_cmp o_notN (ce_var 3) ce_non) (ce_one (ce_cmp (o_eq hr.units) (ce_meth (mo_ask X hP) (hr.mono (by omega)) hg tk (ce_var 0) (ca_cons (ce_ix (o_ix (hu_of hr)) (ce_var 3) ce_int) ca_nil)) ce_int)))))) cs_nil)
  (cs_cons (cs_for 100000 (passes_of rfl) rfl (ci_enm rfl X.n_enumerate (ca_cons (ce_fld (X.fo_wishes w) (ce_var 0)) ca_nil)) (cg_tup (js := [4, 5]) (pg_tup rfl (pgs_cons (pg_name (i := 4) sc_is_true.nd rfl (by first | exact Or.inl rfl | exact Or.inr rfl)) (pgs_cons (pg_name (i := 5) sc_is_true.nd rfl (by first | exact Or.inl rfl | exact Or.inr rfl)) pgs_nil))))
  (cs_one (cs_if (PW.pt (cw_and (ct_cmp (o_eq hr.units) (ce_var 5) (ce_ix (o_ix (hu_of hr)) (ce_var 1) ce_int)) (cw_and1 (ct_cmp (o_eq hr.units) (ce_meth (mo_ask X hP) (hr.mono (by omega)) hg tk (ce_var 0) (ca_cons (ce_var 4) ca_nil)) ce_int)))) (cs_one (cs_ret ce_bl)) cs_nil)))
  (cs_one (cs_ret ce_bl)))))))))
theorem sim_is_true {P : Program} {w : World} {K : PySem.W.Frag} {mg : Str → Option Value} {base : Heap} (X : TX K mg) (hP : X.PO P w) : FnG P w K mg base 14 X.f_is_true X.d_is_true ["machine", "test"] (SpM (X.T w) 2 m_is_true) := (sims1 (P := P) (w := w) (base := base) X hP 12)
theorem sc_do_ask : FnScope ["machine", "statement"] ["machine", "statement"] (defScope st_do_ask) := ⟨rfl, rfl, rfl, by decide +kernel, rfl, by decide +kernel, by decide +kernel⟩
theorem sim_do_ask {P : Program} {w : World} {K : PySem.W.Frag} {mg : Str → Option Value} {base : Heap} (X : TX K mg) (hP : X.PO P w) : FnG P w K mg base 15 X.f_do_ask X.d_do_ask ["machine", "statement"] (SpM (X.T w) 2 m_do_ask) := by
  refine fn_sim (k := 14) (N := ["machine", "statement"]) (T := X.T w) (b := b_do_ask) X.F_do_ask sc_do_ask rfl fun cdv A outer s H E hr hg => ?_
  have tk := L2N.takes_of (X := cxOf (L2N.CX P w) P w K mg base ["machine", "statement"] "do_ask" (defScope st_do_ask) X.f_do_ask cdv A outer s H E) (E := E) rfl rfl rfl rfl
  unfold b_do_ask
  exact (cs_one (cs_expr (ce_bm (t := .list) PySem.F.plainAttrs_list PySem.F.slot_list_append PySem.F.type_list_append m_append (ce_fld (X.fo_spoken w) (ce_var 0)) (ca_cons (ce_if (ct_val (ce_call (sim_is_true X hP) (hr.mono (by decide)) hg rfl X.g_is_true X.F_is_true.kp X.b_is_true tk (ca_cons (ce_var 0) (ca_cons (ce_ix (o_ix (hu_of hr)) (ce_var 1) ce_int) ca_nil)))) (ce_tup (ca_cons ce_str ca_nil)) (ce_tup (ca_cons ce_str ca_nil))) ca_nil))))
theorem fns_ok {P : Program} {w : World} {K : PySem.W.Frag} {mg : Str → Option Value} {base : Heap} (X : TX K mg) (hP : X.PO P w) : ∀ j mf, tab_fns j = some mf → ∀ f, (X.T w).fns[j]? = some f → ∃ (fd : FuncData) (ps : List Str), PySem.W.keepIn K (.ref f) = true ∧ FnG P w K mg base 15 f fd ps (SpM (X.T w) 2 mf) ∧ Binds K fd ps [] := by
  intro j mf h f hf
  unfold tab_fns at h
  split at h
  · cases h
    cases hf
    exact ⟨_, _, X.F_do_make.kp, (sim_do_make X hP).mono (by decide), X.b_do_make⟩
  · cases h
    cases hf
    exact ⟨_, _, X.F_do_wish.kp, (sim_do_wish X hP).mono (by decide), X.b_do_wish⟩
  · cases h
    cases hf
    exact ⟨_, _, X.F_do_keep.kp, (sim_do_keep X hP).mono (by decide), X.b_do_keep⟩
  · cases h
    cases hf
    exact ⟨_, _, X.F_do_name.kp, (sim_do_name X hP).mono (by decide), X.b_do_name⟩
  · cases h
    cases hf
    exact ⟨_, _, X.F_do_drop.kp, (sim_do_drop X hP).mono (by decide), X.b_do_drop⟩
  · cases h
    cases hf
    exact ⟨_, _, X.F_do_hold.kp, (sim_do_hold X hP).mono (by decide), X.b_do_hold⟩
  · cases h
    cases hf
    exact ⟨_, _, X.F_do_weak.kp, (sim_do_weak X hP).mono (by decide), X.b_do_weak⟩
  · cases h
    cases hf
    exact ⟨_, _, X.F_do_cut.kp, (sim_do_cut X hP).mono (by decide), X.b_do_cut⟩
  · cases h
    cases hf
    exact ⟨_, _, X.F_do_take.kp, (sim_do_take X hP).mono (by decide), X.b_do_take⟩
  · cases h
    cases hf
    exact ⟨_, _, X.F_do_say.kp, (sim_do_say X hP).mono (by decide), X.b_do_say⟩
  · cases h
    cases hf
    exact ⟨_, _, X.F_do_ask.kp, (sim_do_ask X hP).mono (by decide), X.b_do_ask⟩
  · cases h
theorem sc_Collected_wanted : FnScope ["self"] ["self"] (defScope st_Collected_wanted) := ⟨rfl, rfl, rfl, by decide +kernel, rfl, by decide +kernel, by decide +kernel⟩
theorem sim_Collected_wanted {P : Program} {w : World} {K : PySem.W.Frag} {mg : Str → Option Value} {base : Heap} (X : TX K mg) (hP : X.PO P w) : FnG P w K mg base 1 X.f_Collected_wanted X.d_Collected_wanted ["self"] (SpM (X.T w) 1 m_Collected_wanted) := by
  refine fn_sim (k := 0) (N := ["self"]) (T := X.T w) (b := b_Collected_wanted) X.F_Collected_wanted sc_Collected_wanted rfl fun cdv A outer s H E hr hg => ?_
  have tk := L2N.takes_of (X := cxOf (L2N.CX P w) P w K mg base ["self"] "Collected.wanted" (defScope st_Collected_wanted) X.f_Collected_wanted cdv A outer s H E) (E := E) rfl rfl rfl rfl
  unfold b_Collected_wanted
  exact (cs_one (cs_ret (ce_lst ca_nil)))
theorem sc_Planned_wanted : FnScope ["self"] ["self"] (defScope st_Planned_wanted) := ⟨rfl, rfl, rfl, by decide +kernel, rfl, by decide +kernel, by decide +kernel⟩
theorem sim_Planned_wanted {P : Program} {w : World} {K : PySem.W.Frag} {mg : Str → Option Value} {base : Heap} (X : TX K mg) (hP : X.PO P w) : FnG P w K mg base 1 X.f_Planned_wanted X.d_Planned_wanted ["self"] (SpM (X.T w) 1 m_Planned_wanted) := by
  refine fn_sim (k := 0) (N := ["self"]) (T := X.T w) (b := b_Planned_wanted) X.F_Planned_wanted sc_Planned_wanted rfl fun cdv A outer s H E hr hg => ?_
  have tk := L2N.takes_of (X := cxOf (L2N.CX P w) P w K mg base ["self"] "Planned.wanted" (defScope st_Planned_wanted) X.f_Planned_wanted cdv A outer s H E) (E := E) rfl rfl rfl rfl
  unfold b_Planned_wanted
  exact (cs_one (cs_ret (ce_dget2 (hu_of hr) (ce_fld (X.fo_wishes_at w) (ce_var 0)) (ce_fld (X.fo_moment w) (ce_var 0)) (ce_lst ca_nil) ⟨rfl, rfl, rfl, rfl⟩)))
theorem mo_wanted {P : Program} {w : World} {K : PySem.W.Frag} {mg : Str → Option Value} {base : Heap} (X : TX K mg) (hP : X.PO P w) : ∀ c mf, tab_wanted c = some mf → ∀ C, (X.T w).cl[c]? = some C → ∃ (f : Addr) (fd : FuncData) (ps : List Str), Cls (X.T w).K C ∧ Meth (X.T w).K C "wanted" f ∧ FnG P w K mg base 1 f fd ps (SpM (X.T w) (0 + 1) mf) ∧ Binds K fd ps [] := by
  intro c mf h C hC
  unfold tab_wanted at h
  split at h
  · cases h
    cases hC
    exact ⟨_, _, _, X.cl_Collected, X.mt_Collected_wanted, (sim_Collected_wanted X hP).mono (by decide), X.b_Collected_wanted⟩
  · cases h
    cases hC
    exact ⟨_, _, _, X.cl_Planned, X.mt_Planned_wanted, (sim_Planned_wanted X hP).mono (by decide), X.b_Planned_wanted⟩
  · cases h
theorem sc_Collected_begin_moment : FnScope ["self", "cells", "is_reached", "found", "cell", "other"] ["self"] (defScope st_Collected_begin_moment) := ⟨rfl, rfl, rfl, by decide +kernel, rfl, by decide +kernel, by decide +kernel⟩
theorem sim_Collected_begin_moment {P : Program} {w : World} {K : PySem.W.Frag} {mg : Str → Option Value} {base : Heap} (X : TX K mg) (hP : X.PO P w) : FnG P w K mg base 4 X.f_Collected_begin_moment X.d_Collected_begin_moment ["self"] (SpM (X.T w) 1 m_Collected_begin_moment) := by
  refine fn_sim (k := 3) (N := ["self", "cells", "is_reached", "found", "cell", "other"]) (T := X.T w) (b := b_Collected_begin_moment) X.F_Collected_begin_moment sc_Collected_begin_moment rfl fun cdv A outer s H E hr hg => ?_
  have tk := L2N.takes_of (X := cxOf (L2N.CX P w) P w K mg base ["self", "cells", "is_reached", "found", "cell", "other"] "Collected.begin_moment" (defScope st_Collected_begin_moment) X.f_Collected_begin_moment cdv A outer s H E) (E := E) rfl rfl rfl rfl
  unfold b_Collected_begin_moment
  exact (cs_cons (cs_if (ct_cmp (o_in (hu_of hr)) (ce_fld (X.fo_at_place w) (ce_var 0)) (ce_fld (X.fo_quiet_places w) (ce_var 0))) (cs_one cs_retN) cs_nil)
  (cs_cons (cs_set (i := 1) sc_Collected_begin_moment.nd rfl (by first | exact Or.inl rfl | exact Or.inr rfl) (ce_meth0 (mo_wanted X hP) (hr.mono (by decide)) hg tk (ce_var 0)))
  (cs_cons (cs_if (ct_cmp (o_eq hr.units) (ce_var 1) (ce_lst ca_nil)) (cs_one cs_retN) cs_nil)
  (cs_cons (cs_set (i := 2) sc_Collected_begin_moment.nd rfl (by first | exact Or.inl rfl | exact Or.inr rfl) (ce_meth0 (mo_reached X hP) (hr.mono (by decide)) hg tk (ce_var 0)))
  (cs_cons (cs_set (i := 3) sc_Collected_begin_moment.nd rfl (by first | exact Or.inl rfl | exact Or.inr rfl) (ce_lst ca_nil))
  (cs_cons (cs_for 100000 (passes_of rfl) rfl (ci_lst (ce_var 1)) (cg_name (n := 4) sc_Collected_begin_moment.nd rfl (by first | exact Or.inl rfl | exact Or.inr rfl))
  (cs_one (cs_if (PW.pt (cw_and (ct_cmp o_lt (ce_var 4) (ce_callB (c_len) rfl X.n_len (by decide +kernel) (ca_cons (ce_fld (X.fo_lost w) (ce_var 0)) ca_nil))) (cw_and (ct_not (ct_val (ce_ix (o_ix (hu_of hr)) (ce_fld (X.fo_lost w) (ce_var 0)) (ce_var 4)))) (cw_and1 (ct_not (ct_val (ce_ix (o_ix (hu_of hr)) (ce_var 2) (ce_var 4)))))))) (cs_one (cs_expr (ce_bm (t := .list) PySem.F.plainAttrs_list PySem.F.slot_list_extend PySem.F.type_list_extend m_extend (ce_var 3) (ca_cons (ce_lc (own := [("other", 5)]) 100000 rfl sc_Collected_begin_moment.nd (ci_lst (ce_meth (mo_comers X hP) (hr.mono (by decide)) hg tk (ce_var 0) (ca_cons (ce_var 4) ca_nil))) (blkOk_by (by kernel_rfl)) (tg_name (List.mem_cons_self ..)) (fun _ _ _ _ _ => pg_name (i := 5) sc_Collected_begin_moment.nd rfl (by first | exact Or.inl rfl | exact Or.inr rfl)) (fun _ _ _ _ _ => (cts_one (ct_cmp (o_notIn (hu_of hr)) (ce_var 5) (ce_var 3)))) (fun _ _ _ _ _ => (ce_var 5))) ca_nil)))) cs_nil)))
  (cs_one (cs_for 100000 (passes_of rfl) rfl (ci_lst (ce_callB (c_sortS) rfl X.n_sorted (by decide +kernel) (ca_cons (ce_var 3) ca_nil))) (cg_name (n := 4) sc_Collected_begin_moment.nd rfl (by first | exact Or.inl rfl | exact Or.inr rfl))
  (cs_cons (cs_asg ce_bl (cg_sub (ce_fld (X.fo_lost w) (ce_var 0)) (ce_var 4) (p_set (hu_of hr)) (pg_sub (ce_fld (X.fo_lost w) (ce_var 0)) (ce_var 4) (p_set (hu_of hr)))))
  (cs_one (cs_expr (ce_bm (t := .list) PySem.F.plainAttrs_list PySem.F.slot_list_append PySem.F.type_list_append m_append (ce_fld (X.fo_cleared w) (ce_var 0)) (ca_cons (ce_tup (ca_cons (ce_fld (X.fo_moment w) (ce_var 0)) (ca_cons (ce_var 4) ca_nil))) ca_nil)))))))))))))
theorem mo_begin_moment {P : Program} {w : World} {K : PySem.W.Frag} {mg : Str → Option Value} {base : Heap} (X : TX K mg) (hP : X.PO P w) : ∀ c mf, tab_begin_moment c = some mf → ∀ C, (X.T w).cl[c]? = some C → ∃ (f : Addr) (fd : FuncData) (ps : List Str), Cls (X.T w).K C ∧ Meth (X.T w).K C "begin_moment" f ∧ FnG P w K mg base 4 f fd ps (SpM (X.T w) (0 + 1) mf) ∧ Binds K fd ps [] := by
  intro c mf h C hC
  unfold tab_begin_moment at h
  split at h
  · cases h
    cases hC
    exact ⟨_, _, _, X.cl_Machine, X.mt_Machine_begin_moment, (sim_Machine_begin_moment X hP).mono (by decide), X.b_Machine_begin_moment⟩
  · cases h
    cases hC
    exact ⟨_, _, _, X.cl_Collected, X.mt_Collected_begin_moment, (sim_Collected_begin_moment X hP).mono (by decide), X.b_Collected_begin_moment⟩
  · cases h
    cases hC
    exact ⟨_, _, _, X.cl_Planned, X.mt_Planned_begin_moment, (sim_Collected_begin_moment X hP).mono (by decide), X.b_Collected_begin_moment⟩
  · cases h
theorem sc_enter : FnScope ["machine", "place"] ["machine", "place"] (defScope st_enter) := ⟨rfl, rfl, rfl, by decide +kernel, rfl, by decide +kernel, by decide +kernel⟩
theorem sim_enter {P : Program} {w : World} {K : PySem.W.Frag} {mg : Str → Option Value} {base : Heap} (X : TX K mg) (hP : X.PO P w) : FnG P w K mg base 5 X.f_enter X.d_enter ["machine", "place"] (SpM (X.T w) 2 m_enter) := by
  refine fn_sim (k := 4) (N := ["machine", "place"]) (T := X.T w) (b := b_enter) X.F_enter sc_enter rfl fun cdv A outer s H E hr hg => ?_
  have tk := L2N.takes_of (X := cxOf (L2N.CX P w) P w K mg base ["machine", "place"] "enter" (defScope st_enter) X.f_enter cdv A outer s H E) (E := E) rfl rfl rfl rfl
  unfold b_enter
  exact (cs_cons (cs_fld (X.fo_at_place w) (ce_var 0) (ce_var 1))
  (cs_cons (cs_fldA (X.fo_moment w) io_add (ce_var 0) ce_int)
  (cs_one (cs_expr (ce_meth0 (mo_begin_moment X hP) (hr.mono (by decide)) hg tk (ce_var 0))))))
theorem sc_Collected_end_moment : FnScope ["self"] ["self"] (defScope st_Collected_end_moment) := ⟨rfl, rfl, rfl, by decide +kernel, rfl, by decide +kernel, by decide +kernel⟩
theorem sim_Collected_end_moment {P : Program} {w : World} {K : PySem.W.Frag} {mg : Str → Option Value} {base : Heap} (X : TX K mg) (hP : X.PO P w) : FnG P w K mg base 1 X.f_Collected_end_moment X.d_Collected_end_moment ["self"] (SpM (X.T w) 1 m_Collected_end_moment) := by
  refine fn_sim (k := 0) (N := ["self"]) (T := X.T w) (b := b_Collected_end_moment) X.F_Collected_end_moment sc_Collected_end_moment rfl fun cdv A outer s H E hr hg => ?_
  have tk := L2N.takes_of (X := cxOf (L2N.CX P w) P w K mg base ["self"] "Collected.end_moment" (defScope st_Collected_end_moment) X.f_Collected_end_moment cdv A outer s H E) (E := E) rfl rfl rfl rfl
  unfold b_Collected_end_moment
  exact (cs_one (cs_expr (ce_bm (t := .list) PySem.F.plainAttrs_list PySem.F.slot_list_append PySem.F.type_list_append m_append (ce_fld (X.fo_there w) (ce_var 0)) (ca_cons (ce_op o_sub (ce_callB (c_len) rfl X.n_len (by decide +kernel) (ca_cons (ce_fld (X.fo_lost w) (ce_var 0)) ca_nil)) (ce_callB (c_len) rfl X.n_len (by decide +kernel) (ca_cons (ce_fld (X.fo_cleared w) (ce_var 0)) ca_nil))) ca_nil))))
theorem mo_end_moment {P : Program} {w : World} {K : PySem.W.Frag} {mg : Str → Option Value} {base : Heap} (X : TX K mg) (hP : X.PO P w) : ∀ c mf, tab_end_moment c = some mf → ∀ C, (X.T w).cl[c]? = some C → ∃ (f : Addr) (fd : FuncData) (ps : List Str), Cls (X.T w).K C ∧ Meth (X.T w).K C "end_moment" f ∧ FnG P w K mg base 1 f fd ps (SpM (X.T w) (0 + 1) mf) ∧ Binds K fd ps [] := by
  intro c mf h C hC
  unfold tab_end_moment at h
  split at h
  · cases h
    cases hC
    exact ⟨_, _, _, X.cl_Machine, X.mt_Machine_end_moment, (sim_Machine_end_moment X hP).mono (by decide), X.b_Machine_end_moment⟩
  · cases h
    cases hC
    exact ⟨_, _, _, X.cl_Collected, X.mt_Collected_end_moment, (sim_Collected_end_moment X hP).mono (by decide), X.b_Collected_end_moment⟩
  · cases h
    cases hC
    exact ⟨_, _, _, X.cl_Planned, X.mt_Planned_end_moment, (sim_Collected_end_moment X hP).mono (by decide), X.b_Collected_end_moment⟩
  · cases h
theorem simH_Collected_end_moment {P : Program} {w : World} {K : PySem.W.Frag} {mg : Str → Option Value} {base : Heap} (X : TX K mg) : L2H.FnH P w K mg base (L2N.CX P w) 1 X.f_Collected_end_moment X.d_Collected_end_moment ["self"] (SpM (X.T w) 1 m_Collected_end_moment) := by
  refine fn_simH (k := 0) (N := ["self"]) (T := X.T w) (b := b_Collected_end_moment) X.F_Collected_end_moment sc_Collected_end_moment rfl fun cdv A outer s H E p hot hr => ?_
  unfold b_Collected_end_moment
  exact (cs_one (cs_expr (ce_bm (t := .list) PySem.F.plainAttrs_list PySem.F.slot_list_append PySem.F.type_list_append m_append (ce_fld (X.fo_there w) (ce_var 0)) (ca_cons (ce_op o_sub (ce_callB (c_len) rfl X.n_len (by decide +kernel) (ca_cons (ce_fld (X.fo_lost w) (ce_var 0)) ca_nil)) (ce_callB (c_len) rfl X.n_len (by decide +kernel) (ca_cons (ce_fld (X.fo_cleared w) (ce_var 0)) ca_nil))) ca_nil))))
theorem simH_Machine_end_moment {P : Program} {w : World} {K : PySem.W.Frag} {mg : Str → Option Value} {base : Heap} (X : TX K mg) : L2H.FnH P w K mg base (L2N.CX P w) 1 X.f_Machine_end_moment X.d_Machine_end_moment ["self"] (SpM (X.T w) 1 m_Machine_end_moment) := by
  refine fn_simH (k := 0) (N := ["self"]) (T := X.T w) (b := b_Machine_end_moment) X.F_Machine_end_moment sc_Machine_end_moment rfl fun cdv A outer s H E p hot hr => ?_
  unfold b_Machine_end_moment
  exact (cs_one (cs_ret ce_non))
theorem moH_end_moment {P : Program} {w : World} {K : PySem.W.Frag} {mg : Str → Option Value} {base : Heap} (X : TX K mg) : ∀ c mf, tab_end_moment c = some mf → ∀ C, (X.T w).cl[c]? = some C → ∃ (f : Addr) (fd : FuncData) (ps : List Str), Cls (X.T w).K C ∧ Meth (X.T w).K C "end_moment" f ∧ L2H.FnH P w K mg base (L2N.CX P w) 1 f fd ps (SpM (X.T w) (0 + 1) mf) ∧ Binds K fd ps [] := by
  intro c mf h C hC
  unfold tab_end_moment at h
  split at h
  · cases h
    cases hC
    exact ⟨_, _, _, X.cl_Machine, X.mt_Machine_end_moment, FnH_mono (simH_Machine_end_moment X) (by decide), X.b_Machine_end_moment⟩
  · cases h
    cases hC
    exact ⟨_, _, _, X.cl_Collected, X.mt_Collected_end_moment, FnH_mono (simH_Collected_end_moment X) (by decide), X.b_Collected_end_moment⟩
  · cases h
    cases hC
    exact ⟨_, _, _, X.cl_Planned, X.mt_Planned_end_moment, FnH_mono (simH_Collected_end_moment X) (by decide), X.b_Collected_end_moment⟩
  · cases h
theorem sc_execute : FnScope ["machine", "block", "place", "statement", "inner", "chosen", "k", "deed", "part"] ["machine", "block", "place"] (defScope st_execute) := ⟨rfl, rfl, rfl, by decide +kernel, rfl, by decide +kernel, by decide +kernel⟩
theorem sims2 {P : Program} {w : World} {K : PySem.W.Frag} {mg : Str → Option Value} {base : Heap} (X : TX K mg) (hP : X.PO P w) : ∀ n : Nat, FnG P w K mg base (15 + 1 * n) X.f_execute X.d_execute ["machine", "block", "place"] (SpM (X.T w) 3 (R2 n 0))
  | 0 => fnG_fail
  | n + 1 => by
    have ih_execute := sims2 (P := P) (w := w) (base := base) X hP n
    · refine fn_sim (k := 15 + 1 * n + 0) (N := ["machine", "block", "place", "statement", "inner", "chosen", "k", "deed", "part"]) (T := X.T w) (b := b_execute (R2 n)) X.F_execute sc_execute rfl fun cdv A outer s H E hr hg => ?_
      have tk := L2N.takes_of (X := cxOf (L2N.CX P w) P w K mg base ["machine", "block", "place", "statement", "inner", "chosen", "k", "deed", "part"] "execute" (defScope st_execute) X.f_execute cdv A outer s H E) (E := E) rfl rfl rfl rfl
      unfold b_execute
      exact (cs_one (cs_forX (passes_of rfl) rfl (ci_tup (ce_var 1)) (cg_name (n := 3) sc_execute.nd rfl (by first | exact Or.inl rfl | exact Or.inr rfl))
  (cs_cons (cs_expr (ce_call (sim_enter X hP) (hr.mono (by omega)) hg rfl X.g_enter X.F_enter.kp X.b_enter tk (ca_cons (ce_var 0) (ca_cons (ce_var 2) ca_nil))))
  (cs_cons (cs_set (i := 4) sc_execute.nd rfl (by first | exact Or.inl rfl | exact Or.inr rfl) (ce_op o_add (ce_var 2) ce_int))
  (cs_cons (cs_if (ct_cmp (o_eq hr.units) (ce_ix (o_ix (hu_of hr)) (ce_var 3) ce_int) ce_str) (cs_cons (cs_set (i := 5) sc_execute.nd rfl (by first | exact Or.inl rfl | exact Or.inr rfl) (ce_if (ct_val (ce_call (sim_is_true X hP) (hr.mono (by omega)) hg rfl X.g_is_true X.F_is_true.kp X.b_is_true tk (ca_cons (ce_var 0) (ca_cons (ce_ix (o_ix (hu_of hr)) (ce_var 3) ce_int) ca_nil)))) ce_int ce_int))
  (cs_cons (cs_expr (ce_meth0 (mo_end_moment X hP) (hr.mono (by omega)) hg tk (ce_var 0)))
  (cs_cons (cs_if (ct_cmp (o_eq hr.units) (ce_var 5) ce_int) (cs_one (cs_aug (i := 4) sc_execute.nd rfl (by first | exact Or.inl rfl | exact Or.inr rfl) io_add (ce_callB (c_len) rfl X.n_len (by decide +kernel) (ca_cons (ce_call (sim_listed X hP) (hr.mono (by omega)) hg rfl X.g_listed X.F_listed.kp X.b_listed tk (ca_cons (ce_ix (o_ix (hu_of hr)) (ce_var 3) ce_int) (ca_cons ce_int ca_nil))) ca_nil)))) cs_nil)
  (cs_one (cs_expr (ce_call ih_execute (hr.mono (by omega)) hg rfl X.g_execute X.F_execute.kp X.b_execute tk (ca_cons (ce_var 0) (ca_cons (ce_ix (o_ix (hu_of hr)) (ce_var 3) (ce_var 5)) (ca_cons (ce_var 4) ca_nil))))))))) (cs_one (cs_if (ct_cmp (o_eq hr.units) (ce_ix (o_ix (hu_of hr)) (ce_var 3) ce_int) ce_str) (cs_cons (cs_expr (ce_meth0 (mo_end_moment X hP) (hr.mono (by omega)) hg tk (ce_var 0)))
  (cs_one (cs_forX (passes_of rfl) rfl (ci_rng1 rfl X.n_range (ca_cons (ce_ix (o_ix (hu_of hr)) (ce_var 3) ce_int) ca_nil)) (cg_name (n := 6) sc_execute.nd rfl (by first | exact Or.inl rfl | exact Or.inr rfl))
  (cs_one (cs_expr (ce_call ih_execute (hr.mono (by omega)) hg rfl X.g_execute X.F_execute.kp X.b_execute tk (ca_cons (ce_var 0) (ca_cons (ce_ix (o_ix (hu_of hr)) (ce_var 3) ce_int) (ca_cons (ce_var 4) ca_nil))))))))) (cs_cons (cs_set (i := 7) sc_execute.nd rfl (by first | exact Or.inl rfl | exact Or.inr rfl) (ce_kix rfl X.g_DEEDS (X.kd_DEEDS hP) (ce_ix (o_ix (hu_of hr)) (ce_var 3) ce_int)))
  (cs_cons (cs_expr (ce_callF (i := 7) (fns_ok X hP) (hr.mono (by omega)) hg tk rfl (Or.inl rfl) (ca_cons (ce_var 0) (ca_cons (ce_var 3) ca_nil))))
  (cs_one (cs_expr (ce_meth0 (mo_end_moment X hP) (hr.mono (by omega)) hg tk (ce_var 0)))))))))
  (cs_one (cs_aug (i := 2) sc_execute.nd rfl (by first | exact Or.inl rfl | exact Or.inr rfl) io_add (ce_op o_add ce_int (ce_callB (c_sum) rfl X.n_sum (by decide +kernel) (ca_cons (ce_lcX (own := [("part", 8)]) rfl sc_execute.nd (ci_tup (ce_call (sim_inner_blocks X hP) (hr.mono (by omega)) hg rfl X.g_inner_blocks X.F_inner_blocks.kp X.b_inner_blocks tk (ca_cons (ce_var 3) ca_nil))) (blkOk_by (by kernel_rfl)) (tg_name (List.mem_cons_self ..)) (fun _ _ _ _ _ => pg_name (i := 8) sc_execute.nd rfl (by first | exact Or.inl rfl | exact Or.inr rfl)) (fun _ _ _ _ _ => cts_nil) (fun _ _ _ _ _ => (ce_callB (c_len) rfl X.n_len (by decide +kernel) (ca_cons (ce_call (sim_listed X hP) (hr.mono (by omega)) hg rfl X.g_listed X.F_listed.kp X.b_listed takesN (ca_cons (ce_var 8) (ca_cons ce_int ca_nil))) ca_nil)))) ca_nil))))))))))
theorem sim_execute {P : Program} {w : World} {K : PySem.W.Frag} {mg : Str → Option Value} {base : Heap} (X : TX K mg) (hP : X.PO P w) : FnG P w K mg base 27 X.f_execute X.d_execute ["machine", "block", "place"] (SpM (X.T w) 3 m_execute) := (sims2 (P := P) (w := w) (base := base) X hP 12)
theorem sc_finish : FnScope ["machine", "stop"] ["machine"] (defScope st_finish) := ⟨rfl, rfl, rfl, by decide +kernel, rfl, by decide +kernel, by decide +kernel⟩
theorem sim_finish {P : Program} {w : World} {K : PySem.W.Frag} {mg : Str → Option Value} {base : Heap} (X : TX K mg) (hP : X.PO P w) : FnG P w K mg base 28 X.f_finish X.d_finish ["machine"] (SpM (X.T w) 1 m_finish) := by
  refine fn_sim (k := 27) (N := ["machine", "stop"]) (T := X.T w) (b := b_finish) X.F_finish sc_finish rfl fun cdv A outer s H E hr hg => ?_
  have tk := L2N.takes_of (X := cxOf (L2N.CX P w) P w K mg base ["machine", "stop"] "finish" (defScope st_finish) X.f_finish cdv A outer s H E) (E := E) rfl rfl rfl rfl
  unfold b_finish
  exact (cs_cons (cs_tryAs (T := X.T w) sc_finish.nd rfl rfl ⟨rfl, by decide, Or.inl X.gc_Stopped⟩ tk (X.hit1_Stopped w) (X.hit0_Stopped w) (fun W pn xe tk hp => (cs_one (cs_expr (ce_call (sim_execute X hP) (hr.mono (by decide)) hg rfl X.g_execute X.F_execute.kp X.b_execute tk (ca_cons (ce_var 0) (ca_cons (ce_fld (X.fo_block w) (ce_var 0)) (ca_cons ce_int ca_nil))))))) (fun a oe e C d fs pn hfs hC hh hz hf => (cs_cons (cs_expr (ce_methH0 (moH_end_moment X) (L2H.roomH_mark (hr.mono (by decide)) _) (hot_suite hz hf) takesN (ce_var 0)))
  (cs_one (cs_ret (ce_tup (ca_cons (ce_xf hfs hz.zc hf (X.xf_Stopped_why w _ _ hh hC).1 (X.xf_Stopped_why w _ _ hh hC).2 rfl (Or.inl rfl)) (ca_cons (ce_fld (X.fo_at_place w) (ce_var 0)) ca_nil))))))))
  (cs_one (cs_ret ce_non)))
theorem scS_CollectedU_initU : FnScopeS ["self", "program", "inputs", "paused"] ["self", "program", "inputs", "paused"] (defScope st_CollectedU_initU) := ⟨rfl, rfl, rfl, by decide +kernel, rfl, by decide +kernel, by decide +kernel, by decide +kernel, rfl, rfl⟩
theorem so_Collected {P : Program} {w : World} {K : PySem.W.Frag} {mg : Str → Option Value} {base : Heap} (X : TX K mg) (hP : X.PO P w) : SupOk P w K mg base (X.T w) X.C_Collected 1 2 sup_Collected := by
  intro c mf h C hC
  unfold sup_Collected at h
  split at h
  · cases h
    cases hC
    exact ⟨_, _, _, X.sm_Collected_Collected, X.ss_Collected_Collected, X.st_Collected, X.sf_Collected, sim_MachineU_initU X hP, X.b_MachineU_initU⟩
  · cases h
    cases hC
    exact ⟨_, _, _, X.sm_Planned_Collected, X.ss_Planned_Collected, X.st_Collected, X.sf_Collected, sim_MachineU_initU X hP, X.b_MachineU_initU⟩
  · cases h
theorem sim_CollectedU_initU {P : Program} {w : World} {K : PySem.W.Frag} {mg : Str → Option Value} {base : Heap} (X : TX K mg) (hP : X.PO P w) : FnG P w K mg base 2 X.f_CollectedU_initU X.d_CollectedU_initU ["self", "program", "inputs", "paused"] (SpM (X.T w) 4 m_CollectedU_initU) := by
  refine fn_simS (k := 1) (n := 2) (nn := 4) (N := ["self", "program", "inputs", "paused"]) (T := X.T w) (tab := sup_Collected) (ar := (((defArgs st_CollectedU_initU).posonlyargs ++ (defArgs st_CollectedU_initU).args).head?.getD ⟨"", none, ⟨0, 0, 0, 0⟩⟩)) X.S_CollectedU_initU scS_CollectedU_initU rfl rfl (by decide) rfl hP.file hP.sup rfl (fun c mf h C hC => by obtain ⟨f, fd, ps, k1, k2, k3, k4, k5, k6⟩ := so_Collected X hP c mf h C hC; exact ⟨f, fd, ps, k1, k2, k3, k4, k5.mono (by decide), k6⟩) (fun A outer s H E hr hg => ?_) (fun A outer s H E hr hg => ?_)
  · have tk := L2N.takes_of (X := cxS (L2N.CX P w) P w K mg base ["self", "program", "inputs", "paused"] "Collected.__init__" (defScope st_CollectedU_initU) X.f_CollectedU_initU (.ref X.cda_CollectedU_initU) X.cc_CollectedU_initU A outer s H E) (E := E) rfl rfl rfl rfl
    exact (ca_cons (ce_var 1) (ca_cons (ce_var 2) ca_nil))
  · have tk := L2N.takes_of (X := cxS (L2N.CX P w) P w K mg base ["self", "program", "inputs", "paused"] "Collected.__init__" (defScope st_CollectedU_initU) X.f_CollectedU_initU (.ref X.cda_CollectedU_initU) X.cc_CollectedU_initU A outer s H E) (E := E) rfl rfl rfl rfl
    exact (cs_cons (cs_fld (X.fo_quiet_places w) (ce_var 0) (ce_var 3))
  (cs_cons (cs_fld (X.fo_cleared w) (ce_var 0) (ce_lst ca_nil))
  (cs_one (cs_fld (X.fo_there w) (ce_var 0) (ce_lst ca_nil)))))
theorem scS_PlannedU_initU : FnScopeS ["self", "program", "inputs", "plan", "paused", "moment", "cell"] ["self", "program", "inputs", "plan", "paused"] (defScope st_PlannedU_initU) := ⟨rfl, rfl, rfl, by decide +kernel, rfl, by decide +kernel, by decide +kernel, by decide +kernel, rfl, rfl⟩
theorem so_Planned {P : Program} {w : World} {K : PySem.W.Frag} {mg : Str → Option Value} {base : Heap} (X : TX K mg) (hP : X.PO P w) : SupOk P w K mg base (X.T w) X.C_Planned 2 3 sup_Planned := by
  intro c mf h C hC
  unfold sup_Planned at h
  split at h
  · cases h
    cases hC
    exact ⟨_, _, _, X.sm_Planned_Planned, X.ss_Planned_Planned, X.st_Planned, X.sf_Planned, sim_CollectedU_initU X hP, X.b_CollectedU_initU⟩
  · cases h
theorem sim_PlannedU_initU {P : Program} {w : World} {K : PySem.W.Frag} {mg : Str → Option Value} {base : Heap} (X : TX K mg) (hP : X.PO P w) : FnG P w K mg base 3 X.f_PlannedU_initU X.d_PlannedU_initU ["self", "program", "inputs", "plan", "paused"] (SpM (X.T w) 5 m_PlannedU_initU) := by
  refine fn_simS (k := 2) (n := 3) (nn := 5) (N := ["self", "program", "inputs", "plan", "paused", "moment", "cell"]) (T := X.T w) (tab := sup_Planned) (ar := (((defArgs st_PlannedU_initU).posonlyargs ++ (defArgs st_PlannedU_initU).args).head?.getD ⟨"", none, ⟨0, 0, 0, 0⟩⟩)) X.S_PlannedU_initU scS_PlannedU_initU rfl rfl (by decide) rfl hP.file hP.sup rfl (fun c mf h C hC => by obtain ⟨f, fd, ps, k1, k2, k3, k4, k5, k6⟩ := so_Planned X hP c mf h C hC; exact ⟨f, fd, ps, k1, k2, k3, k4, k5.mono (by decide), k6⟩) (fun A outer s H E hr hg => ?_) (fun A outer s H E hr hg => ?_)
  · have tk := L2N.takes_of (X := cxS (L2N.CX P w) P w K mg base ["self", "program", "inputs", "plan", "paused", "moment", "cell"] "Planned.__init__" (defScope st_PlannedU_initU) X.f_PlannedU_initU (.ref X.cda_PlannedU_initU) X.cc_PlannedU_initU A outer s H E) (E := E) rfl rfl rfl rfl
    exact (ca_cons (ce_var 1) (ca_cons (ce_var 2) (ca_cons (ce_var 4) ca_nil)))
  · have tk := L2N.takes_of (X := cxS (L2N.CX P w) P w K mg base ["self", "program", "inputs", "plan", "paused", "moment", "cell"] "Planned.__init__" (defScope st_PlannedU_initU) X.f_PlannedU_initU (.ref X.cda_PlannedU_initU) X.cc_PlannedU_initU A outer s H E) (E := E) rfl rfl rfl rfl
    exact (cs_cons (cs_fld (X.fo_wishes_at w) (ce_var 0) ce_dict0)
  (cs_one (cs_forX (passes_of rfl) rfl (ci_tup (ce_var 3)) (cg_tup (js := [5, 6]) (pg_tup rfl (pgs_cons (pg_name (i := 5) scS_PlannedU_initU.nd rfl (by first | exact Or.inl rfl | exact Or.inr rfl)) (pgs_cons (pg_name (i := 6) scS_PlannedU_initU.nd rfl (by first | exact Or.inl rfl | exact Or.inr rfl)) pgs_nil))))
  (cs_one (cs_expr (ce_bm (t := .list) PySem.F.plainAttrs_list PySem.F.slot_list_append PySem.F.type_list_append m_append (ce_dsetd (ce_fld (X.fo_wishes_at w) (ce_var 0)) (ce_var 5) (ce_lst ca_nil) ⟨rfl, rfl, rfl, rfl⟩) (ca_cons (ce_var 6) ca_nil)))))))
theorem sc_result_of : FnScope ["machine", "end"] ["machine"] (defScope st_result_of) := ⟨rfl, rfl, rfl, by decide +kernel, rfl, by decide +kernel, by decide +kernel⟩
theorem sim_result_of {P : Program} {w : World} {K : PySem.W.Frag} {mg : Str → Option Value} {base : Heap} (X : TX K mg) (hP : X.PO P w) : FnG P w K mg base 29 X.f_result_of X.d_result_of ["machine"] (SpM (X.T w) 1 m_result_of) := by
  refine fn_sim (k := 28) (N := ["machine", "end"]) (T := X.T w) (b := b_result_of) X.F_result_of sc_result_of rfl fun cdv A outer s H E hr hg => ?_
  have tk := L2N.takes_of (X := cxOf (L2N.CX P w) P w K mg base ["machine", "end"] "result_of" (defScope st_result_of) X.f_result_of cdv A outer s H E) (E := E) rfl rfl rfl rfl
  unfold b_result_of
  exact (cs_cons (cs_set (i := 1) sc_result_of.nd rfl (by first | exact Or.inl rfl | exact Or.inr rfl) (ce_call (sim_finish X hP) (hr.mono (by decide)) hg rfl X.g_finish X.F_finish.kp X.b_finish tk (ca_cons (ce_var 0) ca_nil)))
  (cs_one (cs_ret (ce_tup (ca_cons (ce_callTy (c_tuple) rfl X.n_tuple (by decide +kernel) (ca_cons (ce_fld (X.fo_spoken w) (ce_var 0)) ca_nil)) (ca_cons (ce_var 1) (ca_cons (ce_callTy (c_tuple) rfl X.n_tuple (by decide +kernel) (ca_cons (ce_fld (X.fo_replies w) (ce_var 0)) ca_nil)) (ca_cons (ce_callTy (c_tuple) rfl X.n_tuple (by decide +kernel) (ca_cons (ce_fld (X.fo_cleared w) (ce_var 0)) ca_nil)) ca_nil))))))))
theorem sc_run : FnScope ["program", "inputs", "plan", "paused"] ["program", "inputs", "plan", "paused"] (defScope st_run) := ⟨rfl, rfl, rfl, by decide +kernel, rfl, by decide +kernel, by decide +kernel⟩
theorem sim_run {P : Program} {w : World} {K : PySem.W.Frag} {mg : Str → Option Value} {base : Heap} (X : TX K mg) (hP : X.PO P w) : FnG P w K mg base 30 X.f_run X.d_run ["program", "inputs", "plan", "paused"] (SpM (X.T w) 4 m_run) := by
  refine fn_simD (k := 29) (N := ["program", "inputs", "plan", "paused"]) (T := X.T w) (b := b_run) X.F_run sc_run rfl fun cdv A outer s H E hr hg => ?_
  have tk := L2N.takes_of (X := cxOf (L2N.CX P w) P w K mg base ["program", "inputs", "plan", "paused"] "run" (defScope st_run) X.f_run cdv A outer s H E) (E := E) rfl rfl rfl rfl
  unfold b_run
  exact (cs_one (cs_ret (ce_call (sim_result_of X hP) (hr.mono (by decide)) hg rfl X.g_result_of X.F_result_of.kp X.b_result_of tk (ca_cons (ce_make X.mk_Planned (sim_PlannedU_initU X hP) (hr.mono (by decide)) hg rfl X.gc_Planned X.b_PlannedU_initU tk rfl (ca_cons (ce_var 0) (ca_cons (ce_var 1) (ca_cons (ce_var 2) (ca_cons (ce_var 3) ca_nil))))) ca_nil))))
theorem sc__law_deck : FnScope ["_law_script", "_law_cell"] ["_law_script"] (defScope st__law_deck) := ⟨rfl, rfl, rfl, by decide +kernel, rfl, by decide +kernel, by decide +kernel⟩
theorem sim__law_deck {P : Program} {w : World} {K : PySem.W.Frag} {mg : Str → Option Value} {base : Heap} (X : TX K mg) (hP : X.PO P w) : FnG P w K mg base 1 X.f__law_deck X.d__law_deck ["_law_script"] (SpM (X.T w) 1 m__law_deck) := by
  refine fn_sim (k := 0) (N := ["_law_script", "_law_cell"]) (T := X.T w) (b := b__law_deck) X.F__law_deck sc__law_deck rfl fun cdv A outer s H E hr hg => ?_
  have tk := L2N.takes_of (X := cxOf (L2N.CX P w) P w K mg base ["_law_script", "_law_cell"] "_law_deck" (defScope st__law_deck) X.f__law_deck cdv A outer s H E) (E := E) rfl rfl rfl rfl
  unfold b__law_deck
  exact (cs_one (cs_ret (ce_lst (ca_cons (ce_lc (own := [("_law_cell", 1)]) 100000 rfl sc__law_deck.nd (ci_lst (ce_slice o_sl (ce_var 0) co_none (co_some ce_int))) (blkOk_by (by kernel_rfl)) (tg_name (List.mem_cons_self ..)) (fun _ _ _ _ _ => pg_name (i := 1) sc__law_deck.nd rfl (by first | exact Or.inl rfl | exact Or.inr rfl)) (fun _ _ _ _ _ => cts_nil) (fun _ _ _ _ _ => (ce_callB (c_abs) rfl X.n_abs (by decide +kernel) (ca_cons (ce_var 1) ca_nil)))) (ca_cons ce_int ca_nil)))))
theorem sc__law_draw : FnScope ["_law_deck_here", "_law_many", "_law_mixed", "_law_cell", "_law_at"] ["_law_deck_here", "_law_many"] (defScope st__law_draw) := ⟨rfl, rfl, rfl, by decide +kernel, rfl, by decide +kernel, by decide +kernel⟩
theorem sim__law_draw {P : Program} {w : World} {K : PySem.W.Frag} {mg : Str → Option Value} {base : Heap} (X : TX K mg) (hP : X.PO P w) : FnG P w K mg base 1 X.f__law_draw X.d__law_draw ["_law_deck_here", "_law_many"] (SpM (X.T w) 2 m__law_draw) := by
  refine fn_sim (k := 0) (N := ["_law_deck_here", "_law_many", "_law_mixed", "_law_cell", "_law_at"]) (T := X.T w) (b := b__law_draw) X.F__law_draw sc__law_draw rfl fun cdv A outer s H E hr hg => ?_
  have tk := L2N.takes_of (X := cxOf (L2N.CX P w) P w K mg base ["_law_deck_here", "_law_many", "_law_mixed", "_law_cell", "_law_at"] "_law_draw" (defScope st__law_draw) X.f__law_draw cdv A outer s H E) (E := E) rfl rfl rfl rfl
  unfold b__law_draw
  exact (cs_cons (cs_asg (ce_op o_add (ce_ix (o_ix (hu_of hr)) (ce_var 0) ce_int) ce_int) (cg_sub (ce_var 0) ce_int (p_set (hu_of hr)) (pg_sub (ce_var 0) ce_int (p_set (hu_of hr)))))
  (cs_cons (cs_asg (ce_tup (ca_cons ce_int (ca_cons (ce_un o_neg ce_int) ca_nil))) (cg_tup (js := [3, 4]) (pg_tup rfl (pgs_cons (pg_name (i := 3) sc__law_draw.nd rfl (by first | exact Or.inl rfl | exact Or.inr rfl)) (pgs_cons (pg_name (i := 4) sc__law_draw.nd rfl (by first | exact Or.inl rfl | exact Or.inr rfl)) pgs_nil)))))
  (cs_cons (cs_if (ct_cmp o_gt (ce_callB (c_len) rfl X.n_len (by decide +kernel) (ca_cons (ce_ix (o_ix (hu_of hr)) (ce_var 0) ce_int) ca_nil)) ce_int) (cs_cons (cs_set (i := 4) sc__law_draw.nd rfl (by first | exact Or.inl rfl | exact Or.inr rfl) (ce_op o_mod (ce_callTy (c_int) rfl X.n_int (by decide +kernel) (ca_cons (ce_ix (o_ix (hu_of hr)) (ce_var 0) ce_int) ca_nil)) (ce_callB (c_len) rfl X.n_len (by decide +kernel) (ca_cons (ce_ix (o_ix (hu_of hr)) (ce_var 0) ce_int) ca_nil))))
  (cs_one (cs_set (i := 3) sc__law_draw.nd rfl (by first | exact Or.inl rfl | exact Or.inr rfl) (ce_ix (o_ix (hu_of hr)) (ce_ix (o_ix (hu_of hr)) (ce_var 0) ce_int) (ce_var 4))))) cs_nil)
  (cs_cons (cs_if (ct_cmp o_ge (ce_var 3) (ce_op o_pow ce_int ce_int)) (cs_cons (cs_asg (ce_op o_fdiv (ce_callTy (c_int) rfl X.n_int (by decide +kernel) (ca_cons (ce_var 3) ca_nil)) (ce_var 1)) (cg_sub (ce_ix (o_ix (hu_of hr)) (ce_var 0) ce_int) (ce_var 4) (p_set (hu_of hr)) (pg_sub (ce_ix (o_ix (hu_of hr)) (ce_var 0) ce_int) (ce_var 4) (p_set (hu_of hr)))))
  (cs_one (cs_ret (ce_op o_mod (ce_callTy (c_int) rfl X.n_int (by decide +kernel) (ca_cons (ce_var 3) ca_nil)) (ce_var 1))))) cs_nil)
  (cs_cons (cs_set (i := 2) sc__law_draw.nd rfl (by first | exact Or.inl rfl | exact Or.inr rfl) (ce_op o_add (ce_op o_add (ce_op o_mod (ce_callTy (c_int) rfl X.n_int (by decide +kernel) (ca_cons (ce_var 3) ca_nil)) ce_int) (ce_op o_mul ce_int (ce_ix (o_ix (hu_of hr)) (ce_var 0) ce_int))) ce_int))
  (cs_one (cs_ret (ce_op o_mod (ce_callTy (c_int) rfl X.n_int (by decide +kernel) (ca_cons (ce_op o_mod (ce_callTy (c_int) rfl X.n_int (by decide +kernel) (ca_cons (ce_op o_pow (ce_var 2) ce_int) ca_nil)) ce_int) ca_nil)) (ce_var 1)))))))))
theorem sc__law_one : FnScope ["_law_deck_here", "_law_items"] ["_law_deck_here", "_law_items"] (defScope st__law_one) := ⟨rfl, rfl, rfl, by decide +kernel, rfl, by decide +kernel, by decide +kernel⟩
theorem sim__law_one {P : Program} {w : World} {K : PySem.W.Frag} {mg : Str → Option Value} {base : Heap} (X : TX K mg) (hP : X.PO P w) : FnG P w K mg base 2 X.f__law_one X.d__law_one ["_law_deck_here", "_law_items"] (SpM (X.T w) 2 m__law_one) := by
  refine fn_sim (k := 1) (N := ["_law_deck_here", "_law_items"]) (T := X.T w) (b := b__law_one) X.F__law_one sc__law_one rfl fun cdv A outer s H E hr hg => ?_
  have tk := L2N.takes_of (X := cxOf (L2N.CX P w) P w K mg base ["_law_deck_here", "_law_items"] "_law_one" (defScope st__law_one) X.f__law_one cdv A outer s H E) (E := E) rfl rfl rfl rfl
  unfold b__law_one
  exact (cs_one (cs_ret (ce_ix (o_ix (hu_of hr)) (ce_var 1) (ce_call (sim__law_draw X hP) (hr.mono (by decide)) hg rfl X.g__law_draw X.F__law_draw.kp X.b__law_draw tk (ca_cons (ce_var 0) (ca_cons (ce_callB (c_len) rfl X.n_len (by decide +kernel) (ca_cons (ce_var 1) ca_nil)) ca_nil))))))
theorem sc__law_names : FnScope ["_law_deck_here", "_law_count", "_law_letters", "_law_left", "_law_right", "_law_k"] ["_law_deck_here", "_law_count"] (defScope st__law_names) := ⟨rfl, rfl, rfl, by decide +kernel, rfl, by decide +kernel, by decide +kernel⟩
theorem sim__law_names {P : Program} {w : World} {K : PySem.W.Frag} {mg : Str → Option Value} {base : Heap} (X : TX K mg) (hP : X.PO P w) : FnG P w K mg base 3 X.f__law_names X.d__law_names ["_law_deck_here", "_law_count"] (SpM (X.T w) 2 m__law_names) := by
  refine fn_sim (k := 2) (N := ["_law_deck_here", "_law_count", "_law_letters", "_law_left", "_law_right", "_law_k"]) (T := X.T w) (b := b__law_names) X.F__law_names sc__law_names rfl fun cdv A outer s H E hr hg => ?_
  have tk := L2N.takes_of (X := cxOf (L2N.CX P w) P w K mg base ["_law_deck_here", "_law_count", "_law_letters", "_law_left", "_law_right", "_law_k"] "_law_names" (defScope st__law_names) X.f__law_names cdv A outer s H E) (E := E) rfl rfl rfl rfl
  unfold b__law_names
  exact (cs_cons (cs_set (i := 2) sc__law_names.nd rfl (by first | exact Or.inl rfl | exact Or.inr rfl) ce_str)
  (cs_cons (cs_set (i := 3) sc__law_names.nd rfl (by first | exact Or.inl rfl | exact Or.inr rfl) (ce_bm (t := .str) PySem.F.plainAttrs_str PySem.F.slot_str_join PySem.F.type_str_join m_join ce_str (ca_cons (ce_lcX (own := [("_law_k", 5)]) rfl sc__law_names.nd (ci_rng1 rfl X.n_range (ca_cons (ce_op o_add ce_int (ce_call (sim__law_draw X hP) (hr.mono (by decide)) hg rfl X.g__law_draw X.F__law_draw.kp X.b__law_draw tk (ca_cons (ce_var 0) (ca_cons ce_int ca_nil)))) ca_nil)) (blkOk_by (by kernel_rfl)) (tg_name (List.mem_cons_self ..)) (fun _ _ _ _ _ => pg_name (i := 5) sc__law_names.nd rfl (by first | exact Or.inl rfl | exact Or.inr rfl)) (fun _ _ _ _ _ => cts_nil) (fun _ _ _ _ _ => (ce_call (sim__law_one X hP) (hr.mono (by decide)) hg rfl X.g__law_one X.F__law_one.kp X.b__law_one takesN (ca_cons (ce_var 0) (ca_cons (ce_var 2) ca_nil))))) ca_nil)))
  (cs_cons (cs_set (i := 4) sc__law_names.nd rfl (by first | exact Or.inl rfl | exact Or.inr rfl) (ce_bm (t := .str) PySem.F.plainAttrs_str PySem.F.slot_str_join PySem.F.type_str_join m_join ce_str (ca_cons (ce_lcX (own := [("_law_k", 5)]) rfl sc__law_names.nd (ci_rng1 rfl X.n_range (ca_cons (ce_call (sim__law_draw X hP) (hr.mono (by decide)) hg rfl X.g__law_draw X.F__law_draw.kp X.b__law_draw tk (ca_cons (ce_var 0) (ca_cons ce_int ca_nil))) ca_nil)) (blkOk_by (by kernel_rfl)) (tg_name (List.mem_cons_self ..)) (fun _ _ _ _ _ => pg_name (i := 5) sc__law_names.nd rfl (by first | exact Or.inl rfl | exact Or.inr rfl)) (fun _ _ _ _ _ => cts_nil) (fun _ _ _ _ _ => (ce_call (sim__law_one X hP) (hr.mono (by decide)) hg rfl X.g__law_one X.F__law_one.kp X.b__law_one takesN (ca_cons (ce_var 0) (ca_cons (ce_var 2) ca_nil))))) ca_nil)))
  (cs_one (cs_ret (ce_lcX (own := [("_law_k", 5)]) rfl sc__law_names.nd (ci_rng1 rfl X.n_range (ca_cons (ce_var 1) ca_nil)) (blkOk_by (by kernel_rfl)) (tg_name (List.mem_cons_self ..)) (fun _ _ _ _ _ => pg_name (i := 5) sc__law_names.nd rfl (by first | exact Or.inl rfl | exact Or.inr rfl)) (fun _ _ _ _ _ => cts_nil) (fun _ _ _ _ _ => (ce_op o_add (ce_op o_add (ce_var 3) (ce_callTy (c_str) rfl X.n_str (by decide +kernel) (ca_cons (ce_var 5) ca_nil))) (ce_var 4)))))))))
theorem sc__law_row : FnScope ["_law_deck_here", "_law_names_here", "_law_fields", "_law_way", "_law_x", "_law_y", "_law_f"] ["_law_deck_here", "_law_names_here", "_law_fields"] (defScope st__law_row) := ⟨rfl, rfl, rfl, by decide +kernel, rfl, by decide +kernel, by decide +kernel⟩
theorem sim__law_row {P : Program} {w : World} {K : PySem.W.Frag} {mg : Str → Option Value} {base : Heap} (X : TX K mg) (hP : X.PO P w) : FnG P w K mg base 3 X.f__law_row X.d__law_row ["_law_deck_here", "_law_names_here", "_law_fields"] (SpM (X.T w) 3 m__law_row) := by
  refine fn_sim (k := 2) (N := ["_law_deck_here", "_law_names_here", "_law_fields", "_law_way", "_law_x", "_law_y", "_law_f"]) (T := X.T w) (b := b__law_row) X.F__law_row sc__law_row rfl fun cdv A outer s H E hr hg => ?_
  have tk := L2N.takes_of (X := cxOf (L2N.CX P w) P w K mg base ["_law_deck_here", "_law_names_here", "_law_fields", "_law_way", "_law_x", "_law_y", "_law_f"] "_law_row" (defScope st__law_row) X.f__law_row cdv A outer s H E) (E := E) rfl rfl rfl rfl
  unfold b__law_row
  exact (cs_cons (cs_set (i := 3) sc__law_row.nd rfl (by first | exact Or.inl rfl | exact Or.inr rfl) (ce_call (sim__law_draw X hP) (hr.mono (by decide)) hg rfl X.g__law_draw X.F__law_draw.kp X.b__law_draw tk (ca_cons (ce_var 0) (ca_cons ce_int ca_nil))))
  (cs_cons (cs_par3 (i := 4) (j := 5) (l := 6) rfl sc__law_row.nd rfl rfl rfl (by decide) (by decide) (by decide) rfl rfl rfl (ca_cons (ce_call (sim__law_one X hP) (hr.mono (by decide)) hg rfl X.g__law_one X.F__law_one.kp X.b__law_one tk (ca_cons (ce_var 0) (ca_cons (ce_var 1) ca_nil))) (ca_cons (ce_call (sim__law_one X hP) (hr.mono (by decide)) hg rfl X.g__law_one X.F__law_one.kp X.b__law_one tk (ca_cons (ce_var 0) (ca_cons (ce_var 1) ca_nil))) (ca_cons (ce_call (sim__law_one X hP) (hr.mono (by decide)) hg rfl X.g__law_one X.F__law_one.kp X.b__law_one tk (ca_cons (ce_var 0) (ca_cons (ce_var 2) ca_nil))) ca_nil))) (by rfl))
  (cs_cons (cs_if (ct_cmp o_lt (ce_var 3) ce_int) (cs_one (cs_ret (ce_tup (ca_cons (ce_ix (o_ix (hu_of hr)) (ce_lst (ca_cons ce_str (ca_cons ce_str ca_nil))) (ce_op o_mod (ce_var 3) ce_int)) (ca_cons (ce_var 4) (ca_cons (ce_var 6) (ca_cons (ce_var 5) ca_nil))))))) cs_nil)
  (cs_cons (cs_if (ct_cmp (o_eq hr.units) (ce_var 3) ce_int) (cs_one (cs_ret (ce_tup (ca_cons ce_str (ca_cons (ce_var 4) (ca_cons (ce_var 6) ca_nil)))))) cs_nil)
  (cs_cons (cs_if (ct_cmp o_lt (ce_var 3) ce_int) (cs_one (cs_ret (ce_tup (ca_cons ce_str (ca_cons (ce_op o_add ce_str (ce_callTy (c_str) rfl X.n_str (by decide +kernel) (ca_cons (ce_var 3) ca_nil))) (ca_cons (ce_var 4) (ca_cons (ce_var 6) ca_nil))))))) cs_nil)
  (cs_one (cs_ret (ce_tup (ca_cons ce_str (ca_cons (ce_ix (o_ix (hu_of hr)) (ce_lst (ca_cons (ce_tup (ca_cons ce_str (ca_cons (ce_var 4) (ca_cons (ce_var 6) ca_nil)))) (ca_cons (ce_tup (ca_cons ce_str (ca_cons (ce_tup (ca_cons ce_str (ca_cons (ce_var 4) (ca_cons (ce_var 6) ca_nil)))) ca_nil))) ca_nil))) (ce_op o_sub (ce_var 3) ce_int)) ca_nil))))))))))
theorem sc_law : FnScope ["_law_script", "_law_deck_here", "_law_stands", "_law_k", "_law_rows", "_law_many", "_law_found", "_law_count", "_law_names_here", "_law_held", "_law_said", "_law_asked", "_law_row_here", "_law_cell", "_law_name", "_law_f", "_law_answer"] ["_law_script"] (defScope st_law) := ⟨rfl, rfl, rfl, by decide +kernel, rfl, by decide +kernel, by decide +kernel⟩
theorem sim_law {P : Program} {w : World} {K : PySem.W.Frag} {mg : Str → Option Value} {base : Heap} (X : TX K mg) (hP : X.PO P w) : FnG P w K mg base 31 X.f_law X.d_law ["_law_script"] (SpM (X.T w) 1 m_law) := by
  refine fn_sim (k := 30) (N := ["_law_script", "_law_deck_here", "_law_stands", "_law_k", "_law_rows", "_law_many", "_law_found", "_law_count", "_law_names_here", "_law_held", "_law_said", "_law_asked", "_law_row_here", "_law_cell", "_law_name", "_law_f", "_law_answer"]) (T := X.T w) (b := b_law) X.F_law sc_law rfl fun cdv A outer s H E hr hg => ?_
  have tk := L2N.takes_of (X := cxOf (L2N.CX P w) P w K mg base ["_law_script", "_law_deck_here", "_law_stands", "_law_k", "_law_rows", "_law_many", "_law_found", "_law_count", "_law_names_here", "_law_held", "_law_said", "_law_asked", "_law_row_here", "_law_cell", "_law_name", "_law_f", "_law_answer"] "law" (defScope st_law) X.f_law cdv A outer s H E) (E := E) rfl rfl rfl rfl
  unfold b_law
  exact (cs_cons (cs_set (i := 1) sc_law.nd rfl (by first | exact Or.inl rfl | exact Or.inr rfl) (ce_call (sim__law_deck X hP) (hr.mono (by decide)) hg rfl X.g__law_deck X.F__law_deck.kp X.b__law_deck tk (ca_cons (ce_var 0) ca_nil)))
  (cs_cons (cs_asg (ce_tup (ca_cons (ce_op o_add ce_int (ce_call (sim__law_draw X hP) (hr.mono (by decide)) hg rfl X.g__law_draw X.F__law_draw.kp X.b__law_draw tk (ca_cons (ce_var 1) (ca_cons ce_int ca_nil)))) (ca_cons (ce_call (sim__law_names X hP) (hr.mono (by decide)) hg rfl X.g__law_names X.F__law_names.kp X.b__law_names tk (ca_cons (ce_var 1) (ca_cons ce_int ca_nil))) ca_nil))) (cg_tup (js := [7, 8]) (pg_tup rfl (pgs_cons (pg_name (i := 7) sc_law.nd rfl (by first | exact Or.inl rfl | exact Or.inr rfl)) (pgs_cons (pg_name (i := 8) sc_law.nd rfl (by first | exact Or.inl rfl | exact Or.inr rfl)) pgs_nil)))))
  (cs_cons (cs_asg (ce_tup (ca_cons (ce_lcX (own := [("_law_k", 3)]) rfl sc_law.nd (ci_rng1 rfl X.n_range (ca_cons (ce_var 7) ca_nil)) (blkOk_by (by kernel_rfl)) (tg_name (List.mem_cons_self ..)) (fun _ _ _ _ _ => pg_name (i := 3) sc_law.nd rfl (by first | exact Or.inl rfl | exact Or.inr rfl)) (fun _ _ _ _ _ => cts_nil) (fun _ _ _ _ _ => (ce_tup (ca_cons ce_str (ca_cons (ce_ix (o_ix (hu_of hr)) (ce_var 8) (ce_var 3)) ca_nil))))) (ca_cons ce_dict0T (ca_cons (ce_lst ca_nil) (ca_cons ce_int ca_nil))))) (cg_tup (js := [4, 9, 10, 11]) (pg_tup rfl (pgs_cons (pg_name (i := 4) sc_law.nd rfl (by first | exact Or.inl rfl | exact Or.inr rfl)) (pgs_cons (pg_name (i := 9) sc_law.nd rfl (by first | exact Or.inl rfl | exact Or.inr rfl)) (pgs_cons (pg_name (i := 10) sc_law.nd rfl (by first | exact Or.inl rfl | exact Or.inr rfl)) (pgs_cons (pg_name (i := 11) sc_law.nd rfl (by first | exact Or.inl rfl | exact Or.inr rfl)) pgs_nil)))))))
  (cs_cons (cs_set (i := 2) sc_law.nd rfl (by first | exact Or.inl rfl | exact Or.inr rfl) (ce_callTy c_dictP rfl X.n_dict (by decide +kernel) (ca_cons (ce_lcX (own := [("_law_k", 3)]) rfl sc_law.nd (ci_rng1 rfl X.n_range (ca_cons (ce_var 7) ca_nil)) (blkOk_by (by kernel_rfl)) (tg_name (List.mem_cons_self ..)) (fun _ _ _ _ _ => pg_name (i := 3) sc_law.nd rfl (by first | exact Or.inl rfl | exact Or.inr rfl)) (fun _ _ _ _ _ => cts_nil) (fun _ _ _ _ _ => (ce_tup (ca_cons (ce_ix (o_ix (hu_of hr)) (ce_var 8) (ce_var 3)) (ca_cons (ce_var 3) ca_nil))))) ca_nil)))
  (cs_cons (cs_forX (passes_of rfl) rfl (ci_rng1 rfl X.n_range (ca_cons (ce_call (sim__law_draw X hP) (hr.mono (by decide)) hg rfl X.g__law_draw X.F__law_draw.kp X.b__law_draw tk (ca_cons (ce_var 1) (ca_cons ce_int ca_nil))) ca_nil)) (cg_name (n := 3) sc_law.nd rfl (by first | exact Or.inl rfl | exact Or.inr rfl))
  (cs_cons (cs_set (i := 12) sc_law.nd rfl (by first | exact Or.inl rfl | exact Or.inr rfl) (ce_call (sim__law_row X hP) (hr.mono (by decide)) hg rfl X.g__law_row X.F__law_row.kp X.b__law_row tk (ca_cons (ce_var 1) (ca_cons (ce_slice o_sl (ce_var 8) co_none (co_some (ce_var 7))) (ca_cons (ce_slice o_sl (ce_var 8) (co_some ce_int) co_none) ca_nil)))))
  (cs_cons (cs_if (ct_cmp (o_in (hu_of hr)) (ce_ix (o_ix (hu_of hr)) (ce_var 12) ce_int) (ce_lst (ca_cons ce_str (ca_cons ce_str ca_nil)))) (cs_one (cs_asg (ce_ix (o_ix (hu_of hr)) (ce_var 2) (ce_ix (o_ix (hu_of hr)) (ce_var 12) ce_int)) (cg_subT (hu_of hr) (ce_var 9) (ca_cons (ce_ix (o_ix (hu_of hr)) (ce_var 2) (ce_ix (o_ix (hu_of hr)) (ce_var 12) ce_int)) (ca_cons (ce_ix (o_ix (hu_of hr)) (ce_var 12) ce_int) ca_nil)) (pg_sub (ce_var 9) (pe_tup (ca_cons (ce_ix (o_ix (hu_of hr)) (ce_var 2) (ce_ix (o_ix (hu_of hr)) (ce_var 12) ce_int)) (ca_cons (ce_ix (o_ix (hu_of hr)) (ce_var 12) ce_int) ca_nil))) (set_dict (hu_of hr)))))) (cs_one (cs_if (ct_cmp (o_eq hr.units) (ce_ix (o_ix (hu_of hr)) (ce_var 12) ce_int) ce_str) (cs_one (cs_asg ce_non (cg_subT (hu_of hr) (ce_var 9) (ca_cons (ce_ix (o_ix (hu_of hr)) (ce_var 2) (ce_ix (o_ix (hu_of hr)) (ce_var 12) ce_int)) (ca_cons (ce_ix (o_ix (hu_of hr)) (ce_var 12) ce_int) ca_nil)) (pg_sub (ce_var 9) (pe_tup (ca_cons (ce_ix (o_ix (hu_of hr)) (ce_var 2) (ce_ix (o_ix (hu_of hr)) (ce_var 12) ce_int)) (ca_cons (ce_ix (o_ix (hu_of hr)) (ce_var 12) ce_int) ca_nil))) (set_dict (hu_of hr)))))) (cs_cons (cs_asg (ce_if (ct_cmp (o_eq hr.units) (ce_ix (o_ix (hu_of hr)) (ce_var 12) ce_int) ce_str) (ce_tup (ca_cons (ce_ix (o_ix (hu_of hr)) (ce_var 12) ce_int) (ca_cons (ce_ix (o_ix (hu_of hr)) (ce_var 12) ce_int) ca_nil))) (ce_if (ct_cmp (o_eq hr.units) (ce_ix (o_ix (hu_of hr)) (ce_ix (o_ix (hu_of hr)) (ce_var 12) ce_int) ce_int) ce_str) (ce_slice o_sl (ce_ix (o_ix (hu_of hr)) (ce_var 12) ce_int) (co_some (ce_un o_neg ce_int)) co_none) (ce_slice o_sl (ce_ix (o_ix (hu_of hr)) (ce_ix (o_ix (hu_of hr)) (ce_var 12) ce_int) ce_int) (co_some ce_int) co_none))) (cg_tup (js := [14, 15]) (pg_tup rfl (pgs_cons (pg_name (i := 14) sc_law.nd rfl (by first | exact Or.inl rfl | exact Or.inr rfl)) (pgs_cons (pg_name (i := 15) sc_law.nd rfl (by first | exact Or.inl rfl | exact Or.inr rfl)) pgs_nil)))))
  (cs_cons (cs_set (i := 13) sc_law.nd rfl (by first | exact Or.inl rfl | exact Or.inr rfl) (ce_dgetT (hu_of hr) (ce_var 9) (ca_cons (ce_ix (o_ix (hu_of hr)) (ce_var 2) (ce_var 14)) (ca_cons (ce_var 15) ca_nil)) ⟨rfl, rfl, rfl, rfl⟩))
  (cs_cons (cs_set (i := 11) sc_law.nd rfl (by first | exact Or.inl rfl | exact Or.inr rfl) (ce_op o_add (ce_var 11) (ce_callTy (c_int) rfl X.n_int (by decide +kernel) (ca_cons (ce_cmp o_notN (ce_var 13) ce_non) ca_nil))))
  (cs_one (cs_if (ct_cmp (o_eq hr.units) (ce_ix (o_ix (hu_of hr)) (ce_var 12) ce_int) ce_str) (cs_cons (cs_expr (ce_bm (t := .list) PySem.F.plainAttrs_list PySem.F.slot_list_append PySem.F.type_list_append m_append (ce_var 4) (ca_cons (ce_var 12) ca_nil)))
  (cs_cons (cs_set (i := 12) sc_law.nd rfl (by first | exact Or.inl rfl | exact Or.inr rfl) (ce_tup (ca_cons ce_str (ca_cons (ce_tup (ca_cons ce_str (ca_cons (ce_ix (o_ix (hu_of hr)) (ce_var 12) ce_int) ca_nil))) ca_nil))))
  (cs_one (cs_expr (ce_bm (t := .list) PySem.F.plainAttrs_list PySem.F.slot_list_append PySem.F.type_list_append m_append (ce_var 10) (ca_cons (ce_if (ct_cmp o_isN (ce_var 13) ce_non) (ce_tup (ca_cons ce_str ca_nil)) (ce_tup (ca_cons ce_str ca_nil))) ca_nil)))))) (cs_one (cs_expr (ce_bm (t := .list) PySem.F.plainAttrs_list PySem.F.slot_list_append PySem.F.type_list_append m_append (ce_var 10) (ca_cons (ce_if (ct_cmp (o_eq hr.units) (ce_cmp o_notN (ce_var 13) ce_non) (ce_cmp (o_eq hr.units) (ce_ix (o_ix (hu_of hr)) (ce_ix (o_ix (hu_of hr)) (ce_var 12) ce_int) ce_int) ce_str)) (ce_tup (ca_cons ce_str ca_nil)) (ce_tup (ca_cons ce_str ca_nil))) ca_nil))))))))))))
  (cs_one (cs_expr (ce_bm (t := .list) PySem.F.plainAttrs_list PySem.F.slot_list_append PySem.F.type_list_append m_append (ce_var 4) (ca_cons (ce_var 12) ca_nil)))))))
  (cs_cons (cs_set (i := 4) sc_law.nd rfl (by first | exact Or.inl rfl | exact Or.inr rfl) (ce_slice o_sl (ce_var 4) co_none (co_some ce_int)))
  (cs_cons (cs_set (i := 5) sc_law.nd rfl (by first | exact Or.inl rfl | exact Or.inr rfl) (ce_callB (c_len) rfl X.n_len (by decide +kernel) (ca_cons (ce_lc (own := [("_law_row_here", 12)]) 100000 rfl sc_law.nd (ci_lst (ce_var 4)) (blkOk_by (by kernel_rfl)) (tg_name (List.mem_cons_self ..)) (fun _ _ _ _ _ => pg_name (i := 12) sc_law.nd rfl (by first | exact Or.inl rfl | exact Or.inr rfl)) (fun _ _ _ _ _ => (cts_one (ct_cmp (o_eq hr.units) (ce_ix (o_ix (hu_of hr)) (ce_var 12) ce_int) ce_str))) (fun _ _ _ _ _ => (ce_var 12))) ca_nil)))
  (cs_cons (cs_set (i := 6) sc_law.nd rfl (by first | exact Or.inl rfl | exact Or.inr rfl) (ce_callV (fnV_dfl (T := X.T w) (das := [(.tup []), (.tup [])]) (sim_run X hP) X.b_run_0) (hr.mono (by decide)) hg rfl X.g_run X.F_run.kp tk (ca_cons (ce_tup (ca_cons ce_int (ca_cons (ce_callTy (c_tuple) rfl X.n_tuple (by decide +kernel) (ca_cons (ce_var 4) ca_nil)) ca_nil))) (ca_cons (ce_tup ca_nil) ca_nil))))
  (cs_cons (cs_if (PW.pt (cw_and (ct_cmp o_lt (ce_callB (c_len) rfl X.n_len (by decide +kernel) (ca_cons (ce_var 4) ca_nil)) ce_int) (cw_and1 (ct_cmp (o_ne hr.units) (ce_callB (c_len) rfl X.n_len (by decide +kernel) (ca_cons (ce_ix (o_ix (hu_of hr)) (ce_var 6) ce_int) ca_nil)) (ce_var 11))))) (cs_one (cs_ret ce_bl)) cs_nil)
  (cs_cons (cs_if (PW.pt (cw_or (ct_cmp (o_ne hr.units) (ce_lcX (own := [("_law_answer", 16)]) rfl sc_law.nd (ci_tup (ce_ix (o_ix (hu_of hr)) (ce_var 6) ce_int)) (blkOk_by (by kernel_rfl)) (tg_name (List.mem_cons_self ..)) (fun _ _ _ _ _ => pg_name (i := 16) sc_law.nd rfl (by first | exact Or.inl rfl | exact Or.inr rfl)) (fun _ _ _ _ _ => (cts_one (ct_cmp (o_ne hr.units) (ce_var 16) ce_int))) (fun _ _ _ _ _ => (ce_var 16))) (ce_lst ca_nil)) (cw_or1 (ct_cmp (o_ne hr.units) (ce_ix (o_ix (hu_of hr)) (ce_var 6) ce_int) (ce_tup ca_nil))))) (cs_one (cs_ret ce_bl)) cs_nil)
  (cs_one (cs_ret (ce_cmp (o_eq hr.units) (ce_callB (c_repr hg hr.units) rfl X.n_repr (by decide +kernel) (ca_cons (ce_slice o_sl (ce_var 6) co_none (co_some ce_int)) ca_nil)) (ce_callB (c_repr hg hr.units) rfl X.n_repr (by decide +kernel) (ca_cons (ce_tup (ca_cons (ce_callTy (c_tuple) rfl X.n_tuple (by decide +kernel) (ca_cons (ce_slice o_sl (ce_var 10) co_none (co_some (ce_var 5))) ca_nil)) (ca_cons ce_non ca_nil))) ca_nil)))))))))))))))
end K56

namespace K56
open PySem PySem.Spec PyProof.Rows L2 Sm
theorem all_mk {l : PySem.W.OpenLaw} {w : World} {K : PySem.W.Frag} {h : Heap} {mg : Str → Option Value} {fa f_inner_blocks f_listed f_MachineU_initU f_Machine_begin_moment f_Machine_decide f_Machine_note f_Machine_end_moment f_Machine_ask f_Machine_cell_of f_Machine_stand f_Machine_fill f_Machine_held_by f_Machine_reach_from f_Machine_reached f_Machine_comers f_do_make f_do_wish f_do_keep f_do_name f_do_drop f_do_hold f_do_weak f_do_cut f_do_take f_do_say f_is_true f_do_ask f_Collected_wanted f_Planned_wanted f_Collected_begin_moment f_enter f_Collected_end_moment f_execute f_finish f_CollectedU_initU f_PlannedU_initU f_result_of f_run f__law_deck f__law_draw f__law_one f__law_names f__law_row f_law f_StoppedU_initU C_Machine C_Collected C_Planned C_Stopped cc_CollectedU_initU cda_CollectedU_initU cc_PlannedU_initU cda_PlannedU_initU dT_run kD_run e_run_1 e_run_0 xN_Stopped t_DEEDS : Addr} (X : K.In h) (G : h.Ns mainGlobals mg) (hfa : mg "law" = some (.ref fa))
    {od_inner_blocks an_inner_blocks od_listed an_listed od_MachineU_initU an_MachineU_initU od_Machine_begin_moment an_Machine_begin_moment od_Machine_decide an_Machine_decide od_Machine_note an_Machine_note od_Machine_end_moment an_Machine_end_moment od_Machine_ask an_Machine_ask od_Machine_cell_of an_Machine_cell_of od_Machine_stand an_Machine_stand od_Machine_fill an_Machine_fill od_Machine_held_by an_Machine_held_by od_Machine_reach_from an_Machine_reach_from od_Machine_reached an_Machine_reached od_Machine_comers an_Machine_comers od_do_make an_do_make od_do_wish an_do_wish od_do_keep an_do_keep od_do_name an_do_name od_do_drop an_do_drop od_do_hold an_do_hold od_do_weak an_do_weak od_do_cut an_do_cut od_do_take an_do_take od_do_say an_do_say od_is_true an_is_true od_do_ask an_do_ask od_Collected_wanted an_Collected_wanted od_Planned_wanted an_Planned_wanted od_Collected_begin_moment an_Collected_begin_moment od_enter an_enter od_Collected_end_moment an_Collected_end_moment od_execute an_execute od_finish an_finish od_CollectedU_initU an_CollectedU_initU cdd_CollectedU_initU ocd_CollectedU_initU od_PlannedU_initU an_PlannedU_initU cdd_PlannedU_initU ocd_PlannedU_initU od_result_of an_result_of od_run an_run odT_run odE_run_1 odE_run_0 od__law_deck an__law_deck od__law_draw an__law_draw od__law_one an__law_one od__law_names an__law_names od__law_row an__law_row od_law an_law od_StoppedU_initU an_StoppedU_initU xdd_Stopped : Option Addr} {sl_inner_blocks sl_listed sl_MachineU_initU sl_Machine_begin_moment sl_Machine_decide sl_Machine_note sl_Machine_end_moment sl_Machine_ask sl_Machine_cell_of sl_Machine_stand sl_Machine_fill sl_Machine_held_by sl_Machine_reach_from sl_Machine_reached sl_Machine_comers sl_do_make sl_do_wish sl_do_keep sl_do_name sl_do_drop sl_do_hold sl_do_weak sl_do_cut sl_do_take sl_do_say sl_is_true sl_do_ask sl_Collected_wanted sl_Planned_wanted sl_Collected_begin_moment sl_enter sl_Collected_end_moment sl_execute sl_finish sl_CollectedU_initU ccs_CollectedU_initU ocs_CollectedU_initU sl_PlannedU_initU ccs_PlannedU_initU ocs_PlannedU_initU sl_result_of sl_run slT_run slE_run_1 slE_run_0 sl__law_deck sl__law_draw sl__law_one sl__law_names sl__law_row sl_law sl_StoppedU_initU : Array (Option Value)} {oc_inner_blocks kV_inner_blocks dc_inner_blocks pm_inner_blocks cd_inner_blocks ct_inner_blocks oc_listed kV_listed dc_listed pm_listed cd_listed ct_listed oc_MachineU_initU kV_MachineU_initU dc_MachineU_initU pm_MachineU_initU cd_MachineU_initU ct_MachineU_initU oc_Machine_begin_moment kV_Machine_begin_moment dc_Machine_begin_moment pm_Machine_begin_moment cd_Machine_begin_moment ct_Machine_begin_moment oc_Machine_decide kV_Machine_decide dc_Machine_decide pm_Machine_decide cd_Machine_decide ct_Machine_decide oc_Machine_note kV_Machine_note dc_Machine_note pm_Machine_note cd_Machine_note ct_Machine_note oc_Machine_end_moment kV_Machine_end_moment dc_Machine_end_moment pm_Machine_end_moment cd_Machine_end_moment ct_Machine_end_moment oc_Machine_ask kV_Machine_ask dc_Machine_ask pm_Machine_ask cd_Machine_ask ct_Machine_ask oc_Machine_cell_of kV_Machine_cell_of dc_Machine_cell_of pm_Machine_cell_of cd_Machine_cell_of ct_Machine_cell_of oc_Machine_stand kV_Machine_stand dc_Machine_stand pm_Machine_stand cd_Machine_stand ct_Machine_stand oc_Machine_fill kV_Machine_fill dc_Machine_fill pm_Machine_fill cd_Machine_fill ct_Machine_fill oc_Machine_held_by kV_Machine_held_by dc_Machine_held_by pm_Machine_held_by cd_Machine_held_by ct_Machine_held_by oc_Machine_reach_from kV_Machine_reach_from dc_Machine_reach_from pm_Machine_reach_from cd_Machine_reach_from ct_Machine_reach_from oc_Machine_reached kV_Machine_reached dc_Machine_reached pm_Machine_reached cd_Machine_reached ct_Machine_reached oc_Machine_comers kV_Machine_comers dc_Machine_comers pm_Machine_comers cd_Machine_comers ct_Machine_comers oc_do_make kV_do_make dc_do_make pm_do_make cd_do_make ct_do_make oc_do_wish kV_do_wish dc_do_wish pm_do_wish cd_do_wish ct_do_wish oc_do_keep kV_do_keep dc_do_keep pm_do_keep cd_do_keep ct_do_keep oc_do_name kV_do_name dc_do_name pm_do_name cd_do_name ct_do_name oc_do_drop kV_do_drop dc_do_drop pm_do_drop cd_do_drop ct_do_drop oc_do_hold kV_do_hold dc_do_hold pm_do_hold cd_do_hold ct_do_hold oc_do_weak kV_do_weak dc_do_weak pm_do_weak cd_do_weak ct_do_weak oc_do_cut kV_do_cut dc_do_cut pm_do_cut cd_do_cut ct_do_cut oc_do_take kV_do_take dc_do_take pm_do_take cd_do_take ct_do_take oc_do_say kV_do_say dc_do_say pm_do_say cd_do_say ct_do_say oc_is_true kV_is_true dc_is_true pm_is_true cd_is_true ct_is_true oc_do_ask kV_do_ask dc_do_ask pm_do_ask cd_do_ask ct_do_ask oc_Collected_wanted kV_Collected_wanted dc_Collected_wanted pm_Collected_wanted cd_Collected_wanted ct_Collected_wanted oc_Planned_wanted kV_Planned_wanted dc_Planned_wanted pm_Planned_wanted cd_Planned_wanted ct_Planned_wanted oc_Collected_begin_moment kV_Collected_begin_moment dc_Collected_begin_moment pm_Collected_begin_moment cd_Collected_begin_moment ct_Collected_begin_moment oc_enter kV_enter dc_enter pm_enter cd_enter ct_enter oc_Collected_end_moment kV_Collected_end_moment dc_Collected_end_moment pm_Collected_end_moment cd_Collected_end_moment ct_Collected_end_moment oc_execute kV_execute dc_execute pm_execute cd_execute ct_execute oc_finish kV_finish dc_finish pm_finish cd_finish ct_finish oc_CollectedU_initU kV_CollectedU_initU dc_CollectedU_initU pm_CollectedU_initU ct_CollectedU_initU ccl_CollectedU_initU ocl_CollectedU_initU oc_PlannedU_initU kV_PlannedU_initU dc_PlannedU_initU pm_PlannedU_initU ct_PlannedU_initU ccl_PlannedU_initU ocl_PlannedU_initU oc_result_of kV_result_of dc_result_of pm_result_of cd_result_of ct_result_of oc_run dc_run pm_run cd_run ct_run ocT_run oc__law_deck kV__law_deck dc__law_deck pm__law_deck cd__law_deck ct__law_deck oc__law_draw kV__law_draw dc__law_draw pm__law_draw cd__law_draw ct__law_draw oc__law_one kV__law_one dc__law_one pm__law_one cd__law_one ct__law_one oc__law_names kV__law_names dc__law_names pm__law_names cd__law_names ct__law_names oc__law_row kV__law_row dc__law_row pm__law_row cd__law_row ct__law_row oc_law kV_law dc_law pm_law cd_law ct_law oc_StoppedU_initU kV_StoppedU_initU dc_StoppedU_initU pm_StoppedU_initU cd_StoppedU_initU ct_StoppedU_initU : Value} {t_MAX_QUESTIONS : Tok} {nT_run nE_run_1 nE_run_0 n_DEEDS : Nat} {cvs_CollectedU_initU : Array Value} {tf_CollectedU_initU : Tok} {cdD_CollectedU_initU : ClassData} {cvs_PlannedU_initU : Array Value} {tf_PlannedU_initU : Tok} {cdD_PlannedU_initU : ClassData} {xnm_Stopped xq_Stopped : Str} {xbs_Stopped xsub_Stopped : List Value} {xsn_Stopped : List Str} {xab_Stopped : Bool} {xcol_Stopped : Option Bool} {xk0_Stopped xk1_Stopped xk2_Stopped xk3_Stopped xk5_Stopped : Option Value} {es_DEEDS : Array DictEntry} {file : Str}
    (aC_Machine : PySem.W.nsIn K mainGlobals "Machine" = some (some (.ref C_Machine)))
    (aC_Collected : PySem.W.nsIn K mainGlobals "Collected" = some (some (.ref C_Collected)))
    (aC_Planned : PySem.W.nsIn K mainGlobals "Planned" = some (some (.ref C_Planned)))
    (aC_Stopped : PySem.W.nsIn K mainGlobals "Stopped" = some (some (.ref C_Stopped)))
    (aC_D_DEEDS : PySem.W.nsIn K mainGlobals "DEEDS" = some (some (.ref t_DEEDS)))
    (a_inner_blocks : PySem.W.nsIn K mainGlobals "inner_blocks" = some (some (.ref f_inner_blocks)))
    (a_listed : PySem.W.nsIn K mainGlobals "listed" = some (some (.ref f_listed)))
    (a_do_make : PySem.W.nsIn K mainGlobals "do_make" = some (some (.ref f_do_make)))
    (a_do_wish : PySem.W.nsIn K mainGlobals "do_wish" = some (some (.ref f_do_wish)))
    (a_do_keep : PySem.W.nsIn K mainGlobals "do_keep" = some (some (.ref f_do_keep)))
    (a_do_name : PySem.W.nsIn K mainGlobals "do_name" = some (some (.ref f_do_name)))
    (a_do_drop : PySem.W.nsIn K mainGlobals "do_drop" = some (some (.ref f_do_drop)))
    (a_do_hold : PySem.W.nsIn K mainGlobals "do_hold" = some (some (.ref f_do_hold)))
    (a_do_weak : PySem.W.nsIn K mainGlobals "do_weak" = some (some (.ref f_do_weak)))
    (a_do_cut : PySem.W.nsIn K mainGlobals "do_cut" = some (some (.ref f_do_cut)))
    (a_do_take : PySem.W.nsIn K mainGlobals "do_take" = some (some (.ref f_do_take)))
    (a_do_say : PySem.W.nsIn K mainGlobals "do_say" = some (some (.ref f_do_say)))
    (a_is_true : PySem.W.nsIn K mainGlobals "is_true" = some (some (.ref f_is_true)))
    (a_do_ask : PySem.W.nsIn K mainGlobals "do_ask" = some (some (.ref f_do_ask)))
    (a_enter : PySem.W.nsIn K mainGlobals "enter" = some (some (.ref f_enter)))
    (a_execute : PySem.W.nsIn K mainGlobals "execute" = some (some (.ref f_execute)))
    (a_finish : PySem.W.nsIn K mainGlobals "finish" = some (some (.ref f_finish)))
    (a_result_of : PySem.W.nsIn K mainGlobals "result_of" = some (some (.ref f_result_of)))
    (a_run : PySem.W.nsIn K mainGlobals "run" = some (some (.ref f_run)))
    (a__law_deck : PySem.W.nsIn K mainGlobals "_law_deck" = some (some (.ref f__law_deck)))
    (a__law_draw : PySem.W.nsIn K mainGlobals "_law_draw" = some (some (.ref f__law_draw)))
    (a__law_one : PySem.W.nsIn K mainGlobals "_law_one" = some (some (.ref f__law_one)))
    (a__law_names : PySem.W.nsIn K mainGlobals "_law_names" = some (some (.ref f__law_names)))
    (a__law_row : PySem.W.nsIn K mainGlobals "_law_row" = some (some (.ref f__law_row)))
    (a_law : PySem.W.nsIn K mainGlobals "law" = some (some (.ref f_law)))
    (ma_Machine_ask : PySem.W.findIn K (.ref C_Machine) "ask" = some (some (.ref f_Machine_ask)))
    (ma_Machine_begin_moment : PySem.W.findIn K (.ref C_Machine) "begin_moment" = some (some (.ref f_Machine_begin_moment)))
    (ma_Machine_cell_of : PySem.W.findIn K (.ref C_Machine) "cell_of" = some (some (.ref f_Machine_cell_of)))
    (ma_Machine_comers : PySem.W.findIn K (.ref C_Machine) "comers" = some (some (.ref f_Machine_comers)))
    (ma_Machine_decide : PySem.W.findIn K (.ref C_Machine) "decide" = some (some (.ref f_Machine_decide)))
    (ma_Machine_end_moment : PySem.W.findIn K (.ref C_Machine) "end_moment" = some (some (.ref f_Machine_end_moment)))
    (ma_Machine_fill : PySem.W.findIn K (.ref C_Machine) "fill" = some (some (.ref f_Machine_fill)))
    (ma_Machine_held_by : PySem.W.findIn K (.ref C_Machine) "held_by" = some (some (.ref f_Machine_held_by)))
    (ma_Machine_note : PySem.W.findIn K (.ref C_Machine) "note" = some (some (.ref f_Machine_note)))
    (ma_Machine_reach_from : PySem.W.findIn K (.ref C_Machine) "reach_from" = some (some (.ref f_Machine_reach_from)))
    (ma_Machine_reached : PySem.W.findIn K (.ref C_Machine) "reached" = some (some (.ref f_Machine_reached)))
    (ma_Machine_stand : PySem.W.findIn K (.ref C_Machine) "stand" = some (some (.ref f_Machine_stand)))
    (ma_Collected_ask : PySem.W.findIn K (.ref C_Collected) "ask" = some (some (.ref f_Machine_ask)))
    (ma_Collected_begin_moment : PySem.W.findIn K (.ref C_Collected) "begin_moment" = some (some (.ref f_Collected_begin_moment)))
    (ma_Collected_cell_of : PySem.W.findIn K (.ref C_Collected) "cell_of" = some (some (.ref f_Machine_cell_of)))
    (ma_Collected_comers : PySem.W.findIn K (.ref C_Collected) "comers" = some (some (.ref f_Machine_comers)))
    (ma_Collected_decide : PySem.W.findIn K (.ref C_Collected) "decide" = some (some (.ref f_Machine_decide)))
    (ma_Collected_end_moment : PySem.W.findIn K (.ref C_Collected) "end_moment" = some (some (.ref f_Collected_end_moment)))
    (ma_Collected_fill : PySem.W.findIn K (.ref C_Collected) "fill" = some (some (.ref f_Machine_fill)))
    (ma_Collected_held_by : PySem.W.findIn K (.ref C_Collected) "held_by" = some (some (.ref f_Machine_held_by)))
    (ma_Collected_note : PySem.W.findIn K (.ref C_Collected) "note" = some (some (.ref f_Machine_note)))
    (ma_Collected_reach_from : PySem.W.findIn K (.ref C_Collected) "reach_from" = some (some (.ref f_Machine_reach_from)))
    (ma_Collected_reached : PySem.W.findIn K (.ref C_Collected) "reached" = some (some (.ref f_Machine_reached)))
    (ma_Collected_stand : PySem.W.findIn K (.ref C_Collected) "stand" = some (some (.ref f_Machine_stand)))
    (ma_Collected_wanted : PySem.W.findIn K (.ref C_Collected) "wanted" = some (some (.ref f_Collected_wanted)))
    (in_Planned : PySem.W.findIn K (.ref C_Planned) "__init__" = some (some (.ref f_PlannedU_initU)))
    (ma_Planned_ask : PySem.W.findIn K (.ref C_Planned) "ask" = some (some (.ref f_Machine_ask)))
    (ma_Planned_begin_moment : PySem.W.findIn K (.ref C_Planned) "begin_moment" = some (some (.ref f_Collected_begin_moment)))
    (ma_Planned_cell_of : PySem.W.findIn K (.ref C_Planned) "cell_of" = some (some (.ref f_Machine_cell_of)))
    (ma_Planned_comers : PySem.W.findIn K (.ref C_Planned) "comers" = some (some (.ref f_Machine_comers)))
    (ma_Planned_decide : PySem.W.findIn K (.ref C_Planned) "decide" = some (some (.ref f_Machine_decide)))
    (ma_Planned_end_moment : PySem.W.findIn K (.ref C_Planned) "end_moment" = some (some (.ref f_Collected_end_moment)))
    (ma_Planned_fill : PySem.W.findIn K (.ref C_Planned) "fill" = some (some (.ref f_Machine_fill)))
    (ma_Planned_held_by : PySem.W.findIn K (.ref C_Planned) "held_by" = some (some (.ref f_Machine_held_by)))
    (ma_Planned_note : PySem.W.findIn K (.ref C_Planned) "note" = some (some (.ref f_Machine_note)))
    (ma_Planned_reach_from : PySem.W.findIn K (.ref C_Planned) "reach_from" = some (some (.ref f_Machine_reach_from)))
    (ma_Planned_reached : PySem.W.findIn K (.ref C_Planned) "reached" = some (some (.ref f_Machine_reached)))
    (ma_Planned_stand : PySem.W.findIn K (.ref C_Planned) "stand" = some (some (.ref f_Machine_stand)))
    (ma_Planned_wanted : PySem.W.findIn K (.ref C_Planned) "wanted" = some (some (.ref f_Planned_wanted)))
    (in_S_Machine : PySem.W.findIn K (.ref C_Machine) "__init__" = some (some (.ref f_MachineU_initU)))
    (in_S_Collected : PySem.W.findIn K (.ref C_Collected) "__init__" = some (some (.ref f_CollectedU_initU)))
    (in_X_Stopped : PySem.W.findIn K (.ref C_Stopped) "__init__" = some (some (.ref f_StoppedU_initU)))
    (l_inner_blocks : K.lookup f_inner_blocks = some ⟨oc_inner_blocks, od_inner_blocks, .func (PySem.W.fnOf "inner_blocks" "inner_blocks" (defArgs st_inner_blocks) (defBody st_inner_blocks) (defScope st_inner_blocks) .none kV_inner_blocks dc_inner_blocks pm_inner_blocks an_inner_blocks cd_inner_blocks ct_inner_blocks), sl_inner_blocks⟩)
    (c_inner_blocks : PySem.W.codeIn K cd_inner_blocks "inner_blocks" = true)
    (k_inner_blocks : PySem.W.keepIn K (.ref f_inner_blocks) = true)
    (l_listed : K.lookup f_listed = some ⟨oc_listed, od_listed, .func (PySem.W.fnOf "listed" "listed" (defArgs st_listed) (defBody st_listed) (defScope st_listed) .none kV_listed dc_listed pm_listed an_listed cd_listed ct_listed), sl_listed⟩)
    (c_listed : PySem.W.codeIn K cd_listed "listed" = true)
    (k_listed : PySem.W.keepIn K (.ref f_listed) = true)
    (l_MachineU_initU : K.lookup f_MachineU_initU = some ⟨oc_MachineU_initU, od_MachineU_initU, .func (PySem.W.fnOf "__init__" "Machine.__init__" (defArgs st_MachineU_initU) (defBody st_MachineU_initU) (defScope st_MachineU_initU) .none kV_MachineU_initU dc_MachineU_initU pm_MachineU_initU an_MachineU_initU cd_MachineU_initU ct_MachineU_initU), sl_MachineU_initU⟩)
    (c_MachineU_initU : PySem.W.codeIn K cd_MachineU_initU "Machine.__init__" = true)
    (k_MachineU_initU : PySem.W.keepIn K (.ref f_MachineU_initU) = true)
    (l_Machine_begin_moment : K.lookup f_Machine_begin_moment = some ⟨oc_Machine_begin_moment, od_Machine_begin_moment, .func (PySem.W.fnOf "begin_moment" "Machine.begin_moment" (defArgs st_Machine_begin_moment) (defBody st_Machine_begin_moment) (defScope st_Machine_begin_moment) .none kV_Machine_begin_moment dc_Machine_begin_moment pm_Machine_begin_moment an_Machine_begin_moment cd_Machine_begin_moment ct_Machine_begin_moment), sl_Machine_begin_moment⟩)
    (c_Machine_begin_moment : PySem.W.codeIn K cd_Machine_begin_moment "Machine.begin_moment" = true)
    (k_Machine_begin_moment : PySem.W.keepIn K (.ref f_Machine_begin_moment) = true)
    (l_Machine_decide : K.lookup f_Machine_decide = some ⟨oc_Machine_decide, od_Machine_decide, .func (PySem.W.fnOf "decide" "Machine.decide" (defArgs st_Machine_decide) (defBody st_Machine_decide) (defScope st_Machine_decide) .none kV_Machine_decide dc_Machine_decide pm_Machine_decide an_Machine_decide cd_Machine_decide ct_Machine_decide), sl_Machine_decide⟩)
    (c_Machine_decide : PySem.W.codeIn K cd_Machine_decide "Machine.decide" = true)
    (k_Machine_decide : PySem.W.keepIn K (.ref f_Machine_decide) = true)
    (l_Machine_note : K.lookup f_Machine_note = some ⟨oc_Machine_note, od_Machine_note, .func (PySem.W.fnOf "note" "Machine.note" (defArgs st_Machine_note) (defBody st_Machine_note) (defScope st_Machine_note) .none kV_Machine_note dc_Machine_note pm_Machine_note an_Machine_note cd_Machine_note ct_Machine_note), sl_Machine_note⟩)
    (c_Machine_note : PySem.W.codeIn K cd_Machine_note "Machine.note" = true)
    (k_Machine_note : PySem.W.keepIn K (.ref f_Machine_note) = true)
    (l_Machine_end_moment : K.lookup f_Machine_end_moment = some ⟨oc_Machine_end_moment, od_Machine_end_moment, .func (PySem.W.fnOf "end_moment" "Machine.end_moment" (defArgs st_Machine_end_moment) (defBody st_Machine_end_moment) (defScope st_Machine_end_moment) .none kV_Machine_end_moment dc_Machine_end_moment pm_Machine_end_moment an_Machine_end_moment cd_Machine_end_moment ct_Machine_end_moment), sl_Machine_end_moment⟩)
    (c_Machine_end_moment : PySem.W.codeIn K cd_Machine_end_moment "Machine.end_moment" = true)
    (k_Machine_end_moment : PySem.W.keepIn K (.ref f_Machine_end_moment) = true)
    (l_Machine_ask : K.lookup f_Machine_ask = some ⟨oc_Machine_ask, od_Machine_ask, .func (PySem.W.fnOf "ask" "Machine.ask" (defArgs st_Machine_ask) (defBody st_Machine_ask) (defScope st_Machine_ask) .none kV_Machine_ask dc_Machine_ask pm_Machine_ask an_Machine_ask cd_Machine_ask ct_Machine_ask), sl_Machine_ask⟩)
    (c_Machine_ask : PySem.W.codeIn K cd_Machine_ask "Machine.ask" = true)
    (k_Machine_ask : PySem.W.keepIn K (.ref f_Machine_ask) = true)
    (l_Machine_cell_of : K.lookup f_Machine_cell_of = some ⟨oc_Machine_cell_of, od_Machine_cell_of, .func (PySem.W.fnOf "cell_of" "Machine.cell_of" (defArgs st_Machine_cell_of) (defBody st_Machine_cell_of) (defScope st_Machine_cell_of) .none kV_Machine_cell_of dc_Machine_cell_of pm_Machine_cell_of an_Machine_cell_of cd_Machine_cell_of ct_Machine_cell_of), sl_Machine_cell_of⟩)
    (c_Machine_cell_of : PySem.W.codeIn K cd_Machine_cell_of "Machine.cell_of" = true)
    (k_Machine_cell_of : PySem.W.keepIn K (.ref f_Machine_cell_of) = true)
    (l_Machine_stand : K.lookup f_Machine_stand = some ⟨oc_Machine_stand, od_Machine_stand, .func (PySem.W.fnOf "stand" "Machine.stand" (defArgs st_Machine_stand) (defBody st_Machine_stand) (defScope st_Machine_stand) .none kV_Machine_stand dc_Machine_stand pm_Machine_stand an_Machine_stand cd_Machine_stand ct_Machine_stand), sl_Machine_stand⟩)
    (c_Machine_stand : PySem.W.codeIn K cd_Machine_stand "Machine.stand" = true)
    (k_Machine_stand : PySem.W.keepIn K (.ref f_Machine_stand) = true)
    (l_Machine_fill : K.lookup f_Machine_fill = some ⟨oc_Machine_fill, od_Machine_fill, .func (PySem.W.fnOf "fill" "Machine.fill" (defArgs st_Machine_fill) (defBody st_Machine_fill) (defScope st_Machine_fill) .none kV_Machine_fill dc_Machine_fill pm_Machine_fill an_Machine_fill cd_Machine_fill ct_Machine_fill), sl_Machine_fill⟩)
    (c_Machine_fill : PySem.W.codeIn K cd_Machine_fill "Machine.fill" = true)
    (k_Machine_fill : PySem.W.keepIn K (.ref f_Machine_fill) = true)
    (l_Machine_held_by : K.lookup f_Machine_held_by = some ⟨oc_Machine_held_by, od_Machine_held_by, .func (PySem.W.fnOf "held_by" "Machine.held_by" (defArgs st_Machine_held_by) (defBody st_Machine_held_by) (defScope st_Machine_held_by) .none kV_Machine_held_by dc_Machine_held_by pm_Machine_held_by an_Machine_held_by cd_Machine_held_by ct_Machine_held_by), sl_Machine_held_by⟩)
    (c_Machine_held_by : PySem.W.codeIn K cd_Machine_held_by "Machine.held_by" = true)
    (k_Machine_held_by : PySem.W.keepIn K (.ref f_Machine_held_by) = true)
    (l_Machine_reach_from : K.lookup f_Machine_reach_from = some ⟨oc_Machine_reach_from, od_Machine_reach_from, .func (PySem.W.fnOf "reach_from" "Machine.reach_from" (defArgs st_Machine_reach_from) (defBody st_Machine_reach_from) (defScope st_Machine_reach_from) .none kV_Machine_reach_from dc_Machine_reach_from pm_Machine_reach_from an_Machine_reach_from cd_Machine_reach_from ct_Machine_reach_from), sl_Machine_reach_from⟩)
    (c_Machine_reach_from : PySem.W.codeIn K cd_Machine_reach_from "Machine.reach_from" = true)
    (k_Machine_reach_from : PySem.W.keepIn K (.ref f_Machine_reach_from) = true)
    (l_Machine_reached : K.lookup f_Machine_reached = some ⟨oc_Machine_reached, od_Machine_reached, .func (PySem.W.fnOf "reached" "Machine.reached" (defArgs st_Machine_reached) (defBody st_Machine_reached) (defScope st_Machine_reached) .none kV_Machine_reached dc_Machine_reached pm_Machine_reached an_Machine_reached cd_Machine_reached ct_Machine_reached), sl_Machine_reached⟩)
    (c_Machine_reached : PySem.W.codeIn K cd_Machine_reached "Machine.reached" = true)
    (k_Machine_reached : PySem.W.keepIn K (.ref f_Machine_reached) = true)
    (l_Machine_comers : K.lookup f_Machine_comers = some ⟨oc_Machine_comers, od_Machine_comers, .func (PySem.W.fnOf "comers" "Machine.comers" (defArgs st_Machine_comers) (defBody st_Machine_comers) (defScope st_Machine_comers) .none kV_Machine_comers dc_Machine_comers pm_Machine_comers an_Machine_comers cd_Machine_comers ct_Machine_comers), sl_Machine_comers⟩)
    (c_Machine_comers : PySem.W.codeIn K cd_Machine_comers "Machine.comers" = true)
    (k_Machine_comers : PySem.W.keepIn K (.ref f_Machine_comers) = true)
    (l_do_make : K.lookup f_do_make = some ⟨oc_do_make, od_do_make, .func (PySem.W.fnOf "do_make" "do_make" (defArgs st_do_make) (defBody st_do_make) (defScope st_do_make) .none kV_do_make dc_do_make pm_do_make an_do_make cd_do_make ct_do_make), sl_do_make⟩)
    (c_do_make : PySem.W.codeIn K cd_do_make "do_make" = true)
    (k_do_make : PySem.W.keepIn K (.ref f_do_make) = true)
    (l_do_wish : K.lookup f_do_wish = some ⟨oc_do_wish, od_do_wish, .func (PySem.W.fnOf "do_wish" "do_wish" (defArgs st_do_wish) (defBody st_do_wish) (defScope st_do_wish) .none kV_do_wish dc_do_wish pm_do_wish an_do_wish cd_do_wish ct_do_wish), sl_do_wish⟩)
    (c_do_wish : PySem.W.codeIn K cd_do_wish "do_wish" = true)
    (k_do_wish : PySem.W.keepIn K (.ref f_do_wish) = true)
    (l_do_keep : K.lookup f_do_keep = some ⟨oc_do_keep, od_do_keep, .func (PySem.W.fnOf "do_keep" "do_keep" (defArgs st_do_keep) (defBody st_do_keep) (defScope st_do_keep) .none kV_do_keep dc_do_keep pm_do_keep an_do_keep cd_do_keep ct_do_keep), sl_do_keep⟩)
    (c_do_keep : PySem.W.codeIn K cd_do_keep "do_keep" = true)
    (k_do_keep : PySem.W.keepIn K (.ref f_do_keep) = true)
    (l_do_name : K.lookup f_do_name = some ⟨oc_do_name, od_do_name, .func (PySem.W.fnOf "do_name" "do_name" (defArgs st_do_name) (defBody st_do_name) (defScope st_do_name) .none kV_do_name dc_do_name pm_do_name an_do_name cd_do_name ct_do_name), sl_do_name⟩)
    (c_do_name : PySem.W.codeIn K cd_do_name "do_name" = true)
    (k_do_name : PySem.W.keepIn K (.ref f_do_name) = true)
    (l_do_drop : K.lookup f_do_drop = some ⟨oc_do_drop, od_do_drop, .func (PySem.W.fnOf "do_drop" "do_drop" (defArgs st_do_drop) (defBody st_do_drop) (defScope st_do_drop) .none kV_do_drop dc_do_drop pm_do_drop an_do_drop cd_do_drop ct_do_drop), sl_do_drop⟩)
    (c_do_drop : PySem.W.codeIn K cd_do_drop "do_drop" = true)
    (k_do_drop : PySem.W.keepIn K (.ref f_do_drop) = true)
    (l_do_hold : K.lookup f_do_hold = some ⟨oc_do_hold, od_do_hold, .func (PySem.W.fnOf "do_hold" "do_hold" (defArgs st_do_hold) (defBody st_do_hold) (defScope st_do_hold) .none kV_do_hold dc_do_hold pm_do_hold an_do_hold cd_do_hold ct_do_hold), sl_do_hold⟩)
    (c_do_hold : PySem.W.codeIn K cd_do_hold "do_hold" = true)
    (k_do_hold : PySem.W.keepIn K (.ref f_do_hold) = true)
    (l_do_weak : K.lookup f_do_weak = some ⟨oc_do_weak, od_do_weak, .func (PySem.W.fnOf "do_weak" "do_weak" (defArgs st_do_weak) (defBody st_do_weak) (defScope st_do_weak) .none kV_do_weak dc_do_weak pm_do_weak an_do_weak cd_do_weak ct_do_weak), sl_do_weak⟩)
    (c_do_weak : PySem.W.codeIn K cd_do_weak "do_weak" = true)
    (k_do_weak : PySem.W.keepIn K (.ref f_do_weak) = true)
    (l_do_cut : K.lookup f_do_cut = some ⟨oc_do_cut, od_do_cut, .func (PySem.W.fnOf "do_cut" "do_cut" (defArgs st_do_cut) (defBody st_do_cut) (defScope st_do_cut) .none kV_do_cut dc_do_cut pm_do_cut an_do_cut cd_do_cut ct_do_cut), sl_do_cut⟩)
    (c_do_cut : PySem.W.codeIn K cd_do_cut "do_cut" = true)
    (k_do_cut : PySem.W.keepIn K (.ref f_do_cut) = true)
    (l_do_take : K.lookup f_do_take = some ⟨oc_do_take, od_do_take, .func (PySem.W.fnOf "do_take" "do_take" (defArgs st_do_take) (defBody st_do_take) (defScope st_do_take) .none kV_do_take dc_do_take pm_do_take an_do_take cd_do_take ct_do_take), sl_do_take⟩)
    (c_do_take : PySem.W.codeIn K cd_do_take "do_take" = true)
    (k_do_take : PySem.W.keepIn K (.ref f_do_take) = true)
    (l_do_say : K.lookup f_do_say = some ⟨oc_do_say, od_do_say, .func (PySem.W.fnOf "do_say" "do_say" (defArgs st_do_say) (defBody st_do_say) (defScope st_do_say) .none kV_do_say dc_do_say pm_do_say an_do_say cd_do_say ct_do_say), sl_do_say⟩)
    (c_do_say : PySem.W.codeIn K cd_do_say "do_say" = true)
    (k_do_say : PySem.W.keepIn K (.ref f_do_say) = true)
    (l_is_true : K.lookup f_is_true = some ⟨oc_is_true, od_is_true, .func (PySem.W.fnOf "is_true" "is_true" (defArgs st_is_true) (defBody st_is_true) (defScope st_is_true) .none kV_is_true dc_is_true pm_is_true an_is_true cd_is_true ct_is_true), sl_is_true⟩)
    (c_is_true : PySem.W.codeIn K cd_is_true "is_true" = true)
    (k_is_true : PySem.W.keepIn K (.ref f_is_true) = true)
    (l_do_ask : K.lookup f_do_ask = some ⟨oc_do_ask, od_do_ask, .func (PySem.W.fnOf "do_ask" "do_ask" (defArgs st_do_ask) (defBody st_do_ask) (defScope st_do_ask) .none kV_do_ask dc_do_ask pm_do_ask an_do_ask cd_do_ask ct_do_ask), sl_do_ask⟩)
    (c_do_ask : PySem.W.codeIn K cd_do_ask "do_ask" = true)
    (k_do_ask : PySem.W.keepIn K (.ref f_do_ask) = true)
    (l_Collected_wanted : K.lookup f_Collected_wanted = some ⟨oc_Collected_wanted, od_Collected_wanted, .func (PySem.W.fnOf "wanted" "Collected.wanted" (defArgs st_Collected_wanted) (defBody st_Collected_wanted) (defScope st_Collected_wanted) .none kV_Collected_wanted dc_Collected_wanted pm_Collected_wanted an_Collected_wanted cd_Collected_wanted ct_Collected_wanted), sl_Collected_wanted⟩)
    (c_Collected_wanted : PySem.W.codeIn K cd_Collected_wanted "Collected.wanted" = true)
    (k_Collected_wanted : PySem.W.keepIn K (.ref f_Collected_wanted) = true)
    (l_Planned_wanted : K.lookup f_Planned_wanted = some ⟨oc_Planned_wanted, od_Planned_wanted, .func (PySem.W.fnOf "wanted" "Planned.wanted" (defArgs st_Planned_wanted) (defBody st_Planned_wanted) (defScope st_Planned_wanted) .none kV_Planned_wanted dc_Planned_wanted pm_Planned_wanted an_Planned_wanted cd_Planned_wanted ct_Planned_wanted), sl_Planned_wanted⟩)
    (c_Planned_wanted : PySem.W.codeIn K cd_Planned_wanted "Planned.wanted" = true)
    (k_Planned_wanted : PySem.W.keepIn K (.ref f_Planned_wanted) = true)
    (l_Collected_begin_moment : K.lookup f_Collected_begin_moment = some ⟨oc_Collected_begin_moment, od_Collected_begin_moment, .func (PySem.W.fnOf "begin_moment" "Collected.begin_moment" (defArgs st_Collected_begin_moment) (defBody st_Collected_begin_moment) (defScope st_Collected_begin_moment) .none kV_Collected_begin_moment dc_Collected_begin_moment pm_Collected_begin_moment an_Collected_begin_moment cd_Collected_begin_moment ct_Collected_begin_moment), sl_Collected_begin_moment⟩)
    (c_Collected_begin_moment : PySem.W.codeIn K cd_Collected_begin_moment "Collected.begin_moment" = true)
    (k_Collected_begin_moment : PySem.W.keepIn K (.ref f_Collected_begin_moment) = true)
    (l_enter : K.lookup f_enter = some ⟨oc_enter, od_enter, .func (PySem.W.fnOf "enter" "enter" (defArgs st_enter) (defBody st_enter) (defScope st_enter) .none kV_enter dc_enter pm_enter an_enter cd_enter ct_enter), sl_enter⟩)
    (c_enter : PySem.W.codeIn K cd_enter "enter" = true)
    (k_enter : PySem.W.keepIn K (.ref f_enter) = true)
    (l_Collected_end_moment : K.lookup f_Collected_end_moment = some ⟨oc_Collected_end_moment, od_Collected_end_moment, .func (PySem.W.fnOf "end_moment" "Collected.end_moment" (defArgs st_Collected_end_moment) (defBody st_Collected_end_moment) (defScope st_Collected_end_moment) .none kV_Collected_end_moment dc_Collected_end_moment pm_Collected_end_moment an_Collected_end_moment cd_Collected_end_moment ct_Collected_end_moment), sl_Collected_end_moment⟩)
    (c_Collected_end_moment : PySem.W.codeIn K cd_Collected_end_moment "Collected.end_moment" = true)
    (k_Collected_end_moment : PySem.W.keepIn K (.ref f_Collected_end_moment) = true)
    (l_execute : K.lookup f_execute = some ⟨oc_execute, od_execute, .func (PySem.W.fnOf "execute" "execute" (defArgs st_execute) (defBody st_execute) (defScope st_execute) .none kV_execute dc_execute pm_execute an_execute cd_execute ct_execute), sl_execute⟩)
    (c_execute : PySem.W.codeIn K cd_execute "execute" = true)
    (k_execute : PySem.W.keepIn K (.ref f_execute) = true)
    (l_finish : K.lookup f_finish = some ⟨oc_finish, od_finish, .func (PySem.W.fnOf "finish" "finish" (defArgs st_finish) (defBody st_finish) (defScope st_finish) .none kV_finish dc_finish pm_finish an_finish cd_finish ct_finish), sl_finish⟩)
    (c_finish : PySem.W.codeIn K cd_finish "finish" = true)
    (k_finish : PySem.W.keepIn K (.ref f_finish) = true)
    (l_CollectedU_initU : K.lookup f_CollectedU_initU = some ⟨oc_CollectedU_initU, od_CollectedU_initU, .func (PySem.W.ksFn "__init__" "Collected.__init__" (defArgs st_CollectedU_initU) (defBody st_CollectedU_initU) (defScope st_CollectedU_initU) .none kV_CollectedU_initU dc_CollectedU_initU pm_CollectedU_initU an_CollectedU_initU (.ref cda_CollectedU_initU) ct_CollectedU_initU cc_CollectedU_initU), sl_CollectedU_initU⟩)
    (c_CollectedU_initU : PySem.W.codeIn K (.ref cda_CollectedU_initU) "Collected.__init__" = true)
    (k_CollectedU_initU : PySem.W.keepIn K (.ref f_CollectedU_initU) = true)
    (lc_CollectedU_initU : K.lookup cda_CollectedU_initU = some ⟨ccl_CollectedU_initU, cdd_CollectedU_initU, .fields cvs_CollectedU_initU, ccs_CollectedU_initU⟩)
    (lv_CollectedU_initU : cvs_CollectedU_initU[2]? = some (.str file tf_CollectedU_initU))
    (le_CollectedU_initU : K.lookup cc_CollectedU_initU = some ⟨ocl_CollectedU_initU, ocd_CollectedU_initU, .cell (some (.ref C_Collected)), ocs_CollectedU_initU⟩)
    (lz_CollectedU_initU : PySem.W.clsIn K C_Collected = some cdD_CollectedU_initU)
    (l_PlannedU_initU : K.lookup f_PlannedU_initU = some ⟨oc_PlannedU_initU, od_PlannedU_initU, .func (PySem.W.ksFn "__init__" "Planned.__init__" (defArgs st_PlannedU_initU) (defBody st_PlannedU_initU) (defScope st_PlannedU_initU) .none kV_PlannedU_initU dc_PlannedU_initU pm_PlannedU_initU an_PlannedU_initU (.ref cda_PlannedU_initU) ct_PlannedU_initU cc_PlannedU_initU), sl_PlannedU_initU⟩)
    (c_PlannedU_initU : PySem.W.codeIn K (.ref cda_PlannedU_initU) "Planned.__init__" = true)
    (k_PlannedU_initU : PySem.W.keepIn K (.ref f_PlannedU_initU) = true)
    (lc_PlannedU_initU : K.lookup cda_PlannedU_initU = some ⟨ccl_PlannedU_initU, cdd_PlannedU_initU, .fields cvs_PlannedU_initU, ccs_PlannedU_initU⟩)
    (lv_PlannedU_initU : cvs_PlannedU_initU[2]? = some (.str file tf_PlannedU_initU))
    (le_PlannedU_initU : K.lookup cc_PlannedU_initU = some ⟨ocl_PlannedU_initU, ocd_PlannedU_initU, .cell (some (.ref C_Planned)), ocs_PlannedU_initU⟩)
    (lz_PlannedU_initU : PySem.W.clsIn K C_Planned = some cdD_PlannedU_initU)
    (l_result_of : K.lookup f_result_of = some ⟨oc_result_of, od_result_of, .func (PySem.W.fnOf "result_of" "result_of" (defArgs st_result_of) (defBody st_result_of) (defScope st_result_of) .none kV_result_of dc_result_of pm_result_of an_result_of cd_result_of ct_result_of), sl_result_of⟩)
    (c_result_of : PySem.W.codeIn K cd_result_of "result_of" = true)
    (k_result_of : PySem.W.keepIn K (.ref f_result_of) = true)
    (l_run : K.lookup f_run = some ⟨oc_run, od_run, .func (PySem.W.fnOf "run" "run" (defArgs st_run) (defBody st_run) (defScope st_run) (.ref dT_run) (.ref kD_run) dc_run pm_run an_run cd_run ct_run), sl_run⟩)
    (kw_run_0 : PySem.W.nsIn K kD_run "paused" = some (some (.ref e_run_1)))
    (lE_run_1 : K.lookup e_run_1 = some ⟨.type "tuple", odE_run_1, .seq #[] nE_run_1, slE_run_1⟩)
    (lT_run : K.lookup dT_run = some ⟨ocT_run, odT_run, .seq #[.ref e_run_0] nT_run, slT_run⟩)
    (lE_run_0 : K.lookup e_run_0 = some ⟨.type "tuple", odE_run_0, .seq #[] nE_run_0, slE_run_0⟩)
    (c_run : PySem.W.codeIn K cd_run "run" = true)
    (k_run : PySem.W.keepIn K (.ref f_run) = true)
    (l__law_deck : K.lookup f__law_deck = some ⟨oc__law_deck, od__law_deck, .func (PySem.W.fnOf "_law_deck" "_law_deck" (defArgs st__law_deck) (defBody st__law_deck) (defScope st__law_deck) .none kV__law_deck dc__law_deck pm__law_deck an__law_deck cd__law_deck ct__law_deck), sl__law_deck⟩)
    (c__law_deck : PySem.W.codeIn K cd__law_deck "_law_deck" = true)
    (k__law_deck : PySem.W.keepIn K (.ref f__law_deck) = true)
    (l__law_draw : K.lookup f__law_draw = some ⟨oc__law_draw, od__law_draw, .func (PySem.W.fnOf "_law_draw" "_law_draw" (defArgs st__law_draw) (defBody st__law_draw) (defScope st__law_draw) .none kV__law_draw dc__law_draw pm__law_draw an__law_draw cd__law_draw ct__law_draw), sl__law_draw⟩)
    (c__law_draw : PySem.W.codeIn K cd__law_draw "_law_draw" = true)
    (k__law_draw : PySem.W.keepIn K (.ref f__law_draw) = true)
    (l__law_one : K.lookup f__law_one = some ⟨oc__law_one, od__law_one, .func (PySem.W.fnOf "_law_one" "_law_one" (defArgs st__law_one) (defBody st__law_one) (defScope st__law_one) .none kV__law_one dc__law_one pm__law_one an__law_one cd__law_one ct__law_one), sl__law_one⟩)
    (c__law_one : PySem.W.codeIn K cd__law_one "_law_one" = true)
    (k__law_one : PySem.W.keepIn K (.ref f__law_one) = true)
    (l__law_names : K.lookup f__law_names = some ⟨oc__law_names, od__law_names, .func (PySem.W.fnOf "_law_names" "_law_names" (defArgs st__law_names) (defBody st__law_names) (defScope st__law_names) .none kV__law_names dc__law_names pm__law_names an__law_names cd__law_names ct__law_names), sl__law_names⟩)
    (c__law_names : PySem.W.codeIn K cd__law_names "_law_names" = true)
    (k__law_names : PySem.W.keepIn K (.ref f__law_names) = true)
    (l__law_row : K.lookup f__law_row = some ⟨oc__law_row, od__law_row, .func (PySem.W.fnOf "_law_row" "_law_row" (defArgs st__law_row) (defBody st__law_row) (defScope st__law_row) .none kV__law_row dc__law_row pm__law_row an__law_row cd__law_row ct__law_row), sl__law_row⟩)
    (c__law_row : PySem.W.codeIn K cd__law_row "_law_row" = true)
    (k__law_row : PySem.W.keepIn K (.ref f__law_row) = true)
    (l_law : K.lookup f_law = some ⟨oc_law, od_law, .func (PySem.W.fnOf "law" "law" (defArgs st_law) (defBody st_law) (defScope st_law) .none kV_law dc_law pm_law an_law cd_law ct_law), sl_law⟩)
    (c_law : PySem.W.codeIn K cd_law "law" = true)
    (k_law : PySem.W.keepIn K (.ref f_law) = true)
    (l_StoppedU_initU : K.lookup f_StoppedU_initU = some ⟨oc_StoppedU_initU, od_StoppedU_initU, .func (PySem.W.fnOf "__init__" "Stopped.__init__" (defArgs st_StoppedU_initU) (defBody st_StoppedU_initU) (defScope st_StoppedU_initU) .none kV_StoppedU_initU dc_StoppedU_initU pm_StoppedU_initU an_StoppedU_initU cd_StoppedU_initU ct_StoppedU_initU), sl_StoppedU_initU⟩)
    (c_StoppedU_initU : PySem.W.codeIn K cd_StoppedU_initU "Stopped.__init__" = true)
    (k_StoppedU_initU : PySem.W.keepIn K (.ref f_StoppedU_initU) = true)
    (pg_Machine : PySem.W.plainGet K C_Machine Str.empty = true)
    (hd_Machine : PySem.W.hasDictIn K C_Machine = true)
    (po_Machine : PySem.W.plainOver K C_Machine = true)
    (sa_Machine : PySem.W.findIn K (.ref C_Machine) "__setattr__" = some (some (.builtin "object.__setattr__")))
    (na_Machine_at_place : PySem.W.findIn K (.ref C_Machine) "at_place" = some none)
    (na_Machine_bits : PySem.W.findIn K (.ref C_Machine) "bits" = some none)
    (na_Machine_block : PySem.W.findIn K (.ref C_Machine) "block" = some none)
    (na_Machine_cleared : PySem.W.findIn K (.ref C_Machine) "cleared" = some none)
    (na_Machine_contents : PySem.W.findIn K (.ref C_Machine) "contents" = some none)
    (na_Machine_kept : PySem.W.findIn K (.ref C_Machine) "kept" = some none)
    (na_Machine_lost : PySem.W.findIn K (.ref C_Machine) "lost" = some none)
    (na_Machine_moment : PySem.W.findIn K (.ref C_Machine) "moment" = some none)
    (na_Machine_quiet_places : PySem.W.findIn K (.ref C_Machine) "quiet_places" = some none)
    (na_Machine_replies : PySem.W.findIn K (.ref C_Machine) "replies" = some none)
    (na_Machine_spoken : PySem.W.findIn K (.ref C_Machine) "spoken" = some none)
    (na_Machine_stands : PySem.W.findIn K (.ref C_Machine) "stands" = some none)
    (na_Machine_there : PySem.W.findIn K (.ref C_Machine) "there" = some none)
    (na_Machine_wishes : PySem.W.findIn K (.ref C_Machine) "wishes" = some none)
    (na_Machine_wishes_at : PySem.W.findIn K (.ref C_Machine) "wishes_at" = some none)
    (mi_Machine_ask : PySem.W.isFn K (.ref f_Machine_ask) = true)
    (mi_Machine_begin_moment : PySem.W.isFn K (.ref f_Machine_begin_moment) = true)
    (mi_Machine_cell_of : PySem.W.isFn K (.ref f_Machine_cell_of) = true)
    (mi_Machine_comers : PySem.W.isFn K (.ref f_Machine_comers) = true)
    (mi_Machine_decide : PySem.W.isFn K (.ref f_Machine_decide) = true)
    (mi_Machine_end_moment : PySem.W.isFn K (.ref f_Machine_end_moment) = true)
    (mi_Machine_fill : PySem.W.isFn K (.ref f_Machine_fill) = true)
    (mi_Machine_held_by : PySem.W.isFn K (.ref f_Machine_held_by) = true)
    (mi_Machine_note : PySem.W.isFn K (.ref f_Machine_note) = true)
    (mi_Machine_reach_from : PySem.W.isFn K (.ref f_Machine_reach_from) = true)
    (mi_Machine_reached : PySem.W.isFn K (.ref f_Machine_reached) = true)
    (mi_Machine_stand : PySem.W.isFn K (.ref f_Machine_stand) = true)
    (pg_Collected : PySem.W.plainGet K C_Collected Str.empty = true)
    (hd_Collected : PySem.W.hasDictIn K C_Collected = true)
    (po_Collected : PySem.W.plainOver K C_Collected = true)
    (sa_Collected : PySem.W.findIn K (.ref C_Collected) "__setattr__" = some (some (.builtin "object.__setattr__")))
    (na_Collected_at_place : PySem.W.findIn K (.ref C_Collected) "at_place" = some none)
    (na_Collected_bits : PySem.W.findIn K (.ref C_Collected) "bits" = some none)
    (na_Collected_block : PySem.W.findIn K (.ref C_Collected) "block" = some none)
    (na_Collected_cleared : PySem.W.findIn K (.ref C_Collected) "cleared" = some none)
    (na_Collected_contents : PySem.W.findIn K (.ref C_Collected) "contents" = some none)
    (na_Collected_kept : PySem.W.findIn K (.ref C_Collected) "kept" = some none)
    (na_Collected_lost : PySem.W.findIn K (.ref C_Collected) "lost" = some none)
    (na_Collected_moment : PySem.W.findIn K (.ref C_Collected) "moment" = some none)
    (na_Collected_quiet_places : PySem.W.findIn K (.ref C_Collected) "quiet_places" = some none)
    (na_Collected_replies : PySem.W.findIn K (.ref C_Collected) "replies" = some none)
    (na_Collected_spoken : PySem.W.findIn K (.ref C_Collected) "spoken" = some none)
    (na_Collected_stands : PySem.W.findIn K (.ref C_Collected) "stands" = some none)
    (na_Collected_there : PySem.W.findIn K (.ref C_Collected) "there" = some none)
    (na_Collected_wishes : PySem.W.findIn K (.ref C_Collected) "wishes" = some none)
    (na_Collected_wishes_at : PySem.W.findIn K (.ref C_Collected) "wishes_at" = some none)
    (mi_Collected_ask : PySem.W.isFn K (.ref f_Machine_ask) = true)
    (mi_Collected_begin_moment : PySem.W.isFn K (.ref f_Collected_begin_moment) = true)
    (mi_Collected_cell_of : PySem.W.isFn K (.ref f_Machine_cell_of) = true)
    (mi_Collected_comers : PySem.W.isFn K (.ref f_Machine_comers) = true)
    (mi_Collected_decide : PySem.W.isFn K (.ref f_Machine_decide) = true)
    (mi_Collected_end_moment : PySem.W.isFn K (.ref f_Collected_end_moment) = true)
    (mi_Collected_fill : PySem.W.isFn K (.ref f_Machine_fill) = true)
    (mi_Collected_held_by : PySem.W.isFn K (.ref f_Machine_held_by) = true)
    (mi_Collected_note : PySem.W.isFn K (.ref f_Machine_note) = true)
    (mi_Collected_reach_from : PySem.W.isFn K (.ref f_Machine_reach_from) = true)
    (mi_Collected_reached : PySem.W.isFn K (.ref f_Machine_reached) = true)
    (mi_Collected_stand : PySem.W.isFn K (.ref f_Machine_stand) = true)
    (mi_Collected_wanted : PySem.W.isFn K (.ref f_Collected_wanted) = true)
    (pg_Planned : PySem.W.plainGet K C_Planned Str.empty = true)
    (hd_Planned : PySem.W.hasDictIn K C_Planned = true)
    (po_Planned : PySem.W.plainOver K C_Planned = true)
    (sa_Planned : PySem.W.findIn K (.ref C_Planned) "__setattr__" = some (some (.builtin "object.__setattr__")))
    (mm_Planned : PySem.W.makesIn K C_Planned = true)
    (kc_Planned : PySem.W.keepIn K (.ref C_Planned) = true)
    (ii_Planned : PySem.W.isFn K (.ref f_PlannedU_initU) = true)
    (na_Planned_at_place : PySem.W.findIn K (.ref C_Planned) "at_place" = some none)
    (na_Planned_bits : PySem.W.findIn K (.ref C_Planned) "bits" = some none)
    (na_Planned_block : PySem.W.findIn K (.ref C_Planned) "block" = some none)
    (na_Planned_cleared : PySem.W.findIn K (.ref C_Planned) "cleared" = some none)
    (na_Planned_contents : PySem.W.findIn K (.ref C_Planned) "contents" = some none)
    (na_Planned_kept : PySem.W.findIn K (.ref C_Planned) "kept" = some none)
    (na_Planned_lost : PySem.W.findIn K (.ref C_Planned) "lost" = some none)
    (na_Planned_moment : PySem.W.findIn K (.ref C_Planned) "moment" = some none)
    (na_Planned_quiet_places : PySem.W.findIn K (.ref C_Planned) "quiet_places" = some none)
    (na_Planned_replies : PySem.W.findIn K (.ref C_Planned) "replies" = some none)
    (na_Planned_spoken : PySem.W.findIn K (.ref C_Planned) "spoken" = some none)
    (na_Planned_stands : PySem.W.findIn K (.ref C_Planned) "stands" = some none)
    (na_Planned_there : PySem.W.findIn K (.ref C_Planned) "there" = some none)
    (na_Planned_wishes : PySem.W.findIn K (.ref C_Planned) "wishes" = some none)
    (na_Planned_wishes_at : PySem.W.findIn K (.ref C_Planned) "wishes_at" = some none)
    (mi_Planned_ask : PySem.W.isFn K (.ref f_Machine_ask) = true)
    (mi_Planned_begin_moment : PySem.W.isFn K (.ref f_Collected_begin_moment) = true)
    (mi_Planned_cell_of : PySem.W.isFn K (.ref f_Machine_cell_of) = true)
    (mi_Planned_comers : PySem.W.isFn K (.ref f_Machine_comers) = true)
    (mi_Planned_decide : PySem.W.isFn K (.ref f_Machine_decide) = true)
    (mi_Planned_end_moment : PySem.W.isFn K (.ref f_Collected_end_moment) = true)
    (mi_Planned_fill : PySem.W.isFn K (.ref f_Machine_fill) = true)
    (mi_Planned_held_by : PySem.W.isFn K (.ref f_Machine_held_by) = true)
    (mi_Planned_note : PySem.W.isFn K (.ref f_Machine_note) = true)
    (mi_Planned_reach_from : PySem.W.isFn K (.ref f_Machine_reach_from) = true)
    (mi_Planned_reached : PySem.W.isFn K (.ref f_Machine_reached) = true)
    (mi_Planned_stand : PySem.W.isFn K (.ref f_Machine_stand) = true)
    (mi_Planned_wanted : PySem.W.isFn K (.ref f_Planned_wanted) = true)
    (xl_Stopped : K.lookup C_Stopped = some (excClassObj xnm_Stopped xq_Stopped C_Stopped xN_Stopped xbs_Stopped [.type "Exception", .type "BaseException", .type "object"] true xsn_Stopped xsub_Stopped xab_Stopped xcol_Stopped xdd_Stopped xk0_Stopped xk1_Stopped xk2_Stopped xk3_Stopped xk5_Stopped "Exception.__new__"))
    (xsa_Stopped : PySem.W.findIn K (.ref C_Stopped) "__setattr__" = some (some (.builtin "object.__setattr__")))
    (xga_Stopped : PySem.W.findIn K (.ref C_Stopped) "__getattribute__" = some (some (.builtin "BaseException.__getattribute__")))
    (xgg_Stopped : PySem.W.findIn K (.ref C_Stopped) "__getattr__" = some none)
    (xno_Stopped : PySem.W.findIn K (.ref C_Stopped) "why" = some none)
    (xkc_Stopped : PySem.W.keepIn K (.ref C_Stopped) = true)
    (xex_Stopped : PySem.W.subIn K (.ref C_Stopped) (.type "BaseException") = some true)
    (xty_Stopped : PySem.W.typeIn K (.ref C_Stopped) = some (.type "type"))
    (xhd_Stopped : PySem.W.hasDictIn K C_Stopped = true)
    (xti_Stopped : PySem.W.typeIn K (.ref f_StoppedU_initU) = some (.type "function"))
    (em_Stopped_Stopped : PySem.W.exmOne K (.ref C_Stopped) (.ref C_Stopped) = some true)
    (nf_Stopped_Stopped_why : PySem.W.findIn K (.ref C_Stopped) "why" = some none)
    (lD_DEEDS : K.lookup t_DEEDS = some ⟨.type "dict", none, .dict es_DEEDS n_DEEDS, #[]⟩)
    (kl_DEEDS : PySem.W.KeysLit w.params es_DEEDS.toList)
    (kn_DEEDS_0 : PySem.W.nsIn K t_DEEDS "make" = some (some (.ref f_do_make)))
    (kn_DEEDS_1 : PySem.W.nsIn K t_DEEDS "wish" = some (some (.ref f_do_wish)))
    (kn_DEEDS_2 : PySem.W.nsIn K t_DEEDS "keep" = some (some (.ref f_do_keep)))
    (kn_DEEDS_3 : PySem.W.nsIn K t_DEEDS "name" = some (some (.ref f_do_name)))
    (kn_DEEDS_4 : PySem.W.nsIn K t_DEEDS "drop" = some (some (.ref f_do_drop)))
    (kn_DEEDS_5 : PySem.W.nsIn K t_DEEDS "hold" = some (some (.ref f_do_hold)))
    (kn_DEEDS_6 : PySem.W.nsIn K t_DEEDS "weak" = some (some (.ref f_do_weak)))
    (kn_DEEDS_7 : PySem.W.nsIn K t_DEEDS "cut" = some (some (.ref f_do_cut)))
    (kn_DEEDS_8 : PySem.W.nsIn K t_DEEDS "take" = some (some (.ref f_do_take)))
    (kn_DEEDS_9 : PySem.W.nsIn K t_DEEDS "say" = some (some (.ref f_do_say)))
    (kn_DEEDS_10 : PySem.W.nsIn K t_DEEDS "ask" = some (some (.ref f_do_ask)))
    (opq : PySem.W.nsIn K cStatics "thirdparty.any" = some none)
    (z_super : PySem.W.nsIn K mainGlobals "super" = some none)
    (p_file : ((l.prog.main.file : Str) == file) = true)
    (p_sup : (l.prog.main.scope.names.lookup (Str.ofString "super")).isSome = false)
    (st_Collected : PySem.W.typeIn K (.ref f_MachineU_initU) = some (.type "function"))
    (sf_Collected : PySem.W.fnIn K f_MachineU_initU = true)
    (sm_Collected_Collected : PySem.W.mroIn K C_Collected (.ref C_Collected) = some true)
    (ss_Collected_Collected : PySem.W.ks_superIn K C_Collected C_Collected "__init__" = some (some (.ref f_MachineU_initU)))
    (sm_Planned_Collected : PySem.W.mroIn K C_Planned (.ref C_Collected) = some true)
    (ss_Planned_Collected : PySem.W.ks_superIn K C_Planned C_Collected "__init__" = some (some (.ref f_MachineU_initU)))
    (st_Planned : PySem.W.typeIn K (.ref f_CollectedU_initU) = some (.type "function"))
    (sf_Planned : PySem.W.fnIn K f_CollectedU_initU = true)
    (sm_Planned_Planned : PySem.W.mroIn K C_Planned (.ref C_Planned) = some true)
    (ss_Planned_Planned : PySem.W.ks_superIn K C_Planned C_Planned "__init__" = some (some (.ref f_CollectedU_initU)))
    (v_MAX_QUESTIONS : PySem.W.nsIn K mainGlobals "MAX_QUESTIONS" = some (some (.int 200 t_MAX_QUESTIONS)))
    (z_abs : PySem.W.nsIn K mainGlobals "abs" = some none)
    (z_dict : PySem.W.nsIn K mainGlobals "dict" = some none)
    (z_enumerate : PySem.W.nsIn K mainGlobals "enumerate" = some none)
    (z_int : PySem.W.nsIn K mainGlobals "int" = some none)
    (z_len : PySem.W.nsIn K mainGlobals "len" = some none)
    (z_list : PySem.W.nsIn K mainGlobals "list" = some none)
    (z_range : PySem.W.nsIn K mainGlobals "range" = some none)
    (z_repr : PySem.W.nsIn K mainGlobals "repr" = some none)
    (z_sorted : PySem.W.nsIn K mainGlobals "sorted" = some none)
    (z_str : PySem.W.nsIn K mainGlobals "str" = some none)
    (z_sum : PySem.W.nsIn K mainGlobals "sum" = some none)
    (z_tuple : PySem.W.nsIn K mainGlobals "tuple" = some none) :
    ∃ (T : Tb) (fd : FuncData), T.K = K ∧ (∀ (s : Shared) (u : Value), BindsTo s fd ⟨[u], []⟩ [("_law_script", u)]) ∧ ∀ base : Heap, T.K.In base → base.Ns mainGlobals mg → FnG l.prog w T.K mg base 31 fa fd ["_law_script"] (SpM T 1 m_law) := by
  have e := hfa.symm.trans (PySem.W.mg_of X G a_law)
  cases e
  have F_inner_blocks := fun_mk (st := st_inner_blocks) l_inner_blocks c_inner_blocks k_inner_blocks
  have b_inner_blocks := F_inner_blocks.binds (ps := ["statement"]) fun _ _ _ _ _ _ us hl => match us, hl with | [_], _ => rfl
  have F_listed := fun_mk (st := st_listed) l_listed c_listed k_listed
  have b_listed := F_listed.binds (ps := ["block", "depth"]) fun _ _ _ _ _ _ us hl => match us, hl with | [_, _], _ => rfl
  have F_MachineU_initU := fun_mk (st := st_MachineU_initU) l_MachineU_initU c_MachineU_initU k_MachineU_initU
  have b_MachineU_initU := F_MachineU_initU.binds (ps := ["self", "program", "inputs"]) fun _ _ _ _ _ _ us hl => match us, hl with | [_, _, _], _ => rfl
  have F_Machine_begin_moment := fun_mk (st := st_Machine_begin_moment) l_Machine_begin_moment c_Machine_begin_moment k_Machine_begin_moment
  have b_Machine_begin_moment := F_Machine_begin_moment.binds (ps := ["self"]) fun _ _ _ _ _ _ us hl => match us, hl with | [_], _ => rfl
  have F_Machine_decide := fun_mk (st := st_Machine_decide) l_Machine_decide c_Machine_decide k_Machine_decide
  have b_Machine_decide := F_Machine_decide.binds (ps := ["self", "cell"]) fun _ _ _ _ _ _ us hl => match us, hl with | [_, _], _ => rfl
  have F_Machine_note := fun_mk (st := st_Machine_note) l_Machine_note c_Machine_note k_Machine_note
  have b_Machine_note := F_Machine_note.binds (ps := ["self", "event"]) fun _ _ _ _ _ _ us hl => match us, hl with | [_, _], _ => rfl
  have F_Machine_end_moment := fun_mk (st := st_Machine_end_moment) l_Machine_end_moment c_Machine_end_moment k_Machine_end_moment
  have b_Machine_end_moment := F_Machine_end_moment.binds (ps := ["self"]) fun _ _ _ _ _ _ us hl => match us, hl with | [_], _ => rfl
  have F_Machine_ask := fun_mk (st := st_Machine_ask) l_Machine_ask c_Machine_ask k_Machine_ask
  have b_Machine_ask := F_Machine_ask.binds (ps := ["self", "cell"]) fun _ _ _ _ _ _ us hl => match us, hl with | [_, _], _ => rfl
  have F_Machine_cell_of := fun_mk (st := st_Machine_cell_of) l_Machine_cell_of c_Machine_cell_of k_Machine_cell_of
  have b_Machine_cell_of := F_Machine_cell_of.binds (ps := ["self", "name"]) fun _ _ _ _ _ _ us hl => match us, hl with | [_, _], _ => rfl
  have F_Machine_stand := fun_mk (st := st_Machine_stand) l_Machine_stand c_Machine_stand k_Machine_stand
  have b_Machine_stand := F_Machine_stand.binds (ps := ["self", "name", "cell"]) fun _ _ _ _ _ _ us hl => match us, hl with | [_, _, _], _ => rfl
  have F_Machine_fill := fun_mk (st := st_Machine_fill) l_Machine_fill c_Machine_fill k_Machine_fill
  have b_Machine_fill := F_Machine_fill.binds (ps := ["self", "holder", "field", "cell", "is_strong"]) fun _ _ _ _ _ _ us hl => match us, hl with | [_, _, _, _, _], _ => rfl
  have F_Machine_held_by := fun_mk (st := st_Machine_held_by) l_Machine_held_by c_Machine_held_by k_Machine_held_by
  have b_Machine_held_by := F_Machine_held_by.binds (ps := ["self", "holder"]) fun _ _ _ _ _ _ us hl => match us, hl with | [_, _], _ => rfl
  have F_Machine_reach_from := fun_mk (st := st_Machine_reach_from) l_Machine_reach_from c_Machine_reach_from k_Machine_reach_from
  have b_Machine_reach_from := F_Machine_reach_from.binds (ps := ["self", "starts"]) fun _ _ _ _ _ _ us hl => match us, hl with | [_, _], _ => rfl
  have F_Machine_reached := fun_mk (st := st_Machine_reached) l_Machine_reached c_Machine_reached k_Machine_reached
  have b_Machine_reached := F_Machine_reached.binds (ps := ["self"]) fun _ _ _ _ _ _ us hl => match us, hl with | [_], _ => rfl
  have F_Machine_comers := fun_mk (st := st_Machine_comers) l_Machine_comers c_Machine_comers k_Machine_comers
  have b_Machine_comers := F_Machine_comers.binds (ps := ["self", "cell"]) fun _ _ _ _ _ _ us hl => match us, hl with | [_, _], _ => rfl
  have F_do_make := fun_mk (st := st_do_make) l_do_make c_do_make k_do_make
  have b_do_make := F_do_make.binds (ps := ["machine", "statement"]) fun _ _ _ _ _ _ us hl => match us, hl with | [_, _], _ => rfl
  have F_do_wish := fun_mk (st := st_do_wish) l_do_wish c_do_wish k_do_wish
  have b_do_wish := F_do_wish.binds (ps := ["machine", "statement"]) fun _ _ _ _ _ _ us hl => match us, hl with | [_, _], _ => rfl
  have F_do_keep := fun_mk (st := st_do_keep) l_do_keep c_do_keep k_do_keep
  have b_do_keep := F_do_keep.binds (ps := ["machine", "statement"]) fun _ _ _ _ _ _ us hl => match us, hl with | [_, _], _ => rfl
  have F_do_name := fun_mk (st := st_do_name) l_do_name c_do_name k_do_name
  have b_do_name := F_do_name.binds (ps := ["machine", "statement"]) fun _ _ _ _ _ _ us hl => match us, hl with | [_, _], _ => rfl
  have F_do_drop := fun_mk (st := st_do_drop) l_do_drop c_do_drop k_do_drop
  have b_do_drop := F_do_drop.binds (ps := ["machine", "statement"]) fun _ _ _ _ _ _ us hl => match us, hl with | [_, _], _ => rfl
  have F_do_hold := fun_mk (st := st_do_hold) l_do_hold c_do_hold k_do_hold
  have b_do_hold := F_do_hold.binds (ps := ["machine", "statement"]) fun _ _ _ _ _ _ us hl => match us, hl with | [_, _], _ => rfl
  have F_do_weak := fun_mk (st := st_do_weak) l_do_weak c_do_weak k_do_weak
  have b_do_weak := F_do_weak.binds (ps := ["machine", "statement"]) fun _ _ _ _ _ _ us hl => match us, hl with | [_, _], _ => rfl
  have F_do_cut := fun_mk (st := st_do_cut) l_do_cut c_do_cut k_do_cut
  have b_do_cut := F_do_cut.binds (ps := ["machine", "statement"]) fun _ _ _ _ _ _ us hl => match us, hl with | [_, _], _ => rfl
  have F_do_take := fun_mk (st := st_do_take) l_do_take c_do_take k_do_take
  have b_do_take := F_do_take.binds (ps := ["machine", "statement"]) fun _ _ _ _ _ _ us hl => match us, hl with | [_, _], _ => rfl
  have F_do_say := fun_mk (st := st_do_say) l_do_say c_do_say k_do_say
  have b_do_say := F_do_say.binds (ps := ["machine", "statement"]) fun _ _ _ _ _ _ us hl => match us, hl with | [_, _], _ => rfl
  have F_is_true := fun_mk (st := st_is_true) l_is_true c_is_true k_is_true
  have b_is_true := F_is_true.binds (ps := ["machine", "test"]) fun _ _ _ _ _ _ us hl => match us, hl with | [_, _], _ => rfl
  have F_do_ask := fun_mk (st := st_do_ask) l_do_ask c_do_ask k_do_ask
  have b_do_ask := F_do_ask.binds (ps := ["machine", "statement"]) fun _ _ _ _ _ _ us hl => match us, hl with | [_, _], _ => rfl
  have F_Collected_wanted := fun_mk (st := st_Collected_wanted) l_Collected_wanted c_Collected_wanted k_Collected_wanted
  have b_Collected_wanted := F_Collected_wanted.binds (ps := ["self"]) fun _ _ _ _ _ _ us hl => match us, hl with | [_], _ => rfl
  have F_Planned_wanted := fun_mk (st := st_Planned_wanted) l_Planned_wanted c_Planned_wanted k_Planned_wanted
  have b_Planned_wanted := F_Planned_wanted.binds (ps := ["self"]) fun _ _ _ _ _ _ us hl => match us, hl with | [_], _ => rfl
  have F_Collected_begin_moment := fun_mk (st := st_Collected_begin_moment) l_Collected_begin_moment c_Collected_begin_moment k_Collected_begin_moment
  have b_Collected_begin_moment := F_Collected_begin_moment.binds (ps := ["self"]) fun _ _ _ _ _ _ us hl => match us, hl with | [_], _ => rfl
  have F_enter := fun_mk (st := st_enter) l_enter c_enter k_enter
  have b_enter := F_enter.binds (ps := ["machine", "place"]) fun _ _ _ _ _ _ us hl => match us, hl with | [_, _], _ => rfl
  have F_Collected_end_moment := fun_mk (st := st_Collected_end_moment) l_Collected_end_moment c_Collected_end_moment k_Collected_end_moment
  have b_Collected_end_moment := F_Collected_end_moment.binds (ps := ["self"]) fun _ _ _ _ _ _ us hl => match us, hl with | [_], _ => rfl
  have F_execute := fun_mk (st := st_execute) l_execute c_execute k_execute
  have b_execute := F_execute.binds (ps := ["machine", "block", "place"]) fun _ _ _ _ _ _ us hl => match us, hl with | [_, _, _], _ => rfl
  have F_finish := fun_mk (st := st_finish) l_finish c_finish k_finish
  have b_finish := F_finish.binds (ps := ["machine"]) fun _ _ _ _ _ _ us hl => match us, hl with | [_], _ => rfl
  have S_CollectedU_initU : FunS K mg "Collected.__init__" file st_CollectedU_initU f_CollectedU_initU _ C_Collected cc_CollectedU_initU cda_CollectedU_initU := ⟨⟨_, _, _, _, _, _, _, _, rfl, l_CollectedU_initU, c_CollectedU_initU⟩, k_CollectedU_initU, ⟨_, _, _, _, _, lc_CollectedU_initU, lv_CollectedU_initU⟩, ⟨_, _, _, le_CollectedU_initU⟩, ⟨_, lz_CollectedU_initU⟩, opq, PySem.W.mg_none_of X G z_super⟩
  have b_CollectedU_initU : Binds K (PySem.W.ksFn "__init__" "Collected.__init__" (defArgs st_CollectedU_initU) (defBody st_CollectedU_initU) (defScope st_CollectedU_initU) .none kV_CollectedU_initU dc_CollectedU_initU pm_CollectedU_initU an_CollectedU_initU (.ref cda_CollectedU_initU) ct_CollectedU_initU cc_CollectedU_initU) ["self", "program", "inputs", "paused"] [] := Binds.all fun us hl => match us, hl with | [_, _, _, _], _ => rfl
  have S_PlannedU_initU : FunS K mg "Planned.__init__" file st_PlannedU_initU f_PlannedU_initU _ C_Planned cc_PlannedU_initU cda_PlannedU_initU := ⟨⟨_, _, _, _, _, _, _, _, rfl, l_PlannedU_initU, c_PlannedU_initU⟩, k_PlannedU_initU, ⟨_, _, _, _, _, lc_PlannedU_initU, lv_PlannedU_initU⟩, ⟨_, _, _, le_PlannedU_initU⟩, ⟨_, lz_PlannedU_initU⟩, opq, PySem.W.mg_none_of X G z_super⟩
  have b_PlannedU_initU : Binds K (PySem.W.ksFn "__init__" "Planned.__init__" (defArgs st_PlannedU_initU) (defBody st_PlannedU_initU) (defScope st_PlannedU_initU) .none kV_PlannedU_initU dc_PlannedU_initU pm_PlannedU_initU an_PlannedU_initU (.ref cda_PlannedU_initU) ct_PlannedU_initU cc_PlannedU_initU) ["self", "program", "inputs", "plan", "paused"] [] := Binds.all fun us hl => match us, hl with | [_, _, _, _, _], _ => rfl
  have F_result_of := fun_mk (st := st_result_of) l_result_of c_result_of k_result_of
  have b_result_of := F_result_of.binds (ps := ["machine"]) fun _ _ _ _ _ _ us hl => match us, hl with | [_], _ => rfl
  have F_run : FunD K "run" "run" (defArgs st_run) (defBody st_run) (defScope st_run) [V.ref e_run_0] [("paused", V.ref e_run_1)] f_run _ := ⟨⟨_, _, _, _, _, _, _, _, _, _, rfl, l_run, c_run, .inr ⟨by simp, _, _, [.ref e_run_0], _, rfl, lT_run, rfl, (.cons rfl .nil)⟩, .inr ⟨_, rfl, fun q hq => by obtain rfl := List.mem_singleton.mp hq; exact ⟨_, kw_run_0, rfl⟩⟩⟩, k_run⟩
  have b_run_0 := bindD_of (das := [(.tup []), (.tup [])]) (F_run.binds (ps := ["program", "inputs", "plan", "paused"]) 2 0 (by simp) (by rfl) (fun _ _ _ _ _ _ _ us its ks hl hi hk => match us, its, ks, hl, hi, hk with | [_, _], [_], [_], _, _, _ => ⟨_, rfl, _, _, _, _, _, _, rfl, rfl, rfl⟩) (by simp)) fun T ρ H e => (.cons (empty_rv (by rw [e]; exact lE_run_0)) (.cons (empty_rv (by rw [e]; exact lE_run_1)) .nil))
  have b_run_1 := bindD_of (das := [(.tup [])]) (F_run.binds (ps := ["program", "inputs", "plan", "paused"]) 3 1 (by simp) (by rfl) (fun _ _ _ _ _ _ _ us its ks hl hi hk => match us, its, ks, hl, hi, hk with | [_, _, _], [_], [_], _, _, _ => ⟨_, rfl, _, _, _, _, _, _, rfl, rfl, rfl⟩) (by simp)) fun T ρ H e => (.cons (empty_rv (by rw [e]; exact lE_run_1)) .nil)
  have F__law_deck := fun_mk (st := st__law_deck) l__law_deck c__law_deck k__law_deck
  have b__law_deck := F__law_deck.binds (ps := ["_law_script"]) fun _ _ _ _ _ _ us hl => match us, hl with | [_], _ => rfl
  have F__law_draw := fun_mk (st := st__law_draw) l__law_draw c__law_draw k__law_draw
  have b__law_draw := F__law_draw.binds (ps := ["_law_deck_here", "_law_many"]) fun _ _ _ _ _ _ us hl => match us, hl with | [_, _], _ => rfl
  have F__law_one := fun_mk (st := st__law_one) l__law_one c__law_one k__law_one
  have b__law_one := F__law_one.binds (ps := ["_law_deck_here", "_law_items"]) fun _ _ _ _ _ _ us hl => match us, hl with | [_, _], _ => rfl
  have F__law_names := fun_mk (st := st__law_names) l__law_names c__law_names k__law_names
  have b__law_names := F__law_names.binds (ps := ["_law_deck_here", "_law_count"]) fun _ _ _ _ _ _ us hl => match us, hl with | [_, _], _ => rfl
  have F__law_row := fun_mk (st := st__law_row) l__law_row c__law_row k__law_row
  have b__law_row := F__law_row.binds (ps := ["_law_deck_here", "_law_names_here", "_law_fields"]) fun _ _ _ _ _ _ us hl => match us, hl with | [_, _, _], _ => rfl
  have F_law := fun_mk (st := st_law) l_law c_law k_law
  have b_law := F_law.binds (ps := ["_law_script"]) fun _ _ _ _ _ _ us hl => match us, hl with | [_], _ => rfl
  have F_StoppedU_initU := fun_mk (st := st_StoppedU_initU) l_StoppedU_initU c_StoppedU_initU k_StoppedU_initU
  have b_StoppedU_initU := F_StoppedU_initU.binds (ps := ["self", "why"]) fun _ _ _ _ _ _ us hl => match us, hl with | [_, _], _ => rfl
  have ox_Stopped : OxT K mg "Stopped" "why" C_Stopped f_StoppedU_initU := ⟨PySem.W.mg_of X G aC_Stopped, ⟨_, _, _, _, _, _, _, _, _, _, _, _, _, _, _, _, _, _, _, PySem.F.excBase_Exception, xl_Stopped, fun _ => rfl, fun v => by simp only [refuseLoop_ref]; exact PySem.F.store_Exception.passes v, rfl⟩, xsa_Stopped, xga_Stopped, xgg_Stopped, xno_Stopped, in_X_Stopped, xti_Stopped, xkc_Stopped, xex_Stopped, xty_Stopped, xhd_Stopped, ⟨_, _, _, _, _, _, _, _, F_StoppedU_initU, b_StoppedU_initU, rfl, rfl, rfl, by decide, by decide, rfl, rfl, rfl⟩⟩
  let Z : TX K mg := { file := file, C_Machine := C_Machine, C_Collected := C_Collected, C_Planned := C_Planned, C_Stopped := C_Stopped, gc_Stopped := PySem.W.mg_of X G aC_Stopped, ox_Stopped := ox_Stopped, em_Stopped_Stopped := em_Stopped_Stopped, xc_Stopped_Stopped := ⟨xga_Stopped, xgg_Stopped, xex_Stopped, xhd_Stopped⟩, nf_Stopped_Stopped_why := nf_Stopped_Stopped_why, t_DEEDS := t_DEEDS, es_DEEDS := es_DEEDS, n_DEEDS := n_DEEDS, g_DEEDS := PySem.W.mg_of X G aC_D_DEEDS, lD_DEEDS := lD_DEEDS, kn_DEEDS_0 := kn_DEEDS_0, kn_DEEDS_1 := kn_DEEDS_1, kn_DEEDS_2 := kn_DEEDS_2, kn_DEEDS_3 := kn_DEEDS_3, kn_DEEDS_4 := kn_DEEDS_4, kn_DEEDS_5 := kn_DEEDS_5, kn_DEEDS_6 := kn_DEEDS_6, kn_DEEDS_7 := kn_DEEDS_7, kn_DEEDS_8 := kn_DEEDS_8, kn_DEEDS_9 := kn_DEEDS_9, kn_DEEDS_10 := kn_DEEDS_10, st_Collected := st_Collected, sf_Collected := sf_Collected, sm_Collected_Collected := sm_Collected_Collected, ss_Collected_Collected := ss_Collected_Collected, sm_Planned_Collected := sm_Planned_Collected, ss_Planned_Collected := ss_Planned_Collected, st_Planned := st_Planned, sf_Planned := sf_Planned, sm_Planned_Planned := sm_Planned_Planned, ss_Planned_Planned := ss_Planned_Planned, f_inner_blocks := _, d_inner_blocks := _, F_inner_blocks := F_inner_blocks, b_inner_blocks := b_inner_blocks, g_inner_blocks := PySem.W.mg_of X G a_inner_blocks, f_listed := _, d_listed := _, F_listed := F_listed, b_listed := b_listed, g_listed := PySem.W.mg_of X G a_listed, f_MachineU_initU := _, d_MachineU_initU := _, F_MachineU_initU := F_MachineU_initU, b_MachineU_initU := b_MachineU_initU, f_Machine_begin_moment := _, d_Machine_begin_moment := _, F_Machine_begin_moment := F_Machine_begin_moment, b_Machine_begin_moment := b_Machine_begin_moment, f_Machine_decide := _, d_Machine_decide := _, F_Machine_decide := F_Machine_decide, b_Machine_decide := b_Machine_decide, f_Machine_note := _, d_Machine_note := _, F_Machine_note := F_Machine_note, b_Machine_note := b_Machine_note, f_Machine_end_moment := _, d_Machine_end_moment := _, F_Machine_end_moment := F_Machine_end_moment, b_Machine_end_moment := b_Machine_end_moment, f_Machine_ask := _, d_Machine_ask := _, F_Machine_ask := F_Machine_ask, b_Machine_ask := b_Machine_ask, f_Machine_cell_of := _, d_Machine_cell_of := _, F_Machine_cell_of := F_Machine_cell_of, b_Machine_cell_of := b_Machine_cell_of, f_Machine_stand := _, d_Machine_stand := _, F_Machine_stand := F_Machine_stand, b_Machine_stand := b_Machine_stand, f_Machine_fill := _, d_Machine_fill := _, F_Machine_fill := F_Machine_fill, b_Machine_fill := b_Machine_fill, f_Machine_held_by := _, d_Machine_held_by := _, F_Machine_held_by := F_Machine_held_by, b_Machine_held_by := b_Machine_held_by, f_Machine_reach_from := _, d_Machine_reach_from := _, F_Machine_reach_from := F_Machine_reach_from, b_Machine_reach_from := b_Machine_reach_from, f_Machine_reached := _, d_Machine_reached := _, F_Machine_reached := F_Machine_reached, b_Machine_reached := b_Machine_reached, f_Machine_comers := _, d_Machine_comers := _, F_Machine_comers := F_Machine_comers, b_Machine_comers := b_Machine_comers, f_do_make := _, d_do_make := _, F_do_make := F_do_make, b_do_make := b_do_make, g_do_make := PySem.W.mg_of X G a_do_make, f_do_wish := _, d_do_wish := _, F_do_wish := F_do_wish, b_do_wish := b_do_wish, g_do_wish := PySem.W.mg_of X G a_do_wish, f_do_keep := _, d_do_keep := _, F_do_keep := F_do_keep, b_do_keep := b_do_keep, g_do_keep := PySem.W.mg_of X G a_do_keep, f_do_name := _, d_do_name := _, F_do_name := F_do_name, b_do_name := b_do_name, g_do_name := PySem.W.mg_of X G a_do_name, f_do_drop := _, d_do_drop := _, F_do_drop := F_do_drop, b_do_drop := b_do_drop, g_do_drop := PySem.W.mg_of X G a_do_drop, f_do_hold := _, d_do_hold := _, F_do_hold := F_do_hold, b_do_hold := b_do_hold, g_do_hold := PySem.W.mg_of X G a_do_hold, f_do_weak := _, d_do_weak := _, F_do_weak := F_do_weak, b_do_weak := b_do_weak, g_do_weak := PySem.W.mg_of X G a_do_weak, f_do_cut := _, d_do_cut := _, F_do_cut := F_do_cut, b_do_cut := b_do_cut, g_do_cut := PySem.W.mg_of X G a_do_cut, f_do_take := _, d_do_take := _, F_do_take := F_do_take, b_do_take := b_do_take, g_do_take := PySem.W.mg_of X G a_do_take, f_do_say := _, d_do_say := _, F_do_say := F_do_say, b_do_say := b_do_say, g_do_say := PySem.W.mg_of X G a_do_say, f_is_true := _, d_is_true := _, F_is_true := F_is_true, b_is_true := b_is_true, g_is_true := PySem.W.mg_of X G a_is_true, f_do_ask := _, d_do_ask := _, F_do_ask := F_do_ask, b_do_ask := b_do_ask, g_do_ask := PySem.W.mg_of X G a_do_ask, f_Collected_wanted := _, d_Collected_wanted := _, F_Collected_wanted := F_Collected_wanted, b_Collected_wanted := b_Collected_wanted, f_Planned_wanted := _, d_Planned_wanted := _, F_Planned_wanted := F_Planned_wanted, b_Planned_wanted := b_Planned_wanted, f_Collected_begin_moment := _, d_Collected_begin_moment := _, F_Collected_begin_moment := F_Collected_begin_moment, b_Collected_begin_moment := b_Collected_begin_moment, f_enter := _, d_enter := _, F_enter := F_enter, b_enter := b_enter, g_enter := PySem.W.mg_of X G a_enter, f_Collected_end_moment := _, d_Collected_end_moment := _, F_Collected_end_moment := F_Collected_end_moment, b_Collected_end_moment := b_Collected_end_moment, f_execute := _, d_execute := _, F_execute := F_execute, b_execute := b_execute, g_execute := PySem.W.mg_of X G a_execute, f_finish := _, d_finish := _, F_finish := F_finish, b_finish := b_finish, g_finish := PySem.W.mg_of X G a_finish, f_CollectedU_initU := _, d_CollectedU_initU := _, cc_CollectedU_initU := _, cda_CollectedU_initU := _, S_CollectedU_initU := S_CollectedU_initU, b_CollectedU_initU := b_CollectedU_initU, f_PlannedU_initU := _, d_PlannedU_initU := _, cc_PlannedU_initU := _, cda_PlannedU_initU := _, S_PlannedU_initU := S_PlannedU_initU, b_PlannedU_initU := b_PlannedU_initU, f_result_of := _, d_result_of := _, F_result_of := F_result_of, b_result_of := b_result_of, g_result_of := PySem.W.mg_of X G a_result_of, f_run := _, d_run := _, F_run := F_run, e_run_0 := _, e_run_1 := _, b_run_0 := b_run_0, b_run_1 := b_run_1, g_run := PySem.W.mg_of X G a_run, f__law_deck := _, d__law_deck := _, F__law_deck := F__law_deck, b__law_deck := b__law_deck, g__law_deck := PySem.W.mg_of X G a__law_deck, f__law_draw := _, d__law_draw := _, F__law_draw := F__law_draw, b__law_draw := b__law_draw, g__law_draw := PySem.W.mg_of X G a__law_draw, f__law_one := _, d__law_one := _, F__law_one := F__law_one, b__law_one := b__law_one, g__law_one := PySem.W.mg_of X G a__law_one, f__law_names := _, d__law_names := _, F__law_names := F__law_names, b__law_names := b__law_names, g__law_names := PySem.W.mg_of X G a__law_names, f__law_row := _, d__law_row := _, F__law_row := F__law_row, b__law_row := b__law_row, g__law_row := PySem.W.mg_of X G a__law_row, f_law := _, d_law := _, F_law := F_law, b_law := b_law, g_law := PySem.W.mg_of X G a_law, f_StoppedU_initU := _, d_StoppedU_initU := _, F_StoppedU_initU := F_StoppedU_initU, b_StoppedU_initU := b_StoppedU_initU, cl_Machine := ⟨pg_Machine, hd_Machine, po_Machine, sa_Machine⟩, na_Machine_at_place := na_Machine_at_place, na_Machine_bits := na_Machine_bits, na_Machine_block := na_Machine_block, na_Machine_cleared := na_Machine_cleared, na_Machine_contents := na_Machine_contents, na_Machine_kept := na_Machine_kept, na_Machine_lost := na_Machine_lost, na_Machine_moment := na_Machine_moment, na_Machine_quiet_places := na_Machine_quiet_places, na_Machine_replies := na_Machine_replies, na_Machine_spoken := na_Machine_spoken, na_Machine_stands := na_Machine_stands, na_Machine_there := na_Machine_there, na_Machine_wishes := na_Machine_wishes, na_Machine_wishes_at := na_Machine_wishes_at, mt_Machine_ask := ⟨ma_Machine_ask, mi_Machine_ask, k_Machine_ask⟩, mt_Machine_begin_moment := ⟨ma_Machine_begin_moment, mi_Machine_begin_moment, k_Machine_begin_moment⟩, mt_Machine_cell_of := ⟨ma_Machine_cell_of, mi_Machine_cell_of, k_Machine_cell_of⟩, mt_Machine_comers := ⟨ma_Machine_comers, mi_Machine_comers, k_Machine_comers⟩, mt_Machine_decide := ⟨ma_Machine_decide, mi_Machine_decide, k_Machine_decide⟩, mt_Machine_end_moment := ⟨ma_Machine_end_moment, mi_Machine_end_moment, k_Machine_end_moment⟩, mt_Machine_fill := ⟨ma_Machine_fill, mi_Machine_fill, k_Machine_fill⟩, mt_Machine_held_by := ⟨ma_Machine_held_by, mi_Machine_held_by, k_Machine_held_by⟩, mt_Machine_note := ⟨ma_Machine_note, mi_Machine_note, k_Machine_note⟩, mt_Machine_reach_from := ⟨ma_Machine_reach_from, mi_Machine_reach_from, k_Machine_reach_from⟩, mt_Machine_reached := ⟨ma_Machine_reached, mi_Machine_reached, k_Machine_reached⟩, mt_Machine_stand := ⟨ma_Machine_stand, mi_Machine_stand, k_Machine_stand⟩, cl_Collected := ⟨pg_Collected, hd_Collected, po_Collected, sa_Collected⟩, na_Collected_at_place := na_Collected_at_place, na_Collected_bits := na_Collected_bits, na_Collected_block := na_Collected_block, na_Collected_cleared := na_Collected_cleared, na_Collected_contents := na_Collected_contents, na_Collected_kept := na_Collected_kept, na_Collected_lost := na_Collected_lost, na_Collected_moment := na_Collected_moment, na_Collected_quiet_places := na_Collected_quiet_places, na_Collected_replies := na_Collected_replies, na_Collected_spoken := na_Collected_spoken, na_Collected_stands := na_Collected_stands, na_Collected_there := na_Collected_there, na_Collected_wishes := na_Collected_wishes, na_Collected_wishes_at := na_Collected_wishes_at, mt_Collected_ask := ⟨ma_Collected_ask, mi_Collected_ask, k_Machine_ask⟩, mt_Collected_begin_moment := ⟨ma_Collected_begin_moment, mi_Collected_begin_moment, k_Collected_begin_moment⟩, mt_Collected_cell_of := ⟨ma_Collected_cell_of, mi_Collected_cell_of, k_Machine_cell_of⟩, mt_Collected_comers := ⟨ma_Collected_comers, mi_Collected_comers, k_Machine_comers⟩, mt_Collected_decide := ⟨ma_Collected_decide, mi_Collected_decide, k_Machine_decide⟩, mt_Collected_end_moment := ⟨ma_Collected_end_moment, mi_Collected_end_moment, k_Collected_end_moment⟩, mt_Collected_fill := ⟨ma_Collected_fill, mi_Collected_fill, k_Machine_fill⟩, mt_Collected_held_by := ⟨ma_Collected_held_by, mi_Collected_held_by, k_Machine_held_by⟩, mt_Collected_note := ⟨ma_Collected_note, mi_Collected_note, k_Machine_note⟩, mt_Collected_reach_from := ⟨ma_Collected_reach_from, mi_Collected_reach_from, k_Machine_reach_from⟩, mt_Collected_reached := ⟨ma_Collected_reached, mi_Collected_reached, k_Machine_reached⟩, mt_Collected_stand := ⟨ma_Collected_stand, mi_Collected_stand, k_Machine_stand⟩, mt_Collected_wanted := ⟨ma_Collected_wanted, mi_Collected_wanted, k_Collected_wanted⟩, cl_Planned := ⟨pg_Planned, hd_Planned, po_Planned, sa_Planned⟩, gc_Planned := PySem.W.mg_of X G aC_Planned, mk_Planned := ⟨mm_Planned, in_Planned, ii_Planned, kc_Planned⟩, na_Planned_at_place := na_Planned_at_place, na_Planned_bits := na_Planned_bits, na_Planned_block := na_Planned_block, na_Planned_cleared := na_Planned_cleared, na_Planned_contents := na_Planned_contents, na_Planned_kept := na_Planned_kept, na_Planned_lost := na_Planned_lost, na_Planned_moment := na_Planned_moment, na_Planned_quiet_places := na_Planned_quiet_places, na_Planned_replies := na_Planned_replies, na_Planned_spoken := na_Planned_spoken, na_Planned_stands := na_Planned_stands, na_Planned_there := na_Planned_there, na_Planned_wishes := na_Planned_wishes, na_Planned_wishes_at := na_Planned_wishes_at, mt_Planned_ask := ⟨ma_Planned_ask, mi_Planned_ask, k_Machine_ask⟩, mt_Planned_begin_moment := ⟨ma_Planned_begin_moment, mi_Planned_begin_moment, k_Collected_begin_moment⟩, mt_Planned_cell_of := ⟨ma_Planned_cell_of, mi_Planned_cell_of, k_Machine_cell_of⟩, mt_Planned_comers := ⟨ma_Planned_comers, mi_Planned_comers, k_Machine_comers⟩, mt_Planned_decide := ⟨ma_Planned_decide, mi_Planned_decide, k_Machine_decide⟩, mt_Planned_end_moment := ⟨ma_Planned_end_moment, mi_Planned_end_moment, k_Collected_end_moment⟩, mt_Planned_fill := ⟨ma_Planned_fill, mi_Planned_fill, k_Machine_fill⟩, mt_Planned_held_by := ⟨ma_Planned_held_by, mi_Planned_held_by, k_Machine_held_by⟩, mt_Planned_note := ⟨ma_Planned_note, mi_Planned_note, k_Machine_note⟩, mt_Planned_reach_from := ⟨ma_Planned_reach_from, mi_Planned_reach_from, k_Machine_reach_from⟩, mt_Planned_reached := ⟨ma_Planned_reached, mi_Planned_reached, k_Machine_reached⟩, mt_Planned_stand := ⟨ma_Planned_stand, mi_Planned_stand, k_Machine_stand⟩, mt_Planned_wanted := ⟨ma_Planned_wanted, mi_Planned_wanted, k_Planned_wanted⟩, t_MAX_QUESTIONS := t_MAX_QUESTIONS, g_MAX_QUESTIONS := PySem.W.mg_of X G v_MAX_QUESTIONS, n_abs := PySem.W.mg_none_of X G z_abs, n_dict := PySem.W.mg_none_of X G z_dict, n_enumerate := PySem.W.mg_none_of X G z_enumerate, n_int := PySem.W.mg_none_of X G z_int, n_len := PySem.W.mg_none_of X G z_len, n_list := PySem.W.mg_none_of X G z_list, n_range := PySem.W.mg_none_of X G z_range, n_repr := PySem.W.mg_none_of X G z_repr, n_sorted := PySem.W.mg_none_of X G z_sorted, n_str := PySem.W.mg_none_of X G z_str, n_sum := PySem.W.mg_none_of X G z_sum, n_tuple := PySem.W.mg_none_of X G z_tuple }
  exact ⟨Z.T w, Z.d_law, rfl, fun s u => .of_eq rfl, fun base _ _ => sim_law Z ⟨p_file, p_sup, kl_DEEDS⟩⟩
end K56

/-! S13: how pure programs are computed: weakest preconditions -/
namespace Sm
open PySem L2
/-- a mark that keeps simp from what it speaks of -/
inductive Tg {α : Type} (x : α) : Type where
  | a | b
/-- behind an expression: the value and the store (Q), or an exception (E) -/
def WE0 {α : Type} (m : M α) (s : Sto) (Q : α → Sto → Prop) (E : Ex → Sto → Prop) : Prop := match m s with
  | .ok a s' => Q a s'
  | .exc e s' => E e s'
  | .fail => False
structure WE {α : Type} (m : M α) (s : Sto) (Q : α → Sto → Prop) (E : Ex → Sto → Prop) (_ : Tg (Q, E) := .a) : Prop where
  h : WE0 m s Q E
theorem WE_eq {α : Type} {m : M α} {s : Sto} {Q : α → Sto → Prop} {E : Ex → Sto → Prop} : WE m s Q E = WE0 m s Q E := propext ⟨fun x => x.h, fun x => ⟨x⟩⟩
/-- behind a statement -/
structure RK where
  nx : Lo → Sto → Prop
  rt : Vl → Sto → Prop
  bk : Lo → Sto → Prop
  ct : Lo → Sto → Prop
  ex : Ex → Lo → Sto → Prop
def WS0 (b : SM) (lo : Lo) (s : Sto) (K : RK) : Prop := match b lo s with
  | .nx lo s => K.nx lo s
  | .rt v s => K.rt v s
  | .bk lo s => K.bk lo s
  | .ct lo s => K.ct lo s
  | .exc e lo s => K.ex e lo s
  | .fail => False
structure WS (b : SM) (lo : Lo) (s : Sto) (K : RK) (_ : Tg K := .a) : Prop where
  h : WS0 b lo s K
theorem WS_eq {b : SM} {lo : Lo} {s : Sto} {K : RK} : WS b lo s K = WS0 b lo s K := propext ⟨fun x => x.h, fun x => ⟨x⟩⟩
def WO0 {α : Type} (o : Option (α × Sto)) (Q : α → Sto → Prop) : Prop := match o with
  | some (a, s) => Q a s
  | none => False
structure WO {α : Type} (o : Option (α × Sto)) (Q : α → Sto → Prop) (_ : Tg Q := .a) : Prop where
  h : WO0 o Q
theorem WO_eq {α : Type} {o : Option (α × Sto)} {Q : α → Sto → Prop} : WO o Q = WO0 o Q := propext ⟨fun x => x.h, fun x => ⟨x⟩⟩
theorem WE_ext {α : Type} {m : M α} {s : Sto} {Q Q' : α → Sto → Prop} {E : Ex → Sto → Prop} (h : ∀ a s, Q a s = Q' a s) : WE m s Q E = WE m s Q' E := by
  have : Q = Q' := funext fun a => funext fun s => h a s
  subst this
  rfl
abbrev NoX : Ex → Sto → Prop := fun _ _ => False
theorem WE.mono {α : Type} {m : M α} {s : Sto} {Q Q' : α → Sto → Prop} {E E' : Ex → Sto → Prop} (h : WE m s Q E) (k : ∀ a s', Q a s' → Q' a s') (kx : ∀ e s', E e s' → E' e s') : WE m s Q' E' := by
  simp only [WE_eq] at h ⊢
  unfold WE0 at h ⊢
  cases e : m s with
  | ok a s' => rw [e] at h; exact k a s' h
  | exc x s' => rw [e] at h; exact kx x s' h
  | fail => rw [e] at h; exact h
theorem WE.ok {α : Type} {m : M α} {s s' : Sto} {a : α} {Q : α → Sto → Prop} {E : Ex → Sto → Prop} (h : m s = .ok a s') (k : Q a s') : WE m s Q E := by
  simp only [WE_eq]
  unfold WE0; rw [h]; exact k
theorem WE.get {α : Type} {m : M α} {s : Sto} {Q : α → Sto → Prop} (h : WE m s Q NoX) : ∃ a s', m s = .ok a s' ∧ Q a s' := by
  simp only [WE_eq] at h
  unfold WE0 at h
  cases e : m s with
  | ok a s' => rw [e] at h; exact ⟨a, s', rfl, h⟩
  | exc x s' => rw [e] at h; exact h.elim
  | fail => rw [e] at h; exact h.elim
theorem WS.mono {b : SM} {lo : Lo} {s : Sto} {K K' : RK} (h : WS b lo s K) (k1 : ∀ lo s, K.nx lo s → K'.nx lo s) (k2 : ∀ v s, K.rt v s → K'.rt v s) (k3 : ∀ lo s, K.bk lo s → K'.bk lo s) (k4 : ∀ lo s, K.ct lo s → K'.ct lo s) (k5 : ∀ e lo s, K.ex e lo s → K'.ex e lo s) : WS b lo s K' := by
  simp only [WS_eq] at h ⊢
  unfold WS0 at h ⊢
  cases e : b lo s with
  | nx lo s => rw [e] at h; exact k1 lo s h
  | rt v s => rw [e] at h; exact k2 v s h
  | bk lo s => rw [e] at h; exact k3 lo s h
  | ct lo s => rw [e] at h; exact k4 lo s h
  | exc x lo s => rw [e] at h; exact k5 x lo s h
  | fail => rw [e] at h; exact h
section
variable {α β : Type} {m : M α} {s : Sto} {lo : Lo} {Q : α → Sto → Prop} {QV : Vl → Sto → Prop} {QB : Bool → Sto → Prop} {QA : List Vl → Sto → Prop} {Q' : β → Sto → Prop} {E : Ex → Sto → Prop} {K : RK}
@[simp ↓] theorem WO_some {a : α} : WO (some (a, s)) Q = Q a s := by simp only [WO_eq]; rfl
@[simp ↓] theorem WO_none : WO (none : Option (α × Sto)) Q = False := by simp only [WO_eq]; rfl
@[simp ↓] theorem WE_bnd {f : α → M β} : WE (bnd m f) s Q' E = WE m s (fun a s => WE (f a) s Q' E) E := by
  simp only [WE_eq]
  unfold WE0 bnd
  cases m s <;> rfl
@[simp ↓] theorem WE_ret {a : α} : WE (ret a) s Q E = Q a s := by simp only [WE_eq]; rfl
@[simp ↓] theorem WE_fail : WE (failM : M α) s Q E = False := by simp only [WE_eq]; rfl
@[simp ↓] theorem WE_lift {f : Sto → Option (α × Sto)} : WE (lift f) s Q E = WO (f s) Q := by
  simp only [WE_eq, WO_eq]
  unfold WE0 lift WO0
  cases f s with
  | none => rfl
  | some p => obtain ⟨a, s'⟩ := p; rfl
theorem WE_eVar {i : Nat} {v : Vl} (h : lo[i]? = some (some v)) : WE (eVar i lo) s QV E = QV v s := by
  simp only [WE_eq]
  unfold WE0 eVar; rw [h]
@[simp ↓] theorem WE_eVar' {i : Nat} : WE (eVar i lo) s QV E = (match lo[i]? with | some (some v) => QV v s | _ => False) := by
  simp only [WE_eq]
  unfold WE0 eVar
  cases lo[i]? with
  | none => rfl
  | some o => cases o <;> rfl
@[simp ↓] theorem WE_eC {v : Vl} : WE (eC v lo) s QV E = QV v s := by simp only [WE_eq]; rfl
@[simp ↓] theorem WE_eOp1 {f : O1} {a : EM} : WE (eOp1 f a lo) s QV E = WE (a lo) s (fun x s => WO (f x s) QV) E := by
  unfold eOp1
  rw [WE_bnd]
  exact WE_ext fun x s => WE_lift
@[simp ↓] theorem WE_eOp {f : O2} {a b : EM} : WE (eOp f a b lo) s QV E = WE (a lo) s (fun x s => WE (b lo) s (fun y s => WO (f x y s) QV) E) E := by
  unfold eOp
  rw [WE_bnd]
  refine WE_ext fun x s => ?_
  rw [WE_bnd]
  exact WE_ext fun y s => WE_lift
@[simp ↓] theorem WE_aNil : WE (aNil lo) s QA E = QA [] s := by simp only [WE_eq]; rfl
@[simp ↓] theorem WE_aCons {a : EM} {r : AM} : WE (aCons a r lo) s QA E = WE (a lo) s (fun x s => WE (r lo) s (fun xs s => QA (x :: xs) s) E) E := by
  unfold aCons
  rw [WE_bnd]
  refine WE_ext fun x s => ?_
  rw [WE_bnd]
  exact WE_ext fun xs s => WE_ret
@[simp ↓] theorem WE_eCB {f : OC} {a : AM} : WE (eCB f a lo) s QV E = WE (a lo) s (fun xs s => WO (f xs s) QV) E := by
  unfold eCB
  rw [WE_bnd]
  exact WE_ext fun x s => WE_lift
@[simp ↓] theorem WE_eCall {mf : List Vl → M Vl} {a : AM} : WE (eCall mf a lo) s QV E = WE (a lo) s (fun as s => WE (mf as) s QV E) E := by unfold eCall; rw [WE_bnd]
@[simp ↓] theorem WE_arg {n : Nat} {mf : List Vl → M Vl} {as : List Vl} : WE (arg n mf as) s QV E = (if as.length = n then WE (mf as) s QV E else False) := by
  by_cases h : as.length = n <;> simp [WE_eq, WE0, arg, h]
@[simp ↓] theorem WE_argI {n : Nat} {mf : List Vl → M Vl} {as : List Vl} : WE (argI n mf as) s QV E = (if as.length = n + 1 then WE (mf as) s QV E else False) := by
  by_cases h : as.length = n + 1 <;> simp [WE_eq, WE0, argI, h]
@[simp ↓] theorem WE_tVal {a : EM} : WE (tVal a lo) s QB E = WE (a lo) s (fun x s => match x with | .bl b => QB b s | _ => False) E := by
  unfold tVal
  rw [WE_bnd]
  refine WE_ext fun x s => ?_
  cases x <;> (simp only [WE_eq]; rfl)
@[simp ↓] theorem WE_tAndM {a b : TM} : WE (tAndM a b lo) s QB E = WE (a lo) s (fun x s => if x = true then WE (b lo) s QB E else QB false s) E := by
  unfold tAndM
  rw [WE_bnd]
  refine WE_ext fun x s => ?_
  cases x <;> simp
@[simp ↓] theorem WE_tOrM {a b : TM} : WE (tOrM a b lo) s QB E = WE (a lo) s (fun x s => if x = true then QB true s else WE (b lo) s QB E) E := by
  unfold tOrM
  rw [WE_bnd]
  refine WE_ext fun x s => ?_
  cases x <;> simp
@[simp ↓] theorem WE_tNotM {a : TM} : WE (tNotM a lo) s QB E = WE (a lo) s (fun x s => QB (!x) s) E := by unfold tNotM; rw [WE_bnd]; exact WE_ext fun x s => WE_ret
@[simp ↓] theorem WE_eAndM {a b : EM} : WE (eAndM a b lo) s QV E = WE (a lo) s (fun x s => match x with | .bl true => WE (b lo) s QV E | .bl false => QV (.bl false) s | _ => False) E := by
  unfold eAndM
  rw [WE_bnd]
  refine WE_ext fun x s => ?_
  cases x <;> try (simp only [WE_eq]; rfl)
  rename_i k
  cases k <;> simp only [WE_eq] <;> rfl
@[simp ↓] theorem WE_eOrM {a b : EM} : WE (eOrM a b lo) s QV E = WE (a lo) s (fun x s => match x with | .bl false => WE (b lo) s QV E | .bl true => QV (.bl true) s | _ => False) E := by
  unfold eOrM
  rw [WE_bnd]
  refine WE_ext fun x s => ?_
  cases x <;> try (simp only [WE_eq]; rfl)
  rename_i k
  cases k <;> simp only [WE_eq] <;> rfl
@[simp ↓] theorem WE_eNotM {a : EM} : WE (eNotM a lo) s QV E = WE (a lo) s (fun x s => match x with | .bl b => QV (.bl (!b)) s | _ => False) E := by
  unfold eNotM
  rw [WE_bnd]
  refine WE_ext fun x s => ?_
  cases x <;> (simp only [WE_eq]; rfl)
@[simp ↓] theorem WE_eIfM {t : TM} {a b : EM} : WE (eIfM t a b lo) s QV E = WE (t lo) s (fun x s => if x = true then WE (a lo) s QV E else WE (b lo) s QV E) E := by
  unfold eIfM
  rw [WE_bnd]
  refine WE_ext fun x s => ?_
  cases x <;> simp
@[simp ↓] theorem WE_eBm {t : Kd} {f : OMt} {o : EM} {a : AM} : WE (eBm t f o a lo) s QV E = WE (o lo) s (fun x s => if kd t x s = true then WE (a lo) s (fun xs s => WO (f x xs s) QV) E else False) E := by
  unfold eBm
  rw [WE_bnd]
  refine WE_ext fun x s => ?_
  show WE (fun s => match kd t x s with | true => bnd (a lo) (fun xs => lift (f x xs)) s | false => .fail) s QV E = _
  cases h : kd t x s with
  | true =>
    rw [if_pos rfl]
    have : WE (bnd (a lo) (fun xs => lift (f x xs))) s QV E = WE (a lo) s (fun xs s => WO (f x xs s) QV) E := by
      rw [WE_bnd]
      exact WE_ext fun xs s => WE_lift
    rw [← this]
    simp only [WE_eq]
    unfold WE0
    simp only [h]
  | false =>
    rw [if_neg (by decide)]
    simp only [WE_eq]
    unfold WE0
    simp only [h]
@[simp ↓] theorem WE_eBm0 {t : Kd} {f : OMt} {o : EM} : WE (eBm0 t f o lo) s QV E = WE (o lo) s (fun x s => if kd t x s = true then WO (f x [] s) QV else False) E := by
  unfold eBm0
  rw [WE_bnd]
  refine WE_ext fun x s => ?_
  show WE (fun s => match kd t x s with | true => lift (f x []) s | false => .fail) s QV E = _
  cases h : kd t x s with
  | true =>
    rw [if_pos rfl, ← WE_lift (E := E)]
    simp only [WE_eq]
    unfold WE0
    simp only [h]
  | false =>
    rw [if_neg (by decide)]
    simp only [WE_eq]
    unfold WE0
    simp only [h]
def fldW (cs : List Nat) (f : Str) (x : Vl) (s : Sto) (QV : Vl → Sto → Prop) : Prop := match x with
  | .ref j => match s[j]? with
    | some (.ins c fs) => c ∈ cs ∧ match getS fs f with
        | some v => QV v s
        | none => False
    | _ => False
  | _ => False
@[simp ↓] theorem WE_eFld {cs : List Nat} {f : Str} {o : EM} : WE (eFld cs f o lo) s QV E = WE (o lo) s (fun x s => fldW cs f x s QV) E := by
  unfold eFld
  rw [WE_bnd]
  refine WE_ext fun x s => ?_
  simp only [WE_eq]
  unfold WE0 fldW
  cases x <;> try rfl
  rename_i j
  simp only
  cases h : s[j]? with
  | none => simp only [h]
  | some o =>
    cases o <;> simp only [h]
    rename_i c fs
    by_cases hc : c ∈ cs
    · simp only [hc, if_true, true_and]
      cases getS fs f <;> rfl
    · simp [hc]
@[simp ↓] theorem WE_fnM {n : Nat} {b : SM} {as : List Vl} : WE (fnM n b as) s QV E = WS b (as.map some ++ List.replicate (n - as.length) none) s ⟨fun _ s => QV .non s, QV, fun _ _ => False, fun _ _ => False, fun e _ s => E e s⟩ := by
  simp only [WE_eq, WS_eq]
  unfold WE0 WS0 fnM
  cases b (as.map some ++ List.replicate (n - as.length) none) s <;> rfl
@[simp ↓] theorem WE_eSl {f : OSl} {a : EM} {l h : Option EM} : WE (eSl f a l h lo) s QV E = WE (a lo) s (fun x s => WE (oPart l lo) s (fun i s => WE (oPart h lo) s (fun j s => WO (f x i j s) QV) E) E) E := by
  unfold eSl
  rw [WE_bnd]
  refine WE_ext fun x s => ?_
  rw [WE_bnd]
  refine WE_ext fun i s => ?_
  rw [WE_bnd]
  exact WE_ext fun j s => WE_lift
@[simp ↓] theorem WE_oPartN {QO : Option Int → Sto → Prop} : WE (oPart none lo) s QO E = QO none s := by simp only [WE_eq]; rfl
@[simp ↓] theorem WE_oPartS {QO : Option Int → Sto → Prop} {a : EM} : WE (oPart (some a) lo) s QO E = WE (a lo) s (fun x s => match x with | .int i => QO (some i) s | _ => False) E := by
  show WE (bnd (a lo) _) s QO E = _
  rw [WE_bnd]
  refine WE_ext fun x s => ?_
  cases x <;> (simp only [WE_eq]; rfl)
@[simp ↓] theorem WE_eDict0 : WE (eDict0 lo) s QV E = QV (.ref s.length) (s ++ [.dic []]) := by simp only [WE_eq]; rfl
/-! statements -/
@[simp ↓] theorem WS_sNil : WS sNil lo s K = K.nx lo s := by simp only [WS_eq]; rfl
@[simp ↓] theorem WS_sBreak : WS sBreak lo s K = K.bk lo s := by simp only [WS_eq]; rfl
@[simp ↓] theorem WS_sCont : WS sCont lo s K = K.ct lo s := by simp only [WS_eq]; rfl
@[simp ↓] theorem WS_sRetN : WS sRetN lo s K = K.rt .non s := by simp only [WS_eq]; rfl
@[simp ↓] theorem WS_sSeq {a b : SM} : WS (sSeq a b) lo s K = WS a lo s ⟨fun lo s => WS b lo s K, K.rt, K.bk, K.ct, K.ex⟩ := by
  simp only [WS_eq]
  unfold WS0 sSeq
  cases a lo s <;> rfl
theorem WS_bndS {m : Lo → M α} {f : Lo → α → Sto → RS} : WS (bndS m f) lo s K = WE (m lo) s (fun a s => match f lo a s with | .nx lo s => K.nx lo s | .rt v s => K.rt v s | .bk lo s => K.bk lo s | .ct lo s => K.ct lo s | .exc e lo s => K.ex e lo s | .fail => False) (fun e s => K.ex e lo s) := by
  simp only [WS_eq, WE_eq]
  unfold WS0 WE0 bndS
  cases m lo s <;> rfl
@[simp ↓] theorem WS_sExpr {e : EM} : WS (sExpr e) lo s K = WE (e lo) s (fun _ s => K.nx lo s) (fun x s => K.ex x lo s) := by unfold sExpr; rw [WS_bndS]
@[simp ↓] theorem WS_sRet {e : EM} : WS (sRet e) lo s K = WE (e lo) s K.rt (fun x s => K.ex x lo s) := by unfold sRet; rw [WS_bndS]
@[simp ↓] theorem WS_sSet {i : Nat} {e : EM} : WS (sSet i e) lo s K = WE (e lo) s (fun v s => K.nx (lo.set i (some v)) s) (fun x s => K.ex x lo s) := by unfold sSet; rw [WS_bndS]
@[simp ↓] theorem WS_sIf {t : TM} {a b : SM} : WS (sIf t a b) lo s K = WE (t lo) s (fun c s => if c = true then WS a lo s K else WS b lo s K) (fun x s => K.ex x lo s) := by
  unfold sIf
  rw [WS_bndS]
  refine WE_ext fun c s => ?_
  cases c <;> simp [WS_eq, WS0]
@[simp ↓] theorem WS_sPar {i j : Nat} {a : AM} : WS (sPar i j a) lo s K = WE (a lo) s (fun vs s => match vs with | [v, w] => K.nx ((lo.set i (some v)).set j (some w)) s | _ => False) (fun x s => K.ex x lo s) := by
  unfold sPar
  rw [WS_bndS]
  refine WE_ext fun vs s => ?_
  match vs with
  | [] => rfl
  | [_] => rfl
  | [_, _] => rfl
  | _ :: _ :: _ :: _ => rfl
@[simp ↓] theorem WS_sPar3 {i j l : Nat} {a : AM} : WS (sPar3 i j l a) lo s K = WE (a lo) s (fun vs s => match vs with | [v, w, x] => K.nx (((lo.set i (some v)).set j (some w)).set l (some x)) s | _ => False) (fun x s => K.ex x lo s) := by
  unfold sPar3
  rw [WS_bndS]
  refine WE_ext fun vs s => ?_
  match vs with
  | [] => rfl
  | [_] => rfl
  | [_, _] => rfl
  | [_, _, _] => rfl
  | _ :: _ :: _ :: _ :: _ => rfl
/-- targets -/
structure WG (g : GM) (v : Vl) (lo : Lo) (s : Sto) (N : Lo → Sto → Prop) (E : Ex → Sto → Prop) (_ : Tg (N, E) := .a) : Prop where
  h : WE (g v lo) s N E
theorem WG_eq {g : GM} {v : Vl} {lo : Lo} {s : Sto} {N : Lo → Sto → Prop} {E : Ex → Sto → Prop} : WG g v lo s N E = WE (g v lo) s N E := propext ⟨fun x => x.h, fun x => ⟨x⟩⟩
@[simp ↓] theorem WG_gNm {i : Nat} {v : Vl} {N : Lo → Sto → Prop} : WG (gNm i) v lo s N E = N (lo.set i (some v)) s := by simp only [WG_eq, WE_eq]; rfl
@[simp ↓] theorem WG_gTp {js : List Nat} {xs : List Vl} {N : Lo → Sto → Prop} : WG (gTp js) (.tup xs) lo s N E = (match gNms js xs lo with | some lo' => N lo' s | none => False) := by
  simp only [WG_eq, WE_eq]
  unfold WE0 gTp
  simp only
  cases gNms js xs lo <;> rfl
@[simp] theorem gNms_nil {lo : Lo} : gNms [] [] lo = some lo := rfl
@[simp] theorem gNms_cons {j : Nat} {js : List Nat} {v : Vl} {vs : List Vl} {lo : Lo} : gNms (j :: js) (v :: vs) lo = gNms js vs (lo.set j (some v)) := rfl
@[simp ↓] theorem WG_gSb {f : OSet} {o i : EM} {v : Vl} {N : Lo → Sto → Prop} : WG (gSb f o i) v lo s N E = WE (o lo) s (fun x s => WE (i lo) s (fun y s => match f x y v s with | some s' => N lo s' | none => False) E) E := by
  simp only [WG_eq]
  unfold gSb
  rw [WE_bnd]
  refine WE_ext fun x s => ?_
  rw [WE_bnd]
  refine WE_ext fun y s => ?_
  simp only [WE_eq]
  unfold WE0 liftU
  cases f x y v s <;> rfl
@[simp ↓] theorem WS_sAsg {g : GM} {e : EM} : WS (sAsg g e) lo s K = WE (e lo) s (fun v s => WG g v lo s K.nx (fun x s => K.ex x lo s)) (fun x s => K.ex x lo s) := by
  unfold sAsg
  rw [WS_bndS]
  refine WE_ext fun v s => ?_
  simp only [WG_eq, WE_eq]
  unfold WE0
  cases g v lo s <;> rfl
@[simp ↓] theorem WS_sFldM {cs : List Nat} {f : Str} {o e : EM} : WS (sFldM cs f o e) lo s K = WE (e lo) s (fun v s => WE (o lo) s (fun x s => match setFld cs f x v s with | some s' => K.nx lo s' | none => False) (fun x s => K.ex x lo s)) (fun x s => K.ex x lo s) := by
  unfold sFldM
  rw [WS_bndS]
  refine WE_ext fun v s => ?_
  refine Eq.trans (b := WS (bndS o fun lo x s => match setFld cs f x v s with | some s' => .nx lo s' | none => .fail) lo s K) (by simp only [WS_eq]; rfl) ?_
  rw [WS_bndS]
  refine WE_ext fun x s => ?_
  cases setFld cs f x v s <;> rfl
/-! methods, making -/
def methW (m : Str) (tab : MTab) (x : Vl) (s : Sto) (P : (List Vl → M Vl) → Prop) : Prop := match x with
  | .ref j => match s[j]? with
    | some (.ins c fs) => match tab c, getS fs m with
      | some mf, none => P mf
      | _, _ => False
    | _ => False
  | _ => False
theorem WE_eMeth {m : Str} {tab : MTab} {o : EM} {a : AM} : WE (eMeth m tab o a lo) s QV E = WE (o lo) s (fun x s => methW m tab x s fun mf => WE (a lo) s (fun as s => WE (mf (x :: as)) s QV E) E) E := by
  unfold eMeth
  rw [WE_bnd]
  refine WE_ext fun x s => ?_
  cases x <;> try (simp only [WE_eq]; rfl)
  rename_i j
  unfold methW
  show WE (fun s => match s[j]? with | some (.ins c fs) => (match tab c, getS fs m with | some mf, none => bnd (a lo) (fun as => mf (.ref j :: as)) s | _, _ => .fail) | _ => .fail) s QV E = _
  have key : ∀ mf : List Vl → M Vl, WE (a lo) s (fun as s => WE (mf (.ref j :: as)) s QV E) E = WE (bnd (a lo) (fun as => mf (.ref j :: as))) s QV E := fun mf => by rw [WE_bnd]
  simp only [key]
  simp only [WE_eq]
  unfold WE0
  simp only
  cases h : s[j]? with
  | none => rfl
  | some o =>
    cases o <;> try rfl
    rename_i c fs
    simp only
    cases h1 : tab c with
    | none => rfl
    | some mf => cases h2 : getS fs m <;> rfl
theorem WE_eMake {c : Nat} {mi : List Vl → M Vl} {a : AM} : WE (eMake c mi a lo) s QV E = WE (a lo) s (fun as s => WE (mi (.ref s.length :: as)) (s ++ [.ins c []]) (fun v s' => match v with | .non => QV (.ref s.length) s' | _ => False) E) E := by
  unfold eMake
  rw [WE_bnd]
  refine WE_ext fun as s => ?_
  simp only [WE_eq]
  unfold WE0
  simp only
  cases h : mi (.ref s.length :: as) (s ++ [.ins c []]) with
  | ok v s' => cases v <;> rfl
  | exc e s' => rfl
  | fail => rfl
end
end Sm

/-! S14: loops and comprehensions of pure programs -/
namespace Sm
open PySem L2
section
variable {α : Type} {s : Sto} {lo : Lo} {QV : Vl → Sto → Prop} {QA : List Vl → Sto → Prop} {QN : NX → Sto → Prop} {E : Ex → Sto → Prop} {K : RK}
@[simp ↓] theorem WE_aTup {e : EM} : WE (aTup e lo) s QA E = WE (e lo) s (fun x s => match x with | .tup xs => QA xs s | _ => False) E := by
  unfold aTup
  rw [WE_bnd]
  refine WE_ext fun x s => ?_
  cases x <;> simp only [WE_eq] <;> rfl
def rngW (xs : List Vl) (s : Sto) (QA : List Vl → Sto → Prop) : Prop := match xs with
  | [.int n] => (-(2 ^ 62) ≤ n ∧ n < 2 ^ 62) ∧ QA (rng 0 n.toNat) s
  | _ => False
theorem rngW_one {n : Int} : rngW [.int n] s QA = ((-(2 ^ 62) ≤ n ∧ n < 2 ^ 62) ∧ QA (rng 0 n.toNat) s) := rfl
@[simp ↓] theorem WE_aRng {a : AM} : WE (aRng a lo) s QA E = WE (a lo) s (fun xs s => rngW xs s QA) E := by
  unfold aRng
  rw [WE_bnd]
  refine WE_ext fun xs s => ?_
  match xs with
  | [] => simp only [WE_eq]; rfl
  | [.int n] =>
    simp only [rngW]
    by_cases h : -(2 ^ 62) ≤ n ∧ n < 2 ^ 62
    · rw [if_pos h]; simp only [h, and_self, true_and, WE_ret]
    · rw [if_neg h, WE_fail]
      exact (propext ⟨fun z => z.elim, fun z => absurd z.1 h⟩)
  | .non :: _ => simp only [WE_eq]; rfl
  | .bl _ :: _ => simp only [WE_eq]; rfl
  | .str _ :: _ => simp only [WE_eq]; rfl
  | .tup _ :: _ => simp only [WE_eq]; rfl
  | .ref _ :: _ => simp only [WE_eq]; rfl
  | .scr _ :: _ => simp only [WE_eq]; rfl
  | .ty _ :: _ => simp only [WE_eq]; rfl
  | .fn _ :: _ => simp only [WE_eq]; rfl
  | .int _ :: _ :: _ => simp only [WE_eq]; rfl
def lstW (x : Vl) (s : Sto) (P : Nat → List Vl → Prop) : Prop := match x with
  | .ref j => match s[j]? with
    | some (.lst xs) => P j xs
    | _ => False
  | _ => False
@[simp] theorem lstW_ref {j : Nat} {P : Nat → List Vl → Prop} : lstW (.ref j) s P = (match s[j]? with | some (.lst xs) => P j xs | _ => False) := rfl
@[simp ↓] theorem WE_iLst {e : EM} : WE (iLst e lo) s QN E = WE (e lo) s (fun x s => lstW x s fun j _ => QN (nxLst j) s) E := by
  unfold iLst
  rw [WE_bnd]
  refine WE_ext fun x s => ?_
  cases x <;> try (simp only [WE_eq]; rfl)
  rename_i j
  simp only [WE_eq]
  unfold WE0 lstW
  simp only
  cases h : s[j]? with
  | none => rfl
  | some o => cases o <;> rfl
def lst1W (xs : List Vl) (s : Sto) (P : Nat → List Vl → Prop) : Prop := match xs with
  | [x] => lstW x s P
  | _ => False
@[simp] theorem lst1W_one {x : Vl} {P : Nat → List Vl → Prop} : lst1W [x] s P = lstW x s P := rfl
@[simp ↓] theorem WE_iEnm {a : AM} : WE (iEnm a lo) s QN E = WE (a lo) s (fun xs s => lst1W xs s fun j _ => QN (nxEnum j) s) E := by
  unfold iEnm
  rw [WE_bnd]
  refine WE_ext fun xs s => ?_
  match xs with
  | [] => simp only [WE_eq]; rfl
  | [.ref j] =>
    simp only [WE_eq]
    unfold WE0 lst1W lstW
    simp only
    cases h : s[j]? with
    | none => rfl
    | some o => cases o <;> rfl
  | .non :: _ => cases ‹List Vl› <;> simp only [WE_eq] <;> rfl
  | .bl _ :: _ => cases ‹List Vl› <;> simp only [WE_eq] <;> rfl
  | .int _ :: _ => cases ‹List Vl› <;> simp only [WE_eq] <;> rfl
  | .str _ :: _ => cases ‹List Vl› <;> simp only [WE_eq] <;> rfl
  | .tup _ :: _ => cases ‹List Vl› <;> simp only [WE_eq] <;> rfl
  | .scr _ :: _ => cases ‹List Vl› <;> simp only [WE_eq] <;> rfl
  | .ty _ :: _ => cases ‹List Vl› <;> simp only [WE_eq] <;> rfl
  | .fn _ :: _ => cases ‹List Vl› <;> simp only [WE_eq] <;> rfl
  | .ref _ :: _ :: _ => simp only [WE_eq]; rfl
@[simp ↓] theorem WS_sForX {ma : AM} {g : GM} {b : SM} : WS (sForX ma g b) lo s K = WE (ma lo) s (fun xs s => WS (loopX g b xs) lo s K) (fun e s => K.ex e lo s) := by
  unfold sForX
  rw [WS_bndS]
  refine WE_ext fun xs s => ?_
  simp only [WS_eq]
  rfl
@[simp ↓] theorem WS_sFor {n : Nat} {m : IM} {g : GM} {b : SM} : WS (sFor n m g b) lo s K = WE (m lo) s (fun nx s => WS (loopN nx g b n 0) lo s K) (fun e s => K.ex e lo s) := by
  unfold sFor
  rw [WS_bndS]
  refine WE_ext fun xs s => ?_
  simp only [WS_eq]
  rfl
/-- a for by its invariant -/
theorem loopX_inv {g : GM} {b : SM} {xs : List Vl} (I : Nat → Lo → Sto → Prop) (h0 : I 0 lo s)
    (hs : ∀ i v lo s, xs[i]? = some v → I i lo s → WG g v lo s (fun lo s => WS b lo s ⟨I (i + 1), K.rt, K.nx, I (i + 1), K.ex⟩) (fun e s => K.ex e lo s)) (hd : ∀ lo s, I xs.length lo s → K.nx lo s) : WS (loopX g b xs) lo s K := by
  have key : ∀ (ys : List Vl) (i : Nat) (lo : Lo) (s : Sto), xs.drop i = ys → i ≤ xs.length → I i lo s → WS (loopX g b ys) lo s K := by
    intro ys
    induction ys with
    | nil =>
      intro i lo s e hi h
      have : i = xs.length := Nat.le_antisymm hi (List.drop_eq_nil_iff.mp e)
      subst this
      exact ⟨hd lo s h⟩
    | cons y ys ih =>
      intro i lo s e hi h
      have hi' : i < xs.length := by
        rcases Nat.lt_or_ge i xs.length with q | q
        · exact q
        · rw [List.drop_eq_nil_of_le q] at e; cases e
      rw [List.drop_eq_getElem_cons hi'] at e
      obtain ⟨e1, e2⟩ := List.cons.inj e
      have st := hs i y lo s (by rw [List.getElem?_eq_getElem hi', e1]) h
      simp only [WS_eq]
      unfold WS0 loopX
      simp only [WG_eq, WE_eq] at st
      unfold WE0 at st
      cases q : g y lo s with
      | fail => simp only [q] at st
      | exc z s' => simp only [q] at st ⊢; exact st
      | ok lo' s' =>
        simp only [q] at st ⊢
        simp only [WS_eq] at st
        unfold WS0 at st
        cases q2 : b lo' s' with
        | nx lo2 s2 => simp only [q2] at st ⊢; exact (ih (i + 1) lo2 s2 e2 hi' st).h
        | ct lo2 s2 => simp only [q2] at st ⊢; exact (ih (i + 1) lo2 s2 e2 hi' st).h
        | bk lo2 s2 => simp only [q2] at st ⊢; exact st
        | rt v s2 => simp only [q2] at st ⊢; exact st
        | exc z lo2 s2 => simp only [q2] at st ⊢; exact st
        | fail => simp only [q2] at st
  exact key xs 0 lo s (by simp) (Nat.zero_le _) h0
/-- the same over what nx tells: n items, at each turn the i-th one is f i -/
theorem loopN_inv {nx : NX} {g : GM} {b : SM} {n fuel : Nat} (I : Nat → Lo → Sto → Prop) (f : Nat → Vl) (hf : n < fuel) (h0 : I 0 lo s) (hn : ∀ i lo s, i < n → I i lo s → nx i s = some (some (f i))) (he : ∀ lo s, I n lo s → nx n s = some none)
    (hs : ∀ i lo s, i < n → I i lo s → WG g (f i) lo s (fun lo s => WS b lo s ⟨I (i + 1), K.rt, K.nx, I (i + 1), K.ex⟩) (fun e s => K.ex e lo s)) (hd : ∀ lo s, I n lo s → K.nx lo s) : WS (loopN nx g b fuel 0) lo s K := by
  have key : ∀ (k i : Nat) (lo : Lo) (s : Sto), n - i < k → i ≤ n → I i lo s → WS (loopN nx g b k i) lo s K := by
    intro k
    induction k with
    | zero => intro i lo s h; omega
    | succ k ih =>
      intro i lo s hk hi h
      simp only [WS_eq]
      unfold WS0 loopN
      rcases Nat.lt_or_ge i n with q | q
      · simp only [hn i lo s q h]
        have st := hs i lo s q h
        simp only [WG_eq, WE_eq] at st
        unfold WE0 at st
        cases q1 : g (f i) lo s with
        | fail => simp only [q1] at st
        | exc z s' => simp only [q1] at st ⊢; exact st
        | ok lo' s' =>
          simp only [q1] at st ⊢
          simp only [WS_eq] at st
          unfold WS0 at st
          cases q2 : b lo' s' with
          | nx lo2 s2 => simp only [q2] at st ⊢; exact (ih (i + 1) lo2 s2 (by omega) q st).h
          | ct lo2 s2 => simp only [q2] at st ⊢; exact (ih (i + 1) lo2 s2 (by omega) q st).h
          | bk lo2 s2 => simp only [q2] at st ⊢; exact st
          | rt v s2 => simp only [q2] at st ⊢; exact st
          | exc z lo2 s2 => simp only [q2] at st ⊢; exact st
          | fail => simp only [q2] at st
      · have : i = n := Nat.le_antisymm hi q
        subst this
        simp only [he lo s h]
        exact hd lo s h
  exact key fuel 0 lo s (by omega) (Nat.zero_le _) h0
/-- enumerate -/
theorem loopE_inv {j : Nat} {xs : List Vl} {g : GM} {b : SM} {fuel : Nat} (I : Nat → Lo → Sto → Prop) (hf : xs.length < fuel) (h0 : I 0 lo s) (hl : ∀ i lo s, I i lo s → s[j]? = some (.lst xs))
    (hs : ∀ i v lo s, xs[i]? = some v → I i lo s → WG g (.tup [.int (i : Nat), v]) lo s (fun lo s => WS b lo s ⟨I (i + 1), K.rt, K.nx, I (i + 1), K.ex⟩) (fun e s => K.ex e lo s)) (hd : ∀ lo s, I xs.length lo s → K.nx lo s) : WS (loopN (nxEnum j) g b fuel 0) lo s K :=
  loopN_inv I (fun i => .tup [.int (i : Nat), (xs[i]?).getD .non]) hf h0 (fun i lo s hi h => by simp only [nxEnum, hl i lo s h, List.getElem?_eq_getElem hi, Option.getD]) (fun lo s h => by simp only [nxEnum, hl _ lo s h]; rw [List.getElem?_eq_none (Nat.le_refl _)])
    (fun i lo s hi h => by
      have := hs i xs[i] lo s (List.getElem?_eq_getElem hi) h
      simpa only [List.getElem?_eq_getElem hi, Option.getD] using this) hd
/-! ### comprehensions -/
def WL0 (o : Option Sto) (Q : Sto → Prop) : Prop := match o with
  | some s => Q s
  | none => False
structure WL (o : Option Sto) (Q : Sto → Prop) (_ : Tg Q := .a) : Prop where
  h : WL0 o Q
theorem WL_eq {o : Option Sto} {Q : Sto → Prop} : WL o Q = WL0 o Q := propext ⟨fun x => x.h, fun x => ⟨x⟩⟩
@[simp ↓] theorem WE_eLc {n : Nat} {m : IM} {g : GL} {t : TM} {e : EM} {vs : List Nat} : WE (eLc n m g t e vs lo) s QV E = WE (m lo) s (fun nx s => WL (lcN nx g t e s.length (wipeL lo vs) n 0 (s ++ [.lst []])) fun s' => QV (.ref s.length) s') E := by
  unfold eLc
  rw [WE_bnd]
  refine WE_ext fun nx s => ?_
  simp only [WE_eq, WL_eq]
  unfold WE0 WL0
  simp only
  cases lcN nx g t e s.length (wipeL lo vs) n 0 (s ++ [.lst []]) <;> rfl
@[simp ↓] theorem WE_eLcX {m : AM} {g : GL} {t : TM} {e : EM} {vs : List Nat} : WE (eLcX m g t e vs lo) s QV E = WE (m lo) s (fun xs s => WL (lcX g t e s.length (wipeL lo vs) xs (s ++ [.lst []])) fun s' => QV (.ref s.length) s') E := by
  unfold eLcX
  rw [WE_bnd]
  refine WE_ext fun xs s => ?_
  simp only [WE_eq, WL_eq]
  unfold WE0 WL0
  simp only
  cases lcX g t e s.length (wipeL lo vs) xs (s ++ [.lst []]) <;> rfl
/-- one turn -/
def LcT (t : TM) (e : EM) (d : Nat) (lo : Lo) (s : Sto) (Q : Sto → Prop) : Prop :=
  WE (t lo) s (fun c s => if c = true then WE (e lo) s (fun y s => match s[d]? with | some (.lst acc) => acc.length < LIM ∧ Q (s.set d (.lst (acc ++ [y]))) | _ => False) NoX else Q s) NoX
theorem lcStep_of {t : TM} {e : EM} {d : Nat} {lo : Lo} {s : Sto} {Q : Sto → Prop} (h : LcT t e d lo s Q) : ∃ s', lcStep t e d lo s = some s' ∧ Q s' := by
  unfold LcT at h
  simp only [WE_eq] at h
  unfold WE0 at h
  unfold lcStep
  cases q : t lo s with
  | fail => simp only [q] at h
  | exc z s1 => simp only [q] at h; exact h.elim
  | ok c s1 =>
    cases c with
    | false => simp only [q] at h ⊢; exact ⟨s1, rfl, by simpa using h⟩
    | true =>
      simp only [q, if_true] at h ⊢
      cases q2 : e lo s1 with
      | fail => simp only [q2] at h
      | exc z s2 => simp only [q2] at h; exact h.elim
      | ok y s2 =>
        simp only [q2] at h ⊢
        split at h
        · rename_i acc hacc
          simp only [hacc, if_pos h.1]
          exact ⟨_, rfl, h.2⟩
        · exact h.elim
theorem lcX_inv {g : GL} {t : TM} {e : EM} {d : Nat} {xs : List Vl} {s : Sto} {Q : Sto → Prop} (I : Nat → Sto → Prop) (h0 : I 0 s) (hs : ∀ i v s, xs[i]? = some v → I i s → ∃ lo', g v lo = some lo' ∧ LcT t e d lo' s (I (i + 1))) (hd : ∀ s, I xs.length s → Q s) :
    WL (lcX g t e d lo xs s) Q := by
  have key : ∀ (ys : List Vl) (i : Nat) (s : Sto), xs.drop i = ys → i ≤ xs.length → I i s → WL (lcX g t e d lo ys s) Q := by
    intro ys
    induction ys with
    | nil =>
      intro i s e hi h
      have : i = xs.length := Nat.le_antisymm hi (List.drop_eq_nil_iff.mp e)
      subst this
      exact ⟨hd s h⟩
    | cons y ys ih =>
      intro i s e hi h
      have hi' : i < xs.length := by
        rcases Nat.lt_or_ge i xs.length with q | q
        · exact q
        · rw [List.drop_eq_nil_of_le q] at e; cases e
      rw [List.drop_eq_getElem_cons hi'] at e
      obtain ⟨e1, e2⟩ := List.cons.inj e
      obtain ⟨lo', g1, g2⟩ := hs i y s (by rw [List.getElem?_eq_getElem hi', e1]) h
      obtain ⟨s', k1, k2⟩ := lcStep_of g2
      unfold lcX
      simp only [g1, k1]
      exact ih (i + 1) s' e2 hi' k2
  exact key xs 0 s (by simp) (Nat.zero_le _) h0
theorem lcN_inv {nx : NX} {g : GL} {t : TM} {e : EM} {d n fuel : Nat} {s : Sto} {Q : Sto → Prop} (I : Nat → Sto → Prop) (f : Nat → Vl) (hf : n < fuel) (h0 : I 0 s) (hn : ∀ i s, i < n → I i s → nx i s = some (some (f i))) (he : ∀ s, I n s → nx n s = some none)
    (hs : ∀ i s, i < n → I i s → ∃ lo', g (f i) lo = some lo' ∧ LcT t e d lo' s (I (i + 1))) (hd : ∀ s, I n s → Q s) : WL (lcN nx g t e d lo fuel 0 s) Q := by
  have key : ∀ (k i : Nat) (s : Sto), n - i < k → i ≤ n → I i s → WL (lcN nx g t e d lo k i s) Q := by
    intro k
    induction k with
    | zero => intro i s h; omega
    | succ k ih =>
      intro i s hk hi h
      unfold lcN
      rcases Nat.lt_or_ge i n with q | q
      · simp only [hn i s q h]
        obtain ⟨lo', g1, g2⟩ := hs i s q h
        obtain ⟨s', k1, k2⟩ := lcStep_of g2
        simp only [g1, k1]
        exact ih (i + 1) s' (by omega) q k2
      · have : i = n := Nat.le_antisymm hi q
        subst this
        simp only [he s h]
        exact ⟨hd s h⟩
  exact key fuel 0 s (by omega) (Nat.zero_le _) h0
theorem lcL_inv {j : Nat} {xs : List Vl} {g : GL} {t : TM} {e : EM} {d fuel : Nat} {s : Sto} {Q : Sto → Prop} (I : Nat → Sto → Prop) (hf : xs.length < fuel) (h0 : I 0 s) (hl : ∀ i s, I i s → s[j]? = some (.lst xs))
    (hs : ∀ i v s, xs[i]? = some v → I i s → ∃ lo', g v lo = some lo' ∧ LcT t e d lo' s (I (i + 1))) (hd : ∀ s, I xs.length s → Q s) : WL (lcN (nxLst j) g t e d lo fuel 0 s) Q :=
  lcN_inv I (fun i => (xs[i]?).getD .non) hf h0 (fun i s hi h => by simp only [nxLst, hl i s h, List.getElem?_eq_getElem hi, Option.getD]) (fun s h => by simp only [nxLst, hl _ s h]; rw [List.getElem?_eq_none (Nat.le_refl _)])
    (fun i s hi h => by
      have := hs i xs[i] s (List.getElem?_eq_getElem hi) h
      simpa only [List.getElem?_eq_getElem hi, Option.getD] using this) hd
/-- where neither test nor element changes the store: kept items by f -/
def LcP (g : GL) (t : TM) (e : EM) (lo : Lo) (s : Sto) (x : Vl) (r : Option Vl) : Prop := ∀ acc, ∃ lo', g x lo = some lo' ∧ WE (t lo') (s ++ [.lst acc]) (fun c s' => s' = s ++ [.lst acc] ∧ if c = true then WE (e lo') s' (fun y s'' => s'' = s ++ [.lst acc] ∧ r = some y) NoX else r = none) NoX
theorem LcP.turn {g : GL} {t : TM} {e : EM} {s : Sto} {x : Vl} {r : Option Vl} {acc : List Vl} (h : LcP g t e lo s x r) (hl : acc.length < LIM) : ∃ lo', g x lo = some lo' ∧ LcT t e s.length lo' (s ++ [.lst acc]) fun s' => s' = s ++ [.lst (acc ++ r.toList)] := by
  obtain ⟨lo', h1, h2⟩ := h acc
  refine ⟨lo', h1, WE.mono h2 (fun c s' hc => ?_) fun _ _ z => z⟩
  obtain ⟨rfl, h3⟩ := hc
  cases c with
  | false =>
    simp only [if_false, Bool.false_eq_true] at h3 ⊢
    subst h3
    simp
  | true =>
    simp only [if_true] at h3 ⊢
    refine WE.mono h3 (fun y s'' hy => ?_) fun _ _ z => z
    obtain ⟨rfl, rfl⟩ := hy
    simp [hl]
theorem lcX_pure {g : GL} {t : TM} {e : EM} {xs : List Vl} {s : Sto} {Q : Sto → Prop} (f : Vl → Option Vl) (hl : xs.length < LIM) (hx : ∀ x ∈ xs, LcP g t e lo s x (f x)) (hd : Q (s ++ [.lst (xs.filterMap f)])) : WL (lcX g t e s.length lo xs (s ++ [.lst []])) Q := by
  refine lcX_inv (fun i s' => s' = s ++ [.lst ((xs.take i).filterMap f)]) (by simp) (fun i v s' hv e => ?_) (fun s' e => by rw [e, List.take_length]; exact hd)
  subst e
  obtain ⟨hi, ev⟩ := List.getElem?_eq_some_iff.mp hv
  have hlen : ((xs.take i).filterMap f).length < LIM := Nat.lt_of_le_of_lt (Nat.le_trans (List.length_filterMap_le ..) (by rw [List.length_take]; exact Nat.min_le_right ..)) hl
  obtain ⟨lo', h1, h2⟩ := (hx v (List.mem_of_getElem? hv)).turn hlen
  refine ⟨lo', h1, ?_⟩
  have : (xs.take (i + 1)).filterMap f = (xs.take i).filterMap f ++ (f v).toList := by
    rw [List.take_add_one, hv, Option.toList, List.filterMap_append]
    cases h : f v <;> simp [List.filterMap_cons, h]
  rw [this]
  exact h2
theorem lcL_pure {j fuel : Nat} {g : GL} {t : TM} {e : EM} {xs : List Vl} {s : Sto} {Q : Sto → Prop} (f : Vl → Option Vl) (hj : s[j]? = some (.lst xs)) (hl : xs.length < LIM) (hf : xs.length < fuel) (hx : ∀ x ∈ xs, LcP g t e lo s x (f x)) (hd : Q (s ++ [.lst (xs.filterMap f)])) :
    WL (lcN (nxLst j) g t e s.length lo fuel 0 (s ++ [.lst []])) Q := by
  have hjl : j < s.length := (List.getElem?_eq_some_iff.mp hj).1
  refine lcL_inv (xs := xs) (fun i s' => s' = s ++ [.lst ((xs.take i).filterMap f)]) hf (by simp) (fun i s' e => by rw [e, List.getElem?_append_left hjl]; exact hj) (fun i v s' hv e => ?_) (fun s' e => by rw [e, List.take_length]; exact hd)
  subst e
  have hlen : ((xs.take i).filterMap f).length < LIM := Nat.lt_of_le_of_lt (Nat.le_trans (List.length_filterMap_le ..) (by rw [List.length_take]; exact Nat.min_le_right ..)) hl
  obtain ⟨lo', h1, h2⟩ := (hx v (List.mem_of_getElem? hv)).turn hlen
  refine ⟨lo', h1, ?_⟩
  have : (xs.take (i + 1)).filterMap f = (xs.take i).filterMap f ++ (f v).toList := by
    rw [List.take_add_one, hv, Option.toList, List.filterMap_append]
    cases h : f v <;> simp [List.filterMap_cons, h]
  rw [this]
  exact h2
end
end Sm

/-! S15: frames of stores; locked dicts; decks of numbers -/
namespace Sm
open PySem L2
/-- all that stood in s stands in s' but for the numbers X -/
structure Fr (X : List Nat) (s s' : Sto) : Prop where
  le : s.length ≤ s'.length
  get : ∀ i, i < s.length → i ∉ X → s'[i]? = s[i]?
section
variable {X Y : List Nat} {s s1 s2 : Sto}
theorem Fr.refl : Fr X s s := ⟨Nat.le_refl _, fun _ _ _ => rfl⟩
theorem Fr.trans (a : Fr X s s1) (b : Fr X s1 s2) : Fr X s s2 := ⟨Nat.le_trans a.le b.le, fun i hi hx => (b.get i (Nat.lt_of_lt_of_le hi a.le) hx).trans (a.get i hi hx)⟩
theorem Fr.mono (a : Fr X s s1) (h : ∀ i ∈ X, i ∈ Y) : Fr Y s s1 := ⟨a.le, fun i hi hx => a.get i hi fun z => hx (h i z)⟩
theorem Fr.at (a : Fr X s s1) {i : Nat} {o : Ob} (h : s[i]? = some o) (hx : i ∉ X) : s1[i]? = some o := (a.get i (List.getElem?_eq_some_iff.mp h).1 hx).trans h
theorem Fr.push (a : Fr X s s1) (o : Ob) : Fr X s (s1 ++ [o]) := ⟨by rw [List.length_append]; exact Nat.le_trans a.le (Nat.le_add_right ..), fun i hi hx => by rw [List.getElem?_append_left (Nat.lt_of_lt_of_le hi a.le)]; exact a.get i hi hx⟩
theorem Fr.app (a : Fr X s s1) (t : Sto) : Fr X s (s1 ++ t) := ⟨by rw [List.length_append]; exact Nat.le_trans a.le (Nat.le_add_right ..), fun i hi hx => by rw [List.getElem?_append_left (Nat.lt_of_lt_of_le hi a.le)]; exact a.get i hi hx⟩
theorem Fr.set (a : Fr X s s1) {i : Nat} {o : Ob} (h : i ∈ X ∨ s.length ≤ i) : Fr X s (s1.set i o) := ⟨by rw [List.length_set]; exact a.le, fun j hj hx => by
  rw [List.getElem?_set_ne (fun z => by subst z; exact h.elim hx fun q => absurd hj (Nat.not_lt.mpr q))]
  exact a.get j hj hx⟩
end
@[simp] theorem get_set_self {s : Sto} {i : Nat} {o o' : Ob} (h : s[i]? = some o) : (s.set i o')[i]? = some o' := List.getElem?_set_self (List.getElem?_eq_some_iff.mp h).1
theorem get_set_ne {s : Sto} {i j : Nat} {o' : Ob} (h : i ≠ j) : (s.set i o')[j]? = s[j]? := List.getElem?_set_ne h
theorem get_push {s : Sto} {i : Nat} {o o' : Ob} (h : s[i]? = some o) : (s ++ [o'])[i]? = some o := by rw [List.getElem?_append_left (List.getElem?_eq_some_iff.mp h).1]; exact h
@[simp] theorem get_last {s : Sto} {o : Ob} : (s ++ [o])[s.length]? = some o := by simp
theorem lt_of_get {s : Sto} {i : Nat} {o : Ob} (h : s[i]? = some o) : i < s.length := (List.getElem?_eq_some_iff.mp h).1
section
variable {s : Sto} {lo : Lo} {QV : Vl → Sto → Prop} {E : Ex → Sto → Prop}
@[simp ↓] theorem WE_iVal {e : EM} {QN : NX → Sto → Prop} : WE (iVal e lo) s QN E = WE (e lo) s (fun x s => match x with | .ref j => (match s[j]? with | some (.fdic _) => QN (nxVals j) s | _ => False) | _ => False) E := by
  unfold iVal
  rw [WE_bnd]
  refine WE_ext fun x s => ?_
  cases x <;> try (simp only [WE_eq]; rfl)
  rename_i j
  simp only [WE_eq]
  unfold WE0
  simp only
  cases h : s[j]? with
  | none => rfl
  | some o => cases o <;> rfl
@[simp ↓] theorem WE_eListVals {e : EM} : WE (eListVals e lo) s QV E = WE (e lo) s (fun x s => match x with | .ref j => (match s[j]? with | some (.dic kvs) => QV (.ref s.length) (s ++ [.lst (kvs.map (·.2))]) | _ => False) | _ => False) E := by
  unfold eListVals
  rw [WE_bnd]
  refine WE_ext fun x s => ?_
  cases x <;> try (simp only [WE_eq]; rfl)
  rename_i j
  simp only [WE_eq]
  unfold WE0
  simp only
  cases h : s[j]? with
  | none => rfl
  | some o => cases o <;> rfl
end
/-- a deck: the cells at l and the count c, at d -/
structure Deck (s : Sto) (d l c : Nat) (cells : List Int) : Prop where
  top : s[d]? = some (.lst [.ref l, .int c])
  cel : s[l]? = some (.lst (cells.map Vl.int))
  nn : ∀ x ∈ cells, 0 ≤ x
  ne : l ≠ d
theorem Deck.fr {X : List Nat} {s s' : Sto} {d l c : Nat} {cells : List Int} (D : Deck s d l c cells) (f : Fr X s s') (h1 : d ∉ X) (h2 : l ∉ X) : Deck s' d l c cells := ⟨f.at D.top h1, f.at D.cel h2, D.nn, D.ne⟩
/-- some deck with at most c draws -/
def DeckLe (s : Sto) (d l c : Nat) : Prop := ∃ k cells, k ≤ c ∧ Deck s d l k cells
end Sm

/-! S16: operations on values that are known, as rewriting rules -/
namespace Sm
open PySem L2
section
variable {α : Type} {s : Sto} {lo : Lo} {i j : Int} {a b : Nat} {xs ys : List Vl} {x y : Str} {v w : Vl} {kvs : List (Key × Vl)} {k : Bool}
@[simp] theorem opAdd_int : opAdd (.int i) (.int j) s = some (.int (i + j), s) := rfl
@[simp] theorem opSub_int : opSub (.int i) (.int j) s = some (.int (i - j), s) := rfl
@[simp] theorem opNeg_int : opNeg (.int i) s = some (.int (-i), s) := rfl
@[simp] theorem opAdd_tup (h : xs.length + ys.length ≤ LIM) : opAdd (.tup xs) (.tup ys) s = some (.tup (xs ++ ys), s) := by simp only [opAdd, if_pos h]
@[simp] theorem opAdd_str (h : x.length + y.length ≤ LIM) : opAdd (.str x) (.str y) s = some (.str (x ++ y), s) := by simp only [opAdd, if_pos h]
@[simp] theorem opAdd_lst (h1 : s[a]? = some (.lst xs)) (h2 : s[b]? = some (.lst ys)) (h : xs.length + ys.length ≤ LIM) : opAdd (.ref a) (.ref b) s = some (.ref s.length, s ++ [.lst (xs ++ ys)]) := by simp only [opAdd, h1, h2, if_pos h]
@[simp] theorem opMul_int (h : (-(2 ^ 64) < i ∧ i < 2 ^ 64) ∨ (-(2 ^ 64) < j ∧ j < 2 ^ 64)) : opMul (.int i) (.int j) s = some (.int (i * j), s) := by simp only [opMul, if_pos h]
@[simp] theorem opMul_lst (h1 : s[a]? = some (.lst xs)) (h : 0 ≤ i ∧ i < 2 ^ 60 ∧ xs.length * i.toNat ≤ LIM) : opMul (.ref a) (.int i) s = some (.ref s.length, s ++ [.lst (List.replicate i.toNat xs).flatten]) := by simp only [opMul, h1, if_pos h]
@[simp] theorem opFdiv_int (h : 0 < j ∧ j < 1073741824) : opFdiv (.int i) (.int j) s = some (.int (i / j), s) := by
  have h2 : 0 < j ∧ j < 1267650600228229401496703205376 := ⟨h.1, by omega⟩
  simp only [opFdiv, if_pos h2]
@[simp] theorem opFdiv_intW (h : 0 < j ∧ j < 1267650600228229401496703205376) : opFdiv (.int i) (.int j) s = some (.int (i / j), s) := by simp only [opFdiv, if_pos h]
@[simp] theorem opMod_int (h : 0 < j) : opMod (.int i) (.int j) s = some (.int (i % j), s) := by simp only [opMod, if_pos h]
@[simp] theorem opPow_int (h : 0 ≤ j ∧ j ≤ 1000000 ∧ i.natAbs < 2 ^ 64) : opPow (.int i) (.int j) s = some (.int (i ^ j.toNat), s) := by simp only [opPow, if_pos h]
@[simp] theorem opLt_int : opLt (.int i) (.int j) s = some (.bl (decide (i < j)), s) := rfl
@[simp] theorem opLe_int : opLe (.int i) (.int j) s = some (.bl (decide (i ≤ j)), s) := rfl
@[simp] theorem opGt_int : opGt (.int i) (.int j) s = some (.bl (decide (j < i)), s) := rfl
@[simp] theorem opGe_int : opGe (.int i) (.int j) s = some (.bl (decide (j ≤ i)), s) := rfl
@[simp] theorem opIsN_non : opIsN v .non s = some (.bl (isNon v), s) := by cases v <;> rfl
@[simp] theorem opNotN_non : opNotN v .non s = some (.bl (!isNon v), s) := by cases v <;> rfl
@[simp] theorem isNon_non : isNon .non = true := rfl
@[simp] theorem isNon_int : isNon (.int i) = false := rfl
@[simp] theorem isNon_str : isNon (.str x) = false := rfl
@[simp] theorem isNon_tup : isNon (.tup xs) = false := rfl
@[simp] theorem isNon_ref : isNon (.ref a) = false := rfl
@[simp] theorem isNon_bl : isNon (.bl k) = false := rfl
@[simp] theorem opEq_int : opEq (.int i) (.int j) s = some (.bl (i == j), s) := rfl
@[simp] theorem opNe_int : opNe (.int i) (.int j) s = some (.bl (!(i == j)), s) := rfl
@[simp] theorem opEq_str : opEq (.str x) (.str y) s = some (.bl (x == y), s) := rfl
@[simp] theorem opNe_str : opNe (.str x) (.str y) s = some (.bl (!(x == y)), s) := rfl
@[simp] theorem opIx_tup : opIx (.tup xs) (.int i) s = (atI xs i).map fun v => (v, s) := rfl
@[simp] theorem opIx_lst (h : s[a]? = some (.lst xs)) : opIx (.ref a) (.int i) s = (atI xs i).map fun v => (v, s) := by simp only [opIx, h]
@[simp] theorem opIx_dicI (h : s[a]? = some (.dic kvs)) : opIx (.ref a) (.int i) s = (look kvs (.inl i)).map fun v => (v, s) := by simp only [opIx, h, keyOf]
@[simp] theorem opIx_dicS (h : s[a]? = some (.dic kvs)) : opIx (.ref a) (.str x) s = (look kvs (.inr x)).map fun v => (v, s) := by simp only [opIx, h, keyOf]
@[simp] theorem opSet_lst (h : s[a]? = some (.lst xs)) : opSet (.ref a) (.int i) v s = (ixN xs.length i).map fun n => s.set a (.lst (xs.set n v)) := by
  simp only [opSet, h]
  cases ixN xs.length i <;> rfl
@[simp] theorem opSet_dicI (h : s[a]? = some (.dic kvs)) (hl : kvs.length < LIM) : opSet (.ref a) (.int i) v s = some (s.set a (.dic (put kvs (.inl i) v))) := by simp only [opSet, h, keyOf, if_pos hl]
@[simp] theorem opSet_dicS (h : s[a]? = some (.dic kvs)) (hl : kvs.length < LIM) : opSet (.ref a) (.str x) v s = some (s.set a (.dic (put kvs (.inr x) v))) := by simp only [opSet, h, keyOf, if_pos hl]
@[simp] theorem oLen_lst (h : s[a]? = some (.lst xs)) : oLen [.ref a] s = some (.int xs.length, s) := by simp [oLen, lenM, h]
@[simp] theorem oLen_dic (h : s[a]? = some (.dic kvs)) : oLen [.ref a] s = some (.int kvs.length, s) := by simp [oLen, lenM, h]
@[simp] theorem oLen_tup : oLen [.tup xs] s = some (.int xs.length, s) := rfl
@[simp] theorem oAbs_int : oAbs [.int i] s = some (.int (if i < 0 then -i else i), s) := rfl
@[simp] theorem oInt_int : oInt [.int i] s = some (.int i, s) := rfl
@[simp] theorem oInt_bl : oInt [.bl k] s = some (.int (if k then 1 else 0), s) := rfl
@[simp] theorem oMax_int : oMax [.int i, .int j] s = some (.int (if j > i then j else i), s) := rfl
@[simp] theorem oMin_int : oMin [.int i, .int j] s = some (.int (if j < i then j else i), s) := rfl
@[simp] theorem oTup_ok (h : xs.length ≤ LIM) : oTup xs s = some (.tup xs, s) := by simp only [oTup, if_pos h]
@[simp] theorem oLst_ok (h : xs.length ≤ LIM) : oLst xs s = some (.ref s.length, s ++ [.lst xs]) := by simp only [oLst, if_pos h]
@[simp] theorem oTuple_lst (h : s[a]? = some (.lst xs)) : oTuple [.ref a] s = some (.tup xs, s) := by simp only [oTuple, h]
@[simp] theorem oTuple_tup : oTuple [.tup xs] s = some (.tup xs, s) := rfl
@[simp] theorem oList_lst (h : s[a]? = some (.lst xs)) : oList [.ref a] s = some (.ref s.length, s ++ [.lst xs]) := by simp only [oList, h]
@[simp] theorem oList_tup : oList [.tup xs] s = some (.ref s.length, s ++ [.lst xs]) := rfl
@[simp] theorem oList_dic (h : s[a]? = some (.dic kvs)) : oList [.ref a] s = some (.ref s.length, s ++ [.lst (kvs.map fun kv => keyVl kv.1)]) := by simp only [oList, h]
@[simp] theorem oAppend_lst (h : s[a]? = some (.lst xs)) (hl : xs.length < LIM) : oAppend (.ref a) [v] s = some (.non, s.set a (.lst (xs ++ [v]))) := by simp only [oAppend, h, if_pos hl]
@[simp] theorem oExtend_lst (h : s[a]? = some (.lst xs)) (h2 : s[b]? = some (.lst ys)) (hl : xs.length + ys.length ≤ LIM) : oExtend (.ref a) [.ref b] s = some (.non, s.set a (.lst (xs ++ ys))) := by simp only [oExtend, h, h2, if_pos hl]
@[simp] theorem oExtend_tup (h : s[a]? = some (.lst xs)) (hl : xs.length + ys.length ≤ LIM) : oExtend (.ref a) [.tup ys] s = some (.non, s.set a (.lst (xs ++ ys))) := by simp only [oExtend, h, if_pos hl]
@[simp] theorem oPop_lst (h : s[a]? = some (.lst (xs ++ [v]))) : oPop (.ref a) [] s = some (v, s.set a (.lst xs)) := by
  simp only [oPop, h]
  simp
@[simp] theorem kd_lst (h : s[a]? = some (.lst xs)) : kd .list (.ref a) s = true := by simp only [kd, h]
@[simp] theorem kd_dic (h : s[a]? = some (.dic kvs)) : kd .dict (.ref a) s = true := by simp only [kd, h]
@[simp] theorem kd_str : kd .str (.str x) s = true := rfl
@[simp] theorem opSl_tup {lo hi : Option Int} : opSl (.tup xs) lo hi s = some (.tup (cutL xs lo hi), s) := rfl
@[simp] theorem opSl_lst {lo hi : Option Int} (h : s[a]? = some (.lst xs)) : opSl (.ref a) lo hi s = some (.ref s.length, s ++ [.lst (cutL xs lo hi)]) := by simp only [opSl, h]
@[simp] theorem opSl_scr {lo hi : Option Int} {ns : List Int} : opSl (.scr ns) lo hi s = some (.ref s.length, s ++ [.lst ((cutL ns lo hi).map Vl.int)]) := rfl
@[simp] theorem opIn_lst (h : s[a]? = some (.lst xs)) (hf : flat v = true) (ha : xs.all flat = true) : opIn v (.ref a) s = some (.bl (inF v xs), s) := by simp only [opIn, inM, h, hf, ha, Bool.and_self, if_true]
@[simp] theorem opNotIn_lst (h : s[a]? = some (.lst xs)) (hf : flat v = true) (ha : xs.all flat = true) : opNotIn v (.ref a) s = some (.bl (!inF v xs), s) := by simp only [opNotIn, inM, h, hf, ha, Bool.and_self, if_true]
@[simp] theorem opIn_tup (hf : flat v = true) (ha : xs.all flat = true) : opIn v (.tup xs) s = some (.bl (inF v xs), s) := by simp only [opIn, inM, hf, ha, Bool.and_self, if_true]
@[simp] theorem opNotIn_tup (hf : flat v = true) (ha : xs.all flat = true) : opNotIn v (.tup xs) s = some (.bl (!inF v xs), s) := by simp only [opNotIn, inM, hf, ha, Bool.and_self, if_true]
@[simp] theorem opIn_dicI (h : s[a]? = some (.dic kvs)) : opIn (.int i) (.ref a) s = some (.bl (hasK kvs (.inl i)), s) := by simp only [opIn, inM, h, keyOf]
@[simp] theorem opNotIn_dicI (h : s[a]? = some (.dic kvs)) : opNotIn (.int i) (.ref a) s = some (.bl (!hasK kvs (.inl i)), s) := by simp only [opNotIn, inM, h, keyOf]
@[simp] theorem opIn_dicS (h : s[a]? = some (.dic kvs)) : opIn (.str x) (.ref a) s = some (.bl (hasK kvs (.inr x)), s) := by simp only [opIn, inM, h, keyOf]
@[simp] theorem opNotIn_dicS (h : s[a]? = some (.dic kvs)) : opNotIn (.str x) (.ref a) s = some (.bl (!hasK kvs (.inr x)), s) := by simp only [opNotIn, inM, h, keyOf]
@[simp] theorem flat_int : flat (.int i) = true := rfl
@[simp] theorem flat_str : flat (.str x) = true := rfl
@[simp] theorem flat_bl : flat (.bl k) = true := rfl
@[simp] theorem flat_non : flat .non = true := rfl
@[simp] theorem oSortS_ints {ns : List Int} (h : s[a]? = some (.lst (ns.map Vl.int))) : oSortS [.ref a] s = some (.ref s.length, s ++ [.lst ((srt ns).map Vl.int)]) := by simp [oSortS, h, mapO_ints]
@[simp] theorem oSortS_set {ns : List Int} (h : s[a]? = some (.set ns)) (hl : ns.length < 64) : oSortS [.ref a] s = some (.ref s.length, s ++ [.lst ((srt ns).map Vl.int)]) := by simp [oSortS, h, hl]
@[simp] theorem oSet_ints {ns : List Int} (h : s[a]? = some (.lst (ns.map Vl.int))) (hl : ns.length < 4000) : oSet [.ref a] s = some (.ref s.length, s ++ [.set (ddup ns)]) := by simp [oSet, lstOf, h, mapO_ints, hl]
@[simp] theorem oAll_bls {bs : List Bool} (h : s[a]? = some (.lst (bs.map Vl.bl))) : oAll [.ref a] s = some (.bl (bs.all id), s) := by simp [oAll, lstOf, h, mapO_bls]
@[simp] theorem oAny_bls {bs : List Bool} (h : s[a]? = some (.lst (bs.map Vl.bl))) : oAny [.ref a] s = some (.bl (bs.any id), s) := by simp [oAny, lstOf, h, mapO_bls]
@[simp] theorem oSum_ints {ns : List Int} (h : s[a]? = some (.lst (ns.map Vl.int))) : oSum [.ref a] s = some (.int ns.sum, s) := by simp [oSum, lstOf, h, mapO_ints]
theorem fldW_ins {cs : List Nat} {f : Str} {c : Nat} {fs : List (Str × Vl)} {QV : Vl → Sto → Prop} (h : s[a]? = some (.ins c fs)) : fldW cs f (.ref a) s QV = (c ∈ cs ∧ match getS fs f with | some v => QV v s | none => False) := by
  simp only [fldW, h] <;> rfl
theorem setFld_ins {cs : List Nat} {f : Str} {c : Nat} {fs : List (Str × Vl)} (h : s[a]? = some (.ins c fs)) (hc : c ∈ cs ∧ fs.length < 1000) : setFld cs f (.ref a) v s = some (s.set a (.ins c (putS f v fs))) := by simp only [setFld, h, if_pos hc]
theorem methW_ins {m : Str} {tab : MTab} {c : Nat} {fs : List (Str × Vl)} {mf : List Vl → M Vl} {P : (List Vl → M Vl) → Prop} (h : s[a]? = some (.ins c fs)) (ht : tab c = some mf) (hg : getS fs m = none) : methW m tab (.ref a) s P = P mf := by simp only [methW, h, ht, hg]
@[simp] theorem lim0 : (0 ≤ LIM) = True := eq_true (by decide)
@[simp] theorem lim1 : (1 ≤ LIM) = True := eq_true (by decide)
@[simp] theorem lim2 : (2 ≤ LIM) = True := eq_true (by decide)
@[simp] theorem lim3 : (3 ≤ LIM) = True := eq_true (by decide)
@[simp] theorem lim4 : (4 ≤ LIM) = True := eq_true (by decide)
@[simp] theorem lim5 : (5 ≤ LIM) = True := eq_true (by decide)
@[simp] theorem lim6 : (6 ≤ LIM) = True := eq_true (by decide)
@[simp] theorem limz : (0 < LIM) = True := eq_true (by decide)
theorem limB {n : Nat} (h : n ≤ 1000000) : n ≤ LIM := Nat.le_trans h (by decide)
theorem limC {n : Nat} (h : n < 1000000) : n < LIM := Nat.lt_of_lt_of_le h (by decide)
end
theorem ixN_nat {n m : Nat} (h : n < m) : ixN m (n : Int) = some n := by
  simp [ixN, h]
theorem atN {α : Type} {xs : List α} {n : Nat} : atI xs (n : Int) = xs[n]? := by
  by_cases h : n < xs.length
  · simp [atI, ixN_nat h]
  · simp [atI, ixN, h, List.getElem?_eq_none (Nat.le_of_not_lt h)]
@[simp] theorem atI_0 {α : Type} {xs : List α} : atI xs 0 = xs[0]? := atN (n := 0)
@[simp] theorem atI_1 {α : Type} {xs : List α} : atI xs 1 = xs[1]? := atN (n := 1)
@[simp] theorem atI_2 {α : Type} {xs : List α} : atI xs 2 = xs[2]? := atN (n := 2)
@[simp] theorem atI_3 {α : Type} {xs : List α} : atI xs 3 = xs[3]? := atN (n := 3)
@[simp] theorem atLast {α : Type} {xs : List α} {v : α} : atI (xs ++ [v]) (-1) = some v := by
  have : ixN (xs ++ [v]).length (-1) = some xs.length := by
    simp [ixN]
    omega
  unfold atI
  rw [this]
  simp
@[simp] theorem cutL_nat {α : Type} {xs : List α} {n : Nat} : cutL xs none (some (n : Int)) = xs.take n := by
  unfold cutL
  rw [HT.sIx_none, HT.sIx_nat]
  simp [List.take_eq_take_iff]
theorem lcX_p {g : GL} {t : TM} {e : EM} {lo : Lo} {d : Nat} {xs : List Vl} {s0 : Sto} {Q : Sto → Prop} (s : Sto) (f : Vl → Option Vl) (h1 : d = s.length) (h2 : s0 = s ++ [.lst []]) (hl : xs.length < 1000000) (hx : ∀ x ∈ xs, LcP g t e lo s x (f x)) (hd : Q (s ++ [.lst (xs.filterMap f)])) : WL (lcX g t e d lo xs s0) Q := by
  subst h1 h2
  exact lcX_pure f (limC hl) hx hd
theorem lcL_p {j : Nat} {g : GL} {t : TM} {e : EM} {lo : Lo} {d : Nat} {xs : List Vl} {s0 : Sto} {Q : Sto → Prop} (s : Sto) (f : Vl → Option Vl) (h1 : d = s.length) (h2 : s0 = s ++ [.lst []]) (hj : s[j]? = some (.lst xs)) (hf : xs.length < 100000) (hx : ∀ x ∈ xs, LcP g t e lo s x (f x)) (hd : Q (s ++ [.lst (xs.filterMap f)])) :
    WL (lcN (nxLst j) g t e d lo 100000 0 s0) Q := by
  subst h1 h2
  exact lcL_pure f hj (limC (by omega)) hf hx hd
end Sm

/-! S17: texts of plain values; == with an empty list -/
namespace Sm
open PySem L2
/-- a plain value, at most n deep, at most w wide -/
def Pn (n w : Nat) (v : Vl) : Prop := ∃ d : PyData, (∀ s m, n ≤ m → toD m s v = some d) ∧ d.leavesShort 13 = true ∧ d.showable = true ∧ d.weight ≤ w
theorem Pn.mono {n m w z : Nat} {v : Vl} (h : Pn n w v) (h1 : n ≤ m) (h2 : w ≤ z) : Pn m z v := by
  obtain ⟨d, a, b, c, e⟩ := h
  exact ⟨d, fun s k hk => a s k (Nat.le_trans h1 hk), b, c, Nat.le_trans e h2⟩
theorem Pn.non : Pn 1 64 .non := by
  refine ⟨.none, fun s m hm => ?_, rfl, rfl, by simp [PyData.weight]⟩
  obtain ⟨m, rfl⟩ : ∃ k, m = k + 1 := ⟨m - 1, by omega⟩
  rfl
theorem Pn.int {i : Int} (h : i.natAbs < 10 ^ 12) : Pn 1 64 (.int i) := by
  refine ⟨.int i, fun s m hm => ?_, ?_, ?_, ?_⟩
  · obtain ⟨m, rfl⟩ : ∃ k, m = k + 1 := ⟨m - 1, by omega⟩
    rfl
  · have := int_text_length_le10 (a := i) (k := 12) (by omega) h
    simp only [PyData.leavesShort, PyData.shown]
    refine decide_eq_true ?_
    have e : (Str.ofString (toString i)).length = (toString i).length := ofString_length _
    omega
  · simp only [PyData.showable, decide_eq_true_eq]
    rcases Nat.eq_zero_or_pos i.natAbs with z | z
    · rw [z]; decide
    · have : i.natAbs.log2 < 40 := by
        rw [Nat.log2_lt (by omega)]
        exact Nat.lt_of_lt_of_le h (by decide)
      omega
  · simp only [PyData.weight]
    split
    · omega
    · rename_i z
      have z : i.natAbs ≠ 0 := by simp at z; omega
      have : i.natAbs.log2 < 40 := by
        rw [Nat.log2_lt z]
        exact Nat.lt_of_lt_of_le h (by decide)
      omega
theorem Pn.str {x : Str} (h : (x.cps.toList.all fun c => decide (c < 16 ^ 8)) = true) (hl : x.length ≤ 64) : Pn 1 64 (.str x) := by
  refine ⟨.str x, fun s m hm => ?_, ?_, rfl, ?_⟩
  · obtain ⟨m, rfl⟩ : ∃ k, m = k + 1 := ⟨m - 1, by omega⟩
    rfl
  · exact h
  · exact hl
theorem Pn.all {n w : Nat} : ∀ {xs : List Vl}, (∀ x ∈ xs, Pn n w x) → ∃ ds : List PyData, (∀ s m, n ≤ m → mapO (toD m s) xs = some ds) ∧ PyData.leavesShortAll 13 ds = true ∧ PyData.showableAll ds = true ∧ PyData.weightAll ds ≤ xs.length * (w + 1)
  | [], _ => ⟨[], fun _ _ _ => rfl, rfl, rfl, by simp [PyData.weightAll]⟩
  | x :: xs, h => by
    obtain ⟨d, a, b, c, e⟩ := h x (List.mem_cons_self ..)
    obtain ⟨ds, a', b', c', e'⟩ := Pn.all fun y hy => h y (List.mem_cons_of_mem _ hy)
    refine ⟨d :: ds, fun s m hm => ?_, ?_, ?_, ?_⟩
    · simp only [mapO, a s m hm, a' s m hm]
    · simp only [PyData.leavesShortAll, b, b', Bool.and_self]
    · simp only [PyData.showableAll, c, c', Bool.and_self]
    · simp only [PyData.weightAll, List.length_cons, Nat.add_mul, Nat.one_mul]
      omega
theorem Pn.tup {n w : Nat} {xs : List Vl} (h : ∀ x ∈ xs, Pn n w x) : Pn (n + 1) (xs.length * (w + 1)) (.tup xs) := by
  obtain ⟨ds, a, b, c, e⟩ := Pn.all h
  refine ⟨.tuple ds, fun s m hm => ?_, ?_, ?_, ?_⟩
  · obtain ⟨m, rfl⟩ : ∃ k, m = k + 1 := ⟨m - 1, by omega⟩
    simp only [toD, a s m (by omega), Option.map]
  · simpa only [PyData.leavesShort] using b
  · simpa only [PyData.showable] using c
  · simpa only [PyData.weight] using e
theorem Pn.repr {n w : Nat} {v : Vl} (h : Pn n w v) (hn : n ≤ 40) (hw : w ≤ 2 ^ 20) : ∃ x, ∀ s, oRepr [v] s = some (.str x, s) := by
  obtain ⟨d, a, b, c, e⟩ := h
  refine ⟨d.shown, fun s => ?_⟩
  have : d.shown.length ≤ LIM := by
    rw [← lim_eq]
    exact PyData.shown_fits (by omega) (by omega) b (by omega)
  simp only [oRepr, a s 40 hn, c, this, decide_true, Bool.and_self, if_true]
theorem canLay_ints : ∀ ns : List Int, PyData.canLayAll0 (ns.map PyData.int) = true
  | [] => rfl
  | n :: ns => by simp only [List.map_cons, PyData.canLayAll0, PyData.canLay0, canLay_ints ns, Bool.and_self]
theorem toD_ints {s : Sto} {m : Nat} : ∀ ns : List Int, mapO (toD (m + 1) s) (ns.map Vl.int) = some (ns.map PyData.int)
  | [] => rfl
  | n :: ns => by
    have e : toD (m + 1) s (.int n) = some (.int n) := rfl
    simp only [List.map_cons, mapO, e, toD_ints ns]
theorem toD_lst {s : Sto} {m a : Nat} {xs : List Vl} (h : s[a]? = some (.lst xs)) : toD (m + 1) s (.ref a) = (mapO (toD m s) xs).map .list := by
  unfold toD
  simp only [h]
theorem eqM_nil {s : Sto} {a b : Nat} {ns : List Int} (h1 : s[a]? = some (.lst (ns.map Vl.int))) (h2 : s[b]? = some (.lst [])) : eqM (.ref a) (.ref b) s = some ns.isEmpty := by
  have e1 : toD 40 s (.ref a) = some (.list (ns.map PyData.int)) := by
    rw [toD_lst (m := 39) h1, toD_ints (m := 38)]
    rfl
  have e2 : toD 40 s (.ref b) = some (.list []) := by
    rw [toD_lst (m := 39) h2]
    rfl
  have e3 : PyData.canLay0 (.list (ns.map PyData.int)) = true := by simpa only [PyData.canLay0] using canLay_ints ns
  have e4 : PyData.canLay0 (.list []) = true := rfl
  simp only [eqM, eqS, e1, e2, e3, e4, Bool.and_self, if_true, PyData.eqv]
  cases ns <;> simp [PyData.eqvAll]
theorem opNe_nil {s : Sto} {a b : Nat} {ns : List Int} (h1 : s[a]? = some (.lst (ns.map Vl.int))) (h2 : s[b]? = some (.lst [])) : opNe (.ref a) (.ref b) s = some (.bl (!ns.isEmpty), s) := by
  simp only [opNe, eqM_nil h1 h2]
section
variable {mf : List Vl → M Vl} {s : Sto} {QV : Vl → Sto → Prop} {E : Ex → Sto → Prop} {x y z : Vl}
end
@[simp] theorem rngW_nat {n : Nat} {s : Sto} {QA : List Vl → Sto → Prop} (h : n < 1000000) : rngW [.int (n : Int)] s QA = QA (rng 0 n) s := by
  rw [rngW_one]
  have h1 : -(2 ^ 62) ≤ (n : Int) := by omega
  have h2 : (n : Int) < 2 ^ 62 := by omega
  have e : (n : Int).toNat = n := Int.toNat_natCast n
  rw [e]
  exact propext ⟨fun z => z.2, fun z => ⟨⟨h1, h2⟩, z⟩⟩
theorem rng_get {n i : Nat} {v : Vl} (h : (rng 0 n)[i]? = some v) : i < n ∧ v = .int (i : Nat) := by
  have h1 := (List.getElem?_eq_some_iff.mp h).1
  have h2 : i < n := by simpa [rng] using h1
  refine ⟨h2, ?_⟩
  simp [rng, h2] at h
  exact h.symm
@[simp] theorem rng_len {n : Nat} : (rng 0 n).length = n := by simp [rng]
end Sm

/-! S23: dicts, lists of ints, new rules of the pure programs; plain lemmas -/
namespace Sm
open PySem L2
section
variable {s : Sto} {lo : Lo} {QV : Vl → Sto → Prop} {E : Ex → Sto → Prop}
@[simp ↓] theorem WE_eMakeB {c : Nat} : WE (eMakeB c lo) s QV E = QV (.ref s.length) (s ++ [.ins c []]) := by simp only [WE_eq]; rfl
@[simp ↓] theorem WE_starM {n : Nat} {mf : List Vl → M Vl} {as : List Vl} : WE (starM n mf as) s QV E = (if n ≤ as.length ∧ as.length ≤ LIM then WE (mf (as.take n ++ [.tup (as.drop n)])) s QV E else False) := by
  by_cases h : n ≤ as.length ∧ as.length ≤ LIM
  · simp only [WE_eq, WE0, starM, if_pos h]
  · simp only [WE_eq, WE0, starM, if_neg h]
def callW (tab : MTab) (j : Nat) (s : Sto) (P : (List Vl → M Vl) → Prop) : Prop := match s[j]? with
  | some (.ins c _) => match tab c with
    | some mf => P mf
    | none => False
  | _ => False
theorem WE_eCallO {tab : MTab} {o : EM} {a : AM} : WE (eCallO tab o a lo) s QV E = WE (o lo) s (fun x s => match x with | .ref j => WE (a lo) s (fun as s => callW tab j s fun mf => WE (mf (.ref j :: as)) s QV E) E | _ => False) E := by
  unfold eCallO
  rw [WE_bnd]
  refine WE_ext fun x s => ?_
  cases x <;> try (simp only [WE_eq]; rfl)
  rename_i j
  show WE (bnd (a lo) _) s QV E = _
  rw [WE_bnd]
  refine WE_ext fun as s => ?_
  simp only [WE_eq]
  unfold WE0 callW
  simp only
  cases h : s[j]? with
  | none => rfl
  | some o =>
    cases o <;> try rfl
    rename_i c fs
    simp only
    cases h1 : tab c with
    | none => rfl
    | some mf => simp only [WE_eq] <;> rfl
end
@[simp] theorem look_put_self {κ : Type} [DecidableEq κ] {kvs : List (κ × Vl)} {k : κ} {v : Vl} : look (put kvs k v) k = some v := by
  induction kvs with
  | nil => simp [put, look]
  | cons p r ih =>
    unfold put
    split
    · simp [look]
    · rename_i h
      simp [look, h, ih]
theorem put_new {y : Int} {v : Vl} : ∀ {kvs : List (Key × Vl)} {K : List Int}, kvs.map (·.1) = K.map Sum.inl → y ∉ K → (put kvs (.inl y) v).map (·.1) = (K ++ [y]).map Sum.inl
  | [], [], _, _ => rfl
  | [], _ :: _, h, _ => by simp at h
  | _ :: _, [], h, _ => by simp at h
  | p :: r, k :: K, h, hy => by
    simp only [List.map_cons, List.cons.injEq] at h
    simp only [List.mem_cons, not_or] at hy
    unfold put
    have q : p.1 ≠ .inl y := fun e => hy.1 (by rw [h.1] at e; cases e; rfl)
    rw [if_neg q]
    simp only [List.map_cons, List.cons_append, put_new h.2 hy.2, h.1]
abbrev Inc (A : List Int) : Prop := A.Pairwise (· < ·)
@[simp] theorem inF_ints {c : Int} : ∀ C : List Int, inF (.int c) (C.map Vl.int) = decide (c ∈ C)
  | [] => by simp [inF]
  | x :: C => by
    have := inF_ints (c := c) C
    have e : eqF (.int x) (.int c) = decide (c = x) := by
      simp [eqF]
      by_cases q : x = c
      · simp [q]
      · simp [q, Ne.symm q]
    simp [inF, e] at this ⊢
    rw [this]
@[simp] theorem flat_ints {xs : List Int} : (xs.map Vl.int).all flat = true := by simp [List.all_map]
end Sm

/-! S24: texts that are written out; small rules -/
namespace Sm
open PySem L2
theorem toNat_map_inj : ∀ {a b : List Char}, a.map Char.toNat = b.map Char.toNat → a = b
  | [], [], _ => rfl
  | [], _ :: _, h => by simp at h
  | _ :: _, [], h => by simp at h
  | x :: a, y :: b, h => by
    simp only [List.map_cons, List.cons.injEq] at h
    rw [toNat_map_inj h.2, Char.toNat_inj.mp h.1]
theorem ofString_inj {a b : String} (h : Str.ofString a = Str.ofString b) : a = b := by
  rw [Str.ofString_eq_toList, Str.ofString_eq_toList] at h
  have h1 := congrArg (fun z => z.cps.toList) h
  simp only at h1
  exact String.toList_inj.mp (toNat_map_inj h1)
@[simp] theorem ofString_eq_iff {a b : String} : (Str.ofString a = Str.ofString b) = (a = b) := propext ⟨ofString_inj, fun h => by rw [h]⟩
@[simp] theorem ofString_beq {a b : String} : (Str.ofString a == Str.ofString b) = (a == b) := by
  by_cases h : a = b
  · subst h; simp
  · rw [beq_eq_false_iff_ne.mpr h, beq_eq_false_iff_ne.mpr fun z => h (ofString_inj z)]
@[simp] theorem eqF_str {a b : Str} : eqF (.str a) (.str b) = (a == b) := rfl
@[simp] theorem eqF_int {a b : Int} : eqF (.int a) (.int b) = (a == b) := rfl
@[simp] theorem inF_nil {x : Vl} : inF x [] = false := rfl
@[simp] theorem inF_cons {x y : Vl} {ys : List Vl} : inF x (y :: ys) = (eqF y x || inF x ys) := rfl
section
variable {s : Sto} {x : Str} {i : Int} {xs : List Vl} {a : Nat}
@[simp] theorem opIn_tupS : opIn (.str x) (.tup xs) s = if xs.all flat = true then some (.bl (inF (.str x) xs), s) else none := by
  by_cases h : xs.all flat = true
  · rw [if_pos h, opIn_tup rfl h]
  · have h' : xs.all flat = false := by simpa using h
    rw [if_neg h]; simp only [opIn, inM, h', Bool.and_false]; rfl
@[simp] theorem opNotIn_tupS : opNotIn (.str x) (.tup xs) s = if xs.all flat = true then some (.bl (!inF (.str x) xs), s) else none := by
  by_cases h : xs.all flat = true
  · rw [if_pos h, opNotIn_tup rfl h]
  · have h' : xs.all flat = false := by simpa using h
    rw [if_neg h]; simp only [opNotIn, inM, h', Bool.and_false]; rfl
@[simp] theorem opIn_tupI : opIn (.int i) (.tup xs) s = if xs.all flat = true then some (.bl (inF (.int i) xs), s) else none := by
  by_cases h : xs.all flat = true
  · rw [if_pos h, opIn_tup rfl h]
  · have h' : xs.all flat = false := by simpa using h
    rw [if_neg h]; simp only [opIn, inM, h', Bool.and_false]; rfl
@[simp] theorem opNotIn_tupI : opNotIn (.int i) (.tup xs) s = if xs.all flat = true then some (.bl (!inF (.int i) xs), s) else none := by
  by_cases h : xs.all flat = true
  · rw [if_pos h, opNotIn_tup rfl h]
  · have h' : xs.all flat = false := by simpa using h
    rw [if_neg h]; simp only [opNotIn, inM, h', Bool.and_false]; rfl
@[simp] theorem opIn_lstS (h1 : s[a]? = some (.lst xs)) : opIn (.str x) (.ref a) s = if xs.all flat = true then some (.bl (inF (.str x) xs), s) else none := by
  by_cases h : xs.all flat = true
  · rw [if_pos h, opIn_lst h1 rfl h]
  · have h' : xs.all flat = false := by simpa using h
    rw [if_neg h]; simp only [opIn, inM, h1, h', Bool.and_false]; rfl
@[simp] theorem opNotIn_lstS (h1 : s[a]? = some (.lst xs)) : opNotIn (.str x) (.ref a) s = if xs.all flat = true then some (.bl (!inF (.str x) xs), s) else none := by
  by_cases h : xs.all flat = true
  · rw [if_pos h, opNotIn_lst h1 rfl h]
  · have h' : xs.all flat = false := by simpa using h
    rw [if_neg h]; simp only [opNotIn, inM, h1, h', Bool.and_false]; rfl
@[simp] theorem opIn_lstI (h1 : s[a]? = some (.lst xs)) : opIn (.int i) (.ref a) s = if xs.all flat = true then some (.bl (inF (.int i) xs), s) else none := by
  by_cases h : xs.all flat = true
  · rw [if_pos h, opIn_lst h1 rfl h]
  · have h' : xs.all flat = false := by simpa using h
    rw [if_neg h]; simp only [opIn, inM, h1, h', Bool.and_false]; rfl
@[simp] theorem opNotIn_lstI (h1 : s[a]? = some (.lst xs)) : opNotIn (.int i) (.ref a) s = if xs.all flat = true then some (.bl (!inF (.int i) xs), s) else none := by
  by_cases h : xs.all flat = true
  · rw [if_pos h, opNotIn_lst h1 rfl h]
  · have h' : xs.all flat = false := by simpa using h
    rw [if_neg h]; simp only [opNotIn, inM, h1, h', Bool.and_false]; rfl
end
@[simp] theorem lim7 : (7 ≤ LIM) = True := eq_true (by decide)
@[simp] theorem lim8 : (8 ≤ LIM) = True := eq_true (by decide)
@[simp] theorem lim9 : (9 ≤ LIM) = True := eq_true (by decide)
@[simp] theorem lim10 : (10 ≤ LIM) = True := eq_true (by decide)
@[simp] theorem lim11 : (11 ≤ LIM) = True := eq_true (by decide)
@[simp] theorem lim12 : (12 ≤ LIM) = True := eq_true (by decide)
@[simp] theorem lim13 : (13 ≤ LIM) = True := eq_true (by decide)
@[simp] theorem lim14 : (14 ≤ LIM) = True := eq_true (by decide)
@[simp] theorem lim15 : (15 ≤ LIM) = True := eq_true (by decide)
@[simp] theorem lim16 : (16 ≤ LIM) = True := eq_true (by decide)
@[simp] theorem lim17 : (17 ≤ LIM) = True := eq_true (by decide)
@[simp] theorem lim18 : (18 ≤ LIM) = True := eq_true (by decide)
@[simp] theorem lim19 : (19 ≤ LIM) = True := eq_true (by decide)
@[simp] theorem lim20 : (20 ≤ LIM) = True := eq_true (by decide)
@[simp] theorem lim21 : (21 ≤ LIM) = True := eq_true (by decide)
@[simp] theorem lim22 : (22 ≤ LIM) = True := eq_true (by decide)
@[simp] theorem lim23 : (23 ≤ LIM) = True := eq_true (by decide)
@[simp] theorem lim24 : (24 ≤ LIM) = True := eq_true (by decide)
@[simp] theorem lim25 : (25 ≤ LIM) = True := eq_true (by decide)
@[simp] theorem lim26 : (26 ≤ LIM) = True := eq_true (by decide)
@[simp] theorem lim27 : (27 ≤ LIM) = True := eq_true (by decide)
@[simp] theorem lim28 : (28 ≤ LIM) = True := eq_true (by decide)
@[simp] theorem lim29 : (29 ≤ LIM) = True := eq_true (by decide)
@[simp] theorem lim30 : (30 ≤ LIM) = True := eq_true (by decide)
@[simp] theorem lim31 : (31 ≤ LIM) = True := eq_true (by decide)
@[simp] theorem lim32 : (32 ≤ LIM) = True := eq_true (by decide)
@[simp] theorem lim33 : (33 ≤ LIM) = True := eq_true (by decide)
@[simp] theorem lim34 : (34 ≤ LIM) = True := eq_true (by decide)
@[simp] theorem lim35 : (35 ≤ LIM) = True := eq_true (by decide)
@[simp] theorem lim36 : (36 ≤ LIM) = True := eq_true (by decide)
@[simp] theorem lim37 : (37 ≤ LIM) = True := eq_true (by decide)
@[simp] theorem lim38 : (38 ≤ LIM) = True := eq_true (by decide)
@[simp] theorem lim39 : (39 ≤ LIM) = True := eq_true (by decide)
@[simp] theorem lim40 : (40 ≤ LIM) = True := eq_true (by decide)
theorem Pn.bl {b : Bool} : Pn 1 64 (.bl b) := by
  refine ⟨.bool b, fun s m hm => ?_, by cases b <;> decide, rfl, by simp [PyData.weight]⟩
  obtain ⟨m, rfl⟩ : ∃ k, m = k + 1 := ⟨m - 1, by omega⟩
  rfl
theorem Pn.ints {ns : List Int} {n : Nat} (h : ∀ x ∈ ns, x.natAbs < 10 ^ 12) (hn : ns.length ≤ n) : Pn 2 (n * 65) (.tup (ns.map Vl.int)) :=
  (Pn.tup (n := 1) (w := 64) fun x hx => by
    obtain ⟨i, hi, rfl⟩ := List.mem_map.mp hx
    exact Pn.int (h i hi)).mono (Nat.le_refl _) (by simp; omega)
/-- an item of a mapped list -/
theorem get_map {α β : Type} {f : α → β} {xs : List α} {i : Nat} {v : β} (h : (xs.map f)[i]? = some v) : ∃ x, xs[i]? = some x ∧ v = f x := by
  rw [List.getElem?_map] at h
  cases q : xs[i]? with
  | none => rw [q] at h; cases h
  | some e => rw [q] at h; exact ⟨e, rfl, by simpa using h.symm⟩
theorem take_succ_get {α : Type} {xs : List α} {i : Nat} {x : α} (h : xs[i]? = some x) : xs.take (i + 1) = xs.take i ++ [x] := by
  rw [List.take_add_one, h]; rfl
end Sm

/-! S29: how the newer parts of pure programs are computed -/
namespace Sm
open PySem L2
section
variable {s : Sto} {lo : Lo} {QV : Vl → Sto → Prop} {QA : List Vl → Sto → Prop} {E : Ex → Sto → Prop} {K : RK} {N : Lo → Sto → Prop}
def WGs0 (gs : List GM) (vs : List Vl) (lo : Lo) (s : Sto) (N : Lo → Sto → Prop) : Prop := match gAll gs vs lo s with
  | some (lo', s') => N lo' s'
  | none => False
structure WGs (gs : List GM) (vs : List Vl) (lo : Lo) (s : Sto) (N : Lo → Sto → Prop) (_ : Tg N := .a) : Prop where
  h : WGs0 gs vs lo s N
theorem WGs_eq {gs : List GM} {vs : List Vl} : WGs gs vs lo s N = WGs0 gs vs lo s N := propext ⟨fun x => x.h, fun x => ⟨x⟩⟩
@[simp ↓] theorem WG_gTs {gs : List GM} {xs : List Vl} : WG (gTs gs) (.tup xs) lo s N E = WGs gs xs lo s N := by
  simp only [WG_eq, WE_eq, WGs_eq]
  unfold WE0 gTs WGs0
  simp only
  cases gAll gs xs lo s with
  | none => rfl
  | some p => obtain ⟨a, b⟩ := p; rfl
@[simp ↓] theorem WGs_nil : WGs [] [] lo s N = N lo s := by simp only [WGs_eq]; rfl
@[simp ↓] theorem WGs_cons {g : GM} {gs : List GM} {v : Vl} {vs : List Vl} : WGs (g :: gs) (v :: vs) lo s N = WG g v lo s (fun lo s => WGs gs vs lo s N) NoX := by
  simp only [WG_eq, WE_eq, WGs_eq]
  unfold WE0 WGs0
  have e : gAll (g :: gs) (v :: vs) lo s = match g v lo s with | .ok lo' s' => gAll gs vs lo' s' | _ => none := rfl
  rw [e]
  cases g v lo s with
  | ok a b => simp only [WGs_eq] <;> rfl
  | exc a b => rfl
  | fail => rfl
def ulW (x : Vl) (s : Sto) (P : List Vl → Prop) : Prop := match x with
  | .ref j => match s[j]? with
    | some (.lst xs) => P xs
    | _ => False
  | _ => False
@[simp] theorem ulW_ref {j : Nat} {P : List Vl → Prop} {xs : List Vl} (h : s[j]? = some (.lst xs)) : ulW (.ref j) s P = P xs := by simp [ulW, h]
@[simp ↓] theorem WG_gUl {gs : List GM} {x : Vl} : WG (gUl gs) x lo s N E = ulW x s fun xs => WGs gs xs lo s N := by
  simp only [WG_eq, WE_eq, WGs_eq]
  unfold WE0 gUl ulW WGs0
  cases x <;> try rfl
  rename_i j
  dsimp only
  cases s[j]? with
  | none => rfl
  | some o =>
    cases o <;> try rfl
    rename_i xs
    dsimp only
    cases gAll gs xs lo s with
    | none => rfl
    | some p => obtain ⟨a, b⟩ := p; rfl
def atW (lo : Lo) (i : Nat) (P : Vl → Prop) : Prop := match lo[i]? with
  | some (some x) => P x
  | _ => False
@[simp ↓] theorem WS_sAug {i : Nat} {f : O2} {e : EM} : WS (sAug i f e) lo s K = (match lo[i]? with | some (some x) => WE (e lo) s (fun v s => WO (f x v s) fun z s => K.nx (lo.set i (some z)) s) (fun x s => K.ex x lo s) | _ => False) := by
  simp only [WS_eq]
  unfold WS0 sAug
  cases h : lo[i]? with
  | none => simp only [h]
  | some o =>
    cases o with
    | none => simp only [h]
    | some x =>
      simp only [h]
      have := WS_bndS (m := e) (lo := lo) (s := s) (K := K) (f := fun lo v s => match f x v s with | some (z, s') => .nx (lo.set i (some z)) s' | none => .fail)
      refine Eq.trans (b := WS (bndS e fun lo v s => match f x v s with | some (z, s') => .nx (lo.set i (some z)) s' | none => .fail) lo s K) (by simp only [WS_eq]; rfl) (this.trans ?_)
      refine WE_ext fun v s => ?_
      simp only [WO_eq]
      unfold WO0
      cases f x v s with
      | none => rfl
      | some p => obtain ⟨a, b⟩ := p; rfl
@[simp] theorem opIAdd_int {i j : Int} : opIAdd (.int i) (.int j) s = some (.int (i + j), s) := rfl
@[simp] theorem opISub_int {i j : Int} : opISub (.int i) (.int j) s = some (.int (i - j), s) := rfl
@[simp] theorem opIAdd_str {x y : Str} (h : x.length + y.length ≤ LIM) : opIAdd (.str x) (.str y) s = some (.str (x ++ y), s) := by simp only [opIAdd, if_pos h]
@[simp ↓] theorem WE_eChain {f f' : O2} {a b c : EM} : WE (eChain f f' a b c lo) s QV E = WE (a lo) s (fun x s => WE (b lo) s (fun y s => WO (f x y s) fun z s => match z with | .bl true => WE (c lo) s (fun w s => WO (f' y w s) QV) E | .bl false => QV (.bl false) s | _ => False) E) E := by
  unfold eChain
  rw [WE_bnd]
  refine WE_ext fun x s => ?_
  rw [WE_bnd]
  refine WE_ext fun y s => ?_
  rw [WE_bnd, WE_lift]
  have : ∀ (o : Option (Vl × Sto)) (P P' : Vl → Sto → Prop), (∀ a s, P a s = P' a s) → WO o P = WO o P' := fun o P P' h => by
    have : P = P' := funext fun a => funext fun s => h a s
    subst this; rfl
  refine this _ _ _ fun z s => ?_
  cases z <;> try (simp only [WE_eq]; rfl)
  rename_i k
  cases k with
  | false => simp only [WE_eq]; rfl
  | true =>
    simp only
    rw [WE_bnd]
    exact WE_ext fun w s => WE_lift
def dicW (x : Vl) (s : Sto) (P : Nat → Prop) : Prop := match x with
  | .ref j => isDic j s = true ∧ P j
  | _ => False
@[simp] theorem dicW_ref {j : Nat} {P : Nat → Prop} {kvs : List (Key × Vl)} (h : s[j]? = some (.dic kvs)) : dicW (.ref j) s P = P j := by simp [dicW, isDic, h]
def getW (j : Nat) (y : Vl) (s : Sto) (P : List (Key × Vl) → Key → Prop) : Prop := match s[j]?, keyOf y with
  | some (.dic kvs), some key => P kvs key
  | _, _ => False
@[simp] theorem getW_str {j : Nat} {x : Str} {kvs : List (Key × Vl)} {P : List (Key × Vl) → Key → Prop} (h : s[j]? = some (.dic kvs)) : getW j (.str x) s P = P kvs (.inr x) := by simp [getW, h, keyOf]
@[simp] theorem getW_int {j : Nat} {x : Int} {kvs : List (Key × Vl)} {P : List (Key × Vl) → Key → Prop} (h : s[j]? = some (.dic kvs)) : getW j (.int x) s P = P kvs (.inl x) := by simp [getW, h, keyOf]
@[simp ↓] theorem WE_eDGet1 {d k : EM} : WE (eDGet1 d k lo) s QV E = WE (d lo) s (fun x s => dicW x s fun j => WE (k lo) s (fun y s => getW j y s fun kvs key => QV ((look kvs key).getD .non) s) E) E := by
  unfold eDGet1
  rw [WE_bnd]
  refine WE_ext fun x s => ?_
  cases x <;> try (simp only [WE_eq]; rfl)
  rename_i j
  unfold dicW
  by_cases h : isDic j s = true
  · simp only [h, true_and]
    refine Eq.trans (b := WE (bnd (k lo) fun y s => match s[j]?, keyOf y with | some (.dic kvs), some key => .ok ((look kvs key).getD .non) s | _, _ => .fail) s QV E) ?_ ?_
    · simp only [WE_eq]; unfold WE0; simp only [h, if_true] <;> rfl
    · rw [WE_bnd]
      refine WE_ext fun y s => ?_
      simp only [WE_eq]
      unfold WE0 getW
      dsimp only
      cases s[j]? with
      | none => rfl
      | some o => cases o <;> cases keyOf y <;> rfl
  · simp only [h, false_and, Bool.false_eq_true]
    simp only [WE_eq]; unfold WE0; simp only [h, if_false, Bool.false_eq_true]
@[simp ↓] theorem WE_eDGet2 {d k v : EM} : WE (eDGet2 d k v lo) s QV E = WE (d lo) s (fun x s => dicW x s fun j => WE (k lo) s (fun y s => WE (v lo) s (fun z s => getW j y s fun kvs key => QV ((look kvs key).getD z) s) E) E) E := by
  unfold eDGet2
  rw [WE_bnd]
  refine WE_ext fun x s => ?_
  cases x <;> try (simp only [WE_eq]; rfl)
  rename_i j
  unfold dicW
  by_cases h : isDic j s = true
  · simp only [h, true_and]
    refine Eq.trans (b := WE (bnd (k lo) fun y => bnd (v lo) fun z s => match s[j]?, keyOf y with | some (.dic kvs), some key => .ok ((look kvs key).getD z) s | _, _ => .fail) s QV E) ?_ ?_
    · simp only [WE_eq]; unfold WE0; simp only [h, if_true] <;> rfl
    · rw [WE_bnd]
      refine WE_ext fun y s => ?_
      rw [WE_bnd]
      refine WE_ext fun z s => ?_
      simp only [WE_eq]
      unfold WE0 getW
      dsimp only
      cases s[j]? with
      | none => rfl
      | some o => cases o <;> cases keyOf y <;> rfl
  · simp only [h, false_and, Bool.false_eq_true]
    simp only [WE_eq]; unfold WE0; simp only [h, if_false, Bool.false_eq_true]
@[simp ↓] theorem WE_aEnm {e : AM} : WE (aEnm e lo) s QA E = WE (e lo) s (fun as s => match as with | [.tup xs] => QA (enmL xs) s | _ => False) E := by
  unfold aEnm
  rw [WE_bnd]
  refine WE_ext fun as s => ?_
  match as with
  | [] => simp only [WE_eq]; rfl
  | [.tup xs] => simp only [WE_eq]; rfl
  | .non :: _ => cases ‹List Vl› <;> simp only [WE_eq] <;> rfl
  | .bl _ :: _ => cases ‹List Vl› <;> simp only [WE_eq] <;> rfl
  | .int _ :: _ => cases ‹List Vl› <;> simp only [WE_eq] <;> rfl
  | .str _ :: _ => cases ‹List Vl› <;> simp only [WE_eq] <;> rfl
  | .ref _ :: _ => cases ‹List Vl› <;> simp only [WE_eq] <;> rfl
  | .scr _ :: _ => cases ‹List Vl› <;> simp only [WE_eq] <;> rfl
  | .ty _ :: _ => cases ‹List Vl› <;> simp only [WE_eq] <;> rfl
  | .fn _ :: _ => cases ‹List Vl› <;> simp only [WE_eq] <;> rfl
  | .tup _ :: _ :: _ => simp only [WE_eq]; rfl
@[simp ↓] theorem WE_dflM {n : Nat} {das as : List Vl} {mf : List Vl → M Vl} : WE (dflM n das mf as) s QV E = (if as.length + das.length = n then WE (mf (as ++ das)) s QV E else False) := by
  by_cases h : as.length + das.length = n
  · simp only [WE_eq, WE0, dflM, if_pos h]
  · simp only [WE_eq, WE0, dflM, if_neg h]
end
section
variable {s : Sto} {a : Nat} {x : Str} {xs : List Vl} {kvs : List (Key × Vl)}
theorem oJoin_strs {ys : List Str} (h : s[a]? = some (.lst (ys.map Vl.str))) (hl : (ys.map (·.length)).sum + ys.length * x.length ≤ LIM) : oJoin (.str x) [.ref a] s = some (.str (Txt.join x ys), s) := by simp [oJoin, lstOf, h, mapO_strs, hl]
@[simp] theorem oDict_dic (h : s[a]? = some (.dic kvs)) : oDict [.ref a] s = some (.ref s.length, s ++ [.dic kvs]) := by simp only [oDict, h]
theorem oDictP_lst {ps : List (Key × Vl)} (h : s[a]? = some (.lst xs)) (hp : mapO asPr xs = some ps) : oDictP [.ref a] s = some (.ref s.length, s ++ [.dic (mergeP [] ps)]) := by simp [oDictP, lstOf, h, hp]
theorem strKeys_eq : ∀ {kvs : List (Key × Vl)} {ks : List Str}, kvs.map (·.1) = ks.map Sum.inr → strKeys kvs = some ks
  | [], [], _ => rfl
  | [], _ :: _, h => by simp at h
  | _ :: _, [], h => by simp at h
  | p :: r, k :: ks, h => by
    simp only [List.map_cons, List.cons.injEq] at h
    obtain ⟨⟨k1, v⟩, r⟩ : ∃ q : Key × Vl, q = p := ⟨p, rfl⟩
    have ih := strKeys_eq h.2
    cases p with
    | mk q v =>
      obtain ⟨h1, h2⟩ := h
      simp only at h1
      subst h1
      simp [strKeys, ih]
@[simp] theorem kd_join : kd .str (.str x) s = true := rfl
@[simp] theorem oLen_str (h : x.length ≤ LIM) : oLen [.str x] s = some (.int x.length, s) := by simp [oLen, lenM, h]
@[simp] theorem opIx_str {i : Int} (h : x.length ≤ LIM) : opIx (.str x) (.int i) s = (atI x.cps.toList i).map fun c => (.str ⟨#[c]⟩, s) := by simp only [opIx, if_pos h]
@[simp] theorem oStr_int {i : Int} (h : i.natAbs.log2 < 1920) : oStr [.int i] s = some (.str (toString i), s) := by simp only [oStr, if_pos h]
end
theorem str_len {x : Str} : x.length = x.cps.toList.length := by simp [Str.length]
theorem str_append {x y : Str} : (x ++ y).cps.toList = x.cps.toList ++ y.cps.toList := by
  show (x.cps ++ y.cps).toList = _
  simp
/-- == of any list with an empty one -/
theorem eqM_lstN {s : Sto} {a b : Nat} {xs : List Vl} {ds : List PyData} (h1 : s[a]? = some (.lst xs)) (h2 : s[b]? = some (.lst [])) (hd : mapO (toD 39 s) xs = some ds) (hc : PyData.canLayAll0 ds = true) : eqM (.ref a) (.ref b) s = some xs.isEmpty := by
  have e1 : toD 40 s (.ref a) = some (.list ds) := by rw [toD_lst (m := 39) h1, hd]; rfl
  have e2 : toD 40 s (.ref b) = some (.list []) := by rw [toD_lst (m := 39) h2]; rfl
  have e3 : PyData.canLay0 (.list ds) = true := by simpa only [PyData.canLay0] using hc
  have e4 : PyData.canLay0 (.list []) = true := rfl
  have e5 : ds.isEmpty = xs.isEmpty := by
    cases xs with
    | nil => cases hd; rfl
    | cons x xs =>
      unfold mapO at hd
      cases q : toD 39 s x with
      | none => simp only [q] at hd; cases hd
      | some d =>
        simp only [q] at hd
        cases q2 : mapO (toD 39 s) xs with
        | none => simp only [q2] at hd; cases hd
        | some r => simp only [q2] at hd; cases hd; rfl
  simp only [eqM, eqS, e1, e2, e3, e4, Bool.and_self, if_true, PyData.eqv]
  rw [← e5]
  cases ds <;> simp [PyData.eqvAll]
theorem toD_strs {s : Sto} {m : Nat} : ∀ ns : List Str, mapO (toD (m + 1) s) (ns.map Vl.str) = some (ns.map PyData.str)
  | [] => rfl
  | n :: ns => by
    have e : toD (m + 1) s (.str n) = some (.str n) := rfl
    simp only [List.map_cons, mapO, e, toD_strs ns]
theorem canLay_strs : ∀ {ns : List Str}, (∀ z ∈ ns, PyData.strOk z = true) → PyData.canLayAll0 (ns.map PyData.str) = true
  | [], _ => rfl
  | n :: ns, h => by
    have h1 := h n (List.mem_cons_self ..)
    have h2 := canLay_strs (ns := ns) fun z hz => h z (List.mem_cons_of_mem _ hz)
    simp only [List.map_cons, PyData.canLayAll0, PyData.canLay0, h1, h2, Bool.and_self]
/-- plain values, each with its own weight -/
theorem Pn.tupS {n : Nat} : ∀ {xs : List Vl} {ws : List Nat}, ws.length = xs.length → (∀ (i : Nat) (x : Vl) (w : Nat), xs[i]? = some x → ws[i]? = some w → Pn n w x) → Pn (n + 1) ((ws.map (· + 1)).sum) (.tup xs) := by
  intro xs ws hl h
  have key : ∃ ds : List PyData, (∀ s m, n ≤ m → mapO (toD m s) xs = some ds) ∧ PyData.leavesShortAll 13 ds = true ∧ PyData.showableAll ds = true ∧ PyData.weightAll ds ≤ (ws.map (· + 1)).sum := by
    induction xs generalizing ws with
    | nil =>
      cases ws with
      | nil => exact ⟨[], fun _ _ _ => rfl, rfl, rfl, by simp [PyData.weightAll]⟩
      | cons w ws => simp at hl
    | cons x xs ih =>
      cases ws with
      | nil => simp at hl
      | cons w ws =>
        obtain ⟨d, a, b, c, e⟩ := h 0 x w rfl rfl
        obtain ⟨ds, a', b', c', e'⟩ := ih (by simpa using hl) fun i y v h1 h2 => h (i + 1) y v (by simpa using h1) (by simpa using h2)
        refine ⟨d :: ds, fun s m hm => ?_, ?_, ?_, ?_⟩
        · simp only [mapO, a s m hm, a' s m hm]
        · simp only [PyData.leavesShortAll, b, b', Bool.and_self]
        · simp only [PyData.showableAll, c, c', Bool.and_self]
        · simp only [PyData.weightAll, List.map_cons, List.sum_cons]
          omega
  obtain ⟨ds, a, b, c, e⟩ := key
  refine ⟨.tuple ds, fun s m hm => ?_, ?_, ?_, ?_⟩
  · obtain ⟨m, rfl⟩ : ∃ k, m = k + 1 := ⟨m - 1, by omega⟩
    simp only [toD, a s m (by omega), Option.map]
  · simpa only [PyData.leavesShort] using b
  · simpa only [PyData.showable] using c
  · simpa only [PyData.weight] using e
end Sm

/-! S30: programs of cells: tests, statements, blocks -/
namespace Sm
open PySem L2
/-- a short text of plain signs -/
structure Nice (x : Str) : Prop where
  len : x.length ≤ 20
  sgn : ∀ c ∈ x.cps.toList, c < 128
theorem Nice.pn {x : Str} (h : Nice x) : Pn 1 64 (.str x) := Pn.str (by
  rw [List.all_eq_true]
  intro c hc
  have := h.sgn c hc
  exact decide_eq_true (by omega)) (by have := h.len; omega)
theorem Nice.strOk {x : Str} (h : Nice x) : PyData.strOk x = true := by
  unfold PyData.strOk
  rw [← Array.all_toList, List.all_eq_true]
  intro c hc
  have := h.sgn c hc
  exact decide_eq_true (by omega)
inductive Tst where
  | given (i : Nat) | set (x : Str) | same (x y : Str) | full (x f : Str) | wished (w : Str) | not (t : Tst)
def Tst.vl : Tst → Vl
  | .given i => .tup [.str "given", .int (i : Nat)]
  | .set x => .tup [.str "set", .str x]
  | .same x y => .tup [.str "same", .str x, .str y]
  | .full x f => .tup [.str "full", .str x, .str f]
  | .wished w => .tup [.str "wished", .str w]
  | .not t => .tup [.str "not", t.vl]
/-- a right test, at most n "not" in one another, g givens -/
def Tst.ok (g : Nat) : Nat → Tst → Prop
  | _, .given i => i < g
  | _, .set x => Nice x
  | _, .same x y => Nice x ∧ Nice y
  | _, .full x f => Nice x ∧ Nice f
  | _, .wished w => Nice w
  | n + 1, .not t => Tst.ok g n t
  | 0, .not _ => False
theorem Tst.ok.mono {g : Nat} : ∀ {n m : Nat} {t : Tst}, t.ok g n → n ≤ m → t.ok g m
  | n, m, .given i, h, _ => by cases n <;> cases m <;> exact h
  | n, m, .set x, h, _ => by cases n <;> cases m <;> exact h
  | n, m, .same x y, h, _ => by cases n <;> cases m <;> exact h
  | n, m, .full x y, h, _ => by cases n <;> cases m <;> exact h
  | n, m, .wished x, h, _ => by cases n <;> cases m <;> exact h
  | n + 1, 0, .not t, h, e => by omega
  | n + 1, m + 1, .not t, h, e => Tst.ok.mono (t := t) (n := n) (m := m) h (by omega)
  | 0, _, .not t, h, _ => h.elim
inductive Stm where
  | make (x : Str) | wish (x w : Str) | keep (x : Str) | name (x y : Str) | drop (x : Str)
  | hold (x f y : Str) | weak (x f y : Str) | cut (x f : Str) | take (z x f : Str) | say (w : Str) | ask (t : Tst)
  | ife (t : Tst) (yes no : List Stm) | rep (k : Nat) (b : List Stm)
mutual
def Stm.vl : Stm → Vl
  | .make x => .tup [.str "make", .str x]
  | .wish x w => .tup [.str "wish", .str x, .str w]
  | .keep x => .tup [.str "keep", .str x]
  | .name x y => .tup [.str "name", .str x, .str y]
  | .drop x => .tup [.str "drop", .str x]
  | .hold x f y => .tup [.str "hold", .str x, .str f, .str y]
  | .weak x f y => .tup [.str "weak", .str x, .str f, .str y]
  | .cut x f => .tup [.str "cut", .str x, .str f]
  | .take z x f => .tup [.str "take", .str z, .str x, .str f]
  | .say w => .tup [.str "say", .str w]
  | .ask t => .tup [.str "ask", t.vl]
  | .ife t a b => .tup [.str "if", t.vl, .tup (Stm.vls a), .tup (Stm.vls b)]
  | .rep k b => .tup [.str "repeat", .int (k : Nat), .tup (Stm.vls b)]
def Stm.vls : List Stm → List Vl
  | [] => []
  | x :: xs => x.vl :: Stm.vls xs
end
mutual
/-- how many statements -/
def Stm.cnt : Stm → Nat
  | .ife _ a b => 1 + Stm.cnts a + Stm.cnts b
  | .rep _ b => 1 + Stm.cnts b
  | _ => 1
def Stm.cnts : List Stm → Nat
  | [] => 0
  | x :: xs => x.cnt + Stm.cnts xs
end
mutual
def Stm.wgt : Stm → Nat
  | .ife _ a b => 1 + Stm.wgts a + Stm.wgts b
  | .rep k b => 1 + k * Stm.wgts b
  | _ => 1
def Stm.wgts : List Stm → Nat
  | [] => 0
  | x :: xs => x.wgt + Stm.wgts xs
end
mutual
/-- a right statement: g givens, at most n blocks in one another -/
def Stm.ok (g : Nat) : Nat → Stm → Prop
  | _, .make x => Nice x
  | _, .wish x w => Nice x ∧ Nice w
  | _, .keep x => Nice x
  | _, .name x y => Nice x ∧ Nice y
  | _, .drop x => Nice x
  | _, .hold x f y => Nice x ∧ Nice f ∧ Nice y
  | _, .weak x f y => Nice x ∧ Nice f ∧ Nice y
  | _, .cut x f => Nice x ∧ Nice f
  | _, .take z x f => Nice z ∧ Nice x ∧ Nice f
  | _, .say w => Nice w
  | _, .ask t => t.ok g 3
  | n, .ife t a b => 0 < n ∧ t.ok g 3 ∧ Stm.oks g (n - 1) a ∧ Stm.oks g (n - 1) b
  | n, .rep k b => 0 < n ∧ k ≤ 12 ∧ Stm.oks g (n - 1) b
def Stm.oks (g : Nat) : Nat → List Stm → Prop
  | _, [] => True
  | n, x :: xs => x.ok g n ∧ Stm.oks g n xs
end
mutual
/-- the statements in the order of their places, with their depth -/
def Stm.flat (d : Nat) : Stm → List (Nat × Stm)
  | .ife t a b => (d, .ife t a b) :: (Stm.flats (d + 1) a ++ Stm.flats (d + 1) b)
  | .rep k b => (d, .rep k b) :: Stm.flats (d + 1) b
  | x => [(d, x)]
def Stm.flats (d : Nat) : List Stm → List (Nat × Stm)
  | [] => []
  | x :: xs => x.flat d ++ Stm.flats d xs
end
theorem Stm.vls_map : ∀ xs : List Stm, Stm.vls xs = xs.map Stm.vl
  | [] => rfl
  | x :: xs => by rw [Stm.vls, Stm.vls_map xs]; rfl
theorem Stm.cnts_app : ∀ xs ys : List Stm, Stm.cnts (xs ++ ys) = Stm.cnts xs + Stm.cnts ys
  | [], ys => by simp [Stm.cnts]
  | x :: xs, ys => by simp only [List.cons_append, Stm.cnts, Stm.cnts_app xs ys]; omega
theorem Stm.wgts_app : ∀ xs ys : List Stm, Stm.wgts (xs ++ ys) = Stm.wgts xs + Stm.wgts ys
  | [], ys => by simp [Stm.wgts]
  | x :: xs, ys => by simp only [List.cons_append, Stm.wgts, Stm.wgts_app xs ys]; omega
theorem Stm.oks_app {g n : Nat} : ∀ {xs ys : List Stm}, Stm.oks g n (xs ++ ys) ↔ Stm.oks g n xs ∧ Stm.oks g n ys
  | [], ys => by simp [Stm.oks]
  | x :: xs, ys => by simp only [List.cons_append, Stm.oks, Stm.oks_app (xs := xs) (ys := ys), and_assoc]
theorem Stm.oks_mem {g n : Nat} : ∀ {xs : List Stm}, Stm.oks g n xs → ∀ x ∈ xs, x.ok g n
  | [], _, x, h => by simp at h
  | y :: xs, h, x, hx => by
    rcases List.mem_cons.mp hx with rfl | hx
    · exact h.1
    · exact Stm.oks_mem h.2 x hx
theorem Stm.flats_app {d : Nat} : ∀ xs ys : List Stm, Stm.flats d (xs ++ ys) = Stm.flats d xs ++ Stm.flats d ys
  | [], ys => by simp [Stm.flats]
  | x :: xs, ys => by simp only [List.cons_append, Stm.flats, Stm.flats_app xs ys, List.append_assoc]
mutual
theorem Stm.ok.mono {g : Nat} : ∀ {n m : Nat} {x : Stm}, x.ok g n → n ≤ m → x.ok g m
  | n, m, .make x, h, _ => by unfold Stm.ok at h ⊢; exact h
  | n, m, .wish x w, h, _ => by unfold Stm.ok at h ⊢; exact h
  | n, m, .keep x, h, _ => by unfold Stm.ok at h ⊢; exact h
  | n, m, .name x y, h, _ => by unfold Stm.ok at h ⊢; exact h
  | n, m, .drop x, h, _ => by unfold Stm.ok at h ⊢; exact h
  | n, m, .hold x f y, h, _ => by unfold Stm.ok at h ⊢; exact h
  | n, m, .weak x f y, h, _ => by unfold Stm.ok at h ⊢; exact h
  | n, m, .cut x f, h, _ => by unfold Stm.ok at h ⊢; exact h
  | n, m, .take z x f, h, _ => by unfold Stm.ok at h ⊢; exact h
  | n, m, .say w, h, _ => by unfold Stm.ok at h ⊢; exact h
  | n, m, .ask t, h, _ => by unfold Stm.ok at h ⊢; exact h
  | n, m, .ife t a b, h, e => by
    unfold Stm.ok at h ⊢
    exact ⟨by omega, h.2.1, Stm.oks.mono h.2.2.1 (by omega), Stm.oks.mono h.2.2.2 (by omega)⟩
  | n, m, .rep k b, h, e => by
    unfold Stm.ok at h ⊢
    exact ⟨by omega, h.2.1, Stm.oks.mono h.2.2 (by omega)⟩
theorem Stm.oks.mono {g : Nat} : ∀ {n m : Nat} {xs : List Stm}, Stm.oks g n xs → n ≤ m → Stm.oks g m xs
  | _, _, [], _, _ => trivial
  | _, _, x :: xs, h, e => ⟨Stm.ok.mono h.1 e, Stm.oks.mono h.2 e⟩
end
/-! ### they are plain values -/
theorem Pn.tup2 {n u v : Nat} {a b : Vl} (ha : Pn n u a) (hb : Pn n v b) : Pn (n + 1) (u + v + 2) (.tup [a, b]) :=
  (Pn.tupS (ws := [u, v]) rfl fun i x w h1 h2 => by
    match i with
    | 0 => simp at h1 h2; subst h1 h2; exact ha
    | 1 => simp at h1 h2; subst h1 h2; exact hb
    | i + 2 => simp at h1).mono (Nat.le_refl _) (by simp; omega)
theorem Pn.tup3 {n u v w : Nat} {a b c : Vl} (ha : Pn n u a) (hb : Pn n v b) (hc : Pn n w c) : Pn (n + 1) (u + v + w + 3) (.tup [a, b, c]) :=
  (Pn.tupS (ws := [u, v, w]) rfl fun i x w h1 h2 => by
    match i with
    | 0 => simp at h1 h2; subst h1 h2; exact ha
    | 1 => simp at h1 h2; subst h1 h2; exact hb
    | 2 => simp at h1 h2; subst h1 h2; exact hc
    | i + 3 => simp at h1).mono (Nat.le_refl _) (by simp; omega)
theorem Pn.tup4 {n u v w z : Nat} {a b c d : Vl} (ha : Pn n u a) (hb : Pn n v b) (hc : Pn n w c) (hd : Pn n z d) : Pn (n + 1) (u + v + w + z + 4) (.tup [a, b, c, d]) :=
  (Pn.tupS (ws := [u, v, w, z]) rfl fun i x w h1 h2 => by
    match i with
    | 0 => simp at h1 h2; subst h1 h2; exact ha
    | 1 => simp at h1 h2; subst h1 h2; exact hb
    | 2 => simp at h1 h2; subst h1 h2; exact hc
    | 3 => simp at h1 h2; subst h1 h2; exact hd
    | i + 4 => simp at h1).mono (Nat.le_refl _) (by simp; omega)
theorem Pn.lit {x : Str} (h : (x.cps.toList.all fun c => decide (c < 16 ^ 8)) = true := by decide) (hl : x.length ≤ 64 := by decide) : Pn 1 64 (.str x) := Pn.str h hl
theorem Tst.pn {g : Nat} (hg : g ≤ 100) : ∀ {n : Nat} {t : Tst}, t.ok g n → Pn (2 + n) (195 + 66 * n) t.vl
  | n, .given i, h => by
    have h : i < g := by cases n <;> exact h
    exact (Pn.tup2 Pn.lit (Pn.int (by omega))).mono (by omega) (by omega)
  | n, .set x, h => by
    have h : Nice x := by cases n <;> exact h
    exact (Pn.tup2 Pn.lit h.pn).mono (by omega) (by omega)
  | n, .same x y, h => by
    have h : Nice x ∧ Nice y := by cases n <;> exact h
    exact (Pn.tup3 Pn.lit h.1.pn h.2.pn).mono (by omega) (by omega)
  | n, .full x y, h => by
    have h : Nice x ∧ Nice y := by cases n <;> exact h
    exact (Pn.tup3 Pn.lit h.1.pn h.2.pn).mono (by omega) (by omega)
  | n, .wished x, h => by
    have h : Nice x := by cases n <;> exact h
    exact (Pn.tup2 Pn.lit h.pn).mono (by omega) (by omega)
  | n + 1, .not t, h => by
    have ih := Tst.pn hg (n := n) (t := t) h
    exact (Pn.tup2 (Pn.mono Pn.lit (by omega) (Nat.le_refl _)) ih).mono (by omega) (by omega)
  | 0, .not t, h => h.elim
theorem Pn.listS {n : Nat} : ∀ {xs : List Vl} {w : Nat}, (∃ ws : List Nat, ws.length = xs.length ∧ (∀ (i : Nat) (x : Vl) (v : Nat), xs[i]? = some x → ws[i]? = some v → Pn n v x) ∧ (ws.map (· + 1)).sum ≤ w) → Pn (n + 1) w (.tup xs) := by
  rintro xs w ⟨ws, h1, h2, h3⟩
  exact (Pn.tupS h1 h2).mono (Nat.le_refl _) h3
mutual
theorem Stm.pn {g : Nat} (hg : g ≤ 100) : ∀ {n : Nat} {x : Stm}, x.ok g n → Pn (6 + 2 * n) (2000 * x.cnt - 1000) x.vl
  | n, .make x, h => by unfold Stm.ok at h; unfold Stm.vl Stm.cnt; exact (Pn.tup2 Pn.lit h.pn).mono (by omega) (by omega)
  | n, .wish x w, h => by unfold Stm.ok at h; unfold Stm.vl Stm.cnt; exact (Pn.tup3 Pn.lit h.1.pn h.2.pn).mono (by omega) (by omega)
  | n, .keep x, h => by unfold Stm.ok at h; unfold Stm.vl Stm.cnt; exact (Pn.tup2 Pn.lit h.pn).mono (by omega) (by omega)
  | n, .name x y, h => by unfold Stm.ok at h; unfold Stm.vl Stm.cnt; exact (Pn.tup3 Pn.lit h.1.pn h.2.pn).mono (by omega) (by omega)
  | n, .drop x, h => by unfold Stm.ok at h; unfold Stm.vl Stm.cnt; exact (Pn.tup2 Pn.lit h.pn).mono (by omega) (by omega)
  | n, .hold x f y, h => by unfold Stm.ok at h; unfold Stm.vl Stm.cnt; exact (Pn.tup4 Pn.lit h.1.pn h.2.1.pn h.2.2.pn).mono (by omega) (by omega)
  | n, .weak x f y, h => by unfold Stm.ok at h; unfold Stm.vl Stm.cnt; exact (Pn.tup4 Pn.lit h.1.pn h.2.1.pn h.2.2.pn).mono (by omega) (by omega)
  | n, .cut x f, h => by unfold Stm.ok at h; unfold Stm.vl Stm.cnt; exact (Pn.tup3 Pn.lit h.1.pn h.2.pn).mono (by omega) (by omega)
  | n, .take z x f, h => by unfold Stm.ok at h; unfold Stm.vl Stm.cnt; exact (Pn.tup4 Pn.lit h.1.pn h.2.1.pn h.2.2.pn).mono (by omega) (by omega)
  | n, .say w, h => by unfold Stm.ok at h; unfold Stm.vl Stm.cnt; exact (Pn.tup2 Pn.lit h.pn).mono (by omega) (by omega)
  | n, .ask t, h => by
    unfold Stm.ok at h; unfold Stm.vl Stm.cnt
    exact (Pn.tup2 (Pn.mono Pn.lit (show 1 ≤ 5 by omega) (Nat.le_refl _)) (Tst.pn hg h)).mono (by omega) (by omega)
  | n, .ife t a b, h => by
    unfold Stm.ok at h; unfold Stm.vl Stm.cnt
    have h1 := Stm.pns hg h.2.2.1
    have h2 := Stm.pns hg h.2.2.2
    have h3 := Tst.pn hg h.2.1
    have e : 6 + 2 * (n - 1) + 1 = 5 + 2 * n := by omega
    rw [e] at h1 h2
    exact (Pn.tup4 (Pn.mono Pn.lit (show 1 ≤ 5 + 2 * n by omega) (Nat.le_refl _)) (h3.mono (by omega) (Nat.le_refl _)) h1 h2).mono (by omega) (by omega)
  | n, .rep k b, h => by
    unfold Stm.ok at h; unfold Stm.vl Stm.cnt
    have h1 := Stm.pns hg h.2.2
    have e : 6 + 2 * (n - 1) + 1 = 5 + 2 * n := by omega
    rw [e] at h1
    exact (Pn.tup3 (Pn.mono Pn.lit (show 1 ≤ 5 + 2 * n by omega) (Nat.le_refl _)) ((Pn.int (by have := h.2.1; omega)).mono (show 1 ≤ 5 + 2 * n by omega) (Nat.le_refl _)) h1).mono (by omega) (by omega)
theorem Stm.pns {g : Nat} (hg : g ≤ 100) : ∀ {n : Nat} {xs : List Stm}, Stm.oks g n xs → Pn (6 + 2 * n + 1) (2000 * Stm.cnts xs) (.tup (Stm.vls xs))
  | n, xs, h => Pn.listS (Stm.pnw hg h)
theorem Stm.pnw {g : Nat} (hg : g ≤ 100) : ∀ {n : Nat} {xs : List Stm}, Stm.oks g n xs → ∃ ws : List Nat, ws.length = (Stm.vls xs).length ∧ (∀ (i : Nat) (x : Vl) (v : Nat), (Stm.vls xs)[i]? = some x → ws[i]? = some v → Pn (6 + 2 * n) v x) ∧ (ws.map (· + 1)).sum ≤ 2000 * Stm.cnts xs
  | n, [], _ => ⟨[], rfl, fun i x v h => by simp [Stm.vls] at h, by simp⟩
  | n, x :: xs, h => by
    have h1 := Stm.pn hg h.1
    obtain ⟨ws, a, b, c⟩ := Stm.pnw hg h.2
    have hc : 1 ≤ x.cnt := by cases x <;> unfold Stm.cnt <;> omega
    refine ⟨(2000 * x.cnt - 1000) :: ws, by simp [Stm.vls, a], fun i y v e1 e2 => ?_, ?_⟩
    · cases i with
      | zero => simp [Stm.vls] at e1 e2; subst e1 e2; exact h1
      | succ i => simp [Stm.vls] at e1 e2; exact b i y v e1 e2
    · simp only [List.map_cons, List.sum_cons, Stm.cnts]
      omega
end
end Sm

/-! S32: slices of lists -/
namespace Sm
open PySem L2
theorem cutL_from {α : Type} {xs : List α} {n : Nat} : cutL xs (some (n : Int)) none = xs.drop n := by
  unfold cutL
  rw [HT.sIx_none, HT.sIx_nat]
  by_cases h : n ≤ xs.length
  · rw [Nat.min_eq_left h, List.take_of_length_le (by simp)]
  · rw [Nat.min_eq_right (by omega), Nat.sub_self, List.take_zero, List.drop_eq_nil_of_le (by omega)]
end Sm

/-! S33: programs of cells: words, inner blocks, rows -/
namespace Sm
open PySem L2
def Stm.word : Stm → Str
  | .make _ => "make"
  | .wish _ _ => "wish"
  | .keep _ => "keep"
  | .name _ _ => "name"
  | .drop _ => "drop"
  | .hold _ _ _ => "hold"
  | .weak _ _ _ => "weak"
  | .cut _ _ => "cut"
  | .take _ _ _ => "take"
  | .say _ => "say"
  | .ask _ => "ask"
  | .ife _ _ _ => "if"
  | .rep _ _ => "repeat"
def blk (b : List Stm) : Vl := .tup (Stm.vls b)
def Stm.args : Stm → List Vl
  | .make x => [.str x]
  | .wish x w => [.str x, .str w]
  | .keep x => [.str x]
  | .name x y => [.str x, .str y]
  | .drop x => [.str x]
  | .hold x f y => [.str x, .str f, .str y]
  | .weak x f y => [.str x, .str f, .str y]
  | .cut x f => [.str x, .str f]
  | .take z x f => [.str z, .str x, .str f]
  | .say w => [.str w]
  | .ask t => [t.vl]
  | .ife t a b => [t.vl, blk a, blk b]
  | .rep k b => [.int (k : Nat), blk b]
/-- the blocks within a statement -/
def Stm.ins : Stm → List (List Stm)
  | .ife _ a b => [a, b]
  | .rep _ b => [b]
  | _ => []
theorem Stm.flat_eq (d : Nat) (x : Stm) : x.flat d = (d, x) :: x.ins.flatMap (Stm.flats (d + 1)) := by
  cases x <;> simp [Stm.flat, Stm.ins]
theorem Stm.ins_len (x : Stm) : x.ins.length ≤ 2 := by
  cases x <;> simp [Stm.ins]
theorem Stm.ok_ins {g n : Nat} {x : Stm} (h : x.ok g n) : ∀ b ∈ x.ins, 0 < n ∧ Stm.oks g (n - 1) b := by
  intro b hb
  cases x <;> simp [Stm.ins] at hb
  · unfold Stm.ok at h
    rcases hb with rfl | rfl
    · exact ⟨h.1, h.2.2.1⟩
    · exact ⟨h.1, h.2.2.2⟩
  · unfold Stm.ok at h
    subst hb
    exact ⟨h.1, h.2.2⟩
theorem Stm.cnt_ins (x : Stm) : x.cnt = 1 + (x.ins.map Stm.cnts).sum := by
  cases x <;> simp [Stm.ins, Stm.cnt] <;> omega
theorem Stm.cnt_in {x : Stm} : ∀ b ∈ x.ins, Stm.cnts b < x.cnt := by
  intro b hb
  cases x <;> simp [Stm.ins] at hb
  · rcases hb with rfl | rfl <;> simp [Stm.cnt] <;> omega
  · subst hb
    simp [Stm.cnt]
theorem Stm.cnts_mem {b : List Stm} : ∀ x ∈ b, x.cnt ≤ Stm.cnts b := by
  induction b with
  | nil => intro x hx; simp at hx
  | cons y b ih =>
    intro x hx
    simp only [Stm.cnts]
    rcases List.mem_cons.mp hx with rfl | hx
    · omega
    · have := ih x hx; omega
theorem Stm.cnts_take {b : List Stm} {i : Nat} : Stm.cnts (b.take i) ≤ Stm.cnts b := by
  have := Stm.cnts_app (b.take i) (b.drop i)
  rw [List.take_append_drop] at this
  omega
mutual
theorem Stm.flat_len : ∀ (d : Nat) (x : Stm), (x.flat d).length = x.cnt
  | d, .make x => rfl
  | d, .wish x w => rfl
  | d, .keep x => rfl
  | d, .name x y => rfl
  | d, .drop x => rfl
  | d, .hold x f y => rfl
  | d, .weak x f y => rfl
  | d, .cut x f => rfl
  | d, .take z x f => rfl
  | d, .say w => rfl
  | d, .ask t => rfl
  | d, .ife t a b => by
    have h1 := Stm.flats_len (d + 1) a
    have h2 := Stm.flats_len (d + 1) b
    simp only [Stm.flat, Stm.cnt, List.length_cons, List.length_append, h1, h2]
    omega
  | d, .rep k b => by
    have h1 := Stm.flats_len (d + 1) b
    simp only [Stm.flat, Stm.cnt, List.length_cons, h1]
    omega
theorem Stm.flats_len : ∀ (d : Nat) (b : List Stm), (Stm.flats d b).length = Stm.cnts b
  | d, [] => rfl
  | d, x :: b => by
    have h1 := Stm.flat_len d x
    have h2 := Stm.flats_len d b
    simp only [Stm.flats, Stm.cnts, List.length_append, h1, h2]
end
mutual
theorem Stm.flat_ok {g : Nat} : ∀ {n : Nat} (d : Nat) {x : Stm}, x.ok g n → ∀ q ∈ x.flat d, q.2.ok g n ∧ q.2.cnt ≤ x.cnt
  | n, d, .make x, h, q, hq => by simp only [Stm.flat, List.mem_singleton] at hq; subst hq; exact ⟨h, Nat.le_refl _⟩
  | n, d, .wish x w, h, q, hq => by simp only [Stm.flat, List.mem_singleton] at hq; subst hq; exact ⟨h, Nat.le_refl _⟩
  | n, d, .keep x, h, q, hq => by simp only [Stm.flat, List.mem_singleton] at hq; subst hq; exact ⟨h, Nat.le_refl _⟩
  | n, d, .name x w, h, q, hq => by simp only [Stm.flat, List.mem_singleton] at hq; subst hq; exact ⟨h, Nat.le_refl _⟩
  | n, d, .drop x, h, q, hq => by simp only [Stm.flat, List.mem_singleton] at hq; subst hq; exact ⟨h, Nat.le_refl _⟩
  | n, d, .hold x f y, h, q, hq => by simp only [Stm.flat, List.mem_singleton] at hq; subst hq; exact ⟨h, Nat.le_refl _⟩
  | n, d, .weak x f y, h, q, hq => by simp only [Stm.flat, List.mem_singleton] at hq; subst hq; exact ⟨h, Nat.le_refl _⟩
  | n, d, .cut x f, h, q, hq => by simp only [Stm.flat, List.mem_singleton] at hq; subst hq; exact ⟨h, Nat.le_refl _⟩
  | n, d, .take z x f, h, q, hq => by simp only [Stm.flat, List.mem_singleton] at hq; subst hq; exact ⟨h, Nat.le_refl _⟩
  | n, d, .say w, h, q, hq => by simp only [Stm.flat, List.mem_singleton] at hq; subst hq; exact ⟨h, Nat.le_refl _⟩
  | n, d, .ask t, h, q, hq => by simp only [Stm.flat, List.mem_singleton] at hq; subst hq; exact ⟨h, Nat.le_refl _⟩
  | n, d, .ife t a b, h, q, hq => by
    have h0 := h
    unfold Stm.ok at h0
    simp only [Stm.flat, List.mem_cons, List.mem_append] at hq
    simp only [Stm.cnt]
    rcases hq with rfl | hq | hq
    · exact ⟨h, by simp [Stm.cnt]⟩
    · have := Stm.flats_ok (d + 1) h0.2.2.1 q hq
      exact ⟨this.1.mono (by omega), by omega⟩
    · have := Stm.flats_ok (d + 1) h0.2.2.2 q hq
      exact ⟨this.1.mono (by omega), by omega⟩
  | n, d, .rep k b, h, q, hq => by
    have h0 := h
    unfold Stm.ok at h0
    simp only [Stm.flat, List.mem_cons] at hq
    simp only [Stm.cnt]
    rcases hq with rfl | hq
    · exact ⟨h, by simp [Stm.cnt]⟩
    · have := Stm.flats_ok (d + 1) h0.2.2 q hq
      exact ⟨this.1.mono (by omega), by omega⟩
theorem Stm.flats_ok {g : Nat} : ∀ {n : Nat} (d : Nat) {b : List Stm}, Stm.oks g n b → ∀ q ∈ Stm.flats d b, q.2.ok g n ∧ q.2.cnt ≤ Stm.cnts b
  | n, d, [], h, q, hq => by simp [Stm.flats] at hq
  | n, d, x :: b, h, q, hq => by
    simp only [Stm.flats, List.mem_append] at hq
    simp only [Stm.cnts]
    rcases hq with hq | hq
    · have := Stm.flat_ok d h.1 q hq
      exact ⟨this.1, by omega⟩
    · have := Stm.flats_ok d h.2 q hq
      exact ⟨this.1, by omega⟩
end
def rowD (q : Nat × Stm) : Vl := .tup [.int (q.1 : Nat), q.2.vl]
def rowS (q : Nat × Stm) : Vl := q.2.vl
theorem vls_get {b : List Stm} {i : Nat} {v : Vl} (h : (Stm.vls b)[i]? = some v) : ∃ x, b[i]? = some x ∧ v = x.vl := by
  rw [Stm.vls_map] at h
  exact get_map h
theorem vls_len {b : List Stm} : (Stm.vls b).length = b.length := by rw [Stm.vls_map, List.length_map]
end Sm

/-! S35: pure rules of S34 -/
namespace Sm
open PySem L2
section
variable {lo : Lo} {s : Sto} {QV : Vl → Sto → Prop} {E : Ex → Sto → Prop}
def fmtW (x : Vl) (P : Str → Prop) : Prop := match x with
  | .str y => y.length ≤ LIM ∧ P y
  | .int i => i.natAbs.log2 < 1920 ∧ P (Str.ofString (toString i))
  | _ => False
@[simp] theorem fmtW_str {y : Str} {P : Str → Prop} (h : y.length ≤ LIM) : fmtW (.str y) P = P y := by simp [fmtW, h]
@[simp] theorem fmtW_int {i : Int} {P : Str → Prop} (h : i.natAbs.log2 < 1920) : fmtW (.int i) P = P (Str.ofString (toString i)) := by simp [fmtW, h]
@[simp ↓] theorem WE_eFmt {m : EM} : WE (eFmt m lo) s QV E = WE (m lo) s (fun x s => fmtW x fun y => QV (.str y) s) E := by
  unfold eFmt
  rw [WE_bnd]
  refine WE_ext fun x s => ?_
  unfold fmtM
  cases x <;> try (simp only [WE_eq]; rfl)
  · rename_i i
    by_cases h : i.natAbs.log2 < 1920
    · simp only [WE_eq, if_pos h, fmtW, h, true_and]; rfl
    · simp only [WE_eq, if_neg h, fmtW, h, false_and]; rfl
  · rename_i y
    by_cases h : y.length ≤ LIM
    · simp only [WE_eq, if_pos h, fmtW, h, true_and]; rfl
    · simp only [WE_eq, if_neg h, fmtW, h, false_and]; rfl
def strW (x : Vl) (P : Str → Prop) : Prop := match x with
  | .str y => P y
  | _ => False
@[simp] theorem strW_str {y : Str} {P : Str → Prop} : strW (.str y) P = P y := rfl
theorem WE_eJnd {ms : List EM} : WE (eJnd ms lo) s QV E = WE (jnd ms Str.empty lo) s QV E := rfl
@[simp ↓] theorem WE_eOrL {a b : EM} : WE (eOrL a b lo) s QV E = WE (a lo) s (fun x s => match lstOf x s with | some xs => if xs.isEmpty = true then WE (b lo) s QV E else QV x s | none => False) E := by
  unfold eOrL
  rw [WE_bnd]
  refine WE_ext fun x s => ?_
  simp only [WE_eq]
  unfold WE0
  cases h : lstOf x s with
  | none => simp only [h]
  | some xs =>
    by_cases q : xs.isEmpty = true
    · simp only [h, q, if_true]
    · simp only [h, q, if_false, Bool.false_eq_true]
@[simp] theorem lstOf_ref {j : Nat} {xs : List Vl} (h : s[j]? = some (.lst xs)) : lstOf (.ref j) s = some xs := by simp only [lstOf, h]
@[simp] theorem oSplit0_str {a : Str} (h : a.length + 2 ≤ LIM) : oSplit0 (.str a) [] s = some (.ref s.length, s ++ [.lst ((Txt.words a).map Vl.str)]) := by simp only [oSplit0, if_pos h]
@[simp] theorem oStrD_str {y : Str} : oStrD [.str y] s = some (.str y, s) := rfl
@[simp] theorem oStrD_int {i : Int} (h : i.natAbs.log2 < 1920) : oStrD [.int i] s = some (.str (Str.ofString (toString i)), s) := by simp only [oStrD, if_pos h]
end
end Sm

/-! S36: programs of cells whose names and words are of a kind -/
namespace Sm
open PySem L2
section
variable (N W : Str → Prop)
def Tst.sat : Tst → Prop
  | .given _ => True
  | .set x => N x
  | .same x y => N x ∧ N y
  | .full x f => N x ∧ N f
  | .wished w => W w
  | .not t => t.sat
mutual
def Stm.sat : Stm → Prop
  | .make x => N x
  | .wish x w => N x ∧ W w
  | .keep x => N x
  | .name x y => N x ∧ N y
  | .drop x => N x
  | .hold x f y => N x ∧ N f ∧ N y
  | .weak x f y => N x ∧ N f ∧ N y
  | .cut x f => N x ∧ N f
  | .take z x f => N z ∧ N x ∧ N f
  | .say w => W w
  | .ask t => t.sat N W
  | .ife t a b => t.sat N W ∧ Stm.sats a ∧ Stm.sats b
  | .rep _ b => Stm.sats b
def Stm.sats : List Stm → Prop
  | [] => True
  | x :: xs => x.sat ∧ Stm.sats xs
end
end
end Sm

/-! S37: the texts of tests, statements and blocks -/
namespace Sm
open PySem L2
def nums (i : Nat) : Str := Str.ofString (toString ((i : Nat) : Int))
def Tst.txt : Tst → Str
  | .given i => "given " ++ nums i
  | .set x => "set " ++ x
  | .same x y => x ++ " is " ++ y
  | .full x f => "full " ++ x ++ "." ++ f
  | .wished w => "wished " ++ w
  | .not t => "not " ++ t.txt
def Stm.line : Stm → Str
  | .make x => "make " ++ x
  | .wish x w => "wish " ++ x ++ " " ++ w
  | .keep x => "keep " ++ x
  | .name x y => x ++ " = " ++ y
  | .drop x => "drop " ++ x
  | .hold x f y => x ++ "." ++ f ++ " = " ++ y
  | .weak x f y => x ++ "." ++ f ++ " ~ " ++ y
  | .cut x f => "cut " ++ x ++ "." ++ f
  | .take z x f => z ++ " = " ++ x ++ "." ++ f
  | .say w => "say " ++ w
  | .ask t => "ask " ++ t.txt
  | .ife t _ _ => "if " ++ t.txt
  | .rep k _ => "repeat " ++ nums k
mutual
/-- the lines of a statement -/
def Stm.lines (a : Str) : Stm → List Str
  | .ife t x y => (a ++ (Stm.ife t x y).line) :: ((match Stm.liness (a ++ "  ") x with | [] => [a ++ "  pass"] | ls => ls) ++ (match Stm.liness (a ++ "  ") y with | [] => [] | ls => (a ++ "else") :: ls))
  | .rep k x => (a ++ (Stm.rep k x).line) :: (match Stm.liness (a ++ "  ") x with | [] => [a ++ "  pass"] | ls => ls)
  | x => [a ++ x.line]
def Stm.liness (a : Str) : List Stm → List Str
  | [] => []
  | x :: xs => x.lines a ++ Stm.liness a xs
end
end Sm

/-! S38: values that can be laid out (==); short loops unrolled; lines -/
namespace Sm
open PySem L2
def La (n : Nat) (v : Vl) : Prop := ∃ d : PyData, (∀ s m, n ≤ m → toD m s v = some d) ∧ d.canLay0 = true
theorem La.mono {n m : Nat} {v : Vl} (h : La n v) (h1 : n ≤ m) : La m v := by
  obtain ⟨d, a, b⟩ := h
  exact ⟨d, fun s k hk => a s k (Nat.le_trans h1 hk), b⟩
theorem La.int {i : Int} : La 1 (.int i) := by
  refine ⟨.int i, fun s m hm => ?_, rfl⟩
  obtain ⟨m, rfl⟩ : ∃ k, m = k + 1 := ⟨m - 1, by omega⟩
  rfl
theorem La.str {x : Str} (h : PyData.strOk x = true) : La 1 (.str x) := by
  refine ⟨.str x, fun s m hm => ?_, h⟩
  obtain ⟨m, rfl⟩ : ∃ k, m = k + 1 := ⟨m - 1, by omega⟩
  rfl
theorem La.lit {x : Str} (h : (x.cps.toList.all fun c => decide (c < 128)) = true := by decide) : La 1 (.str x) := La.str (by
  unfold PyData.strOk
  rw [← Array.all_toList, List.all_eq_true]
  intro c hc
  have := of_decide_eq_true (List.all_eq_true.mp h c hc)
  exact decide_eq_true (by omega))
theorem Nice.la {x : Str} (h : Nice x) : La 1 (.str x) := La.str h.strOk
theorem La.all {n : Nat} : ∀ {xs : List Vl}, (∀ x ∈ xs, La n x) → ∃ ds : List PyData, (∀ s m, n ≤ m → mapO (toD m s) xs = some ds) ∧ PyData.canLayAll0 ds = true
  | [], _ => ⟨[], fun _ _ _ => rfl, rfl⟩
  | x :: xs, h => by
    obtain ⟨d, a, b⟩ := h x (List.mem_cons_self ..)
    obtain ⟨ds, a', b'⟩ := La.all fun y hy => h y (List.mem_cons_of_mem _ hy)
    refine ⟨d :: ds, fun s m hm => ?_, ?_⟩
    · simp only [mapO, a s m hm, a' s m hm]
    · simp only [PyData.canLayAll0, b, b', Bool.and_self]
theorem La.tup {n : Nat} {xs : List Vl} (h : ∀ x ∈ xs, La n x) : La (n + 1) (.tup xs) := by
  obtain ⟨ds, a, b⟩ := La.all h
  refine ⟨.tuple ds, fun s m hm => ?_, ?_⟩
  · obtain ⟨m, rfl⟩ : ∃ k, m = k + 1 := ⟨m - 1, by omega⟩
    simp only [toD, a s m (by omega), Option.map]
  · simpa only [PyData.canLay0] using b
theorem La.tup2 {n : Nat} {a b : Vl} (h1 : La n a) (h2 : La n b) : La (n + 1) (.tup [a, b]) := La.tup fun x hx => by
  simp at hx; rcases hx with rfl | rfl <;> assumption
theorem La.tup3 {n : Nat} {a b c : Vl} (h1 : La n a) (h2 : La n b) (h3 : La n c) : La (n + 1) (.tup [a, b, c]) := La.tup fun x hx => by
  simp at hx; rcases hx with rfl | rfl | rfl <;> assumption
theorem La.tup4 {n : Nat} {a b c d : Vl} (h1 : La n a) (h2 : La n b) (h3 : La n c) (h4 : La n d) : La (n + 1) (.tup [a, b, c, d]) := La.tup fun x hx => by
  simp at hx; rcases hx with rfl | rfl | rfl | rfl <;> assumption
theorem isEmpty_map0 {xs : List Vl} {ds : List PyData} {f : Vl → Option PyData} (h : mapO f xs = some ds) : ds.isEmpty = xs.isEmpty := by
  cases xs with
  | nil => cases h; rfl
  | cons x xs =>
    unfold mapO at h
    cases q : f x with
    | none => simp only [q] at h; cases h
    | some d =>
      simp only [q] at h
      cases q2 : mapO f xs with
      | none => simp only [q2] at h; cases h
      | some r => simp only [q2] at h; cases h; rfl
theorem eqM_tup0 {s : Sto} {n : Nat} {xs : List Vl} (h : ∀ x ∈ xs, La n x) (hn : n ≤ 39) : eqM (.tup xs) (.tup []) s = some xs.isEmpty := by
  obtain ⟨ds, a, b⟩ := La.all h
  have a := a s 39 hn
  have e1 : toD 40 s (.tup xs) = some (.tuple ds) := by unfold toD; simp only [a, Option.map]
  have e2 : toD 40 s (.tup []) = some (.tuple []) := rfl
  have e3 : PyData.canLay0 (.tuple ds) = true := by simpa only [PyData.canLay0] using b
  have e4 : PyData.canLay0 (.tuple []) = true := rfl
  simp only [eqM, eqS, e1, e2, e3, e4, Bool.and_self, if_true, PyData.eqv]
  rw [← isEmpty_map0 a]
  cases ds <;> simp [PyData.eqvAll]
theorem opNe_tup0 {s : Sto} {n : Nat} {xs : List Vl} (h : ∀ x ∈ xs, La n x) (hn : n ≤ 39) : opNe (.tup xs) (.tup []) s = some (.bl (!xs.isEmpty), s) := by
  simp only [opNe, eqM_tup0 h hn]
theorem eqM_lst0 {s : Sto} {n a b : Nat} {xs : List Vl} (h1 : s[a]? = some (.lst xs)) (h2 : s[b]? = some (.lst [])) (h : ∀ x ∈ xs, La n x) (hn : n ≤ 39) : eqM (.ref a) (.ref b) s = some xs.isEmpty := by
  obtain ⟨ds, q, r⟩ := La.all h
  exact eqM_lstN h1 h2 (q s 39 hn) r
theorem opEq_lst0 {s : Sto} {n a b : Nat} {xs : List Vl} (h1 : s[a]? = some (.lst xs)) (h2 : s[b]? = some (.lst [])) (h : ∀ x ∈ xs, La n x) (hn : n ≤ 39) : opEq (.ref a) (.ref b) s = some (.bl xs.isEmpty, s) := by
  simp only [opEq, eqM_lst0 h1 h2 h hn]
theorem Tst.la {g : Nat} : ∀ {n : Nat} {t : Tst}, t.ok g n → La (2 + n) t.vl
  | n, .given i, h => (La.tup2 La.lit La.int).mono (by omega)
  | n, .set x, h => by
    have h : Nice x := by cases n <;> exact h
    exact (La.tup2 La.lit h.la).mono (by omega)
  | n, .same x y, h => by
    have h : Nice x ∧ Nice y := by cases n <;> exact h
    exact (La.tup3 La.lit h.1.la h.2.la).mono (by omega)
  | n, .full x y, h => by
    have h : Nice x ∧ Nice y := by cases n <;> exact h
    exact (La.tup3 La.lit h.1.la h.2.la).mono (by omega)
  | n, .wished x, h => by
    have h : Nice x := by cases n <;> exact h
    exact (La.tup2 La.lit h.la).mono (by omega)
  | n + 1, .not t, h => by
    have ih := Tst.la (n := n) (t := t) h
    exact (La.tup2 (La.mono La.lit (by omega)) ih).mono (by omega)
  | 0, .not t, h => h.elim
mutual
theorem Stm.la {g : Nat} : ∀ {n : Nat} {x : Stm}, x.ok g n → La (6 + 2 * n) x.vl
  | n, .make x, h => by unfold Stm.ok at h; unfold Stm.vl; exact (La.tup2 La.lit h.la).mono (by omega)
  | n, .wish x w, h => by unfold Stm.ok at h; unfold Stm.vl; exact (La.tup3 La.lit h.1.la h.2.la).mono (by omega)
  | n, .keep x, h => by unfold Stm.ok at h; unfold Stm.vl; exact (La.tup2 La.lit h.la).mono (by omega)
  | n, .name x y, h => by unfold Stm.ok at h; unfold Stm.vl; exact (La.tup3 La.lit h.1.la h.2.la).mono (by omega)
  | n, .drop x, h => by unfold Stm.ok at h; unfold Stm.vl; exact (La.tup2 La.lit h.la).mono (by omega)
  | n, .hold x f y, h => by unfold Stm.ok at h; unfold Stm.vl; exact (La.tup4 La.lit h.1.la h.2.1.la h.2.2.la).mono (by omega)
  | n, .weak x f y, h => by unfold Stm.ok at h; unfold Stm.vl; exact (La.tup4 La.lit h.1.la h.2.1.la h.2.2.la).mono (by omega)
  | n, .cut x f, h => by unfold Stm.ok at h; unfold Stm.vl; exact (La.tup3 La.lit h.1.la h.2.la).mono (by omega)
  | n, .take z x f, h => by unfold Stm.ok at h; unfold Stm.vl; exact (La.tup4 La.lit h.1.la h.2.1.la h.2.2.la).mono (by omega)
  | n, .say w, h => by unfold Stm.ok at h; unfold Stm.vl; exact (La.tup2 La.lit h.la).mono (by omega)
  | n, .ask t, h => by
    unfold Stm.ok at h; unfold Stm.vl
    exact (La.tup2 (La.mono La.lit (show 1 ≤ 5 by omega)) (Tst.la h)).mono (by omega)
  | n, .ife t a b, h => by
    unfold Stm.ok at h; unfold Stm.vl
    have h1 : La (6 + 2 * (n - 1) + 1) (.tup (Stm.vls a)) := La.tup (Stm.lam h.2.2.1)
    have h2 : La (6 + 2 * (n - 1) + 1) (.tup (Stm.vls b)) := La.tup (Stm.lam h.2.2.2)
    have h3 := Tst.la h.2.1
    have e : 6 + 2 * (n - 1) + 1 = 5 + 2 * n := by omega
    rw [e] at h1 h2
    exact (La.tup4 (La.mono La.lit (show 1 ≤ 5 + 2 * n by omega)) (h3.mono (by omega)) h1 h2).mono (by omega)
  | n, .rep k b, h => by
    unfold Stm.ok at h; unfold Stm.vl
    have h1 : La (6 + 2 * (n - 1) + 1) (.tup (Stm.vls b)) := La.tup (Stm.lam h.2.2)
    have e : 6 + 2 * (n - 1) + 1 = 5 + 2 * n := by omega
    rw [e] at h1
    exact (La.tup3 (La.mono La.lit (show 1 ≤ 5 + 2 * n by omega)) (La.int.mono (show 1 ≤ 5 + 2 * n by omega)) h1).mono (by omega)
theorem Stm.lam {g : Nat} : ∀ {n : Nat} {xs : List Stm}, Stm.oks g n xs → ∀ v ∈ Stm.vls xs, La (6 + 2 * n) v
  | n, [], _, v, hv => by simp [Stm.vls] at hv
  | n, x :: xs, h, v, hv => by
    simp only [Stm.vls, List.mem_cons] at hv
    rcases hv with rfl | hv
    · exact Stm.la h.1
    · exact Stm.lam h.2 v hv
end
/-! ### short loops -/
section
variable {s : Sto} {lo : Lo} {K : RK} {g : GM} {b : SM}
theorem WS_loopX_cons {v : Vl} {vs : List Vl} : WS (loopX g b (v :: vs)) lo s K = WG g v lo s (fun lo s => WS b lo s ⟨fun lo s => WS (loopX g b vs) lo s K, K.rt, K.nx, fun lo s => WS (loopX g b vs) lo s K, K.ex⟩) (fun e s => K.ex e lo s) := by
  simp only [WS_eq, WG_eq, WE_eq]
  unfold WS0 WE0
  have e : loopX g b (v :: vs) lo s = match g v lo s with | .ok lo' s' => (match b lo' s' with | .nx lo2 s2 => loopX g b vs lo2 s2 | .ct lo2 s2 => loopX g b vs lo2 s2 | .bk lo2 s2 => .nx lo2 s2 | .rt v s2 => .rt v s2 | .exc z lo2 s2 => .exc z lo2 s2 | .fail => .fail) | .exc z s' => .exc z lo s' | .fail => .fail := by
    conv => lhs; unfold loopX
    cases g v lo s with
    | fail => rfl
    | exc z s' => rfl
    | ok lo' s' => rfl
  rw [e]
  cases g v lo s with
  | fail => rfl
  | exc z s' => rfl
  | ok lo' s' =>
    simp only [WS_eq]
    cases b lo' s' <;> rfl
end
section
variable {s : Sto} {xs : List Vl} {x : Str} {i : Int} {k : Bool}
@[simp] theorem oIsi_tup_tuple : oIsi [.tup xs, .ty "tuple"] s = some (.bl true, s) := rfl
@[simp] theorem oIsi_tup_str : oIsi [.tup xs, .ty "str"] s = some (.bl false, s) := rfl
@[simp] theorem oIsi_tup_int : oIsi [.tup xs, .ty "int"] s = some (.bl false, s) := rfl
@[simp] theorem oIsi_tup_bool : oIsi [.tup xs, .ty "bool"] s = some (.bl false, s) := rfl
@[simp] theorem oIsi_tup_list : oIsi [.tup xs, .ty "list"] s = some (.bl false, s) := rfl
@[simp] theorem oIsi_tup_dict : oIsi [.tup xs, .ty "dict"] s = some (.bl false, s) := rfl
@[simp] theorem oIsi_str_tuple : oIsi [.str x, .ty "tuple"] s = some (.bl false, s) := rfl
@[simp] theorem oIsi_str_str : oIsi [.str x, .ty "str"] s = some (.bl true, s) := rfl
@[simp] theorem oIsi_str_int : oIsi [.str x, .ty "int"] s = some (.bl false, s) := rfl
@[simp] theorem oIsi_str_bool : oIsi [.str x, .ty "bool"] s = some (.bl false, s) := rfl
@[simp] theorem oIsi_str_list : oIsi [.str x, .ty "list"] s = some (.bl false, s) := rfl
@[simp] theorem oIsi_str_dict : oIsi [.str x, .ty "dict"] s = some (.bl false, s) := rfl
@[simp] theorem oIsi_int_tuple : oIsi [.int i, .ty "tuple"] s = some (.bl false, s) := rfl
@[simp] theorem oIsi_int_str : oIsi [.int i, .ty "str"] s = some (.bl false, s) := rfl
@[simp] theorem oIsi_int_int : oIsi [.int i, .ty "int"] s = some (.bl true, s) := rfl
@[simp] theorem oIsi_int_bool : oIsi [.int i, .ty "bool"] s = some (.bl false, s) := rfl
@[simp] theorem oIsi_int_list : oIsi [.int i, .ty "list"] s = some (.bl false, s) := rfl
@[simp] theorem oIsi_int_dict : oIsi [.int i, .ty "dict"] s = some (.bl false, s) := rfl
@[simp] theorem oIsi_bl_tuple : oIsi [.bl k, .ty "tuple"] s = some (.bl false, s) := rfl
@[simp] theorem oIsi_bl_str : oIsi [.bl k, .ty "str"] s = some (.bl false, s) := rfl
@[simp] theorem oIsi_bl_int : oIsi [.bl k, .ty "int"] s = some (.bl true, s) := rfl
@[simp] theorem oIsi_bl_bool : oIsi [.bl k, .ty "bool"] s = some (.bl true, s) := rfl
@[simp] theorem oIsi_bl_list : oIsi [.bl k, .ty "list"] s = some (.bl false, s) := rfl
@[simp] theorem oIsi_bl_dict : oIsi [.bl k, .ty "dict"] s = some (.bl false, s) := rfl
@[simp] theorem oIsi_non_tuple : oIsi [.non, .ty "tuple"] s = some (.bl false, s) := rfl
@[simp] theorem oIsi_non_str : oIsi [.non, .ty "str"] s = some (.bl false, s) := rfl
@[simp] theorem oIsi_non_int : oIsi [.non, .ty "int"] s = some (.bl false, s) := rfl
@[simp] theorem oIsi_non_bool : oIsi [.non, .ty "bool"] s = some (.bl false, s) := rfl
@[simp] theorem oIsi_non_list : oIsi [.non, .ty "list"] s = some (.bl false, s) := rfl
@[simp] theorem oIsi_non_dict : oIsi [.non, .ty "dict"] s = some (.bl false, s) := rfl
end
/-! ### lines -/
def padL (a : Str) (p : List Stm) : List Str := match Stm.liness (a ++ "  ") p with | [] => [a ++ "  pass"] | ls => ls
def elsL (a : Str) (p : List Stm) : List Str := match Stm.liness (a ++ "  ") p with | [] => [] | ls => (a ++ "else") :: ls
theorem Stm.lines_eq (a : Str) (x : Stm) : x.lines a = (a ++ x.line) :: (match x.ins with | [] => [] | [p] => padL a p | p :: q :: _ => padL a p ++ elsL a q) := by
  cases x
  case ife t p q => simp only [Stm.lines, Stm.ins, padL, elsL] <;> cases Stm.liness (a ++ "  ") p <;> cases Stm.liness (a ++ "  ") q <;> rfl
  case rep k p => simp only [Stm.lines, Stm.ins, padL, elsL] <;> cases Stm.liness (a ++ "  ") p <;> rfl
  all_goals simp [Stm.lines, Stm.ins]
theorem Stm.lines_ne {a : Str} {x : Stm} : x.lines a ≠ [] := by rw [Stm.lines_eq]; simp
theorem Stm.liness_nil {a : Str} {b : List Stm} : Stm.liness a b = [] ↔ b = [] := by
  cases b with
  | nil => simp [Stm.liness]
  | cons x b => simp [Stm.liness, Stm.lines_ne]
theorem padL_ne {a : Str} {p : List Stm} (h : p ≠ []) : padL a p = Stm.liness (a ++ "  ") p := by
  unfold padL
  cases q : Stm.liness (a ++ "  ") p with
  | nil => exact absurd (Stm.liness_nil.mp q) h
  | cons _ _ => rfl
theorem elsL_ne {a : Str} {p : List Stm} (h : p ≠ []) : elsL a p = (a ++ "else") :: Stm.liness (a ++ "  ") p := by
  unfold elsL
  cases q : Stm.liness (a ++ "  ") p with
  | nil => exact absurd (Stm.liness_nil.mp q) h
  | cons _ _ => rfl
end Sm

/-! S39: range(a, b), len of own objects; small helpers -/
namespace Sm
open PySem L2
section
variable {s : Sto} {lo : Lo} {QV : Vl → Sto → Prop} {QA : List Vl → Sto → Prop} {E : Ex → Sto → Prop}
def rng2W (xs : List Vl) (s : Sto) (QA : List Vl → Sto → Prop) : Prop := match xs with
  | [.int i, .int j] => (-(2 ^ 62) ≤ i ∧ i < 2 ^ 62 ∧ -(2 ^ 62) ≤ j ∧ j < 2 ^ 62) ∧ QA (rng i (j - i).toNat) s
  | _ => False
@[simp ↓] theorem WE_aRng2 {a : AM} : WE (aRng2 a lo) s QA E = WE (a lo) s (fun xs s => rng2W xs s QA) E := by
  unfold aRng2
  rw [WE_bnd]
  refine WE_ext fun xs s => ?_
  unfold rng2W
  split
  · rename_i i j
    by_cases h : -(2 ^ 62) ≤ i ∧ i < 2 ^ 62 ∧ -(2 ^ 62) ≤ j ∧ j < 2 ^ 62
    · rw [if_pos h]; simp only [h, and_self, true_and, WE_ret]
    · rw [if_neg h, WE_fail]
      exact (propext ⟨fun z => z.elim, fun z => absurd z.1 h⟩)
  · simp only [WE_eq]; rfl
theorem WE_eLenO {tab : MTab} {o : EM} : WE (eLenO tab o lo) s QV E = WE (o lo) s (fun x s => match x with | .ref j => (match s[j]? with | some (.ins c fs) => (match tab c with | some mf => WE (mf [.ref j]) s (fun v s' => match v with | .int n => (0 ≤ n ∧ n < 2 ^ 62) ∧ QV (.int n) s' | _ => False) E | none => False) | _ => False) | _ => False) E := by
  unfold eLenO
  rw [WE_bnd]
  refine WE_ext fun x s => ?_
  cases x <;> try (simp only [WE_eq]; rfl)
  rename_i j
  simp only [WE_eq]
  unfold WE0
  dsimp only
  cases h : s[j]? with
  | none => rfl
  | some ob =>
    cases ob <;> try rfl
    rename_i c fs
    dsimp only
    cases h1 : tab c with
    | none => rfl
    | some mf =>
      dsimp only
      cases h2 : mf [.ref j] s with
      | fail => rfl
      | exc e s' => rfl
      | ok v s' =>
        cases v <;> try rfl
        rename_i n
        dsimp only
        by_cases q : 0 ≤ n ∧ n < 2 ^ 62
        · rw [if_pos q]; exact propext ⟨fun z => ⟨q, z⟩, fun z => z.2⟩
        · rw [if_neg q]; exact propext ⟨fun z => z.elim, fun z => q z.1⟩
end
@[simp] theorem rng_len2 {a : Int} {n : Nat} : (rng a n).length = n := by simp [rng]
theorem rep_flat {α : Type} {x : α} {n : Nat} : (List.replicate n [x]).flatten = List.replicate n x := by
  induction n with
  | zero => rfl
  | succ n ih => rw [List.replicate_succ, List.flatten_cons, ih]; rfl
end Sm

/-! S47: how raise, try, super, written dicts, keywords are computed -/
namespace Sm
open PySem L2
section
variable {s : Sto} {lo : Lo} {QV : Vl → Sto → Prop} {E : Ex → Sto → Prop} {K : RK}
@[simp ↓] theorem WS_sRaise {c : Nat} {f : Str} {e : EM} : WS (sRaise c f e) lo s K = WE (e lo) s (fun v s => K.ex ⟨c, some [(f, v)]⟩ lo s) (fun x s => K.ex x lo s) := by unfold sRaise; rw [WS_bndS]
def tryK (hit : Nat → Option Bool) (i : Nat) (su : Ex → SM) (K : RK) (e : Ex) (lo : Lo) (s : Sto) : Prop := match hit e.c with
  | some true => match e.fs with
    | some _ => WS (su e) (lo.set i none) s ⟨fun lo s => K.nx (lo.set i none) s, K.rt, fun lo s => K.bk (lo.set i none) s, fun lo s => K.ct (lo.set i none) s, fun _ _ _ => False⟩
    | none => False
  | some false => K.ex e lo s
  | none => False
@[simp ↓] theorem WS_sTryAs {hit : Nat → Option Bool} {i : Nat} {b : SM} {su : Ex → SM} : WS (sTryAs hit i b su) lo s K = WS b lo s ⟨K.nx, K.rt, K.bk, K.ct, tryK hit i su K⟩ := by
  simp only [WS_eq]
  unfold WS0 sTryAs
  cases b lo s with
  | exc e lo' s' =>
    simp only [tryK, WS_eq, WS0]
    cases hit e.c with
    | none => rfl
    | some t =>
      cases t with
      | false => rfl
      | true =>
        cases e.fs with
        | none => rfl
        | some fs => cases su e (lo'.set i none) s' <;> rfl
  | _ => rfl
@[simp ↓] theorem WE_eXf {i : Nat} {e : Ex} {f : Str} : WE (eXf i e f lo) s QV E = (match lo[i]?, e.fs with
  | some none, some fs => (match getS fs f with | some v => QV v s | none => False)
  | _, _ => False) := by
  simp only [WE_eq]
  unfold WE0 eXf
  cases lo[i]? with
  | none => rfl
  | some o =>
    cases o with
    | some v => rfl
    | none =>
      cases e.fs with
      | none => rfl
      | some fs =>
        simp only
        cases getS fs f <;> rfl
theorem WE_eSup {tab : MTab} {a : AM} {j c : Nat} {fs : List (Str × Vl)} {mf : List Vl → M Vl} (h0 : lo[0]? = some (some (.ref j))) (hj : s[j]? = some (.ins c fs)) (ht : tab c = some mf) : WE (eSup tab a lo) s QV E = WE (a lo) s (fun as s => WE (mf (.ref j :: as)) s QV E) E := by
  have key : WE (a lo) s (fun as s => WE (mf (.ref j :: as)) s QV E) E = WE (bnd (a lo) (fun as => mf (.ref j :: as))) s QV E := by rw [WE_bnd]
  rw [key]
  simp only [WE_eq]
  unfold WE0 eSup
  simp only [h0, hj, ht]
@[simp ↓] theorem WE_eKix {tbl : List (Str × Vl)} {e : EM} : WE (eKix tbl e lo) s QV E = WE (e lo) s (fun v s => match v with
  | .str z => (match getS tbl z with | some u => QV u s | none => False)
  | _ => False) E := by
  unfold eKix
  rw [WE_bnd]
  refine WE_ext fun v s => ?_
  simp only [WE_eq]
  unfold WE0
  cases v <;> try rfl
  rename_i z
  simp only
  cases getS tbl z <;> rfl
theorem WE_eCallF {i j : Nat} {tab : MTab} {a : AM} {mf : List Vl → M Vl} (h : lo[i]? = some (some (.fn j))) (ht : tab j = some mf) : WE (eCallF i tab a lo) s QV E = WE (a lo) s (fun as s => WE (mf as) s QV E) E := by
  rw [← WE_bnd]
  simp only [WE_eq]
  unfold WE0 eCallF
  simp only [h, ht]
@[simp ↓] theorem WE_eCallK {n m : Nat} {das : List Vl} {mf : List Vl → M Vl} {a k : AM} : WE (eCallK n das m mf a k lo) s QV E = WE (a lo) s (fun as s => WE (k lo) s (fun zs s => if as.length = n ∧ zs.length = m then WE (mf (as ++ das ++ zs)) s QV E else False) E) E := by
  unfold eCallK
  rw [WE_bnd]
  refine WE_ext fun as s => ?_
  rw [WE_bnd]
  refine WE_ext fun zs s => ?_
  by_cases h : as.length = n ∧ zs.length = m
  · simp only [WE_eq, WE0, if_pos h]
  · simp only [WE_eq, WE0, if_neg h]
end
end Sm

/-! S48: a machine's state in plain Lean, and how it stands in a store -/
namespace Sm
open PySem L2
/-- None or a cell -/
def cV : Option Nat → Vl
  | none => .non
  | some c => .int (c : Nat)
/-- a field: None, or a cell and whether it is held strongly -/
def fV : Option (Nat × Bool) → Vl
  | none => .non
  | some p => .tup [.int (p.1 : Nat), .bl p.2]
def wV : Option Str → Vl
  | none => .non
  | some x => .str x
inductive Said where
  | w (x : Str) | yes | no
def Said.vl : Said → Vl
  | .w x => .tup [.str "said", .str x]
  | .yes => .tup [.str "yes"]
  | .no => .tup [.str "no"]
def bV (b : Bool) : Vl := .int (if b then 1 else 0)
def pV (p : Int × Nat) : Vl := .tup [.int p.1, .int (p.2 : Nat)]
def nV (n : Nat) : Vl := .int (n : Nat)
/-! dicts with str keys -/
section
variable {α : Type} {f : α → Vl} {l : List (Str × α)} {x y : Str} {v : α}
def getT (l : List (Str × α)) (x : Str) : Option α := match l with
  | [] => none
  | p :: r => if p.1 = x then some p.2 else getT r x
def putT (l : List (Str × α)) (x : Str) (v : α) : List (Str × α) := match l with
  | [] => [(x, v)]
  | p :: r => if p.1 = x then (x, v) :: r else p :: putT r x v
def rawT (f : α → Vl) (l : List (Str × α)) : List (Key × Vl) := l.map fun p => (.inr p.1, f p.2)
theorem look_raw : ∀ {l : List (Str × α)}, look (rawT f l) (.inr x) = (getT l x).map f
  | [] => rfl
  | p :: r => by
    show (if (Sum.inr p.1 : Key) = Sum.inr x then some (f p.2) else look (rawT f r) (.inr x)) = _
    rw [look_raw]
    show _ = Option.map f (if p.1 = x then some p.2 else getT r x)
    by_cases e : p.1 = x
    · rw [if_pos (by rw [e]), if_pos e]; rfl
    · rw [if_neg (fun z => e (Sum.inr.inj z)), if_neg e]
theorem put_raw : ∀ {l : List (Str × α)}, put (rawT f l) (.inr x) (f v) = rawT f (putT l x v)
  | [] => rfl
  | p :: r => by
    show (if (Sum.inr p.1 : Key) = Sum.inr x then (Sum.inr x, f v) :: rawT f r else (Sum.inr p.1, f p.2) :: put (rawT f r) (.inr x) (f v)) = _
    rw [put_raw]
    show _ = rawT f (if p.1 = x then (x, v) :: r else p :: putT r x v)
    by_cases e : p.1 = x
    · rw [if_pos (by rw [e]), if_pos e]; rfl
    · rw [if_neg (fun z => e (Sum.inr.inj z)), if_neg e]; rfl
theorem raw_len : (rawT f l).length = l.length := by simp [rawT]
theorem get_put : getT (putT l x v) y = if x = y then some v else getT l y := by
  induction l with
  | nil => simp [putT, getT]
  | cons p r ih =>
    unfold putT
    by_cases e : p.1 = x
    · rw [if_pos e]
      unfold getT
      by_cases e2 : x = y
      · simp [e2]
      · have : p.1 ≠ y := fun z => e2 (e.symm.trans z)
        simp [e2, this]
    · rw [if_neg e]
      unfold getT
      rw [ih]
      by_cases e2 : p.1 = y
      · have : x ≠ y := fun z => e (e2.trans z.symm)
        simp [e2, this]
      · simp [e2]
theorem putT_len : (putT l x v).length ≤ l.length + 1 := by
  induction l with
  | nil => simp [putT]
  | cons p r ih =>
    unfold putT
    split <;> simp <;> omega
theorem putT_mem {p : Str × α} (h : p ∈ putT l x v) : p ∈ l ∨ p = (x, v) := by
  induction l with
  | nil => simp [putT] at h; exact .inr h
  | cons q r ih =>
    unfold putT at h
    split at h
    · rcases List.mem_cons.mp h with z | z
      · exact .inr z
      · exact .inl (List.mem_cons_of_mem _ z)
    · rcases List.mem_cons.mp h with z | z
      · exact .inl (z ▸ List.mem_cons_self ..)
      · exact (ih z).imp (List.mem_cons_of_mem _) id
theorem getT_mem (h : getT l x = some v) : (x, v) ∈ l := by
  induction l with
  | nil => simp [getT] at h
  | cons q r ih =>
    unfold getT at h
    split at h
    · rename_i e
      cases h
      rw [← e]
      exact List.mem_cons_self ..
    · exact List.mem_cons_of_mem _ (ih h)
end
/-! dicts of cells that are kept -/
def rawK (l : List Nat) : List (Key × Vl) := l.map fun (c : Nat) => ((.inl (c : Int) : Key), Vl.bl true)
def addK : List Nat → Nat → List Nat
  | [], c => [c]
  | d :: r, c => if d = c then d :: r else d :: addK r c
theorem put_rawK {c : Nat} : ∀ {l : List Nat}, put (rawK l) (.inl (c : Int)) (.bl true) = rawK (addK l c)
  | [] => rfl
  | d :: r => by
    show (if (Sum.inl (d : Int) : Key) = Sum.inl (c : Int) then (Sum.inl (c : Int), Vl.bl true) :: rawK r else (Sum.inl (d : Int), Vl.bl true) :: put (rawK r) (.inl (c : Int)) (.bl true)) = _
    rw [put_rawK]
    show _ = rawK (if d = c then d :: r else d :: addK r c)
    by_cases e : d = c
    · subst e; simp [rawK]
    · rw [if_neg (fun z => e (by have := Sum.inl.inj z; omega)), if_neg e]; rfl
theorem addK_len {c : Nat} : ∀ {l : List Nat}, (addK l c).length ≤ l.length + 1
  | [] => by simp [addK]
  | d :: r => by
    unfold addK
    split
    · simp
    · have := addK_len (c := c) (l := r)
      simp; omega
theorem addK_mem {c d : Nat} : ∀ {l : List Nat}, d ∈ addK l c ↔ d ∈ l ∨ d = c
  | [] => by simp [addK]
  | e :: r => by
    unfold addK
    split
    · rename_i q
      subst q
      simp
      intro z
      exact .inl z
    · simp only [List.mem_cons, addK_mem (l := r)]
      constructor
      · rintro (z | z | z)
        · exact .inl (.inl z)
        · exact .inl (.inr z)
        · exact .inr z
      · rintro ((z | z) | z)
        · exact .inl z
        · exact .inr (.inl z)
        · exact .inr (.inr z)
/-! ### the state -/
structure Mt where
  place : Int
  moment : Int
  stands : List (Str × Option Nat)
  kept : List Nat
  cont : List (List (Str × Option (Nat × Bool)))
  wish : List (Option Str)
  lost : List Bool
  rep : List Bool
  said : List Said
  clr : List (Int × Nat)
  there : List Nat
abbrev Mt0 : Mt := ⟨-1, -1, [], [], [], [], [], [], [], [], []⟩
/-- what stays the same in a run: class, address, program, inputs, paused places, plan -/
structure MP where
  c : Nat
  m : Nat
  bk : Vl
  bits : Vl
  qp : Vl
  wa : List (Key × Vl)
  pl : List (Nat × List Vl)
def Mt.obs (P : MP) (cs : List Nat) (M : Mt) : List Ob := [
  .ins P.c [("block", P.bk), ("bits", P.bits), ("at_place", .int M.place), ("moment", .int M.moment), ("stands", .ref (P.m + 1)), ("kept", .ref (P.m + 2)), ("contents", .ref (P.m + 3)), ("wishes", .ref (P.m + 4)), ("lost", .ref (P.m + 5)), ("replies", .ref (P.m + 6)), ("spoken", .ref (P.m + 7)), ("quiet_places", P.qp), ("cleared", .ref (P.m + 8)), ("there", .ref (P.m + 9)), ("wishes_at", .ref (P.m + 10))],
  .dic (rawT cV M.stands), .dic (rawK M.kept), .lst (cs.map Vl.ref), .lst (M.wish.map wV), .lst (M.lost.map Vl.bl), .lst (M.rep.map bV), .lst (M.said.map Said.vl), .lst (M.clr.map pV), .lst (M.there.map nV), .dic P.wa]
structure MaAt (s : Sto) (P : MP) (cs : List Nat) (M : Mt) : Prop where
  obs : ∀ (i : Nat) (o : Ob), (M.obs P cs)[i]? = some o → s[P.m + i]? = some o
  csl : cs.length = M.cont.length
  rows : ∀ (i z : Nat) (r : List (Str × Option (Nat × Bool))), cs[i]? = some z → M.cont[i]? = some r → P.m + 10 < z ∧ s[z]? = some (.dic (rawT fV r))
  nd : cs.Nodup
  pls : ∀ p ∈ P.pl, P.m + 10 < p.1 ∧ p.1 ∉ cs ∧ s[p.1]? = some (.lst p.2)
/-- nothing below m is changed -/
structure Kp (m : Nat) (s s' : Sto) : Prop where
  le : s.length ≤ s'.length
  get : ∀ i, i < m → s'[i]? = s[i]?
theorem Kp.refl {m : Nat} {s : Sto} : Kp m s s := ⟨Nat.le_refl _, fun _ _ => rfl⟩
theorem Kp.trans {m : Nat} {s s1 s2 : Sto} (a : Kp m s s1) (b : Kp m s1 s2) : Kp m s s2 := ⟨Nat.le_trans a.le b.le, fun i hi => (b.get i hi).trans (a.get i hi)⟩
theorem Kp.set {m j : Nat} {s s1 : Sto} {o : Ob} (a : Kp m s s1) (h : m ≤ j) : Kp m s (s1.set j o) := ⟨by rw [List.length_set]; exact a.le, fun i hi => by rw [List.getElem?_set_ne (by omega)]; exact a.get i hi⟩
theorem Kp.push {m : Nat} {s s1 : Sto} {o : Ob} (a : Kp m s s1) (h : m ≤ s.length) : Kp m s (s1 ++ [o]) := ⟨by rw [List.length_append]; exact Nat.le_trans a.le (Nat.le_add_right ..), fun i hi => by rw [List.getElem?_append_left (by have := a.le; omega)]; exact a.get i hi⟩
theorem Kp.of_fr {m : Nat} {s s1 : Sto} (f : Fr [] s s1) (h : m ≤ s.length) : Kp m s s1 := ⟨f.le, fun i hi => f.get i (by omega) (by simp)⟩
section
variable {s s' : Sto} {P : MP} {cs : List Nat} {M M' : Mt}
theorem MaAt.top (A : MaAt s P cs M) : s[P.m]? = some (.ins P.c [("block", P.bk), ("bits", P.bits), ("at_place", .int M.place), ("moment", .int M.moment), ("stands", .ref (P.m + 1)), ("kept", .ref (P.m + 2)), ("contents", .ref (P.m + 3)), ("wishes", .ref (P.m + 4)), ("lost", .ref (P.m + 5)), ("replies", .ref (P.m + 6)), ("spoken", .ref (P.m + 7)), ("quiet_places", P.qp), ("cleared", .ref (P.m + 8)), ("there", .ref (P.m + 9)), ("wishes_at", .ref (P.m + 10))]) := A.obs 0 _ rfl
theorem MaAt.st (A : MaAt s P cs M) : s[P.m + 1]? = some (.dic (rawT cV M.stands)) := A.obs 1 _ rfl
theorem MaAt.kp (A : MaAt s P cs M) : s[P.m + 2]? = some (.dic (rawK M.kept)) := A.obs 2 _ rfl
theorem MaAt.co (A : MaAt s P cs M) : s[P.m + 3]? = some (.lst (cs.map Vl.ref)) := A.obs 3 _ rfl
theorem MaAt.wi (A : MaAt s P cs M) : s[P.m + 4]? = some (.lst (M.wish.map wV)) := A.obs 4 _ rfl
theorem MaAt.lo (A : MaAt s P cs M) : s[P.m + 5]? = some (.lst (M.lost.map Vl.bl)) := A.obs 5 _ rfl
theorem MaAt.re (A : MaAt s P cs M) : s[P.m + 6]? = some (.lst (M.rep.map bV)) := A.obs 6 _ rfl
theorem MaAt.sp (A : MaAt s P cs M) : s[P.m + 7]? = some (.lst (M.said.map Said.vl)) := A.obs 7 _ rfl
theorem MaAt.cl (A : MaAt s P cs M) : s[P.m + 8]? = some (.lst (M.clr.map pV)) := A.obs 8 _ rfl
theorem MaAt.th (A : MaAt s P cs M) : s[P.m + 9]? = some (.lst (M.there.map nV)) := A.obs 9 _ rfl
theorem MaAt.wa (A : MaAt s P cs M) : s[P.m + 10]? = some (.dic P.wa) := A.obs 10 _ rfl
theorem MaAt.len (A : MaAt s P cs M) : P.m + 10 < s.length := lt_of_get A.wa
theorem obs_len : (M.obs P cs).length = 11 := rfl
theorem MaAt.fr (A : MaAt s P cs M) (f : Fr [] s s') : MaAt s' P cs M :=
  ⟨fun i o h => f.at (A.obs i o h) (by simp), A.csl, fun i z r h1 h2 => ⟨(A.rows i z r h1 h2).1, f.at (A.rows i z r h1 h2).2 (by simp)⟩, A.nd, fun p hp => ⟨(A.pls p hp).1, (A.pls p hp).2.1, f.at (A.pls p hp).2.2 (by simp)⟩⟩
theorem MaAt.set (A : MaAt s P cs M) {j : Nat} {o : Ob} (hj : j < 11) (h : M'.obs P cs = (M.obs P cs).set j o) (hc : M'.cont = M.cont) : MaAt (s.set (P.m + j) o) P cs M' := by
  have hl := A.len
  refine ⟨fun i o' q => ?_, by rw [hc]; exact A.csl, fun i z r h1 h2 => ?_, A.nd, fun p hp => ?_⟩
  · rw [h] at q
    by_cases e : i = j
    · subst e
      rw [List.getElem?_set_self (by rw [obs_len]; exact hj)] at q
      rw [List.getElem?_set_self (by omega)]
      exact q
    · rw [List.getElem?_set_ne (fun z => e z.symm)] at q
      rw [List.getElem?_set_ne (by omega)]
      exact A.obs i o' q
  · rw [hc] at h2
    obtain ⟨q1, q2⟩ := A.rows i z r h1 h2
    exact ⟨q1, by rw [List.getElem?_set_ne (by omega)]; exact q2⟩
  · obtain ⟨q1, q2, q3⟩ := A.pls p hp
    exact ⟨q1, q2, by rw [List.getElem?_set_ne (by omega)]; exact q3⟩
theorem MaAt.row (A : MaAt s P cs M) {i z : Nat} {r : List (Str × Option (Nat × Bool))} (hi : cs[i]? = some z) : MaAt (s.set z (.dic (rawT fV r))) P cs { M with cont := M.cont.set i r } := by
  have hil := (List.getElem?_eq_some_iff.mp hi).1
  have hcl := A.csl
  obtain ⟨z1, z2⟩ := A.rows i z _ hi (List.getElem?_eq_getElem (by omega))
  have hz := lt_of_get z2
  refine ⟨fun j o q => ?_, by simpa using hcl, fun j y r' h1 h2 => ?_, A.nd, fun p hp => ?_⟩
  · have hj : j < 11 := (List.getElem?_eq_some_iff.mp q).1
    rw [List.getElem?_set_ne (by omega)]
    exact A.obs j o q
  · by_cases e : j = i
    · subst e
      rw [hi] at h1
      cases h1
      simp only at h2
      rw [List.getElem?_set_self (by omega)] at h2
      cases h2
      exact ⟨z1, List.getElem?_set_self hz⟩
    · simp only at h2
      rw [List.getElem?_set_ne (fun q => e q.symm)] at h2
      obtain ⟨q1, q2⟩ := A.rows j y r' h1 h2
      have ne : z ≠ y := fun q => by
        subst q
        exact e ((List.getElem?_inj (List.getElem?_eq_some_iff.mp h1).1 A.nd).mp (h1.trans hi.symm))
      exact ⟨q1, by rw [List.getElem?_set_ne ne]; exact q2⟩
  · obtain ⟨q1, q2, q3⟩ := A.pls p hp
    have ne : z ≠ p.1 := fun q => q2 (q ▸ List.mem_of_getElem? hi)
    exact ⟨q1, q2, by rw [List.getElem?_set_ne ne]; exact q3⟩
theorem MaAt.make (A : MaAt s P cs M) : MaAt ((s ++ [Ob.dic []]).set (P.m + 3) (.lst ((cs ++ [s.length]).map Vl.ref))) P (cs ++ [s.length]) { M with cont := M.cont ++ [[]] } := by
  have hl := A.len
  have hcl := A.csl
  refine ⟨fun i o q => ?_, by simp [hcl], fun i z r h1 h2 => ?_, ?_, fun p hp => ?_⟩
  · have hi : i < 11 := (List.getElem?_eq_some_iff.mp q).1
    by_cases e : i = 3
    · subst e
      rw [List.getElem?_set_self (by simp; omega)]
      exact q
    · rw [List.getElem?_set_ne (by omega), List.getElem?_append_left (by omega)]
      refine A.obs i o ?_
      have : ∀ i, i < 11 → i ≠ 3 → (Mt.obs P (cs ++ [s.length]) { M with cont := M.cont ++ [[]] })[i]? = (M.obs P cs)[i]? := by
        intro i h1 h2
        match i, h1, h2 with
        | 0, _, _ => rfl
        | 1, _, _ => rfl
        | 2, _, _ => rfl
        | 4, _, _ => rfl
        | 5, _, _ => rfl
        | 6, _, _ => rfl
        | 7, _, _ => rfl
        | 8, _, _ => rfl
        | 9, _, _ => rfl
        | 10, _, _ => rfl
      rw [← this i hi e]
      exact q
  · rcases getElem?_snoc h1 with z1 | ⟨z1, z2⟩
    · have hi := (List.getElem?_eq_some_iff.mp z1).1
      simp only at h2
      rw [List.getElem?_append_left (by omega)] at h2
      obtain ⟨q1, q2⟩ := A.rows i z r z1 h2
      have := lt_of_get q2
      exact ⟨q1, by rw [List.getElem?_set_ne (by omega), List.getElem?_append_left this]; exact q2⟩
    · subst z1 z2
      simp only at h2
      rw [hcl, List.getElem?_append_right (Nat.le_refl _)] at h2
      simp at h2
      subst h2
      exact ⟨by omega, by rw [List.getElem?_set_ne (by omega)]; simp [rawT]⟩
  · rw [List.nodup_append]
    refine ⟨A.nd, by simp, fun x hx y hy => ?_⟩
    simp at hy
    subst hy
    obtain ⟨i, hi⟩ := List.getElem?_of_mem hx
    have hil := (List.getElem?_eq_some_iff.mp hi).1
    have := lt_of_get (A.rows i x _ hi (List.getElem?_eq_getElem (by omega))).2
    omega
  · obtain ⟨q1, q2, q3⟩ := A.pls p hp
    have := lt_of_get q3
    refine ⟨q1, ?_, by rw [List.getElem?_set_ne (by omega), List.getElem?_append_left this]; exact q3⟩
    rw [List.mem_append]
    rintro (z | z)
    · exact q2 z
    · simp at z
      omega
end
end Sm

/-! S49: programs executed, in plain Lean -/
namespace Sm
open PySem L2
inductive Out (α : Type) where
  | ok (a : α) (M : Mt) | stop (why : Str) (M : Mt)
def Mt.cell (M : Mt) (x : Str) : Option Nat := (getT M.stands x).join
def Mt.row (M : Mt) (c : Nat) : List (Str × Option (Nat × Bool)) := (M.cont[c]?).getD []
def Mt.fld (M : Mt) (c : Nat) (f : Str) : Option (Nat × Bool) := (getT (M.row c) f).join
def Mt.askC (M : Mt) (c : Nat) : Out Bool := if 200 ≤ M.rep.length then .stop "long" M else .ok ((M.lost[c]?).getD false) { M with rep := M.rep ++ [(M.lost[c]?).getD false] }
def Mt.wishedF (w : Str) : List (Option Str) → Nat → Mt → Out Bool
  | [], _, M => .ok false M
  | o :: r, i, M => if o = some w then (match M.askC i with
    | .ok true M => .ok true M
    | .ok false M => Mt.wishedF w r (i + 1) M
    | .stop y M => .stop y M) else Mt.wishedF w r (i + 1) M
def Mt.test (bits : List Int) : Tst → Mt → Out Bool
  | .not t, M => match Mt.test bits t M with
    | .ok b M => .ok (!b) M
    | .stop y M => .stop y M
  | .given i, M => .ok (decide (bits[i]? = some 1)) M
  | .set x, M => .ok (M.cell x).isSome M
  | .same x y, M => match M.cell x, M.cell y with
    | some a, some b => .ok (decide (a = b)) M
    | _, _ => .stop "name" M
  | .full x f, M => match M.cell x with
    | none => .stop "name" M
    | some c => match M.fld c f with
      | none => .ok false M
      | some p => match M.askC p.1 with
        | .ok b M => .ok (!b) M
        | .stop y M => .stop y M
  | .wished w, M => Mt.wishedF w M.wish 0 M
def Mt.stand (M : Mt) (x : Str) (c : Option Nat) : Mt := { M with stands := putT M.stands x c }
def Mt.fill (M : Mt) (h : Nat) (f : Str) (v : Option (Nat × Bool)) : Mt := { M with cont := M.cont.set h (putT (M.row h) f v) }
def Mt.tell (M : Mt) (x : Said) : Mt := { M with said := M.said ++ [x] }
def Mt.made (M : Mt) (x : Str) : Mt := { M with cont := M.cont ++ [[]], wish := M.wish ++ [none], lost := M.lost ++ [false], stands := putT M.stands x (some M.cont.length) }
def Mt.deed (bits : List Int) : Stm → Mt → Out Unit
  | .make x, M => .ok () (M.made x)
  | .wish x w, M => match M.cell x with
    | some c => .ok () { M with wish := M.wish.set c (some w) }
    | none => .stop "name" M
  | .keep x, M => match M.cell x with
    | some c => .ok () { M with kept := addK M.kept c }
    | none => .stop "name" M
  | .name x y, M => match M.cell y with
    | some c => .ok () (M.stand x (some c))
    | none => .stop "name" M
  | .drop x, M => .ok () (M.stand x none)
  | .hold x f y, M => match M.cell x, M.cell y with
    | some h, some c => .ok () (M.fill h f (some (c, true)))
    | _, _ => .stop "name" M
  | .weak x f y, M => match M.cell x, M.cell y with
    | some h, some c => .ok () (M.fill h f (some (c, false)))
    | _, _ => .stop "name" M
  | .cut x f, M => match M.cell x with
    | some h => .ok () (M.fill h f none)
    | none => .stop "name" M
  | .take z x f, M => match M.cell x with
    | none => .stop "name" M
    | some h => match M.fld h f with
      | none => .ok () (M.stand z none)
      | some p => match M.askC p.1 with
        | .ok b M => .ok () (M.stand z (if b then none else some p.1))
        | .stop y M => .stop y M
  | .say w, M => .ok () (M.tell (.w w))
  | .ask t, M => match M.test bits t with
    | .ok b M => .ok () (M.tell (if b then .yes else .no))
    | .stop y M => .stop y M
  | .ife _ _ _, M => .ok () M
  | .rep _ _, M => .ok () M
def Mt.fin (M : Mt) : Mt := { M with there := M.there ++ [M.lost.length - M.clr.length] }
/-- the moment's end behind a deed -/
def Out.fin : Out Unit → Out Unit
  | .ok _ M => .ok () M.fin
  | .stop y M => .stop y M
def Mt.enter (bg : Mt → Mt) (M : Mt) (p : Nat) : Mt := bg { M with place := (p : Int), moment := M.moment + 1 }
def repN (f : Mt → Out Unit) : Nat → Mt → Out Unit
  | 0, M => .ok () M
  | k + 1, M => match f M with
    | .ok _ M => repN f k M
    | .stop y M => .stop y M
mutual
/-- a statement at a place, the moment begun -/
def exec1 (bg : Mt → Mt) (bits : List Int) : Stm → Nat → Mt → Out Unit
  | .ife t a b, p, M => match M.test bits t with
    | .ok true M => execL bg bits a (p + 1) M.fin
    | .ok false M => execL bg bits b (p + 1 + Stm.cnts a) M.fin
    | .stop y M => .stop y M
  | .rep k b, p, M => repN (fun M => execL bg bits b (p + 1) M) k M.fin
  | x, _, M => (M.deed bits x).fin
/-- a block whose first statement has this place -/
def execL (bg : Mt → Mt) (bits : List Int) : List Stm → Nat → Mt → Out Unit
  | [], _, M => .ok () M
  | x :: r, p, M => match exec1 bg bits x p (M.enter bg p) with
    | .ok _ M => execL bg bits r (p + x.cnt) M
    | .stop y M => .stop y M
end
/-- how many fields there are -/
def szC : List (List (Str × Option (Nat × Bool))) → Nat
  | [] => 0
  | r :: l => r.length + szC l
theorem szC_app : ∀ {l m : List (List (Str × Option (Nat × Bool)))}, szC (l ++ m) = szC l + szC m
  | [], m => by simp [szC]
  | r :: l, m => by simp only [List.cons_append, szC, szC_app (l := l)]; omega
theorem szC_set : ∀ {l : List (List (Str × Option (Nat × Bool)))} {h : Nat} {r : List (Str × Option (Nat × Bool))}, r.length ≤ ((l[h]?).getD []).length + 1 → szC (l.set h r) ≤ szC l + 1
  | [], h, r, _ => by simp [szC]
  | q :: l, 0, r, e => by simp at e; simp only [List.set_cons_zero, szC]; omega
  | q :: l, h + 1, r, e => by
    have := szC_set (l := l) (h := h) (r := r) (by simpa using e)
    simp only [List.set_cons_succ, szC]; omega
/-- what is right of a state: cells that are there; nothing is larger than B -/
structure MOk (B : Nat) (M : Mt) : Prop where
  std : ∀ p ∈ M.stands, ∀ c, p.2 = some c → c < M.cont.length
  rws : ∀ r ∈ M.cont, r.length ≤ B ∧ ∀ p ∈ r, ∀ q, p.2 = some q → q.1 < M.cont.length
  wl : M.wish.length = M.cont.length
  ll : M.lost.length = M.cont.length
  kpt : ∀ c ∈ M.kept, c < M.cont.length
  s1 : M.stands.length ≤ B
  s2 : M.kept.length ≤ B
  s3 : M.cont.length ≤ B
  s4 : M.rep.length ≤ 200
  s5 : M.said.length ≤ B
  s6 : M.clr.length ≤ M.lost.count true
  s7 : M.there.length ≤ B
  s8 : szC M.cont ≤ B
section
variable {M : Mt} {B : Nat} {x f : Str}
theorem MOk.cl (O : MOk B M) : M.clr.length ≤ M.lost.length := Nat.le_trans O.s6 List.count_le_length
theorem MOk.mono {B' : Nat} (O : MOk B M) (h : B ≤ B') : MOk B' M := by
  obtain ⟨a1, a2, a3, a4, a5, a6, a7, a8, a9, a10, a11, a12, a13⟩ := O
  exact ⟨a1, fun r hr => ⟨by have := (a2 r hr).1; omega, (a2 r hr).2⟩, a3, a4, a5, by omega, by omega, by omega, a9, by omega, a11, by omega, by omega⟩
theorem MOk.cell (O : MOk B M) {c : Nat} (h : M.cell x = some c) : c < M.cont.length := by
  unfold Mt.cell at h
  cases e : getT M.stands x with
  | none => rw [e] at h; cases h
  | some o =>
    rw [e] at h
    exact O.std _ (getT_mem e) c h
theorem MOk.fld (O : MOk B M) {c : Nat} {p : Nat × Bool} (h : M.fld c f = some p) : p.1 < M.cont.length := by
  unfold Mt.fld at h
  cases e : getT (M.row c) f with
  | none => rw [e] at h; cases h
  | some o =>
    rw [e] at h
    unfold Mt.row at e
    cases e2 : M.cont[c]? with
    | none => rw [e2] at e; simp [getT] at e
    | some r =>
      rw [e2] at e
      exact (O.rws r (List.mem_of_getElem? e2)).2 _ (getT_mem e) p h
theorem MOk.stand (O : MOk B M) {c : Option Nat} (h : ∀ d, c = some d → d < M.cont.length) : MOk (B + 1) (M.stand x c) := by
  obtain ⟨a1, a2, a3, a4, a5, a6, a7, a8, a9, a10, a11, a12, a13⟩ := O
  refine ⟨fun p hp d hd => ?_, fun r hr => ⟨by have := (a2 r hr).1; omega, (a2 r hr).2⟩, a3, a4, a5, ?_, by show M.kept.length ≤ _; omega, by show M.cont.length ≤ _; omega, a9, by show M.said.length ≤ _; omega, a11, by show M.there.length ≤ _; omega, by show szC M.cont ≤ _; omega⟩
  · rcases putT_mem hp with z | z
    · exact a1 p z d hd
    · rw [z] at hd; exact h d hd
  · exact Nat.le_trans putT_len (by omega)
theorem MOk.fill (O : MOk B M) {h : Nat} {v : Option (Nat × Bool)} (hv : ∀ q, v = some q → q.1 < M.cont.length) : MOk (B + 1) (M.fill h f v) := by
  have hl : (M.fill h f v).cont.length = M.cont.length := by simp [Mt.fill]
  obtain ⟨a1, a2, a3, a4, a5, a6, a7, a8, a9, a10, a11, a12, a13⟩ := O
  refine ⟨fun p hp d hd => by rw [hl]; exact a1 p hp d hd, fun r hr => ?_, by rw [hl]; exact a3, by rw [hl]; exact a4, fun c hc => by rw [hl]; exact a5 c hc, by show M.stands.length ≤ _; omega, by show M.kept.length ≤ _; omega, by rw [hl]; omega, a9, by show M.said.length ≤ _; omega, a11, by show M.there.length ≤ _; omega, by show szC (M.cont.set h (putT (M.row h) f v)) ≤ B + 1; have := szC_set (l := M.cont) (h := h) (r := putT (M.row h) f v) putT_len; omega⟩
  rw [hl]
  have hr : r ∈ M.cont.set h (putT (M.row h) f v) := hr
  rcases List.mem_or_eq_of_mem_set hr with z | z
  · exact ⟨by have := (a2 r z).1; omega, (a2 r z).2⟩
  · subst z
    have rw1 : (M.row h).length ≤ B ∧ ∀ p ∈ M.row h, ∀ q, p.2 = some q → q.1 < M.cont.length := by
      unfold Mt.row
      cases e : M.cont[h]? with
      | none => exact ⟨by simp, by simp⟩
      | some r => exact a2 r (List.mem_of_getElem? e)
    refine ⟨Nat.le_trans putT_len (by omega), fun p hp q hq => ?_⟩
    rcases putT_mem hp with z | z
    · exact rw1.2 p z q hq
    · rw [z] at hq; exact hv q hq
theorem MOk.tell (O : MOk B M) {y : Said} : MOk (B + 1) (M.tell y) := by
  obtain ⟨a1, a2, a3, a4, a5, a6, a7, a8, a9, a10, a11, a12, a13⟩ := O
  exact ⟨a1, fun r hr => ⟨by have := (a2 r hr).1; omega, (a2 r hr).2⟩, a3, a4, a5, by show M.stands.length ≤ _; omega, by show M.kept.length ≤ _; omega, by show M.cont.length ≤ _; omega, a9, by show (M.said ++ [y]).length ≤ _; simp; omega, a11, by show M.there.length ≤ _; omega, by show szC M.cont ≤ _; omega⟩
theorem MOk.fin (O : MOk B M) : MOk (B + 1) M.fin := by
  obtain ⟨a1, a2, a3, a4, a5, a6, a7, a8, a9, a10, a11, a12, a13⟩ := O
  exact ⟨a1, fun r hr => ⟨by have := (a2 r hr).1; omega, (a2 r hr).2⟩, a3, a4, a5, by show M.stands.length ≤ _; omega, by show M.kept.length ≤ _; omega, by show M.cont.length ≤ _; omega, a9, by show M.said.length ≤ _; omega, a11, by show (M.there ++ [_]).length ≤ _; simp; omega, by show szC M.cont ≤ _; omega⟩
theorem MOk.made (O : MOk B M) : MOk (B + 1) (M.made x) := by
  have hl : (M.made x).cont.length = M.cont.length + 1 := by simp [Mt.made]
  obtain ⟨a1, a2, a3, a4, a5, a6, a7, a8, a9, a10, a11, a12, a13⟩ := O
  refine ⟨fun p hp d hd => ?_, fun r hr => ?_, by rw [hl]; simp [Mt.made, a3], by rw [hl]; simp [Mt.made, a4], fun c hc => by rw [hl]; have := a5 c hc; omega, ?_, by show M.kept.length ≤ _; omega, by rw [hl]; omega, a9, by show M.said.length ≤ _; omega, by show M.clr.length ≤ (M.lost ++ [false]).count true; rw [List.count_append]; omega, by show M.there.length ≤ _; omega, by show szC (M.cont ++ [[]]) ≤ _; rw [szC_app]; simp only [szC, List.length_nil]; omega⟩
  · rw [hl]
    rcases putT_mem (show p ∈ putT M.stands x (some M.cont.length) from hp) with z | z
    · have := a1 p z d hd; omega
    · rw [z] at hd; cases hd; omega
  · rw [hl]
    rcases List.mem_append.mp (show r ∈ M.cont ++ [[]] from hr) with z | z
    · exact ⟨by have := (a2 r z).1; omega, fun p hp q hq => by have := (a2 r z).2 p hp q hq; omega⟩
    · simp at z
      subst z
      exact ⟨by simp, by simp⟩
  · exact Nat.le_trans putT_len (by omega)
theorem MOk.askC (O : MOk B M) {c : Nat} {b : Bool} {M' : Mt} (h : M.askC c = .ok b M') : MOk B M' ∧ M'.cont = M.cont ∧ M' = { M with rep := M.rep ++ [b] } ∧ b = (M.lost[c]?).getD false ∧ M.rep.length < 200 := by
  unfold Mt.askC at h
  split at h
  · cases h
  · rename_i e
    cases h
    obtain ⟨a1, a2, a3, a4, a5, a6, a7, a8, a9, a10, a11, a12, a13⟩ := O
    exact ⟨⟨a1, a2, a3, a4, a5, a6, a7, a8, by show (M.rep ++ [_]).length ≤ _; simp; omega, a10, a11, a12, a13⟩, rfl, rfl, rfl, by omega⟩
/-- what an Out left -/
def Out.st {α : Type} : Out α → Mt
  | .ok _ M => M
  | .stop _ M => M
theorem MOk.askS (O : MOk B M) {c : Nat} : MOk B (M.askC c).st ∧ ∃ r, (M.askC c).st = { M with rep := r } := by
  cases h : M.askC c with
  | ok b M' =>
    obtain ⟨O', _, e, _⟩ := O.askC h
    exact ⟨O', _, e⟩
  | stop y M' =>
    unfold Mt.askC at h
    split at h
    · cases h; exact ⟨O, M.rep, rfl⟩
    · cases h
theorem MOk.wishS {w : Str} : ∀ {l : List (Option Str)} {i : Nat} {M : Mt}, MOk B M → MOk B (Mt.wishedF w l i M).st ∧ ∃ r, (Mt.wishedF w l i M).st = { M with rep := r }
  | [], _, M, O => ⟨O, M.rep, rfl⟩
  | o :: l, i, M, O => by
    unfold Mt.wishedF
    split
    · obtain ⟨O', r, e⟩ := O.askS (c := i)
      cases h : M.askC i with
      | stop y M' => rw [h] at O' e; exact ⟨O', r, e⟩
      | ok b M' =>
        rw [h] at O' e
        cases b with
        | true => exact ⟨O', r, e⟩
        | false =>
          obtain ⟨O2, r2, e2⟩ := MOk.wishS (w := w) (l := l) (i := i + 1) (M := M') O'
          refine ⟨O2, r2, ?_⟩
          simp only
          rw [e2]
          have e : M' = { M with rep := r } := e
          rw [e]
    · exact MOk.wishS O
theorem MOk.testS {bits : List Int} : ∀ {t : Tst} {M : Mt}, MOk B M → MOk B (M.test bits t).st ∧ ∃ r, (M.test bits t).st = { M with rep := r }
  | .not t, M, O => by
    obtain ⟨O', r, e⟩ := MOk.testS (bits := bits) (t := t) O
    unfold Mt.test
    cases h : M.test bits t with
    | ok b M' => rw [h] at O' e; exact ⟨O', r, e⟩
    | stop y M' => rw [h] at O' e; exact ⟨O', r, e⟩
  | .given i, M, O => ⟨O, M.rep, rfl⟩
  | .set x, M, O => ⟨O, M.rep, rfl⟩
  | .same x y, M, O => by
    unfold Mt.test
    split <;> exact ⟨O, M.rep, rfl⟩
  | .full x f, M, O => by
    unfold Mt.test
    split
    · exact ⟨O, M.rep, rfl⟩
    · split
      · exact ⟨O, M.rep, rfl⟩
      · rename_i p _
        obtain ⟨O', r, e⟩ := O.askS (c := p.1)
        cases h : M.askC p.1 with
        | ok b M' => rw [h] at O' e; exact ⟨O', r, e⟩
        | stop y M' => rw [h] at O' e; exact ⟨O', r, e⟩
  | .wished w, M, O => by
    unfold Mt.test
    exact MOk.wishS O
theorem MOk.test (O : MOk B M) {bits : List Int} {t : Tst} {b : Bool} {M' : Mt} (h : M.test bits t = .ok b M') : MOk B M' ∧ ∃ r, M' = { M with rep := r } := by
  have := O.testS (bits := bits) (t := t)
  rw [h] at this
  exact this
end
end Sm

/-! MA: a machine's small methods -/
namespace K56
open PySem L2 Sm
/-- what is asked behind a part of a run -/
def OK {α : Type} (P : MP) (s : Sto) (o : Out α) (Q : α → Sto → Prop) (E : Ex → Sto → Prop) : Prop := match o with
  | .ok a M' => ∀ s' cs', MaAt s' P cs' M' → Kp P.m s s' → Q a s'
  | .stop y M' => ∀ s' cs', MaAt s' P cs' M' → Kp P.m s s' → E ⟨0, some [("why", .str y)]⟩ s'
theorem OK.kp {α : Type} {P : MP} {s s1 : Sto} {o : Out α} {Q : α → Sto → Prop} {E : Ex → Sto → Prop} (h : OK P s o Q E) (k : Kp P.m s s1) : OK P s1 o Q E := by
  cases o with
  | ok a M => exact fun s' cs' A q => h s' cs' A (k.trans q)
  | stop y M => exact fun s' cs' A q => h s' cs' A (k.trans q)
section
variable {s : Sto} {P : MP} {cs : List Nat} {M : Mt} {Q : Vl → Sto → Prop} {E : Ex → Sto → Prop} {B : Nat}
theorem g_bits (A : MaAt s P cs M) (C : P.c = 3) {Q : Vl → Sto → Prop} : fldW cs_bits "bits" (.ref P.m) s Q = Q P.bits s := by rw [fldW_ins A.top]; simp [getS, C]
theorem g_place (A : MaAt s P cs M) (C : P.c = 3) {Q : Vl → Sto → Prop} : fldW cs_at_place "at_place" (.ref P.m) s Q = Q (.int M.place) s := by rw [fldW_ins A.top]; simp [getS, C]
theorem g_moment (A : MaAt s P cs M) (C : P.c = 3) {Q : Vl → Sto → Prop} : fldW cs_moment "moment" (.ref P.m) s Q = Q (.int M.moment) s := by rw [fldW_ins A.top]; simp [getS, C]
theorem g_st (A : MaAt s P cs M) (C : P.c = 3) {Q : Vl → Sto → Prop} : fldW cs_stands "stands" (.ref P.m) s Q = Q (.ref (P.m + 1)) s := by rw [fldW_ins A.top]; simp [getS, C]
theorem g_kp (A : MaAt s P cs M) (C : P.c = 3) {Q : Vl → Sto → Prop} : fldW cs_kept "kept" (.ref P.m) s Q = Q (.ref (P.m + 2)) s := by rw [fldW_ins A.top]; simp [getS, C]
theorem g_co (A : MaAt s P cs M) (C : P.c = 3) {Q : Vl → Sto → Prop} : fldW cs_contents "contents" (.ref P.m) s Q = Q (.ref (P.m + 3)) s := by rw [fldW_ins A.top]; simp [getS, C]
theorem g_wi (A : MaAt s P cs M) (C : P.c = 3) {Q : Vl → Sto → Prop} : fldW cs_wishes "wishes" (.ref P.m) s Q = Q (.ref (P.m + 4)) s := by rw [fldW_ins A.top]; simp [getS, C]
theorem g_lo (A : MaAt s P cs M) (C : P.c = 3) {Q : Vl → Sto → Prop} : fldW cs_lost "lost" (.ref P.m) s Q = Q (.ref (P.m + 5)) s := by rw [fldW_ins A.top]; simp [getS, C]
theorem g_re (A : MaAt s P cs M) (C : P.c = 3) {Q : Vl → Sto → Prop} : fldW cs_replies "replies" (.ref P.m) s Q = Q (.ref (P.m + 6)) s := by rw [fldW_ins A.top]; simp [getS, C]
theorem g_sp (A : MaAt s P cs M) (C : P.c = 3) {Q : Vl → Sto → Prop} : fldW cs_spoken "spoken" (.ref P.m) s Q = Q (.ref (P.m + 7)) s := by rw [fldW_ins A.top]; simp [getS, C]
theorem g_qp (A : MaAt s P cs M) (C : P.c = 3) {Q : Vl → Sto → Prop} : fldW cs_quiet_places "quiet_places" (.ref P.m) s Q = Q P.qp s := by rw [fldW_ins A.top]; simp [getS, C]
theorem g_cl (A : MaAt s P cs M) (C : P.c = 3) {Q : Vl → Sto → Prop} : fldW cs_cleared "cleared" (.ref P.m) s Q = Q (.ref (P.m + 8)) s := by rw [fldW_ins A.top]; simp [getS, C]
theorem g_th (A : MaAt s P cs M) (C : P.c = 3) {Q : Vl → Sto → Prop} : fldW cs_there "there" (.ref P.m) s Q = Q (.ref (P.m + 9)) s := by rw [fldW_ins A.top]; simp [getS, C]
theorem g_wa (A : MaAt s P cs M) (C : P.c = 3) {Q : Vl → Sto → Prop} : fldW cs_wishes_at "wishes_at" (.ref P.m) s Q = Q (.ref (P.m + 10)) s := by rw [fldW_ins A.top]; simp [getS, C]
theorem g_bk (A : MaAt s P cs M) (C : P.c = 3) {Q : Vl → Sto → Prop} : fldW cs_block "block" (.ref P.m) s Q = Q P.bk s := by rw [fldW_ins A.top]; simp [getS, C]
/-- the machine's method m -/
theorem mW (A : MaAt s P cs M) (C : P.c = 3) {m : Str} {tab : MTab} {mf : List Vl → Sm.M Vl} {K : (List Vl → Sm.M Vl) → Prop} (h : tab 3 = some mf)
    (hg : ∀ a b p t n k z, getS [("block", a), ("bits", b), ("at_place", p), ("moment", t), ("stands", .ref (n + 1)), ("kept", .ref (n + 2)), ("contents", .ref (n + 3)), ("wishes", .ref (n + 4)), ("lost", .ref (n + 5)), ("replies", .ref (n + 6)), ("spoken", .ref (n + 7)), ("quiet_places", k), ("cleared", .ref (n + 8)), ("there", .ref (n + 9)), ("wishes_at", z)] m = none) : methW m tab (.ref P.m) s K = K mf :=
  methW_ins A.top (by rw [C]; exact h) (hg _ _ _ _ _ _ _)
theorem cellV {x : Str} : (look (rawT cV M.stands) (.inr x)).getD .non = cV (M.cell x) := by
  rw [look_raw]
  unfold Mt.cell
  cases getT M.stands x with
  | none => rfl
  | some o => cases o <;> rfl
theorem fieldV {c : Nat} {f : Str} : (look (rawT fV (M.row c)) (.inr f)).getD .non = fV (M.fld c f) := by
  rw [look_raw]
  unfold Mt.fld
  cases getT (M.row c) f with
  | none => rfl
  | some o => cases o <;> rfl
theorem noteM {v : Vl} (k : Q .non s) : WE (m_Machine_note [.ref P.m, v]) s Q E := by
  unfold m_Machine_note b_Machine_note
  simp
  exact k
theorem cellOf {x : Str} (A : MaAt s P cs M) (C : P.c = 3) (k : match M.cell x with | some c => Q (.int (c : Nat)) s | none => E ⟨0, some [("why", .str "name")]⟩ s) : WE (m_Machine_cell_of [.ref P.m, .str x]) s Q E := by
  unfold m_Machine_cell_of b_Machine_cell_of
  have st := A.st
  simp [g_st A C, st, cellV]
  cases h : M.cell x with
  | none => rw [h] at k; simp [cV]; exact k
  | some c => rw [h] at k; simp [cV]; exact k
theorem askM {c : Nat} (A : MaAt s P cs M) (C : P.c = 3) (O : MOk B M) (hc : c < M.cont.length) (k : OK P s (M.askC c) (fun b s' => Q (bV b) s') E) : WE (m_Machine_ask [.ref P.m, .int (c : Nat)]) s Q E := by
  unfold m_Machine_ask b_Machine_ask
  have re := A.re
  have lo := A.lo
  have hl : c < M.lost.length := by rw [O.ll]; exact hc
  have hg : M.lost[c]? = some M.lost[c] := List.getElem?_eq_getElem hl
  simp [g_re A C, oLen_lst re]
  unfold Mt.askC at k
  by_cases h : 200 ≤ M.rep.length
  · have h' : (200 : Int) ≤ (M.rep.length : Int) := by omega
    rw [if_pos h] at k
    simp [h, h']
    exact k s cs A .refl
  · have h' : ¬ (200 : Int) ≤ (M.rep.length : Int) := by omega
    rw [if_neg h] at k
    simp [h, h', WE_eMeth]
    rw [mW A C (m := "note") (mf := arg 2 m_Machine_note) rfl (by intros; simp [getS])]
    simp
    refine noteM ?_
    simp [WE_eMeth]
    rw [mW A C (m := "decide") (mf := arg 2 m_Machine_decide) rfl (by intros; simp [getS])]
    unfold m_Machine_decide b_Machine_decide
    have lim : M.rep.length < LIM := limB (by omega)
    simp [g_lo A C, opIx_lst lo, atN, hg, g_re A C, kd_lst re, oAppend_lst re, lim]
    rw [hg] at k
    have A' : MaAt (s.set (P.m + 6) (.lst ((M.rep ++ [M.lost[c]]).map bV))) P cs { M with rep := M.rep ++ [M.lost[c]] } := A.set (by omega) rfl rfl
    have := k _ _ A' (Kp.refl.set (by omega))
    simpa [bV] using this
theorem standM {x : Str} {c : Option Nat} (A : MaAt s P cs M) (C : P.c = 3) (O : MOk B M) (hB : B < 100000) (k : ∀ s', MaAt s' P cs (M.stand x c) → Kp P.m s s' → Q .non s') : WE (m_Machine_stand [.ref P.m, .str x, cV c]) s Q E := by
  unfold m_Machine_stand b_Machine_stand
  have st := A.st
  have h1 := O.s1
  have lim : (rawT cV M.stands).length < LIM := limB (by rw [raw_len]; omega)
  simp [g_st A C, opSet_dicS st lim, WE_eMeth]
  rw [put_raw]
  have A' : MaAt (s.set (P.m + 1) (.dic (rawT cV (putT M.stands x c)))) P cs (M.stand x c) := A.set (by omega) rfl rfl
  rw [mW A' C (m := "note") (mf := arg 2 m_Machine_note) rfl (by intros; simp [getS])]
  simp
  exact noteM (k _ A' (Kp.refl.set (by omega)))
/-- where the fields of a cell lie -/
theorem rowAt (A : MaAt s P cs M) {h : Nat} (hh : h < M.cont.length) : ∃ z, cs[h]? = some z ∧ (cs.map Vl.ref)[h]? = some (.ref z) ∧ s[z]? = some (.dic (rawT fV (M.row h))) ∧ P.m + 10 < z := by
  have hl := A.csl
  have e := List.getElem?_eq_getElem (show h < cs.length by omega)
  have e2 := List.getElem?_eq_getElem hh
  obtain ⟨q1, q2⟩ := A.rows h _ _ e e2
  refine ⟨_, e, by rw [List.getElem?_map, e]; rfl, ?_, q1⟩
  unfold Mt.row
  rw [e2]
  exact q2
theorem fillM {h : Nat} {f : Str} {c : Option Nat} {b : Bool} (A : MaAt s P cs M) (C : P.c = 3) (O : MOk B M) (hB : B < 100000) (hh : h < M.cont.length) (k : ∀ s', MaAt s' P cs (M.fill h f (c.map fun d => (d, b))) → Kp P.m s s' → Q .non s') : WE (m_Machine_fill [.ref P.m, .int (h : Nat), .str f, cV c, .bl b]) s Q E := by
  unfold m_Machine_fill b_Machine_fill
  have co := A.co
  obtain ⟨z, z0, z1, z2, z3⟩ := rowAt A hh
  have rl : (rawT fV (M.row h)).length < LIM := limB (by
    rw [raw_len]
    have : M.row h ∈ M.cont := by unfold Mt.row; rw [List.getElem?_eq_getElem hh]; exact List.getElem_mem _
    have := (O.rws _ this).1
    omega)
  have fv := fieldV (M := M) (c := h) (f := f)
  have A' : MaAt (s.set z (.dic (rawT fV (putT (M.row h) f (c.map fun d => (d, b)))))) P cs (M.fill h f (c.map fun d => (d, b))) := A.row z0
  have kk := k _ A' (Kp.refl.set (by omega))
  rw [← put_raw] at kk
  cases b with
  | true =>
    simp [g_co A C, opIx_lst co, atN, z1, z2, WE_eMeth]
    rw [mW A C (m := "note") (mf := arg 2 m_Machine_note) rfl (by intros; simp [getS])]
    simp
    refine noteM ?_
    cases c <;> simp [cV, g_co A C, opIx_lst co, atN, z1, opSet_dicS z2 rl] <;> exact kk
  | false =>
    cases hf : M.fld h f with
    | none =>
      rw [hf] at fv
      cases c <;> simp [cV, g_co A C, opIx_lst co, atN, z1, z2, fv, fV, opSet_dicS z2 rl] <;> exact kk
    | some q =>
      obtain ⟨d, b2⟩ := q
      rw [hf] at fv
      cases b2 with
      | false => cases c <;> simp [cV, g_co A C, opIx_lst co, atN, z1, z2, fv, fV, opSet_dicS z2 rl] <;> exact kk
      | true =>
        simp [g_co A C, opIx_lst co, atN, z1, z2, fv, fV, WE_eMeth]
        rw [mW A C (m := "note") (mf := arg 2 m_Machine_note) rfl (by intros; simp [getS])]
        simp
        refine noteM ?_
        cases c <;> simp [cV, g_co A C, opIx_lst co, atN, z1, opSet_dicS z2 rl] <;> exact kk
end
end K56

/-! MB: tests of a machine -/
namespace K56
open PySem L2 Sm
section
variable {P : MP} {bits : List Int} {B : Nat}
def WiI (P : MP) (w : Str) (bits : List Int) (B : Nat) (ws : List (Option Str)) (Q : Vl → Sto → Prop) (E : Ex → Sto → Prop) (v : Vl) (i : Nat) (lo : Lo) (s' : Sto) : Prop :=
  (∃ x2 x3 x4 x5, lo = [some (.ref P.m), some v, x2, x3, x4, x5]) ∧ ∃ (cs : List Nat) (M : Mt), MaAt s' P cs M ∧ MOk B M ∧ M.wish = ws ∧ OK P s' (Mt.wishedF w (ws.drop i) i M) (fun b s' => Q (.bl b) s') E
theorem opEq_wV {s : Sto} {o : Option Str} {w : Str} : opEq (wV o) (.str w) s = some (.bl (decide (o = some w)), s) := by
  cases o with
  | none => rfl
  | some x =>
    have : (decide (some x = some w)) = decide (x = w) := by simp
    rw [this]
    rfl
theorem isTrue (C : P.c = 3) (hb : P.bits = .tup (bits.map Vl.int)) : ∀ {n k0 g : Nat} {t : Tst} {s : Sto} {cs : List Nat} {M : Mt} {Q : Vl → Sto → Prop} {E : Ex → Sto → Prop}, t.ok g k0 → k0 < n → bits.length = g → MaAt s P cs M → MOk B M → B < 10000 →
    OK P s (M.test bits t) (fun b s' => Q (.bl b) s') E → WE (R1 n 0 [.ref P.m, t.vl]) s Q E
  | 0, _, _, _, _, _, _, _, _, _, h, _, _, _, _, _ => by omega
  | n + 1, k0, g, .not t, s, cs, M, Q, E, ht, hn, hg, A, O, hB, k => by
    cases k0 with
    | zero => exact ht.elim
    | succ k1 =>
      have ht : t.ok g k1 := ht
      show WE (fnM 6 (b_is_true (R1 n)) [.ref P.m, Tst.vl (.not t)]) s Q E
      unfold b_is_true
      simp [Tst.vl]
      refine isTrue C hb (n := n) ht (by omega) hg A O hB ?_
      unfold Mt.test at k
      cases h : M.test bits t with
      | ok b M' =>
        rw [h] at k
        exact fun s' cs' A' q => k s' cs' A' q
      | stop y M' =>
        rw [h] at k
        exact k
  | n + 1, k0, g, .given i, s, cs, M, Q, E, ht, hn, hg, A, O, hB, k => by
    have ht : i < g := by cases k0 <;> exact ht
    have e := List.getElem?_eq_getElem (show i < bits.length by omega)
    show WE (fnM 6 (b_is_true (R1 n)) [.ref P.m, Tst.vl (.given i)]) s Q E
    unfold b_is_true
    have e2 : (bits.map Vl.int)[i]? = some (.int bits[i]) := by rw [List.getElem?_map, e]; rfl
    have kk := k s cs A .refl
    simp only [e] at kk
    have e3 : (bits[i] == 1) = decide (some bits[i] = some (1 : Int)) := by rw [Bool.eq_iff_iff]; simp
    simp only [← e3] at kk
    simp [Tst.vl, g_bits A C, hb, atN, e2]
    exact kk
  | n + 1, k0, g, .set x, s, cs, M, Q, E, ht, hn, hg, A, O, hB, k => by
    show WE (fnM 6 (b_is_true (R1 n)) [.ref P.m, Tst.vl (.set x)]) s Q E
    unfold b_is_true
    have st := A.st
    have kk := k s cs A .refl
    simp [Tst.vl, g_st A C, st, cellV]
    cases h : M.cell x with
    | none => simp [h] at kk; simp [cV]; exact kk
    | some c => simp [h] at kk; simp [cV]; exact kk
  | n + 1, k0, g, .same x y, s, cs, M, Q, E, ht, hn, hg, A, O, hB, k => by
    show WE (fnM 6 (b_is_true (R1 n)) [.ref P.m, Tst.vl (.same x y)]) s Q E
    unfold b_is_true
    simp [Tst.vl, WE_eMeth]
    rw [mW A C (m := "cell_of") (mf := arg 2 m_Machine_cell_of) rfl (by intros; simp [getS])]
    simp
    refine cellOf A C ?_
    unfold Mt.test at k
    cases h : M.cell x with
    | none =>
      rw [h] at k
      exact k s cs A .refl
    | some a =>
      rw [h] at k
      simp [WE_eMeth]
      rw [mW A C (m := "cell_of") (mf := arg 2 m_Machine_cell_of) rfl (by intros; simp [getS])]
      simp
      refine cellOf A C ?_
      cases h2 : M.cell y with
      | none =>
        rw [h2] at k
        exact k s cs A .refl
      | some b =>
        rw [h2] at k
        have kk := k s cs A .refl
        have e3 : ((a : Int) == (b : Int)) = decide (a = b) := by rw [Bool.eq_iff_iff]; simp; omega
        simp only [← e3] at kk
        simp
        exact kk
  | n + 1, k0, g, .full x f, s, cs, M, Q, E, ht, hn, hg, A, O, hB, k => by
    show WE (fnM 6 (b_is_true (R1 n)) [.ref P.m, Tst.vl (.full x f)]) s Q E
    unfold b_is_true
    have co := A.co
    simp [Tst.vl, g_co A C, WE_eMeth]
    rw [mW A C (m := "cell_of") (mf := arg 2 m_Machine_cell_of) rfl (by intros; simp [getS])]
    simp
    refine cellOf A C ?_
    unfold Mt.test at k
    cases h : M.cell x with
    | none =>
      rw [h] at k
      exact k s cs A .refl
    | some c =>
      rw [h] at k
      have hc := O.cell h
      obtain ⟨z, z0, z1, z2, z3⟩ := rowAt A hc
      have fv := fieldV (M := M) (c := c) (f := f)
      simp only at k
      cases hf : M.fld c f with
      | none =>
        rw [hf] at fv k
        have kk := k s cs A .refl
        simp [opIx_lst co, atN, z1, z2, fv, fV]
        exact kk
      | some q =>
        obtain ⟨d, b2⟩ := q
        rw [hf] at fv k
        have hd := O.fld hf
        simp [opIx_lst co, atN, z1, z2, fv, fV, WE_eMeth]
        rw [mW A C (m := "ask") (mf := arg 2 m_Machine_ask) rfl (by intros; simp [getS])]
        simp
        refine askM A C O hd ?_
        simp only at k
        cases ha : M.askC d with
        | stop y M' => rw [ha] at k; exact k
        | ok b M' =>
          rw [ha] at k
          intro s' cs' A' q
          have kk := k s' cs' A' q
          cases b <;> simp [bV] <;> exact kk
  | n + 1, k0, g, .wished w, s, cs, M, Q, E, ht, hn, hg, A, O, hB, k => by
    show WE (fnM 6 (b_is_true (R1 n)) [.ref P.m, Tst.vl (.wished w)]) s Q E
    unfold b_is_true
    have wi := A.wi
    have hw := O.wl
    have h3 := O.s3
    simp [Tst.vl, g_wi A C, wi]
    refine loopE_inv (xs := M.wish.map wV) (WiI P w bits B M.wish Q E (.tup [.str "wished", .str w])) (by simp; omega) ⟨⟨_, _, _, _, rfl⟩, cs, M, A, O, rfl, k⟩ (fun i lo s' h => by obtain ⟨_, cs', M', A', _, e, _⟩ := h; rw [← e]; exact A'.wi) ?_ ?_
    · rintro i v lo s2 hv ⟨⟨x2, x3, x4, x5, rfl⟩, cs2, M2, A2, O2, e2, k2⟩
      obtain ⟨o, ho, rfl⟩ := get_map hv
      have hi := (List.getElem?_eq_some_iff.mp ho)
      obtain ⟨hil, hov⟩ := hi
      rw [List.drop_eq_getElem_cons hil, hov] at k2
      unfold Mt.wishedF at k2
      simp [opEq_wV]
      by_cases hw2 : o = some w
      · rw [if_pos hw2] at k2
        simp [hw2, WE_eMeth]
        rw [mW A2 C (m := "ask") (mf := arg 2 m_Machine_ask) rfl (by intros; simp [getS])]
        simp
        refine askM A2 C O2 (by rw [← O2.wl, e2]; exact hil) ?_
        cases ha : M2.askC i with
        | stop y M' => rw [ha] at k2; exact k2
        | ok b M' =>
          rw [ha] at k2
          intro s' cs' A' q
          obtain ⟨O', c1, c2, _⟩ := O2.askC ha
          cases b with
          | true =>
            have kk := k2 s' cs' A' q
            simp [bV]
            exact kk
          | false =>
            simp [bV]
            exact ⟨⟨_, _, _, _, rfl⟩, cs', M', A', O', by rw [c2]; exact e2, OK.kp k2 q⟩
      · rw [if_neg hw2] at k2
        simp [hw2]
        exact ⟨⟨_, _, _, _, rfl⟩, cs2, M2, A2, O2, e2, k2⟩
    · rintro lo s2 ⟨⟨x2, x3, x4, x5, rfl⟩, cs2, M2, A2, O2, e2, k2⟩
      rw [List.length_map, List.drop_length] at k2
      have kk := k2 s2 cs2 A2 .refl
      simp
      exact kk
end
end K56

/-! MC: the deeds -/
namespace K56
open PySem L2 Sm
section
variable {P : MP} {bits : List Int} {B : Nat} {s : Sto} {cs : List Nat} {M : Mt} {Q : Vl → Sto → Prop} {E : Ex → Sto → Prop} {x y z f w : Str}
theorem d_make (C : P.c = 3) (A : MaAt s P cs M) (O : MOk B M) (hB : B < 10000) (k : OK P s (M.deed bits (.make x)) (fun _ s' => Q .non s') E) : WE (m_do_make [.ref P.m, Stm.vl (.make x)]) s Q E := by
  unfold m_do_make b_do_make
  have hl := A.len
  have hcl := A.csl
  have h1 := O.wl
  have h2 := O.ll
  have h3 := O.s3
  have co := A.co
  have A1 := A.make
  have co2 : (s ++ [Ob.dic []])[P.m + 3]? = some (.lst (cs.map Vl.ref)) := (Fr.refl.push (X := []) (Ob.dic [])).at co (by simp)
  have lim : (cs.map Vl.ref).length < LIM := limB (by simp; omega)
  have lim' : cs.length < LIM := limB (by omega)
  simp [Stm.vl, g_co A C, oLen_lst co, kd_lst co, oAppend_lst co2, lim, lim']
  have e1 : cs.map Vl.ref ++ [Vl.ref s.length] = (cs ++ [s.length]).map Vl.ref := by simp
  rw [e1]
  generalize hs1 : (s ++ [Ob.dic []]).set (P.m + 3) (Ob.lst ((cs ++ [s.length]).map Vl.ref)) = s1 at A1
  have k1 : Kp P.m s s1 := by rw [← hs1]; exact (Kp.refl.push (by omega)).set (by omega)
  clear hs1 co2
  have wi := A1.wi
  simp only at wi
  have lim2 : M.wish.length < LIM := limB (by omega)
  simp [g_wi A1 C, kd_lst wi, oAppend_lst wi, lim2]
  have A2 : MaAt (s1.set (P.m + 4) (.lst ((M.wish ++ [none]).map wV))) P (cs ++ [s.length]) { M with cont := M.cont ++ [[]], wish := M.wish ++ [none] } := A1.set (by omega) rfl rfl
  rw [show M.wish.map wV ++ [Vl.non] = (M.wish ++ [none]).map wV by simp [wV]]
  generalize hs2 : s1.set (P.m + 4) (Ob.lst ((M.wish ++ [none]).map wV)) = s2 at A2
  have k2 : Kp P.m s s2 := by rw [← hs2]; exact k1.set (by omega)
  clear hs2 wi A1
  have lo := A2.lo
  simp only at lo
  have lim3 : M.lost.length < LIM := limB (by omega)
  simp [g_lo A2 C, kd_lst lo, oAppend_lst lo, lim3]
  have A3 : MaAt (s2.set (P.m + 5) (.lst ((M.lost ++ [false]).map Vl.bl))) P (cs ++ [s.length]) { M with cont := M.cont ++ [[]], wish := M.wish ++ [none], lost := M.lost ++ [false] } := A2.set (by omega) rfl rfl
  rw [show M.lost.map Vl.bl ++ [Vl.bl false] = (M.lost ++ [false]).map Vl.bl by simp]
  generalize hs3 : s2.set (P.m + 5) (Ob.lst ((M.lost ++ [false]).map Vl.bl)) = s3 at A3
  have k3 : Kp P.m s s3 := by rw [← hs3]; exact k2.set (by omega)
  clear hs3 lo A2
  have O3 : MOk (B + 1) { M with cont := M.cont ++ [[]], wish := M.wish ++ [none], lost := M.lost ++ [false] } := by
    obtain ⟨a1, a2, a3, a4, a5, a6, a7, a8, a9, a10, a11, a12, a13⟩ := O
    refine ⟨fun p hp d hd => by have := a1 p hp d hd; simp; omega, fun r hr => ?_, by simp [a3], by simp [a4], fun c hc => by have := a5 c hc; simp; omega, by show M.stands.length ≤ _; omega, by show M.kept.length ≤ _; omega, by simp; omega, a9, by show M.said.length ≤ _; omega, by show M.clr.length ≤ (M.lost ++ [false]).count true; rw [List.count_append]; omega, by show M.there.length ≤ _; omega, by show szC (M.cont ++ [[]]) ≤ _; rw [szC_app]; simp only [szC, List.length_nil]; omega⟩
    rcases List.mem_append.mp (show r ∈ M.cont ++ [[]] from hr) with q | q
    · exact ⟨by have := (a2 r q).1; omega, fun p hp q' hq => by have := (a2 r q).2 p hp q' hq; simp; omega⟩
    · simp at q
      subst q
      exact ⟨by simp, by simp⟩
  simp [WE_eMeth]
  rw [mW A3 C (m := "note") (mf := arg 2 m_Machine_note) rfl (by intros; simp [getS])]
  simp
  refine noteM ?_
  simp [WE_eMeth]
  rw [mW A3 C (m := "stand") (mf := arg 3 m_Machine_stand) rfl (by intros; simp [getS])]
  simp
  rw [show (Vl.int (cs.length : Int)) = cV (some M.cont.length) by rw [hcl]; rfl]
  refine standM A3 C O3 (by omega) fun s' A' q => ?_
  exact k s' _ A' (k3.trans q)
theorem d_wish (C : P.c = 3) (A : MaAt s P cs M) (O : MOk B M) (k : OK P s (M.deed bits (.wish x w)) (fun _ s' => Q .non s') E) : WE (m_do_wish [.ref P.m, Stm.vl (.wish x w)]) s Q E := by
  unfold m_do_wish b_do_wish
  simp [Stm.vl, g_wi A C, WE_eMeth]
  rw [mW A C (m := "cell_of") (mf := arg 2 m_Machine_cell_of) rfl (by intros; simp [getS])]
  simp
  refine cellOf A C ?_
  simp only [Mt.deed] at k
  cases h : M.cell x with
  | none => rw [h] at k; exact k s cs A .refl
  | some c =>
    rw [h] at k
    have hc := O.cell h
    have wi := A.wi
    have hl := O.wl
    have A' : MaAt (s.set (P.m + 4) (.lst ((M.wish.set c (some w)).map wV))) P cs { M with wish := M.wish.set c (some w) } := A.set (by omega) rfl rfl
    have kk := k _ _ A' (Kp.refl.set (by omega))
    rw [List.map_set] at kk
    simp [opSet_lst wi, hl, ixN_nat hc]
    exact kk
theorem d_keep (C : P.c = 3) (A : MaAt s P cs M) (O : MOk B M) (hB : B < 10000) (k : OK P s (M.deed bits (.keep x)) (fun _ s' => Q .non s') E) : WE (m_do_keep [.ref P.m, Stm.vl (.keep x)]) s Q E := by
  unfold m_do_keep b_do_keep
  simp [Stm.vl, WE_eMeth]
  rw [mW A C (m := "cell_of") (mf := arg 2 m_Machine_cell_of) rfl (by intros; simp [getS])]
  simp
  refine cellOf A C ?_
  simp only [Mt.deed] at k
  cases h : M.cell x with
  | none => rw [h] at k; exact k s cs A .refl
  | some c =>
    rw [h] at k
    have kp := A.kp
    have h2 := O.s2
    have lim : (rawK M.kept).length < LIM := limB (by simp [rawK]; omega)
    have A' : MaAt (s.set (P.m + 2) (.dic (rawK (addK M.kept c)))) P cs { M with kept := addK M.kept c } := A.set (by omega) rfl rfl
    simp [g_kp A C, opSet_dicI kp lim, WE_eMeth]
    rw [put_rawK]
    rw [mW A' C (m := "note") (mf := arg 2 m_Machine_note) rfl (by intros; simp [getS])]
    simp
    exact noteM (k _ _ A' (Kp.refl.set (by omega)))
theorem d_name (C : P.c = 3) (A : MaAt s P cs M) (O : MOk B M) (hB : B < 10000) (k : OK P s (M.deed bits (.name x y)) (fun _ s' => Q .non s') E) : WE (m_do_name [.ref P.m, Stm.vl (.name x y)]) s Q E := by
  unfold m_do_name b_do_name
  simp [Stm.vl, WE_eMeth]
  rw [mW A C (m := "stand") (mf := arg 3 m_Machine_stand) rfl (by intros; simp [getS])]
  rw [mW A C (m := "cell_of") (mf := arg 2 m_Machine_cell_of) rfl (by intros; simp [getS])]
  simp
  refine cellOf A C ?_
  simp only [Mt.deed] at k
  cases h : M.cell y with
  | none => rw [h] at k; exact k s cs A .refl
  | some c =>
    rw [h] at k
    simp
    exact standM (c := some c) A C O (by omega) fun s' A' q => k s' _ A' q
theorem d_drop (C : P.c = 3) (A : MaAt s P cs M) (O : MOk B M) (hB : B < 10000) (k : OK P s (M.deed bits (.drop x)) (fun _ s' => Q .non s') E) : WE (m_do_drop [.ref P.m, Stm.vl (.drop x)]) s Q E := by
  unfold m_do_drop b_do_drop
  simp [Stm.vl, WE_eMeth]
  rw [mW A C (m := "stand") (mf := arg 3 m_Machine_stand) rfl (by intros; simp [getS])]
  simp
  exact standM (c := none) A C O (by omega) fun s' A' q => k s' _ A' q
theorem d_hold (C : P.c = 3) (A : MaAt s P cs M) (O : MOk B M) (hB : B < 10000) (k : OK P s (M.deed bits (.hold x f y)) (fun _ s' => Q .non s') E) : WE (m_do_hold [.ref P.m, Stm.vl (.hold x f y)]) s Q E := by
  unfold m_do_hold b_do_hold
  simp [Stm.vl, WE_eMeth]
  rw [mW A C (m := "cell_of") (mf := arg 2 m_Machine_cell_of) rfl (by intros; simp [getS])]
  simp
  refine cellOf A C ?_
  simp only [Mt.deed] at k
  cases h : M.cell x with
  | none => rw [h] at k; exact k s cs A .refl
  | some a =>
    rw [h] at k
    simp [WE_eMeth]
    rw [mW A C (m := "cell_of") (mf := arg 2 m_Machine_cell_of) rfl (by intros; simp [getS])]
    simp
    refine cellOf A C ?_
    cases h2 : M.cell y with
    | none => rw [h2] at k; exact k s cs A .refl
    | some c =>
      rw [h2] at k
      simp [WE_eMeth]
      rw [mW A C (m := "fill") (mf := arg 5 m_Machine_fill) rfl (by intros; simp [getS])]
      simp
      exact fillM (c := some c) A C O (by omega) (O.cell h) fun s' A' q => k s' _ A' q
theorem d_weak (C : P.c = 3) (A : MaAt s P cs M) (O : MOk B M) (hB : B < 10000) (k : OK P s (M.deed bits (.weak x f y)) (fun _ s' => Q .non s') E) : WE (m_do_weak [.ref P.m, Stm.vl (.weak x f y)]) s Q E := by
  unfold m_do_weak b_do_weak
  simp [Stm.vl, WE_eMeth]
  rw [mW A C (m := "cell_of") (mf := arg 2 m_Machine_cell_of) rfl (by intros; simp [getS])]
  simp
  refine cellOf A C ?_
  simp only [Mt.deed] at k
  cases h : M.cell x with
  | none => rw [h] at k; exact k s cs A .refl
  | some a =>
    rw [h] at k
    simp [WE_eMeth]
    rw [mW A C (m := "cell_of") (mf := arg 2 m_Machine_cell_of) rfl (by intros; simp [getS])]
    simp
    refine cellOf A C ?_
    cases h2 : M.cell y with
    | none => rw [h2] at k; exact k s cs A .refl
    | some c =>
      rw [h2] at k
      simp [WE_eMeth]
      rw [mW A C (m := "fill") (mf := arg 5 m_Machine_fill) rfl (by intros; simp [getS])]
      simp
      exact fillM (c := some c) A C O (by omega) (O.cell h) fun s' A' q => k s' _ A' q
theorem d_cut (C : P.c = 3) (A : MaAt s P cs M) (O : MOk B M) (hB : B < 10000) (k : OK P s (M.deed bits (.cut x f)) (fun _ s' => Q .non s') E) : WE (m_do_cut [.ref P.m, Stm.vl (.cut x f)]) s Q E := by
  unfold m_do_cut b_do_cut
  simp [Stm.vl, WE_eMeth]
  rw [mW A C (m := "fill") (mf := arg 5 m_Machine_fill) rfl (by intros; simp [getS])]
  rw [mW A C (m := "cell_of") (mf := arg 2 m_Machine_cell_of) rfl (by intros; simp [getS])]
  simp
  refine cellOf A C ?_
  simp only [Mt.deed] at k
  cases h : M.cell x with
  | none => rw [h] at k; exact k s cs A .refl
  | some a =>
    rw [h] at k
    simp
    exact fillM (c := none) A C O (by omega) (O.cell h) fun s' A' q => k s' _ A' q
theorem d_say (C : P.c = 3) (A : MaAt s P cs M) (O : MOk B M) (hB : B < 10000) (k : OK P s (M.deed bits (.say w)) (fun _ s' => Q .non s') E) : WE (m_do_say [.ref P.m, Stm.vl (.say w)]) s Q E := by
  unfold m_do_say b_do_say
  have sp := A.sp
  have h5 := O.s5
  have lim : M.said.length < LIM := limB (by omega)
  have A' : MaAt (s.set (P.m + 7) (.lst ((M.said ++ [Said.w w]).map Said.vl))) P cs (M.tell (.w w)) := A.set (by omega) rfl rfl
  have kk := k _ _ A' (Kp.refl.set (by omega))
  simp [Stm.vl, g_sp A C, kd_lst sp, oAppend_lst sp, lim]
  simpa [Said.vl] using kk
theorem d_ask {t : Tst} {g k0 : Nat} (C : P.c = 3) (hb : P.bits = .tup (bits.map Vl.int)) (hg : bits.length = g) (ht : t.ok g k0) (h12 : k0 < 12) (A : MaAt s P cs M) (O : MOk B M) (hB : B < 10000) (k : OK P s (M.deed bits (.ask t)) (fun _ s' => Q .non s') E) : WE (m_do_ask [.ref P.m, Stm.vl (.ask t)]) s Q E := by
  unfold m_do_ask b_do_ask
  have sp := A.sp
  simp [Stm.vl, g_sp A C, kd_lst sp]
  refine isTrue (n := 12) C hb ht h12 hg A O hB ?_
  simp only [Mt.deed] at k
  cases h : M.test bits t with
  | stop y M' => rw [h] at k; exact k
  | ok b M' =>
    rw [h] at k
    intro s' cs' A' q
    have sp' := A'.sp
    obtain ⟨O', r', e'⟩ := O.test h
    have hsd : M'.said.length < LIM := limB (by have := O'.s5; omega)
    have A2 : MaAt (s'.set (P.m + 7) (.lst ((M'.said ++ [if b then Said.yes else Said.no]).map Said.vl))) P cs' (M'.tell (if b then Said.yes else Said.no)) := A'.set (by omega) rfl rfl
    have kk := k _ _ A2 (q.set (by omega))
    cases b <;> simp [oAppend_lst sp', hsd] <;> simpa [Said.vl] using kk
theorem d_take (C : P.c = 3) (A : MaAt s P cs M) (O : MOk B M) (hB : B < 10000) (k : OK P s (M.deed bits (.take z x f)) (fun _ s' => Q .non s') E) : WE (m_do_take [.ref P.m, Stm.vl (.take z x f)]) s Q E := by
  unfold m_do_take b_do_take
  have co := A.co
  simp [Stm.vl, g_co A C, WE_eMeth]
  rw [mW A C (m := "cell_of") (mf := arg 2 m_Machine_cell_of) rfl (by intros; simp [getS])]
  simp
  refine cellOf A C ?_
  simp only [Mt.deed] at k
  cases h : M.cell x with
  | none => rw [h] at k; exact k s cs A .refl
  | some c =>
    rw [h] at k
    have hc := O.cell h
    obtain ⟨y, z0, z1, z2, z3⟩ := rowAt A hc
    have fv := fieldV (M := M) (c := c) (f := f)
    simp only at k
    cases hf : M.fld c f with
    | none =>
      rw [hf] at fv k
      simp [opIx_lst co, atN, z1, z2, fv, fV, WE_eMeth]
      rw [mW A C (m := "stand") (mf := arg 3 m_Machine_stand) rfl (by intros; simp [getS])]
      simp
      exact standM (c := none) A C O (by omega) fun s' A' q => k s' _ A' q
    | some q =>
      obtain ⟨d, b2⟩ := q
      rw [hf] at fv k
      have hd := O.fld hf
      simp [opIx_lst co, atN, z1, z2, fv, fV, WE_eMeth]
      rw [mW A C (m := "ask") (mf := arg 2 m_Machine_ask) rfl (by intros; simp [getS])]
      simp
      refine askM A C O hd ?_
      simp only at k
      cases ha : M.askC d with
      | stop y M' => rw [ha] at k; exact k
      | ok b M' =>
        rw [ha] at k
        intro s' cs' A' q
        obtain ⟨O', _⟩ := O.askC ha
        cases b with
        | true =>
          simp [bV, WE_eMeth]
          rw [mW A' C (m := "stand") (mf := arg 3 m_Machine_stand) rfl (by intros; simp [getS])]
          simp
          exact standM (c := none) A' C O' (by omega) fun s2 A2 q2 => k s2 _ A2 (q.trans q2)
        | false =>
          simp [bV, fv, fV, WE_eMeth]
          rw [mW A' C (m := "stand") (mf := arg 3 m_Machine_stand) rfl (by intros; simp [getS])]
          simp
          exact standM (c := some d) A' C O' (by omega) fun s2 A2 q2 => k s2 _ A2 (q.trans q2)
end
end K56

/-! ML: the statements of a block, listed -/
namespace K56
open PySem L2 Sm
section
variable {s : Sto} {Q : Vl → Sto → Prop} {E : Ex → Sto → Prop}
theorem inner (x : Stm) (k : Q (.tup (x.ins.map blk)) s) : WE (m_inner_blocks [x.vl]) s Q E := by
  unfold m_inner_blocks b_inner_blocks
  have c4 : ∀ a b c e : Vl, cutL [a, b, c, e] (some 2) none = [c, e] := fun a b c e => cutL_from (n := 2) (xs := [a, b, c, e])
  have c3 : ∀ a b c : Vl, cutL [a, b, c] (some 2) none = [c] := fun a b c => cutL_from (n := 2) (xs := [a, b, c])
  cases x <;> simp [Stm.vl, Stm.ins, c3, c4] <;> exact k
def LI (s : Sto) (b : List Stm) (d : Nat) (i : Nat) (lo : Lo) (s' : Sto) : Prop := ∃ x3 x4 : Option Vl, lo = [some (blk b), some (.int (d : Nat)), some (.ref s.length), x3, x4] ∧ s'[s.length]? = some (.lst ((Stm.flats d (b.take i)).map rowD)) ∧ Fr [] s s'
def LJ (s : Sto) (b : List Stm) (d i : Nat) (x : Stm) (j : Nat) (lo : Lo) (s' : Sto) : Prop := ∃ x4 : Option Vl, lo = [some (blk b), some (.int (d : Nat)), some (.ref s.length), some x.vl, x4] ∧ s'[s.length]? = some (.lst ((Stm.flats d (b.take i)).map rowD ++ rowD (d, x) :: ((x.ins.take j).flatMap (Stm.flats (d + 1))).map rowD)) ∧ ((x.ins.take j).flatMap (Stm.flats (d + 1))).length ≤ j * 1000 ∧ Fr [] s s'
end
def ListS (mf : List Vl → M Vl) (M : Nat) : Prop := ∀ (s : Sto) (b : List Stm) (n d g : Nat) (Q : Vl → Sto → Prop) (E : Ex → Sto → Prop), n < M → Stm.oks g n b → Stm.cnts b ≤ 1000 → d ≤ 1000 - M →
  (∀ r s', s.length ≤ r → s'[r]? = some (.lst ((Stm.flats d b).map rowD)) → Fr [] s s' → Q (.ref r) s') → WE (mf [blk b, .int (d : Nat)]) s Q E
theorem listedS : ∀ M : Nat, M ≤ 1000 → ListS (R0 M 0) M
  | 0, _ => fun s b n d g Q E hn => by omega
  | M + 1, hM => fun s b n d g Q E hn ob hb hd k => by
    have ih := listedS M (by omega)
    show WE (fnM 5 (b_listed (R0 M)) _) _ _ _
    unfold b_listed
    simp
    show match blk b with | .tup xs => _ | _ => False
    simp only [blk]
    refine loopX_inv (LI s b d) ?_ ?_ ?_
    · exact ⟨none, none, rfl, by simp [Stm.flats], Fr.refl.push _⟩
    · rintro i v lo s1 hv ⟨x3, x4, rfl, e1, f1⟩
      obtain ⟨x, hx, rfl⟩ := vls_get hv
      have hxm := List.mem_of_getElem? hx
      have okx := Stm.oks_mem ob x hxm
      have cx := Stm.cnts_mem x hxm
      have ct := Stm.cnts_take (b := b) (i := i)
      have tl : (Stm.flats d (b.take i)).length ≤ 1000 := by rw [Stm.flats_len]; omega
      have e1l : ((Stm.flats d (b.take i)).map rowD).length < LIM := limC (by simp; omega)
      simp [kd_lst e1, oAppend_lst e1 e1l]
      have e2 : (s1.set s.length (.lst ((Stm.flats d (b.take i)).map rowD ++ [.tup [.int (d : Nat), x.vl]])))[s.length]? = some (.lst ((Stm.flats d (b.take i)).map rowD ++ [.tup [.int (d : Nat), x.vl]])) := get_set_self e1
      have f2 : Fr [] s (s1.set s.length (.lst ((Stm.flats d (b.take i)).map rowD ++ [.tup [.int (d : Nat), x.vl]]))) := f1.set (Or.inr (Nat.le_refl _))
      generalize (s1.set s.length (.lst ((Stm.flats d (b.take i)).map rowD ++ [.tup [.int (d : Nat), x.vl]]))) = s2 at e2 f2
      refine inner x ?_
      refine loopX_inv (LJ s b d i x) ?_ ?_ ?_
      · exact ⟨x4, rfl, by simpa [rowD] using e2, by simp, f2⟩
      · rintro j v lo s3 hv ⟨x4, rfl, e3, l3, f3⟩
        obtain ⟨b', hb', rfl⟩ := get_map hv
        have hbm := List.mem_of_getElem? hb'
        obtain ⟨n0, ob'⟩ := Stm.ok_ins okx b' hbm
        have cb := Stm.cnt_in (x := x) b' hbm
        have hj : j < 2 := by
          have := Stm.ins_len x
          have := (List.getElem?_eq_some_iff.mp hb').1
          omega
        have ed : (d : Int) + 1 = ((d + 1 : Nat) : Int) := by omega
        simp [kd_lst e3]
        rw [ed]
        refine ih s3 b' (n - 1) (d + 1) g _ _ (by omega) ob' (by omega) (by omega) fun r s4 hr e4 f4 => ?_
        have e5 := f4.at e3 (by simp)
        have l5 : (Stm.flats (d + 1) b').length ≤ 1000 := by rw [Stm.flats_len]; omega
        have hjm : j * 1000 ≤ 1000 := by omega
        have ll : ((Stm.flats d (b.take i)).map rowD ++ rowD (d, x) :: ((x.ins.take j).flatMap (Stm.flats (d + 1))).map rowD).length + ((Stm.flats (d + 1) b').map rowD).length ≤ LIM := limB (by simp only [List.length_append, List.length_cons, List.length_map]; omega)
        simp only [WE_aNil, oExtend_lst e5 e4 ll, WO_some]
        refine ⟨some (blk b'), rfl, ?_, ?_, (f3.trans f4).set (Or.inr (Nat.le_refl _))⟩
        · rw [get_set_self e5, take_succ_get hb', List.flatMap_append]
          simp
        · rw [take_succ_get hb', List.flatMap_append, List.length_append]
          have : ([b'].flatMap (Stm.flats (d + 1))).length = (Stm.flats (d + 1) b').length := by simp
          rw [this, Nat.succ_mul]
          omega
      · rintro lo s3 ⟨x4, rfl, e3, l3, f3⟩
        refine ⟨_, _, rfl, ?_, f3⟩
        rw [e3, List.length_map, List.take_length, take_succ_get hx, Stm.flats_app]
        simp [Stm.flats, Stm.flat_eq]
    · rintro lo s1 ⟨x3, x4, rfl, e1, f1⟩
      rw [vls_len, List.take_length] at e1
      simp
      exact k _ s1 (Nat.le_refl _) e1 f1
end K56

/-! S50: executed programs leave right states -/
namespace Sm
open PySem L2
section
variable {M : Mt} {B : Nat} {bits : List Int} {bg : Mt → Mt}
theorem MOk.at0 {p t : Int} (O : MOk B M) : MOk B { M with place := p, moment := t } := by
  obtain ⟨a1, a2, a3, a4, a5, a6, a7, a8, a9, a10, a11, a12, a13⟩ := O
  exact ⟨a1, a2, a3, a4, a5, a6, a7, a8, a9, a10, a11, a12, a13⟩
theorem MOk.wishSet (O : MOk B M) {c : Nat} {w : Str} : MOk B { M with wish := M.wish.set c (some w) } := by
  obtain ⟨a1, a2, a3, a4, a5, a6, a7, a8, a9, a10, a11, a12, a13⟩ := O
  exact ⟨a1, a2, by simpa using a3, a4, a5, a6, a7, a8, a9, a10, a11, a12, a13⟩
theorem MOk.keepC (O : MOk B M) {c : Nat} (h : c < M.cont.length) : MOk (B + 1) { M with kept := addK M.kept c } := by
  obtain ⟨a1, a2, a3, a4, a5, a6, a7, a8, a9, a10, a11, a12, a13⟩ := O
  refine ⟨a1, fun r hr => ⟨by have := (a2 r hr).1; omega, (a2 r hr).2⟩, a3, a4, fun d hd => ?_, by show M.stands.length ≤ _; omega, Nat.le_trans addK_len (by omega), by show M.cont.length ≤ _; omega, a9, by show M.said.length ≤ _; omega, a11, by show M.there.length ≤ _; omega, by show szC M.cont ≤ _; omega⟩
  rcases addK_mem.mp hd with z | z
  · exact a5 d z
  · subst z; exact h
theorem MOk.deedS (O : MOk B M) {x : Stm} : MOk (B + 1) (M.deed bits x).st := by
  have O1 := O.mono (B' := B + 1) (by omega)
  cases x with
  | make x => exact O.made
  | wish x w =>
    simp only [Mt.deed]
    cases h : M.cell x with
    | none => exact O1
    | some c => exact O1.wishSet
  | keep x =>
    simp only [Mt.deed]
    cases h : M.cell x with
    | none => exact O1
    | some c => exact O.keepC (O.cell h)
  | name x y =>
    simp only [Mt.deed]
    cases h : M.cell y with
    | none => exact O1
    | some c => exact O.stand fun d hd => by cases hd; exact O.cell h
  | drop x => exact O.stand fun d hd => by cases hd
  | hold x f y =>
    simp only [Mt.deed]
    cases h : M.cell x with
    | none => exact O1
    | some a =>
      cases h2 : M.cell y with
      | none => exact O1
      | some c => exact O.fill fun q hq => by cases hq; exact O.cell h2
  | weak x f y =>
    simp only [Mt.deed]
    cases h : M.cell x with
    | none => exact O1
    | some a =>
      cases h2 : M.cell y with
      | none => exact O1
      | some c => exact O.fill fun q hq => by cases hq; exact O.cell h2
  | cut x f =>
    simp only [Mt.deed]
    cases h : M.cell x with
    | none => exact O1
    | some a => exact O.fill fun q hq => by cases hq
  | take z x f =>
    simp only [Mt.deed]
    cases h : M.cell x with
    | none => exact O1
    | some c =>
      simp only
      cases hf : M.fld c f with
      | none => exact O.stand fun d hd => by cases hd
      | some p =>
        simp only
        cases ha : M.askC p.1 with
        | stop y M' =>
          have := O.askS (c := p.1)
          rw [ha] at this
          exact this.1.mono (by omega)
        | ok b M' =>
          obtain ⟨O', c1, _⟩ := O.askC ha
          refine O'.stand fun d hd => ?_
          rw [c1]
          cases b with
          | true => simp at hd
          | false => simp at hd; subst hd; exact O.fld hf
  | say w => exact O.tell
  | ask t =>
    simp only [Mt.deed]
    have := O.testS (bits := bits) (t := t)
    cases h : M.test bits t with
    | stop y M' => rw [h] at this; exact this.1.mono (by omega)
    | ok b M' => rw [h] at this; exact MOk.tell this.1
  | ife t a b => exact O1
  | rep k b => exact O1
theorem MOk.enter (hbg : ∀ B M, MOk B M → MOk B (bg M)) (O : MOk B M) {p : Nat} : MOk B (M.enter bg p) := hbg _ _ O.at0
theorem MOk.repS {f : Mt → Out Unit} {w : Nat} (h : ∀ B M, MOk B M → MOk (B + w) (f M).st) : ∀ {k B : Nat} {M : Mt}, MOk B M → MOk (B + k * w) (repN f k M).st
  | 0, B, M, O => O.mono (by omega)
  | k + 1, B, M, O => by
    have h1 := h B M O
    unfold repN
    have e : B + (k + 1) * w = B + w + k * w := by rw [Nat.succ_mul]; omega
    cases q : f M with
    | stop y M' =>
      rw [q] at h1
      exact MOk.mono (M := M') h1 (by rw [e]; omega)
    | ok a M' =>
      rw [q] at h1
      rw [e]
      exact MOk.repS h (B := B + w) (M := M') h1
theorem MOk.oneS {x : Stm} (O : MOk B M) : MOk (B + 2) (M.deed bits x).fin.st := by
  have h := O.deedS (bits := bits) (x := x)
  cases q : M.deed bits x with
  | ok a M' => rw [q] at h; exact MOk.fin (M := M') h
  | stop y M' => rw [q] at h; exact MOk.mono (M := M') h (by omega)
mutual
theorem MOk.exec1S (hbg : ∀ B M, MOk B M → MOk B (bg M)) : ∀ (x : Stm) {p B : Nat} {M : Mt}, MOk B M → MOk (B + 2 * x.wgt) (exec1 bg bits x p M).st
  | .ife t a b, p, B, M, O => by
    unfold exec1
    have ht := O.testS (bits := bits) (t := t)
    have w : (Stm.ife t a b).wgt = 1 + Stm.wgts a + Stm.wgts b := by simp only [Stm.wgt]
    rw [w]
    cases h : M.test bits t with
    | stop y M' => rw [h] at ht; exact MOk.mono (M := M') ht.1 (by omega)
    | ok c M' =>
      rw [h] at ht
      have O1 := MOk.fin (M := M') ht.1
      cases c with
      | true => exact (MOk.execLS hbg a (p := p + 1) O1).mono (by omega)
      | false => exact (MOk.execLS hbg b (p := p + 1 + Stm.cnts a) O1).mono (by omega)
  | .rep k b, p, B, M, O => by
    unfold exec1
    have w : (Stm.rep k b).wgt = 1 + k * Stm.wgts b := by simp only [Stm.wgt]
    rw [w]
    have h := MOk.repS (f := fun M => execL bg bits b (p + 1) M) (w := 2 * Stm.wgts b) (fun B M O => MOk.execLS hbg b O) (k := k) (O.fin)
    refine h.mono ?_
    have : k * (2 * Stm.wgts b) = 2 * (k * Stm.wgts b) := by rw [Nat.mul_left_comm]
    omega
  | .make x, p, B, M, O => by unfold exec1; simp only [Stm.wgt]; exact MOk.oneS O
  | .wish x w, p, B, M, O => by unfold exec1; simp only [Stm.wgt]; exact MOk.oneS O
  | .keep x, p, B, M, O => by unfold exec1; simp only [Stm.wgt]; exact MOk.oneS O
  | .name x y, p, B, M, O => by unfold exec1; simp only [Stm.wgt]; exact MOk.oneS O
  | .drop x, p, B, M, O => by unfold exec1; simp only [Stm.wgt]; exact MOk.oneS O
  | .hold x f y, p, B, M, O => by unfold exec1; simp only [Stm.wgt]; exact MOk.oneS O
  | .weak x f y, p, B, M, O => by unfold exec1; simp only [Stm.wgt]; exact MOk.oneS O
  | .cut x f, p, B, M, O => by unfold exec1; simp only [Stm.wgt]; exact MOk.oneS O
  | .take z x f, p, B, M, O => by unfold exec1; simp only [Stm.wgt]; exact MOk.oneS O
  | .say w, p, B, M, O => by unfold exec1; simp only [Stm.wgt]; exact MOk.oneS O
  | .ask t, p, B, M, O => by unfold exec1; simp only [Stm.wgt]; exact MOk.oneS O
theorem MOk.execLS (hbg : ∀ B M, MOk B M → MOk B (bg M)) : ∀ (b : List Stm) {p B : Nat} {M : Mt}, MOk B M → MOk (B + 2 * Stm.wgts b) (execL bg bits b p M).st
  | [], p, B, M, O => O.mono (by omega)
  | x :: r, p, B, M, O => by
    unfold execL
    have O1 := O.enter hbg (p := p)
    have h1 := MOk.exec1S hbg x (p := p) O1
    have w : Stm.wgts (x :: r) = x.wgt + Stm.wgts r := by simp only [Stm.wgts]
    rw [w]
    cases q : exec1 bg bits x p (M.enter bg p) with
    | stop y M' => rw [q] at h1; exact MOk.mono (M := M') h1 (by omega)
    | ok a M' =>
      rw [q] at h1
      exact (MOk.execLS hbg r (p := p + x.cnt) (M := M') h1).mono (by omega)
end
end
end Sm

/-! MD: blocks executed -/
namespace K56
open PySem L2 Sm
/-- how a moment begins -/
structure Beg (P : MP) (bg : Mt → Mt) : Prop where
  run : ∀ {s : Sto} {cs : List Nat} {M : Mt} {B : Nat} {Q : Vl → Sto → Prop} {E : Ex → Sto → Prop}, MaAt s P cs M → MOk B M → B < 10000 → (∀ s' cs', MaAt s' P cs' (bg M) → Kp P.m s s' → Q .non s') → WE (m_Collected_begin_moment [.ref P.m]) s Q E
  ok : ∀ B M, MOk B M → MOk B (bg M)
theorem WS_sFldA_at {cs : List Nat} {f : Str} {op : O2} {i j c : Nat} {y v z : Vl} {fs : List (Str × Vl)} {lo : Lo} {s : Sto} {K : RK} (ho : lo[i]? = some (some (.ref j))) (hj : s[j]? = some (.ins c fs)) (hc : c ∈ cs ∧ fs.length < 1000) (hv : getS fs f = some v) (hop : op v y s = some (z, s))
    (k : K.nx lo (s.set j (.ins c (putS f z fs)))) : WS (sFldA cs f op (eVar i) (eC y)) lo s K := by
  have e : setFld cs f (.ref j) z s = some (s.set j (.ins c (putS f z fs))) := setFld_ins hj hc
  unfold sFldA
  rw [WS_bndS, WE_eVar ho]
  simp only [hj, if_pos hc.1, hv]
  simp only [bndS, eC, hop, e, hj, if_true]
  exact k
section
variable {P : MP} {bits : List Int} {B : Nat} {s : Sto} {cs : List Nat} {M : Mt} {Q : Vl → Sto → Prop} {E : Ex → Sto → Prop} {bg : Mt → Mt}
theorem endM (C : P.c = 3) (A : MaAt s P cs M) (O : MOk B M) (hB : B < 10000) (k : ∀ s', MaAt s' P cs M.fin → Kp P.m s s' → Q .non s') : WE (m_Collected_end_moment [.ref P.m]) s Q E := by
  unfold m_Collected_end_moment b_Collected_end_moment
  have th := A.th
  have lo := A.lo
  have cl := A.cl
  have h7 := O.s7
  have h6 := O.cl
  have lim : M.there.length < LIM := limB (by omega)
  have A' : MaAt (s.set (P.m + 9) (.lst ((M.there ++ [M.lost.length - M.clr.length]).map nV))) P cs M.fin := A.set (by omega) rfl rfl
  have kk := k _ A' (Kp.refl.set (by omega))
  have e : (M.lost.length : Int) - (M.clr.length : Int) = ((M.lost.length - M.clr.length : Nat) : Int) := by omega
  simp [g_th A C, g_lo A C, g_cl A C, kd_lst th, oLen_lst lo, oLen_lst cl, oAppend_lst th, lim, e]
  simpa [nV] using kk
theorem enterM {p : Nat} (C : P.c = 3) (G : Beg P bg) (A : MaAt s P cs M) (O : MOk B M) (hB : B < 10000) (k : ∀ s' cs', MaAt s' P cs' (M.enter bg p) → Kp P.m s s' → Q .non s') : WE (m_enter [.ref P.m, .int (p : Nat)]) s Q E := by
  unfold m_enter b_enter
  have top := A.top
  simp
  rw [setFld_ins top ⟨by rw [C]; decide, by simp⟩]
  simp [putS]
  have A1 : MaAt (s.set P.m (.ins P.c [("block", P.bk), ("bits", P.bits), ("at_place", .int (p : Nat)), ("moment", .int M.moment), ("stands", .ref (P.m + 1)), ("kept", .ref (P.m + 2)), ("contents", .ref (P.m + 3)), ("wishes", .ref (P.m + 4)), ("lost", .ref (P.m + 5)), ("replies", .ref (P.m + 6)), ("spoken", .ref (P.m + 7)), ("quiet_places", P.qp), ("cleared", .ref (P.m + 8)), ("there", .ref (P.m + 9)), ("wishes_at", .ref (P.m + 10))])) P cs { M with place := (p : Nat) } := A.set (j := 0) (by omega) rfl rfl
  generalize hs1 : s.set P.m (Ob.ins P.c [("block", P.bk), ("bits", P.bits), ("at_place", .int (p : Nat)), ("moment", .int M.moment), ("stands", .ref (P.m + 1)), ("kept", .ref (P.m + 2)), ("contents", .ref (P.m + 3)), ("wishes", .ref (P.m + 4)), ("lost", .ref (P.m + 5)), ("replies", .ref (P.m + 6)), ("spoken", .ref (P.m + 7)), ("quiet_places", P.qp), ("cleared", .ref (P.m + 8)), ("there", .ref (P.m + 9)), ("wishes_at", .ref (P.m + 10))]) = s1 at A1
  have k1 : Kp P.m s s1 := by rw [← hs1]; exact Kp.refl.set (by omega)
  clear hs1
  have top1 := A1.top
  refine WS_sFldA_at (j := P.m) rfl top1 ⟨by rw [C]; decide, by simp⟩ (v := .int M.moment) (by simp [getS]) (z := .int (M.moment + 1)) rfl ?_
  simp [putS]
  have A2 : MaAt (s1.set P.m (.ins P.c [("block", P.bk), ("bits", P.bits), ("at_place", .int (p : Nat)), ("moment", .int (M.moment + 1)), ("stands", .ref (P.m + 1)), ("kept", .ref (P.m + 2)), ("contents", .ref (P.m + 3)), ("wishes", .ref (P.m + 4)), ("lost", .ref (P.m + 5)), ("replies", .ref (P.m + 6)), ("spoken", .ref (P.m + 7)), ("quiet_places", P.qp), ("cleared", .ref (P.m + 8)), ("there", .ref (P.m + 9)), ("wishes_at", .ref (P.m + 10))])) P cs { M with place := (p : Nat), moment := M.moment + 1 } := A1.set (j := 0) (by omega) rfl rfl
  generalize hs2 : s1.set P.m (Ob.ins P.c [("block", P.bk), ("bits", P.bits), ("at_place", .int (p : Nat)), ("moment", .int (M.moment + 1)), ("stands", .ref (P.m + 1)), ("kept", .ref (P.m + 2)), ("contents", .ref (P.m + 3)), ("wishes", .ref (P.m + 4)), ("lost", .ref (P.m + 5)), ("replies", .ref (P.m + 6)), ("spoken", .ref (P.m + 7)), ("quiet_places", P.qp), ("cleared", .ref (P.m + 8)), ("there", .ref (P.m + 9)), ("wishes_at", .ref (P.m + 10))]) = s2 at A2
  have k2 : Kp P.m s s2 := by rw [← hs2]; exact k1.set (by omega)
  clear hs2
  simp [WE_eMeth]
  rw [mW A2 C (m := "begin_moment") (mf := arg 1 m_Collected_begin_moment) rfl (by intros; simp [getS])]
  simp
  exact G.run A2 O.at0 hB fun s' cs' A' q => k s' cs' A' (k2.trans q)
end
end K56

/-! ME: a block, executed -/
namespace K56
open PySem L2 Sm
theorem sum_cast : ∀ l : List Nat, (l.map fun (n : Nat) => (n : Int)).sum = ((l.sum : Nat) : Int)
  | [] => rfl
  | a :: l => by
    have := sum_cast l
    simp only [List.map_cons, List.sum_cons, this]
    omega
theorem OK.fin1 {P : MP} {s : Sto} {o : Out Unit} {R Q' : Sto → Prop} {E : Ex → Sto → Prop} {B : Nat} (h : OK P s o.fin (fun _ s' => R s') E) (hs : MOk B o.st)
    (H : ∀ s' cs' M', MaAt s' P cs' M' → MOk B M' → Kp P.m s s' → (∀ s'', MaAt s'' P cs' M'.fin → Kp P.m s' s'' → R s'') → Q' s') : OK P s o (fun _ s' => Q' s') E := by
  cases o with
  | ok a M' => exact fun s' cs' A q => H s' cs' M' A hs q fun s'' A'' q'' => h s'' cs' A'' (q.trans q'')
  | stop y M' => exact h
theorem OK.imp {P : MP} {s : Sto} {o : Out Unit} {R Q' : Sto → Prop} {E : Ex → Sto → Prop} (h : OK P s o (fun _ s' => R s') E) (H : ∀ s', R s' → Q' s') : OK P s o (fun _ s' => Q' s') E := by
  cases o with
  | ok a M' => exact fun s' cs' A q => H s' (h s' cs' A q)
  | stop y M' => exact h
def ExecS (P : MP) (bg : Mt → Mt) (bits : List Int) (mf : List Vl → M Vl) (n : Nat) : Prop := ∀ (g k0 : Nat) (b : List Stm) (p : Nat) (s : Sto) (cs : List Nat) (M : Mt) (B : Nat) (Q : Vl → Sto → Prop) (E : Ex → Sto → Prop), Stm.oks g k0 b → k0 < n → bits.length = g → Stm.cnts b ≤ 1000 → MaAt s P cs M → MOk B M → B + 2 * Stm.wgts b < 10000 →
  OK P s (execL bg bits b p M) (fun _ s' => Q .non s') E → WE (mf [.ref P.m, blk b, .int (p : Nat)]) s Q E
def XI (P : MP) (bg : Mt → Mt) (bits : List Int) (b : List Stm) (p : Nat) (Q : Vl → Sto → Prop) (E : Ex → Sto → Prop) (i : Nat) (lo : Lo) (s' : Sto) : Prop := ∃ (o3 o4 o5 o6 o7 o8 : Option Vl) (cs : List Nat) (M : Mt) (B : Nat), lo = [some (.ref P.m), some (blk b), some (.int ((p + Stm.cnts (b.take i) : Nat) : Int)), o3, o4, o5, o6, o7, o8] ∧ MaAt s' P cs M ∧ MOk B M ∧ B + 2 * Stm.wgts (b.drop i) < 10000 ∧ OK P s' (execL bg bits (b.drop i) (p + Stm.cnts (b.take i)) M) (fun _ s' => Q .non s') E
theorem execS {P : MP} {bg : Mt → Mt} {bits : List Int} (C : P.c = 3) (hb : P.bits = .tup (bits.map Vl.int)) (G : Beg P bg) : ∀ n : Nat, n ≤ 12 → ExecS P bg bits (R2 n 0) n
  | 0, _ => by
    intro g k0 b p s cs M B Q E ob hk
    omega
  | n + 1, hn => by
    intro g k0 b p s cs M B Q E ob hk hg hc A O hB k
    have ih : ExecS P bg bits (R2 n 0) n := execS C hb G n (by omega)
    show WE (fnM 9 (b_execute (R2 n)) _) s Q E
    unfold b_execute
    generalize htl : sAug 2 opIAdd (eOp opAdd (eC (.int 1)) _) = tl
    have T : ∀ (x : Stm) (q : Nat) (s : Sto) (v0 v1 o4 o5 o6 o7 o8 : Option Vl) (K : RK), x.ok g k0 → x.cnt ≤ 1000 → (∀ s', Fr [] s s' → K.nx [v0, v1, some (.int ((q + x.cnt : Nat) : Int)), some x.vl, o4, o5, o6, o7, o8] s') → WS tl [v0, v1, some (.int (q : Nat)), some x.vl, o4, o5, o6, o7, o8] s K := by
      intro x q s v0 v1 o4 o5 o6 o7 o8 K hx hcx kk
      rw [← htl]
      simp
      refine inner x ?_
      refine lcX_inv (fun j s' => s'[s.length]? = some (.lst ((x.ins.take j).map (fun b => Vl.int (Stm.cnts b : Nat)))) ∧ Fr [] s s') ⟨by simp, Fr.refl.push _⟩ ?_ ?_
      · rintro j v s1 hv ⟨e1, f1⟩
        obtain ⟨b', hb', rfl⟩ := get_map hv
        have hbm := List.mem_of_getElem? hb'
        obtain ⟨n0, ob'⟩ := Stm.ok_ins hx b' hbm
        have cb := Stm.cnt_in (x := x) b' hbm
        refine ⟨_, rfl, ?_⟩
        unfold LcT tTrue
        simp [wipeL]
        refine listedS 12 (by omega) s1 b' (k0 - 1) 0 g _ _ (by omega) ob' (by omega) (by omega) fun r s2 hr e2 f2 => ?_
        have e3 := f2.at e1 (by simp)
        have il := Stm.ins_len x
        have lim : ((x.ins.take j).map (fun b => Vl.int (Stm.cnts b : Nat))).length < LIM := limB (by simp; omega)
        have lim' : min j x.ins.length < LIM := limB (by omega)
        simp [oLen_lst e2, e3, Stm.flats_len, lim']
        refine ⟨?_, (f1.trans f2).set (Or.inr (Nat.le_refl _))⟩
        rw [← List.map_take, ← List.map_take, take_succ_get hb']
        simp
      · rintro s1 ⟨e1, f1⟩
        rw [List.length_map, List.take_length] at e1
        have e2 : s1[s.length]? = some (.lst (((x.ins.map Stm.cnts).map fun (n : Nat) => (n : Int)).map Vl.int)) := by
          rw [e1]; simp [List.map_map, Function.comp_def]
        have e3 := kk s1 f1
        simp [oSum_ints e2]
        have e4 : (q : Int) + (1 + (x.ins.map ((fun (n : Nat) => (n : Int)) ∘ Stm.cnts)).sum) = ((q + x.cnt : Nat) : Int) := by
          rw [← List.map_map, sum_cast, Stm.cnt_ins]; omega
        rw [e4]
        exact e3
    simp
    show match blk b with | .tup xs => _ | _ => False
    simp only [blk]
    refine loopX_inv (XI P bg bits b p Q E) ?_ ?_ ?_
    · exact ⟨none, none, none, none, none, none, cs, M, B, by simp [blk, Stm.cnts], A, O, by simpa using hB, by simpa [Stm.cnts] using k⟩
    · rintro i v lo s1 hv ⟨o3, o4, o5, o6, o7, o8, cs1, M1, B1, rfl, A1, O1, hB1, k1⟩
      obtain ⟨x, hx, rfl⟩ := vls_get hv
      have hxm := List.mem_of_getElem? hx
      have okx := Stm.oks_mem ob x hxm
      have cx := Stm.cnts_mem x hxm
      obtain ⟨hil, hxe⟩ := List.getElem?_eq_some_iff.mp hx
      have dr : b.drop i = x :: b.drop (i + 1) := by rw [List.drop_eq_getElem_cons hil, hxe]
      have tk : Stm.cnts (b.take (i + 1)) = Stm.cnts (b.take i) + x.cnt := by rw [take_succ_get hx, Stm.cnts_app]; simp [Stm.cnts]
      rw [dr] at k1 hB1
      have wg : Stm.wgts (x :: b.drop (i + 1)) = x.wgt + Stm.wgts (b.drop (i + 1)) := by simp only [Stm.wgts]
      rw [wg] at hB1
      simp only [execL] at k1
      have hq : p + Stm.cnts (b.take (i + 1)) = p + Stm.cnts (b.take i) + x.cnt := by omega
      generalize p + Stm.cnts (b.take i) = q at *
      simp
      refine enterM C G A1 O1 (by omega) fun s2 cs2 A2 q2 => ?_
      have O2 := O1.enter G.ok (p := q)
      have k2 := k1.kp q2
      generalize M1.enter bg q = M2 at *
      have k3 : OK P s2 (exec1 bg bits x q M2) (fun _ s' => ∃ cs' M3, MaAt s' P cs' M3 ∧ MOk (B1 + 2 * x.wgt) M3 ∧ OK P s' (execL bg bits (b.drop (i + 1)) (q + x.cnt) M3) (fun _ s' => Q .non s') E) E := by
        have h := MOk.exec1S G.ok x (p := q) (bits := bits) O2
        cases e : exec1 bg bits x q M2 with
        | ok a M3 => rw [e] at k2 h; exact fun s' cs' A' qq => ⟨cs', M3, A', h, k2.kp qq⟩
        | stop y M3 => rw [e] at k2; exact k2
      have tail : ∀ (s3 : Sto) (o4 o5 o6 o7 o8 : Option Vl) (K : RK), K.nx = XI P bg bits b p Q E (i + 1) → (∃ cs' M3, MaAt s3 P cs' M3 ∧ MOk (B1 + 2 * x.wgt) M3 ∧ OK P s3 (execL bg bits (b.drop (i + 1)) (q + x.cnt) M3) (fun _ s' => Q .non s') E) → WS tl [some (.ref P.m), some (blk b), some (.int (q : Nat)), some x.vl, o4, o5, o6, o7, o8] s3 K := by
        rintro s3 o4 o5 o6 o7 o8 K hK ⟨cs3, M3, A3, O3, k4⟩
        refine T x q s3 _ _ _ _ _ _ _ K okx (by omega) fun s4 f4 => ?_
        rw [hK]
        have hl := A3.len
        refine ⟨_, _, _, _, _, _, cs3, M3, B1 + 2 * x.wgt, by rw [hq], A3.fr f4, O3, by omega, ?_⟩
        rw [hq]
        exact k4.kp (Kp.of_fr f4 (by omega))
      clear k1 k2 A1 O1 q2
      have wp : 1 ≤ x.wgt := by cases x <;> simp only [Stm.wgt] <;> omega
      cases x with
      | make x =>
        simp only [exec1] at k3
        simp [Stm.vl, kdl_DEEDS, getS]
        rw [WE_eCallF (j := 0) (mf := arg 2 m_do_make) rfl rfl]
        simp
        refine d_make (bits := bits) C A2 O2 (by omega) ?_
        refine OK.fin1 k3 O2.deedS fun s3 cs3 M3 A3 O3 q3 kk => ?_
        simp [WE_eMeth]
        rw [mW A3 C (m := "end_moment") (mf := arg 1 m_Collected_end_moment) rfl (by intros; simp [getS])]
        simp
        refine endM C A3 O3 (by omega) fun s4 A4 q4 => ?_
        exact tail s4 _ _ _ _ _ _ rfl (kk s4 A4 q4)
      | wish x w =>
        simp only [exec1] at k3
        simp [Stm.vl, kdl_DEEDS, getS]
        rw [WE_eCallF (j := 1) (mf := arg 2 m_do_wish) rfl rfl]
        simp
        refine d_wish (bits := bits) C A2 O2 ?_
        refine OK.fin1 k3 O2.deedS fun s3 cs3 M3 A3 O3 q3 kk => ?_
        simp [WE_eMeth]
        rw [mW A3 C (m := "end_moment") (mf := arg 1 m_Collected_end_moment) rfl (by intros; simp [getS])]
        simp
        refine endM C A3 O3 (by omega) fun s4 A4 q4 => ?_
        exact tail s4 _ _ _ _ _ _ rfl (kk s4 A4 q4)
      | keep x =>
        simp only [exec1] at k3
        simp [Stm.vl, kdl_DEEDS, getS]
        rw [WE_eCallF (j := 2) (mf := arg 2 m_do_keep) rfl rfl]
        simp
        refine d_keep (bits := bits) C A2 O2 (by omega) ?_
        refine OK.fin1 k3 O2.deedS fun s3 cs3 M3 A3 O3 q3 kk => ?_
        simp [WE_eMeth]
        rw [mW A3 C (m := "end_moment") (mf := arg 1 m_Collected_end_moment) rfl (by intros; simp [getS])]
        simp
        refine endM C A3 O3 (by omega) fun s4 A4 q4 => ?_
        exact tail s4 _ _ _ _ _ _ rfl (kk s4 A4 q4)
      | name x y =>
        simp only [exec1] at k3
        simp [Stm.vl, kdl_DEEDS, getS]
        rw [WE_eCallF (j := 3) (mf := arg 2 m_do_name) rfl rfl]
        simp
        refine d_name (bits := bits) C A2 O2 (by omega) ?_
        refine OK.fin1 k3 O2.deedS fun s3 cs3 M3 A3 O3 q3 kk => ?_
        simp [WE_eMeth]
        rw [mW A3 C (m := "end_moment") (mf := arg 1 m_Collected_end_moment) rfl (by intros; simp [getS])]
        simp
        refine endM C A3 O3 (by omega) fun s4 A4 q4 => ?_
        exact tail s4 _ _ _ _ _ _ rfl (kk s4 A4 q4)
      | drop x =>
        simp only [exec1] at k3
        simp [Stm.vl, kdl_DEEDS, getS]
        rw [WE_eCallF (j := 4) (mf := arg 2 m_do_drop) rfl rfl]
        simp
        refine d_drop (bits := bits) C A2 O2 (by omega) ?_
        refine OK.fin1 k3 O2.deedS fun s3 cs3 M3 A3 O3 q3 kk => ?_
        simp [WE_eMeth]
        rw [mW A3 C (m := "end_moment") (mf := arg 1 m_Collected_end_moment) rfl (by intros; simp [getS])]
        simp
        refine endM C A3 O3 (by omega) fun s4 A4 q4 => ?_
        exact tail s4 _ _ _ _ _ _ rfl (kk s4 A4 q4)
      | hold x f y =>
        simp only [exec1] at k3
        simp [Stm.vl, kdl_DEEDS, getS]
        rw [WE_eCallF (j := 5) (mf := arg 2 m_do_hold) rfl rfl]
        simp
        refine d_hold (bits := bits) C A2 O2 (by omega) ?_
        refine OK.fin1 k3 O2.deedS fun s3 cs3 M3 A3 O3 q3 kk => ?_
        simp [WE_eMeth]
        rw [mW A3 C (m := "end_moment") (mf := arg 1 m_Collected_end_moment) rfl (by intros; simp [getS])]
        simp
        refine endM C A3 O3 (by omega) fun s4 A4 q4 => ?_
        exact tail s4 _ _ _ _ _ _ rfl (kk s4 A4 q4)
      | weak x f y =>
        simp only [exec1] at k3
        simp [Stm.vl, kdl_DEEDS, getS]
        rw [WE_eCallF (j := 6) (mf := arg 2 m_do_weak) rfl rfl]
        simp
        refine d_weak (bits := bits) C A2 O2 (by omega) ?_
        refine OK.fin1 k3 O2.deedS fun s3 cs3 M3 A3 O3 q3 kk => ?_
        simp [WE_eMeth]
        rw [mW A3 C (m := "end_moment") (mf := arg 1 m_Collected_end_moment) rfl (by intros; simp [getS])]
        simp
        refine endM C A3 O3 (by omega) fun s4 A4 q4 => ?_
        exact tail s4 _ _ _ _ _ _ rfl (kk s4 A4 q4)
      | cut x f =>
        simp only [exec1] at k3
        simp [Stm.vl, kdl_DEEDS, getS]
        rw [WE_eCallF (j := 7) (mf := arg 2 m_do_cut) rfl rfl]
        simp
        refine d_cut (bits := bits) C A2 O2 (by omega) ?_
        refine OK.fin1 k3 O2.deedS fun s3 cs3 M3 A3 O3 q3 kk => ?_
        simp [WE_eMeth]
        rw [mW A3 C (m := "end_moment") (mf := arg 1 m_Collected_end_moment) rfl (by intros; simp [getS])]
        simp
        refine endM C A3 O3 (by omega) fun s4 A4 q4 => ?_
        exact tail s4 _ _ _ _ _ _ rfl (kk s4 A4 q4)
      | take z x f =>
        simp only [exec1] at k3
        simp [Stm.vl, kdl_DEEDS, getS]
        rw [WE_eCallF (j := 8) (mf := arg 2 m_do_take) rfl rfl]
        simp
        refine d_take (bits := bits) C A2 O2 (by omega) ?_
        refine OK.fin1 k3 O2.deedS fun s3 cs3 M3 A3 O3 q3 kk => ?_
        simp [WE_eMeth]
        rw [mW A3 C (m := "end_moment") (mf := arg 1 m_Collected_end_moment) rfl (by intros; simp [getS])]
        simp
        refine endM C A3 O3 (by omega) fun s4 A4 q4 => ?_
        exact tail s4 _ _ _ _ _ _ rfl (kk s4 A4 q4)
      | say w =>
        simp only [exec1] at k3
        simp [Stm.vl, kdl_DEEDS, getS]
        rw [WE_eCallF (j := 9) (mf := arg 2 m_do_say) rfl rfl]
        simp
        refine d_say (bits := bits) C A2 O2 (by omega) ?_
        refine OK.fin1 k3 O2.deedS fun s3 cs3 M3 A3 O3 q3 kk => ?_
        simp [WE_eMeth]
        rw [mW A3 C (m := "end_moment") (mf := arg 1 m_Collected_end_moment) rfl (by intros; simp [getS])]
        simp
        refine endM C A3 O3 (by omega) fun s4 A4 q4 => ?_
        exact tail s4 _ _ _ _ _ _ rfl (kk s4 A4 q4)
      | ask t =>
        simp only [exec1] at k3
        simp [Stm.vl, kdl_DEEDS, getS]
        rw [WE_eCallF (j := 10) (mf := arg 2 m_do_ask) rfl rfl]
        simp
        refine d_ask (k0 := 3) C hb hg (by simpa only [Stm.ok] using okx) (by omega) A2 O2 (by omega) ?_
        refine OK.fin1 k3 O2.deedS fun s3 cs3 M3 A3 O3 q3 kk => ?_
        simp [WE_eMeth]
        rw [mW A3 C (m := "end_moment") (mf := arg 1 m_Collected_end_moment) rfl (by intros; simp [getS])]
        simp
        refine endM C A3 O3 (by omega) fun s4 A4 q4 => ?_
        exact tail s4 _ _ _ _ _ _ rfl (kk s4 A4 q4)
      | ife t a c =>
        have okx' : 0 < k0 ∧ t.ok g 3 ∧ Stm.oks g (k0 - 1) a ∧ Stm.oks g (k0 - 1) c := by simpa only [Stm.ok] using okx
        have wx : (Stm.ife t a c).wgt = 1 + Stm.wgts a + Stm.wgts c := by simp only [Stm.wgt]
        have cxx : (Stm.ife t a c).cnt = 1 + Stm.cnts a + Stm.cnts c := by simp only [Stm.cnt]
        simp only [exec1] at k3
        simp [Stm.vl]
        refine isTrue (n := 12) C hb okx'.2.1 (by omega) hg A2 O2 (by omega) ?_
        cases ht : M2.test bits t with
        | stop y M3 => rw [ht] at k3; exact k3
        | ok v M3 =>
          rw [ht] at k3
          intro s3 cs3 A3 q3
          obtain ⟨O3, _⟩ := O2.test ht
          cases v with
          | true =>
            simp [WE_eMeth]
            rw [mW A3 C (m := "end_moment") (mf := arg 1 m_Collected_end_moment) rfl (by intros; simp [getS])]
            simp
            refine endM C A3 O3 (by omega) fun s4 A4 q4 => ?_
            simp
            refine ih g (k0 - 1) a (q + 1) s4 cs3 _ (B1 + 1) _ _ okx'.2.2.1 (by omega) hg (by omega) A4 O3.fin (by omega) ?_
            exact (k3.kp (q3.trans q4)).imp fun s5 h => tail s5 _ _ _ _ _ _ rfl h
          | false =>
            simp [WE_eMeth]
            rw [mW A3 C (m := "end_moment") (mf := arg 1 m_Collected_end_moment) rfl (by intros; simp [getS])]
            simp
            refine endM C A3 O3 (by omega) fun s4 A4 q4 => ?_
            simp
            refine listedS 12 (by omega) s4 a (k0 - 1) 0 g _ _ (by omega) okx'.2.2.1 (by omega) (by omega) fun r s5 hr e5 f5 => ?_
            have ea : (q : Int) + 1 + (Stm.cnts a : Int) = ((q + 1 + Stm.cnts a : Nat) : Int) := by omega
            simp [oLen_lst e5, Stm.flats_len]
            rw [ea]
            have hl := A4.len
            refine ih g (k0 - 1) c (q + 1 + Stm.cnts a) s5 cs3 _ (B1 + 1) _ _ okx'.2.2.2 (by omega) hg (by omega) (A4.fr f5) O3.fin (by omega) ?_
            exact (k3.kp ((q3.trans q4).trans (Kp.of_fr f5 (by omega)))).imp fun s6 h => tail s6 _ _ _ _ _ _ rfl h
      | rep r a =>
        have okx' : 0 < k0 ∧ r ≤ 12 ∧ Stm.oks g (k0 - 1) a := by simpa only [Stm.ok] using okx
        have wx : (Stm.rep r a).wgt = 1 + r * Stm.wgts a := by simp only [Stm.wgt]
        have cxx : (Stm.rep r a).cnt = 1 + Stm.cnts a := by simp only [Stm.cnt]
        simp only [exec1] at k3
        have A3 := A2
        simp [Stm.vl, WE_eMeth]
        rw [mW A3 C (m := "end_moment") (mf := arg 1 m_Collected_end_moment) rfl (by intros; simp [getS])]
        simp
        refine endM C A2 O2 (by omega) fun s4 A4 q4 => ?_
        have r6 : r < 1000000 := by omega
        simp [rngW_nat r6]
        refine loopX_inv (fun j lo s' => ∃ (o6 : Option Vl) (cs' : List Nat) (M' : Mt), lo = [some (.ref P.m), some (blk b), some (.int (q : Nat)), some (Stm.vl (.rep r a)), some (.int ((q + 1 : Nat) : Int)), o5, o6, o7, o8] ∧ MaAt s' P cs' M' ∧ MOk (B1 + 1 + j * (2 * Stm.wgts a)) M' ∧ OK P s' (repN (fun M => execL bg bits a (q + 1) M) (r - j) M') (fun _ s' => ∃ cs' M3, MaAt s' P cs' M3 ∧ MOk (B1 + 2 * (Stm.rep r a).wgt) M3 ∧ OK P s' (execL bg bits (b.drop (i + 1)) (q + (Stm.rep r a).cnt) M3) (fun _ s' => Q .non s') E) E) ?_ ?_ ?_
        · exact ⟨o6, cs2, M2.fin, by simp [Stm.vl], A4, by simpa using O2.fin, k3.kp q4⟩
        · rintro j v lo s5 hv ⟨o6, cs5, M5, rfl, A5, O5, k5⟩
          obtain ⟨hj, rfl⟩ := rng_get hv
          have er : r - j = (r - (j + 1)) + 1 := by omega
          rw [er] at k5
          simp only [repN] at k5
          have jm : (j + 1) * (2 * Stm.wgts a) ≤ r * (2 * Stm.wgts a) := Nat.mul_le_mul_right _ (by omega)
          have jm2 : r * (2 * Stm.wgts a) = 2 * (r * Stm.wgts a) := by rw [Nat.mul_left_comm]
          have jm3 : (j + 1) * (2 * Stm.wgts a) = j * (2 * Stm.wgts a) + 2 * Stm.wgts a := Nat.succ_mul ..
          simp [Stm.vl]
          refine ih g (k0 - 1) a (q + 1) s5 cs5 M5 _ _ _ okx'.2.2 (by omega) hg (by omega) A5 O5 (by omega) ?_
          have h5 := MOk.execLS G.ok a (p := q + 1) (bits := bits) O5
          cases e : execL bg bits a (q + 1) M5 with
          | stop y M6 => rw [e] at k5; exact k5
          | ok u M6 =>
            rw [e] at k5 h5
            exact fun s6 cs6 A6 q6 => ⟨some (.int (j : Nat)), cs6, M6, by simp [Stm.vl], A6, MOk.mono (M := M6) h5 (by omega), k5.kp q6⟩
        · rintro lo s5 ⟨o6, cs5, M5, rfl, A5, O5, k5⟩
          rw [rng_len, Nat.sub_self] at k5
          exact tail s5 _ _ _ _ _ _ rfl (k5 s5 cs5 A5 .refl)
    · rintro lo s1 ⟨o3, o4, o5, o6, o7, o8, cs1, M1, B1, rfl, A1, O1, hB1, k1⟩
      rw [vls_len, List.drop_length] at k1
      simp
      exact k1 s1 cs1 A1 .refl
end K56

/-! MF: a machine made, finished, told -/
namespace K56
open PySem L2 Sm
section
variable {P : MP} {bits : List Int} {B : Nat} {s : Sto} {cs : List Nat} {M : Mt} {Q : Vl → Sto → Prop} {E : Ex → Sto → Prop} {bg : Mt → Mt}
theorem setAt {ks : List Nat} {f : Str} {v : Vl} {c : Nat} {fs : List (Str × Vl)} {l : List Ob} (hc : c ∈ ks ∧ fs.length < 1000) : setFld ks f (.ref s.length) v (s ++ .ins c fs :: l) = some (s ++ .ins c (putS f v fs) :: l) := by
  rw [setFld_ins (c := c) (fs := fs) (by simp) hc]
  simp
theorem machI {g bk bt : Vl} (k : Q .non (s ++ [.ins 3 [("block", bk), ("bits", bt), ("at_place", .int (-1)), ("moment", .int (-1)), ("stands", .ref (s.length + 1)), ("kept", .ref (s.length + 2)), ("contents", .ref (s.length + 3)), ("wishes", .ref (s.length + 4)), ("lost", .ref (s.length + 5)), ("replies", .ref (s.length + 6)), ("spoken", .ref (s.length + 7))], .dic [], .dic [], .lst [], .lst [], .lst [], .lst [], .lst []])) : WE (m_MachineU_initU [.ref s.length, .tup [g, bk], bt]) (s ++ [.ins 3 []]) Q E := by
  unfold m_MachineU_initU b_MachineU_initU
  simp [setAt, putS]
  exact k
theorem begEmpty (C : P.c = 3) (hq : P.qp = .tup []) (hw : P.wa = []) : Beg P id where
  ok := fun _ _ O => O
  run := by
    intro s cs M B Q E A O hB k
    unfold m_Collected_begin_moment b_Collected_begin_moment
    have wa := A.wa
    rw [hw] at wa
    simp [g_place A C, g_qp A C, hq, WE_eMeth]
    rw [mW A C (m := "wanted") (mf := arg 1 m_Planned_wanted) rfl (by intros; simp [getS])]
    simp
    unfold m_Planned_wanted b_Planned_wanted
    have wa2 : (s ++ [Ob.lst []])[P.m + 10]? = some (.dic []) := by rw [List.getElem?_append_left (lt_of_get wa)]; exact wa
    have eq : opEq (.ref s.length) (.ref (s.length + 1)) (s ++ [Ob.lst [], Ob.lst []]) = some (.bl true, s ++ [Ob.lst [], Ob.lst []]) := opEq_lst0 (n := 1) (xs := []) (by simp) (by simp) (by simp) (by omega)
    have hl := A.len
    have f : Fr [] s (s ++ [Ob.lst [], Ob.lst []]) := by
      have := (Fr.refl (X := []) (s := s)).push (Ob.lst []) |>.push (Ob.lst [])
      simpa using this
    simp [g_wa A C, g_moment A C, dicW_ref wa, getW_int wa2, look, eq]
    exact k _ cs (A.fr f) (Kp.of_fr f (by omega))
theorem Kp.app {m : Nat} {s : Sto} {l : List Ob} (h : m ≤ s.length) : Kp m s (s ++ l) := ⟨by simp, fun i hi => by rw [List.getElem?_append_left (by omega)]⟩
/-- a machine with no plan -/
def mp0 (s : Sto) (bk : Vl) (bits : List Int) : MP := ⟨3, s.length, bk, .tup (bits.map Vl.int), .tup [], [], []⟩
theorem planI {g bk bt : Vl} (k : Q .non (s ++ Mt0.obs ⟨3, s.length, bk, bt, .tup [], [], []⟩ [])) : WE (m_PlannedU_initU [.ref s.length, .tup [g, bk], bt, .tup [], .tup []]) (s ++ [.ins 3 []]) Q E := by
  unfold m_PlannedU_initU b_PlannedU_initU
  simp
  rw [WE_eSup (j := s.length) (c := 3) (fs := []) (mf := arg 4 m_CollectedU_initU) rfl (by simp) rfl]
  simp
  unfold m_CollectedU_initU b_CollectedU_initU
  simp
  rw [WE_eSup (j := s.length) (c := 3) (fs := []) (mf := arg 3 m_MachineU_initU) rfl (by simp) rfl]
  simp
  refine machI ?_
  simp [setAt, putS]
  exact ⟨k⟩
theorem mt0At {P : MP} (h : P.m = s.length) (hp : P.pl = []) : MaAt (s ++ Mt0.obs P []) P [] Mt0 :=
  ⟨fun i o q => by rw [h, List.getElem?_append_right (by omega), Nat.add_sub_cancel_left]; exact q, rfl, fun i z r h1 => by simp at h1, List.nodup_nil, fun p hp' => by rw [hp] at hp'; simp at hp'⟩
theorem mt0Ok : MOk 0 Mt0 := ⟨by simp, by simp, rfl, rfl, by simp, by simp, by simp, by simp, by simp, by simp, by simp, by simp, by simp [szC]⟩
theorem finishS {g k0 : Nat} {b : List Stm} (C : P.c = 3) (hb : P.bits = .tup (bits.map Vl.int)) (hk : P.bk = blk b) (G : Beg P bg) (ob : Stm.oks g k0 b) (h0 : k0 < 12) (hg : bits.length = g) (hc : Stm.cnts b ≤ 1000) (A : MaAt s P cs M) (O : MOk B M) (hB : B + 2 * Stm.wgts b < 9000)
    (k : match execL bg bits b 0 M with
      | .ok _ M' => ∀ s' cs', MaAt s' P cs' M' → Kp P.m s s' → Q .non s'
      | .stop y M' => ∀ s' cs', MaAt s' P cs' M'.fin → Kp P.m s s' → Q (.tup [.str y, .int M'.place]) s') : WE (m_finish [.ref P.m]) s Q E := by
  unfold m_finish b_finish
  simp [g_bk A C, hk]
  refine execS C hb G 12 (by omega) g k0 b 0 s cs M B _ _ ob h0 hg hc A O (by omega) ?_
  have h := MOk.execLS G.ok b (p := 0) (bits := bits) O
  cases e : execL bg bits b 0 M with
  | ok u M' =>
    rw [e] at k
    intro s' cs' A' q
    simp
    exact k s' cs' A' q
  | stop y M' =>
    rw [e] at k h
    intro s' cs' A' q
    have O' : MOk (B + 2 * Stm.wgts b) M' := h
    simp [tryK, hit_Stopped, WE_eMeth]
    rw [mW A' C (m := "end_moment") (mf := arg 1 m_Collected_end_moment) rfl (by intros; simp [getS])]
    simp
    refine endM C A' O' (by omega) fun s2 A2 q2 => ?_
    simp [getS, g_place A2 C]
    exact k s2 cs' A2 (q.trans q2)
def whyV (o : Out Unit) : Vl := match o with
  | .ok _ _ => .non
  | .stop y M => .tup [.str y, .int M.place]
def Out.end_ (o : Out Unit) : Mt := match o with
  | .ok _ M => M
  | .stop _ M => M.fin
def resV (o : Out Unit) : Vl := .tup [.tup ((Out.end_ o).said.map Said.vl), whyV o, .tup ((Out.end_ o).rep.map bV), .tup ((Out.end_ o).clr.map pV)]
theorem resultS {g k0 : Nat} {b : List Stm} (C : P.c = 3) (hb : P.bits = .tup (bits.map Vl.int)) (hk : P.bk = blk b) (G : Beg P bg) (ob : Stm.oks g k0 b) (h0 : k0 < 12) (hg : bits.length = g) (hc : Stm.cnts b ≤ 1000) (A : MaAt s P cs M) (O : MOk B M) (hB : B + 2 * Stm.wgts b < 9000)
    (k : ∀ s', Kp P.m s s' → Q (resV (execL bg bits b 0 M)) s') : WE (m_result_of [.ref P.m]) s Q E := by
  unfold m_result_of b_result_of
  simp
  refine finishS C hb hk G ob h0 hg hc A O hB ?_
  cases e : execL bg bits b 0 M with
  | ok u M' =>
    rw [e] at k
    intro s' cs' A' q
    have sp := A'.sp
    have re := A'.re
    have cl := A'.cl
    simp [g_sp A' C, g_re A' C, g_cl A' C, sp, re, cl]
    exact k s' q
  | stop y M' =>
    rw [e] at k
    intro s' cs' A' q
    have sp := A'.sp
    have re := A'.re
    have cl := A'.cl
    simp [g_sp A' C, g_re A' C, g_cl A' C, sp, re, cl]
    exact k s' q
/-- a run with no plan and no paused place -/
theorem run0 {g k0 : Nat} {b : List Stm} {gv : Vl} (ob : Stm.oks g k0 b) (h0 : k0 < 12) (hg : bits.length = g) (hc : Stm.cnts b ≤ 1000) (hB : 2 * Stm.wgts b < 9000)
    (k : ∀ s', Kp s.length s s' → Q (resV (execL id bits b 0 Mt0)) s') : WE (m_run [.tup [gv, blk b], .tup (bits.map Vl.int), .tup [], .tup []]) s Q E := by
  unfold m_run b_run
  simp [WE_eMake]
  refine planI ?_
  simp
  refine resultS (P := mp0 s (blk b) bits) (bg := id) rfl rfl rfl (begEmpty rfl rfl rfl) ob h0 hg hc (mt0At rfl rfl) mt0Ok (by omega) fun s' q => ?_
  refine k s' ((Kp.app (Nat.le_refl _)).trans q)
end
end K56

/-! D2: the deck of numbers: _law_deck, _law_draw (the second kind), _law_one -/
namespace K56
open PySem L2 Sm
/-- a deck of at most 63 numbers, at most c of them drawn -/
def Dk (s : Sto) (d l c : Nat) : Prop := ∃ k cells, k ≤ c ∧ cells.length ≤ 63 ∧ Deck s d l k cells
theorem Dk.fr {X : List Nat} {s s' : Sto} {d l c : Nat} (D : Dk s d l c) (f : Fr X s s') (h1 : d ∉ X) (h2 : l ∉ X) : Dk s' d l c := by
  obtain ⟨k, cells, a, b, D⟩ := D
  exact ⟨k, cells, a, b, D.fr f h1 h2⟩
theorem Dk.new {s s' : Sto} {d l c : Nat} (D : Dk s d l c) (f : Fr [] s s') : Dk s' d l c := D.fr f (by simp) (by simp)
theorem Dk.mono {s : Sto} {d l c c' : Nat} (D : Dk s d l c) (h : c ≤ c') : Dk s d l c' := by
  obtain ⟨k, cells, a, b, D⟩ := D
  exact ⟨k, cells, Nat.le_trans a h, b, D⟩
theorem Dk.lt {s : Sto} {d l c : Nat} (D : Dk s d l c) : d < s.length ∧ l < s.length := by
  obtain ⟨k, cells, a, b, D⟩ := D
  exact ⟨lt_of_get D.top, lt_of_get D.cel⟩
abbrev CM : Nat := 1000000000000000
section
variable {s : Sto} {d l c : Nat} {Q : Vl → Sto → Prop} {E : Ex → Sto → Prop}
theorem draw {many : Int} (D : Dk s d l c) (hm : 0 < many) (hm2 : many < 1267650600228229401496703205376) (hc : c < CM) (k : ∀ (r : Nat) s', (r : Int) < many → Dk s' d l (c + 1) → Fr [d, l] s s' → Q (.int r) s') : WE (m__law_draw [.ref d, .int many]) s Q E := by
  obtain ⟨n, cells, hn, hl, D⟩ := D
  have h1 := D.top
  have h2 := D.cel
  have hne := D.ne
  have k' : ∀ (r : Int) s' cells', 0 ≤ r → r < many → Deck s' d l (n + 1) cells' → cells'.length ≤ 63 → Fr [d, l] s s' → Q (.int r) s' := fun r s' cells' h0 hr D' hl' f => by
    have e : r = ((r.toNat : Nat) : Int) := (Int.toNat_of_nonneg h0).symm
    rw [e]
    exact k r.toNat s' (by omega) ⟨n + 1, cells', by omega, hl', D'⟩ f
  unfold m__law_draw b__law_draw
  simp [h1, h2, ixN, atI, List.replicate, get_set_self h1, get_set_ne hne.symm]
  generalize hs1 : s.set d (Ob.lst [Vl.ref l, Vl.int (↑n + 1)]) = s1
  have e1 : s1[d]? = some (.lst [.ref l, .int (n + 1)]) := by rw [← hs1]; exact get_set_self h1
  have e2 : s1[l]? = some (.lst (cells.map Vl.int)) := by rw [← hs1, get_set_ne hne.symm]; exact h2
  have f1 : Fr [d, l] s s1 := hs1 ▸ Fr.refl.set (Or.inl (List.mem_cons_self ..))
  have tail : ∀ (x : Int), 0 ≤ x → x < 1000000000000000000 → ∀ q : Int, q = (x % 2147483563 + 8117 * ((n : Int) + 1) + 3) ^ 5 % 2147483629 % many → Q (.int q) s1 := fun x hx hb q hq => by
    refine k' q s1 cells ?_ ?_ ⟨e1, e2, D.nn, hne⟩ hl f1
    · rw [hq]; exact Int.emod_nonneg _ (by omega)
    · rw [hq]; exact Int.emod_lt_of_pos _ hm
  have nab : ∀ x : Int, (x % 2147483563 + 8117 * ((n : Int) + 1) + 3).natAbs < 2 ^ 64 := fun x => by
    have a1 := Int.emod_nonneg x (show (2147483563 : Int) ≠ 0 by omega)
    have a2 := Int.emod_lt_of_pos x (show (0 : Int) < 2147483563 by omega)
    generalize x % 2147483563 = q at a1 a2
    have hn' : n < 1000000000000000 := Nat.lt_of_le_of_lt hn hc
    omega
  cases cells with
  | nil =>
    have := nab 0
    simp at this
    simp [e1, e2, hm, this]
    exact tail 0 (by omega) (by omega) _ (by simp)
  | cons y ys =>
    have hpos : 0 < (((y :: ys).length : Nat) : Int) := by simp <;> omega
    have hpos' : (0 : Int) < (ys.length : Int) + 1 := by omega
    generalize hcs : (y :: ys) = cs at *
    have hcl : ((ys.length : Nat) : Int) + 1 = ((cs.length : Nat) : Int) := by rw [← hcs]; simp
    have hp0 := Int.emod_nonneg ((n : Int) + 1) (Int.ne_of_gt hpos)
    have hp1 := Int.emod_lt_of_pos ((n : Int) + 1) hpos
    obtain ⟨p, hp⟩ : ∃ p : Nat, ((n : Int) + 1) % (cs.length : Int) = p := ⟨_, (Int.toNat_of_nonneg hp0).symm⟩
    have hpl : p < cs.length := by omega
    obtain ⟨x, hx⟩ : ∃ x, cs[p]? = some x := ⟨_, List.getElem?_eq_getElem hpl⟩
    have hx0 : 0 ≤ x := D.nn x (List.mem_of_getElem? hx)
    have hxm : (cs.map Vl.int)[p]? = some (.int x) := by rw [List.getElem?_map, hx]; rfl
    have hlt : 0 < cs.length := by omega
    simp [hlt, e1, e2]
    rw [hp, atN, hxm]
    simp [e1, e2]
    by_cases hbig : 1000000000000000000 ≤ x
    · have i2 : ixN cs.length (p : Int) = some p := ixN_nat hpl
      have i3 : ixN (cs.map Vl.int).length (p : Int) = some p := by rw [List.length_map]; exact i2
      simp [hbig, e1, e2, hm, hm2, i2]
      refine k' (x % many) _ (cs.set p (x / many)) (Int.emod_nonneg x (by omega)) (Int.emod_lt_of_pos x hm) ⟨?_, ?_, ?_, hne⟩ (by simpa using hl) (f1.set (by simp))
      · rw [get_set_ne hne]; exact e1
      · rw [get_set_self e2, List.map_set]
      · intro z hz
        rcases List.mem_or_eq_of_mem_set hz with h | h
        · exact D.nn z h
        · rw [h]; exact Int.ediv_nonneg hx0 (by omega)
    · have := nab x
      simp [hbig, e1, e2, hm, this]
      exact tail x hx0 (by omega) _ rfl
theorem one {a : Nat} {xs : List Vl} (D : Dk s d l c) (ha : s[a]? = some (.lst xs)) (hd : a ∉ [d, l]) (h0 : 0 < xs.length) (h1 : xs.length < 1000000) (hc : c < CM) (k : ∀ v s', v ∈ xs → Dk s' d l (c + 1) → Fr [d, l] s s' → Q v s') : WE (m__law_one [.ref d, .ref a]) s Q E := by
  unfold m__law_one b__law_one
  simp [ha]
  refine draw D (by omega) (by omega) hc fun r s' h2 h3 h4 => ?_
  have h5 := h4.at ha hd
  have h6 : r < xs.length := by omega
  simp [opIx_lst h5, atN, h6]
  exact k _ _ (List.getElem_mem h6) h3 h4
theorem oneS {x : Str} (D : Dk s d l c) (h0 : 0 < x.length) (h1 : x.length < 1000000) (hc : c < CM) (k : ∀ ch s', ch ∈ x.cps.toList → Dk s' d l (c + 1) → Fr [d, l] s s' → Q (.str ⟨#[ch]⟩) s') : WE (m__law_one [.ref d, .str x]) s Q E := by
  unfold m__law_one b__law_one
  have hL : x.length ≤ LIM := limB (by omega)
  simp [hL]
  refine draw D (by omega) (by omega) hc fun r s' h2 h3 h4 => ?_
  have h6 : r < x.cps.toList.length := by rw [← str_len]; omega
  have h7 : x.cps.toList[r]? = some x.cps.toList[r] := List.getElem?_eq_getElem h6
  rw [opIx_str hL, atN, h7]
  simp only [Option.map, WO_some]
  exact k _ _ (List.getElem_mem h6) h3 h4
theorem deck {ns : List Int} (h : ns.length ≤ 63) (k : ∀ d l s', Dk s' d l 0 → Fr [] s s' → Q (.ref d) s') : WE (m__law_deck [.scr ns]) s Q E := by
  unfold m__law_deck b__law_deck
  have e63 : cutL ns none (some 63) = ns.take 63 := cutL_nat (n := 63)
  simp
  rw [e63]
  refine lcL_p (xs := (ns.take 63).map Vl.int) (s ++ [.lst ((ns.take 63).map Vl.int)]) (fun v => match v with | .int i => some (.int (if i < 0 then -i else i)) | _ => none) (by simp) (by simp) get_last (by simp; omega) ?_ ?_
  · intro x hx acc
    obtain ⟨i, _, rfl⟩ := List.mem_map.mp hx
    refine ⟨_, rfl, ?_⟩
    simp [tTrue, wipeL]
  · have e : ((ns.take 63).map Vl.int).filterMap (fun v => match v with | .int i => some (.int (if i < 0 then -i else i)) | _ => none) = ((ns.take 63).map fun i : Int => if i < 0 then -i else i).map Vl.int := by
      rw [List.filterMap_map, List.map_map, ← List.filterMap_eq_map]
      rfl
    rw [e]
    have hcl : ((ns.take 63).map fun i : Int => if i < 0 then -i else i).length ≤ 63 := by simp; omega
    have hcn : ∀ x ∈ ((ns.take 63).map fun i : Int => if i < 0 then -i else i), 0 ≤ x := by
      intro x hx
      obtain ⟨a, _, rfl⟩ := List.mem_map.mp hx
      split <;> omega
    generalize ((ns.take 63).map fun i : Int => if i < 0 then -i else i) = cs at hcl hcn
    generalize (ns.take 63).map Vl.int = o1
    simp
    refine k _ (s.length + 1) _ ⟨0, cs, Nat.le_refl _, hcl, ⟨?_, ?_, hcn, ?_⟩⟩ (Fr.refl.app _)
    · rw [List.getElem?_append_right (by omega)]
      simp
    · rw [List.getElem?_append_right (by omega)]
      simp
    · omega
end
end K56

/-! N2N: names -/
namespace K56
open PySem L2 Sm
/-- a list of short texts -/
structure Strs (s : Sto) (a : Nat) (xs : List Str) : Prop where
  at_ : s[a]? = some (.lst (xs.map Vl.str))
  nice : ∀ x ∈ xs, Nice x
  len : xs.length ≤ 30
theorem Strs.fr {X : List Nat} {s s' : Sto} {a : Nat} {xs : List Str} (h : Strs s a xs) (f : Fr X s s') (hx : a ∉ X) : Strs s' a xs := ⟨f.at h.at_ hx, h.nice, h.len⟩
theorem join_eq {x : Str} {ys : List Str} : Txt.join x ys = Str.join x ys := StrLaws.glued_eq_join x ys
theorem joinE : ∀ {ys : List Str}, (∀ y ∈ ys, y.length = 1 ∧ ∀ c ∈ y.cps.toList, c < 128) → (Txt.join "" ys).length = ys.length ∧ ∀ c ∈ (Txt.join "" ys).cps.toList, c < 128
  | [], _ => ⟨rfl, fun c hc => by cases hc⟩
  | [y], h => by
    have := h y (List.mem_cons_self ..)
    exact ⟨this.1, this.2⟩
  | y :: z :: r, h => by
    have h1 := h y (List.mem_cons_self ..)
    have ih := joinE (ys := z :: r) fun w hw => h w (List.mem_cons_of_mem _ hw)
    have e : Txt.join "" (y :: z :: r) = y ++ "" ++ Txt.join "" (z :: r) := by rw [join_eq, join_eq]; rfl
    have e2 : (Txt.join "" (y :: z :: r)).cps.toList = y.cps.toList ++ (Txt.join "" (z :: r)).cps.toList := by
      rw [e, str_append, str_append]
      have : (("" : Str)).cps.toList = [] := by decide
      rw [this, List.append_nil]
    refine ⟨?_, fun c hc => ?_⟩
    · rw [str_len, e2, List.length_append, ← str_len, ← str_len, h1.1, ih.1]
      simp; omega
    · rw [e2] at hc
      rcases List.mem_append.mp hc with q | q
      · exact h1.2 c q
      · exact ih.2 c q
section
variable {s : Sto} {d l c : Nat} {Q : Vl → Sto → Prop} {E : Ex → Sto → Prop}
theorem oneT {a : Nat} {xs : List Str} (D : Dk s d l c) (S : Strs s a xs) (hd : a ∉ [d, l]) (h0 : 0 < xs.length) (hc : c < CM) (k : ∀ x s', x ∈ xs → Nice x → Dk s' d l (c + 1) → Fr [d, l] s s' → Q (.str x) s') : WE (m__law_one [.ref d, .ref a]) s Q E := by
  have hl := S.len
  refine one D S.at_ hd (by simpa using h0) (by simp; omega) hc fun v s' hv D' f => ?_
  obtain ⟨x, hx, rfl⟩ := List.mem_map.mp hv
  exact k x s' hx (S.nice x hx) D' f
/-- some drawn signs -/
theorem signs {x : Str} {n : Nat} {lo : Lo} {QS : Sto → Prop} (D : Dk s d l c) (h0 : 0 < x.length) (h1 : x.length ≤ 100) (hx : ∀ ch ∈ x.cps.toList, ch < 128) (hn : n ≤ 10) (hc : c + 100 < CM) (l0 : lo[0]? = some (some (.ref d))) (l2 : lo[2]? = some (some (.str x))) (l5 : 5 < lo.length)
    (k : ∀ (ys : List Str) (s' : Sto), s'[s.length]? = some (.lst (ys.map Vl.str)) → ys.length = n → (∀ y ∈ ys, y.length = 1 ∧ ∀ c ∈ y.cps.toList, c < 128) → Dk s' d l (c + n) → Fr [d, l] s s' → QS s') :
    WL (lcX (glN 5) tTrue (eCall (arg 2 m__law_one) (aCons (eVar 0) (aCons (eVar 2) aNil))) s.length lo (rng 0 n) (s ++ [.lst []])) QS := by
  have hlt := D.lt
  refine lcX_inv (fun i s' => ∃ ys : List Str, s'[s.length]? = some (.lst (ys.map Vl.str)) ∧ ys.length = i ∧ (∀ y ∈ ys, y.length = 1 ∧ ∀ c ∈ y.cps.toList, c < 128) ∧ Dk s' d l (c + i) ∧ Fr [d, l] s s') ?_ ?_ ?_
  · exact ⟨[], get_last, rfl, by simp, D.new (Fr.refl.push _), Fr.refl.push _⟩
  · rintro i v s1 hv ⟨ys, g1, g2, g3, D1, f1⟩
    obtain ⟨hi, rfl⟩ := rng_get hv
    refine ⟨_, rfl, ?_⟩
    unfold LcT tTrue
    have e0 : (lo.set 5 (some (Vl.int (i : Nat))))[0]? = some (some (.ref d)) := by rw [List.getElem?_set_ne (by omega)]; exact l0
    have e2 : (lo.set 5 (some (Vl.int (i : Nat))))[2]? = some (some (.str x)) := by rw [List.getElem?_set_ne (by omega)]; exact l2
    simp [e0, e2, l0, l2]
    refine oneS D1 h0 (by omega) (by omega) fun ch s2 hch D2 f2 => ?_
    have g4 := f2.at g1 (by simp; omega)
    simp only [g4]
    refine ⟨limC (by simp; omega), ys ++ [⟨#[ch]⟩], ?_, by simp [g2], ?_, ?_, ?_⟩
    · rw [get_set_self g4]; simp
    · intro y hy
      rcases List.mem_append.mp hy with q | q
      · exact g3 y q
      · simp at q
        subst q
        exact ⟨rfl, fun z hz => by simp at hz; subst hz; exact hx z hch⟩
    · exact D2.fr (Fr.refl.set (X := [s.length]) (by simp)) (by simp; omega) (by simp; omega)
    · exact (f1.trans f2).set (Or.inr (Nat.le_refl _))
  · rintro s1 ⟨ys, g1, g2, g3, D1, f1⟩
    rw [rng_len] at g2 D1
    exact k ys s1 g1 g2 g3 D1 f1
theorem digit : ∀ k : Fin 10, (Str.ofString (toString ((k.val : Nat) : Int))).length = 1 ∧ ∀ c ∈ (Str.ofString (toString ((k.val : Nat) : Int))).cps.toList, c < 128 := by decide
theorem nice3 {x y z : Str} (hx : x.length ≤ 6 ∧ ∀ c ∈ x.cps.toList, c < 128) (hy : y.length = 1 ∧ ∀ c ∈ y.cps.toList, c < 128) (hz : z.length ≤ 6 ∧ ∀ c ∈ z.cps.toList, c < 128) : Nice (x ++ y ++ z) ∧ (x ++ y ++ z).length = x.length + 1 + z.length := by
  have e : (x ++ y ++ z).length = x.length + 1 + z.length := by
    rw [str_len, str_append, str_append, List.length_append, List.length_append, ← str_len, ← str_len, ← str_len, hy.1]
  refine ⟨⟨by rw [e]; omega, fun c hc => ?_⟩, e⟩
  rw [str_append, str_append] at hc
  rcases List.mem_append.mp hc with q | q
  · rcases List.mem_append.mp q with q | q
    · exact hx.2 c q
    · exact hy.2 c q
  · exact hz.2 c q
theorem sum_ones : ∀ {ys : List Str}, (∀ y ∈ ys, y.length = 1) → (ys.map (·.length)).sum = ys.length
  | [], _ => rfl
  | y :: ys, h => by
    have := sum_ones (ys := ys) fun z hz => h z (List.mem_cons_of_mem _ hz)
    simp [h y (List.mem_cons_self ..)] at this ⊢
    omega
theorem str_app_le {x y : Str} (h : x.length + y.length ≤ 100) : x.length + y.length ≤ LIM := limB (by omega)
theorem append_len {x y : Str} : (x ++ y).length = x.length + y.length := by rw [str_len, str_append, List.length_append, ← str_len, ← str_len]
theorem namesL {n : Nat} (D : Dk s d l c) (hn : n ≤ 10) (hc : c + 1000 < CM) (k : ∀ (L R : Str) (r : Nat) s', L.length ≤ 3 → R.length ≤ 2 → Strs s' r ((List.range n).map fun i => L ++ Str.ofString (toString ((i : Nat) : Int)) ++ R) → s.length ≤ r → Dk s' d l (c + 10) → Fr [d, l] s s' → Q (.ref r) s') : WE (m__law_names [.ref d, .int n]) s Q E := by
  unfold m__law_names b__law_names
  simp
  refine draw D (by omega) (by omega) (by omega) fun r s1 hr D1 f1 => ?_
  have lt1 := D1.lt
  have e1 : (1 : Int) + r = ((1 + r : Nat) : Int) := by omega
  simp
  rw [e1, rngW_nat (by omega)]
  refine signs (x := "abcdefghijklmnopqrstuvwxyz") D1 (by decide) (by decide) (by decide) (by omega) (by omega) (by simp [wipeL]) (by simp [wipeL]) (by simp [wipeL]) fun ys s2 g2 y1 y2 D2 f2 => ?_
  obtain ⟨j1, j2⟩ := joinE y2
  have hs := sum_ones fun y hy => (y2 y hy).1
  simp [oJoin_strs g2 (x := "") (by rw [hs]; exact Nat.le_trans (show _ ≤ ys.length + ys.length * 0 from Nat.le_of_eq rfl) (limB (by omega)))]
  refine draw D2 (by omega) (by omega) (by omega) fun r2 s3 hr2 D3 f3 => ?_
  simp
  rw [rngW_nat (by omega)]
  refine signs (x := "abcdefghijklmnopqrstuvwxyz") D3 (by decide) (by decide) (by decide) (by omega) (by omega) (by simp [wipeL]) (by simp [wipeL]) (by simp [wipeL]) fun zs s4 g4 z1 z2 D4 f4 => ?_
  obtain ⟨i1, i2⟩ := joinE z2
  have hs2 := sum_ones fun y hy => (z2 y hy).1
  simp [oJoin_strs g4 (x := "") (by rw [hs2]; exact Nat.le_trans (show _ ≤ zs.length + zs.length * 0 from Nat.le_of_eq rfl) (limB (by omega)))]
  rw [rngW_nat (by omega)]
  generalize Txt.join "" ys = L at j1 j2
  generalize Txt.join "" zs = R at i1 i2
  have dg : ∀ i : Nat, i < 10 → (Str.ofString (toString ((i : Nat) : Int))).length = 1 ∧ ∀ c ∈ (Str.ofString (toString ((i : Nat) : Int))).cps.toList, c < 128 := fun i hi => digit ⟨i, hi⟩
  refine lcX_p (xs := rng 0 n) s4 (fun v => match v with | .int i => some (.str (L ++ Str.ofString (toString i) ++ R)) | _ => none) rfl rfl (by simp; omega) ?_ ?_
  · intro v hv acc
    obtain ⟨i, hi⟩ := List.getElem?_of_mem hv
    obtain ⟨hi, rfl⟩ := rng_get hi
    refine ⟨_, rfl, ?_⟩
    have q := dg i (by omega)
    have b1 : ((i : Nat) : Int).natAbs.log2 < 1920 := by
      have : ((i : Nat) : Int).natAbs = i := by omega
      rw [this]
      rcases Nat.eq_zero_or_pos i with z | z
      · subst z; decide
      · have := (Nat.log2_lt (by omega) (n := i) (k := 10)).mpr (by omega)
        omega
    obtain ⟨X, hX⟩ : ∃ X, X = Str.ofString (toString ((i : Nat) : Int)) := ⟨_, rfl⟩
    have ho : ∀ s, oStr [.int ((i : Nat) : Int)] s = some (.str X, s) := fun s => by rw [oStr_int b1, hX]
    have hr : Str.ofString (Int.repr ((i : Nat) : Int)) = X := hX.symm
    rw [← hX] at q
    have b2 : L.length + X.length ≤ LIM := str_app_le (by omega)
    have b3 : (L ++ X).length + R.length ≤ LIM := str_app_le (by rw [append_len]; omega)
    simp [tTrue, wipeL, ho, opAdd_str b2, opAdd_str b3, hr]
  · have e : (rng 0 n).filterMap (fun v => match v with | .int i => some (Vl.str (L ++ Str.ofString (toString i) ++ R)) | _ => none) = ((List.range n).map fun i : Nat => L ++ Str.ofString (toString ((i : Nat) : Int)) ++ R).map Vl.str := by
      unfold rng
      rw [List.filterMap_map, List.map_map, ← List.filterMap_eq_map]
      congr 1
      funext i
      simp
    rw [e]
    refine k L R s4.length _ (by omega) (by omega) ⟨get_last, ?_, by simp; omega⟩ ?_ ((D4.new (Fr.refl.push _)).mono (by omega)) ((((f1.trans f2).trans f3).trans f4).push _)
    · intro x hx
      obtain ⟨i, hi, rfl⟩ := List.mem_map.mp hx
      simp at hi
      exact (nice3 ⟨by omega, j2⟩ (dg i (by omega)) ⟨by omega, i2⟩).1
    · exact (((f1.trans f2).trans f3).trans f4).le
theorem names {n : Nat} (D : Dk s d l c) (hn : n ≤ 10) (hc : c + 1000 < CM) (k : ∀ (L R : Str) (r : Nat) s', Strs s' r ((List.range n).map fun i => L ++ Str.ofString (toString ((i : Nat) : Int)) ++ R) → s.length ≤ r → Dk s' d l (c + 10) → Fr [d, l] s s' → Q (.ref r) s') : WE (m__law_names [.ref d, .int n]) s Q E :=
  namesL D hn hc fun L R r s' _ _ => k L R r s'
end
end K56

/-! S55: sorted lists of pairs of ints; x in l of deep data -/
namespace Sm
open PySem PySem.Spec PyProof.Rows L2
abbrev lexL (p q : Int × Int) : Prop := p.1 < q.1 ∨ (p.1 = q.1 ∧ p.2 < q.2)
def insP (p : Int × Int) : List (Int × Int) → List (Int × Int)
  | [] => [p]
  | q :: r => if lexL q p then q :: insP p r else p :: q :: r
def srtP : List (Int × Int) → List (Int × Int)
  | [] => []
  | p :: r => insP p (srtP r)
abbrev SrtdP (l : List (Int × Int)) : Prop := l.Pairwise fun x y => ¬ lexL y x
def prV (p : Int × Int) : Vl := .tup [.int p.1, .int p.2]
def asPair : Vl → Option (Int × Int)
  | .tup [.int i, .int j] => some (i, j)
  | _ => none
@[simp] theorem mapO_prV : ∀ ps : List (Int × Int), mapO asPair (ps.map prV) = some ps
  | [] => rfl
  | p :: ps => by
    have e : asPair (prV p) = some p := rfl
    simp only [List.map_cons, mapO, e, mapO_prV ps]
def oSortP : OC
  | [.ref j], s => match s[j]? with
    | some (.lst xs) => match mapO asPair xs with
      | some ps => some (.ref s.length, s ++ [.lst ((srtP ps).map prV)])
      | none => none
    | _ => none
  | _, _ => none
@[simp] theorem oSortP_lst {s : Sto} {a : Nat} {ps : List (Int × Int)} (h : s[a]? = some (.lst (ps.map prV))) : oSortP [.ref a] s = some (.ref s.length, s ++ [.lst ((srtP ps).map prV)]) := by simp [oSortP, h]
section
variable {X : Cx} {T : Tb}
def rSortPT (K : PySem.W.Frag) : List V → Hp → VK → Prop := fun vs H Q => ∃ (a : Addr) (xs : List V) (k : V → Int × Int), vs = [V.ref a] ∧ SqL K H a xs ∧ (∀ x ∈ xs, ∃ t, x = V.ref t ∧ SqT K H t [.int (k x).1, .int (k x).2]) ∧
  ∀ ys p, SrtO.Srtd (ltP k) ys → SrtO.Stb (ltP k) ys xs → H p = none → Q (.ref p) (upd H p (.lst ys))
theorem RVs.pairs {ρ : List Addr} {H : Hp} : ∀ {ps : List (Int × Int)} {vs : List V}, RVs T ρ H (ps.map prV) vs → ∀ x ∈ vs, ∃ (p : Int × Int) (t : Addr), x = V.ref t ∧ SqT T.K H t [.int p.1, .int p.2]
  | [], _, h, x, hx => by cases h; simp at hx
  | p :: ps, _, h, x, hx => by
    cases h with
    | cons h1 h2 =>
      rcases List.mem_cons.mp hx with rfl | hx
      · obtain ⟨t, vs, rfl, q1, q2⟩ := h1.tupE
        obtain ⟨y, z, rfl, hy, hz⟩ := q2.two
        rw [hy.intE, hz.intE] at q1
        exact ⟨p, t, rfl, q1⟩
      · exact RVs.pairs h2 x hx
theorem RVs.keys {ρ : List Addr} {H : Hp} {k : V → Int × Int} (inj : ∀ t (p q : Int × Int), SqT T.K H t [.int p.1, .int p.2] → SqT T.K H t [.int q.1, .int q.2] → p = q) : ∀ {ps : List (Int × Int)} {vs : List V}, RVs T ρ H (ps.map prV) vs → (∀ x ∈ vs, ∃ t, x = V.ref t ∧ SqT T.K H t [.int (k x).1, .int (k x).2]) → vs.map k = ps
  | [], _, h, _ => by cases h; rfl
  | p :: ps, _, h, hk => by
    cases h with
    | cons h1 h2 =>
      obtain ⟨t, vs, rfl, q1, q2⟩ := h1.tupE
      obtain ⟨y, z, rfl, hy, hz⟩ := q2.two
      rw [hy.intE, hz.intE] at q1
      obtain ⟨t', e, q3⟩ := hk _ (List.mem_cons_self ..)
      cases e
      rw [List.map_cons, RVs.keys inj h2 fun x hx => hk x (List.mem_cons_of_mem _ hx), inj t _ _ q3 q1]
/-! x in l, deep data -/
def inD (x y : Vl) (s : Sto) : Option Bool := match toD 40 s x, toD 40 s y with
  | some d, some (.list ds) => if d.canLay0 && (PyData.list ds).canLay0 then some (ds.any fun z => PyData.eqv z d) else none
  | _, _ => none
def opInD : O2 := fun x y s => match inD x y s with
  | some b => some (.bl b, s)
  | none => none
def opNotInD : O2 := fun x y s => match inD x y s with
  | some b => some (.bl (!b), s)
  | none => none
end
end Sm

/-! S56: what is reached, what comes to a cell, what a moment clears; plain Lean -/
namespace Sm
open PySem L2
/-- the cells that a row of fields holds -/
def heldR (r : List (Str × Option (Nat × Bool))) : List Nat := r.filterMap fun p => match p.2 with
  | some (c, true) => some c
  | _ => none
def Mt.held (M : Mt) (h : Nat) : List Nat := heldR (M.row h)
inductive Mt.Rc (M : Mt) (S : Nat → Prop) : Nat → Prop
  | base {x : Nat} : S x → Mt.Rc M S x
  | step {x y : Nat} : Mt.Rc M S x → y ∈ M.held x → Mt.Rc M S y
inductive Mt.Cm (M : Mt) (w : Nat) : Nat → Prop
  | base : Mt.Cm M w w
  | step {x y : Nat} : x < M.cont.length → M.lost[x]? = some false → y ∈ M.held x → Mt.Cm M w y → Mt.Cm M w x
def Mt.start (M : Mt) (c : Nat) : Prop := c ∈ M.kept ∨ ∃ p ∈ M.stands, p.2 = some c
abbrev Mt.Reached (M : Mt) (c : Nat) : Prop := M.Rc M.start c
/-- the cells that are cleared now, if ws are wanted -/
def Mt.Goes (M : Mt) (ws : List Nat) (c : Nat) : Prop := ∃ w ∈ ws, M.lost[w]? = some false ∧ ¬ M.Reached w ∧ M.Cm w c
noncomputable def pick (n : Nat) (P : Nat → Prop) : List Nat := (List.range n).filter fun c => @decide (P c) (Classical.propDecidable _)
noncomputable def Mt.gone (M : Mt) (ws : List Nat) : List Nat := pick M.cont.length (M.Goes ws)
def Mt.clear (M : Mt) (l : List Nat) : Mt := { M with lost := l.foldl (fun a c => a.set c true) M.lost, clr := M.clr ++ l.map fun c => (M.moment, c) }
noncomputable def Mt.begin (want : Int → List Nat) (shut : Int → Bool) (M : Mt) : Mt := if shut M.place then M else M.clear (M.gone (want M.moment))
theorem mem_pick {n c : Nat} {P : Nat → Prop} : c ∈ pick n P ↔ c < n ∧ P c := by
  unfold pick
  rw [List.mem_filter, List.mem_range, @decide_eq_true_iff (P c) (Classical.propDecidable _)]
theorem pick_inc {n : Nat} {P : Nat → Prop} : (pick n P).Pairwise (· < ·) := List.Pairwise.filter _ List.pairwise_lt_range
theorem pick_nodup {n : Nat} {P : Nat → Prop} : (pick n P).Nodup := pick_inc.imp fun h => Nat.ne_of_lt h
section
variable {M : Mt} {B : Nat}
theorem mem_heldR {r : List (Str × Option (Nat × Bool))} {c : Nat} : c ∈ heldR r ↔ ∃ p ∈ r, p.2 = some (c, true) := by
  unfold heldR
  rw [List.mem_filterMap]
  constructor
  · rintro ⟨p, hp, e⟩
    refine ⟨p, hp, ?_⟩
    split at e
    · rename_i d q; cases e; exact q
    · cases e
  · rintro ⟨p, hp, e⟩
    exact ⟨p, hp, by rw [e]⟩
theorem MOk.held (O : MOk B M) {h c : Nat} (hc : c ∈ M.held h) : c < M.cont.length := by
  unfold Mt.held Mt.row at hc
  cases e : M.cont[h]? with
  | none => rw [e] at hc; simp [heldR] at hc
  | some r =>
    rw [e] at hc
    obtain ⟨p, hp, q⟩ := mem_heldR.mp hc
    exact (O.rws r (List.mem_of_getElem? e)).2 p hp _ q
theorem MOk.cm_lt (O : MOk B M) {w c : Nat} (hw : M.lost[w]? = some false) (h : M.Cm w c) : c < M.cont.length ∧ M.lost[c]? = some false := by
  cases h with
  | base =>
    have := (List.getElem?_eq_some_iff.mp hw).1
    rw [O.ll] at this
    exact ⟨this, hw⟩
  | step a b _ _ => exact ⟨a, b⟩
theorem MOk.goes (O : MOk B M) {ws : List Nat} {c : Nat} (h : M.Goes ws c) : c < M.cont.length ∧ M.lost[c]? = some false := by
  obtain ⟨w, _, h1, _, h3⟩ := h
  exact O.cm_lt h1 h3
theorem count_set : ∀ {l : List Bool} {c : Nat}, l[c]? = some false → (l.set c true).count true = l.count true + 1
  | [], c, h => by simp at h
  | b :: l, 0, h => by
    simp at h
    subst h
    simp
  | b :: l, c + 1, h => by
    have := count_set (l := l) (c := c) (by simpa using h)
    simp only [List.set_cons_succ, List.count_cons, this]
    omega
theorem clear_len : ∀ {l : List Nat} {a : List Bool}, (l.foldl (fun a c => a.set c true) a).length = a.length
  | [], a => rfl
  | c :: l, a => by
    rw [List.foldl_cons, clear_len]
    simp
theorem clear_count : ∀ {l : List Nat} {a : List Bool}, l.Nodup → (∀ c ∈ l, a[c]? = some false) → (l.foldl (fun a c => a.set c true) a).count true = a.count true + l.length
  | [], a, _, _ => rfl
  | c :: l, a, nd, h => by
    obtain ⟨n1, n2⟩ := List.nodup_cons.mp nd
    rw [List.foldl_cons, clear_count n2 fun d hd => ?_, count_set (h c (List.mem_cons_self ..)), List.length_cons]
    · omega
    · rw [List.getElem?_set_ne (fun e => n1 (by rw [e]; exact hd))]
      exact h d (List.mem_cons_of_mem _ hd)
theorem clear_get : ∀ {l : List Nat} {a : List Bool} {c : Nat}, (l.foldl (fun a c => a.set c true) a)[c]? = if c ∈ l then (a[c]?).map fun _ => true else a[c]?
  | [], a, c => by simp
  | d :: l, a, c => by
    rw [List.foldl_cons, clear_get]
    by_cases e : d = c
    · subst e
      by_cases hd : d < a.length
      · simp [List.getElem?_set_self hd, List.getElem?_eq_getElem hd]
      · have h1 : (a.set d true)[d]? = none := List.getElem?_eq_none (by rw [List.length_set]; omega)
        have h2 : a[d]? = none := List.getElem?_eq_none (by omega)
        simp [h1, h2]
    · rw [List.getElem?_set_ne e]
      simp [Ne.symm e]
theorem MOk.clear (O : MOk B M) {l : List Nat} (nd : l.Nodup) (h : ∀ c ∈ l, M.lost[c]? = some false) : MOk B (M.clear l) := by
  obtain ⟨a1, a2, a3, a4, a5, a6, a7, a8, a9, a10, a11, a12, a13⟩ := O
  refine ⟨a1, a2, a3, ?_, a5, a6, a7, a8, a9, a10, ?_, a12, a13⟩
  · show (l.foldl (fun a c => a.set c true) M.lost).length = _
    rw [clear_len]; exact a4
  · show (M.clr ++ l.map fun c => (M.moment, c)).length ≤ (l.foldl (fun a c => a.set c true) M.lost).count true
    rw [clear_count nd h, List.length_append, List.length_map]
    omega
theorem MOk.begin (O : MOk B M) {want : Int → List Nat} {shut : Int → Bool} : MOk B (M.begin want shut) := by
  unfold Mt.begin
  split
  · exact O
  · exact O.clear pick_nodup fun c hc => (O.goes (mem_pick.mp hc).2).2
/-- what is not yet gone through of the fields -/
def potL : List (List (Str × Option (Nat × Bool))) → List Bool → Nat
  | r :: rs, b :: bs => (if b then 0 else r.length) + potL rs bs
  | _, _ => 0
end
end Sm

/-! S57: d.setdefault(k, x), computed; a plan's wishes -/
namespace Sm
open PySem L2
section
variable {s : Sto} {lo : Lo} {QV : Vl → Sto → Prop} {E : Ex → Sto → Prop}
def setW (j : Nat) (y z : Vl) (s : Sto) (QV : Vl → Sto → Prop) : Prop := match s[j]?, keyOf y with
  | some (.dic kvs), some key => kvs.length < LIM ∧ match look kvs key with
    | some w => QV w s
    | none => QV z (s.set j (.dic (put kvs key z)))
  | _, _ => False
@[simp ↓] theorem WE_eDSet {d k v : EM} : WE (eDSet d k v lo) s QV E = WE (d lo) s (fun x s => dicW x s fun j => WE (k lo) s (fun y s => WE (v lo) s (fun z s => setW j y z s QV) E) E) E := by
  unfold eDSet
  rw [WE_bnd]
  refine WE_ext fun x s => ?_
  cases x <;> try (simp only [WE_eq]; rfl)
  rename_i j
  unfold dicW
  by_cases h : isDic j s = true
  · simp only [h, true_and]
    refine Eq.trans (b := WE (bnd (k lo) fun y => bnd (v lo) fun z s => match s[j]?, keyOf y with | some (.dic kvs), some key => if kvs.length < LIM then (match look kvs key with | some w => .ok w s | none => .ok z (s.set j (.dic (put kvs key z)))) else .fail | _, _ => .fail) s QV E) ?_ ?_
    · simp only [WE_eq]; unfold WE0; simp only [h, if_true] <;> rfl
    · rw [WE_bnd]
      refine WE_ext fun y s => ?_
      rw [WE_bnd]
      refine WE_ext fun z s => ?_
      simp only [WE_eq]
      unfold WE0 setW
      dsimp only
      cases s[j]? with
      | none => rfl
      | some o =>
        cases o <;> cases keyOf y <;> try rfl
        rename_i kvs key
        by_cases hl : kvs.length < LIM
        · simp only [hl, if_true, true_and]
          cases look kvs key <;> rfl
        · simp only [hl, if_false, false_and]
  · simp only [h, false_and, Bool.false_eq_true]
    simp only [WE_eq]; unfold WE0; simp only [h, if_false, Bool.false_eq_true]
end
/-- the cells that a plan names at a moment -/
def wantF (pl : List (Int × Nat)) (m : Int) : List Nat := (pl.filter fun p => decide (p.1 = m)).map (·.2)
end Sm

/-! S60: cells without fields, their wishes, a plan; plain Lean -/
namespace Sm
open PySem L2
theorem execL_app2 {bg : Mt → Mt} {bits : List Int} : ∀ {a b : List Stm} {p : Nat} {M M' : Mt}, execL bg bits a p M = .ok () M' → execL bg bits (a ++ b) p M = execL bg bits b (p + Stm.cnts a) M'
  | [], b, p, M, M', h => by
    simp only [execL] at h
    cases h
    simp [Stm.cnts]
  | x :: a, b, p, M, M', h => by
    simp only [List.cons_append, execL] at h ⊢
    cases e : exec1 bg bits x p (M.enter bg p) with
    | stop y M1 => rw [e] at h; cases h
    | ok u M1 =>
      rw [e] at h
      simp only at h ⊢
      rw [execL_app2 h]
      have : p + x.cnt + Stm.cnts a = p + Stm.cnts (x :: a) := by simp only [Stm.cnts]; omega
      rw [this]
/-! ### the questions of a wished test -/
def dueC (w : Str) (W : List (Option Str)) (dead : Nat → Bool) : Nat → Bool × List Bool
  | 0 => (false, [])
  | i + 1 => if (W[i]?).join = some w ∧ (dueC w W dead i).1 = false then (dead i, (dueC w W dead i).2 ++ [dead i]) else dueC w W dead i
section
variable {w : Str} {W : List (Option Str)} {dead : Nat → Bool}
theorem due_succ {i : Nat} : dueC w W dead (i + 1) = if (W[i]?).join = some w ∧ (dueC w W dead i).1 = false then (dead i, (dueC w W dead i).2 ++ [dead i]) else dueC w W dead i := rfl
theorem due_len : ∀ {i : Nat}, (dueC w W dead i).2.length ≤ i
  | 0 => Nat.le_refl _
  | i + 1 => by
    have := due_len (i := i)
    unfold dueC
    split <;> simp <;> omega
theorem due_true {i : Nat} (h : (dueC w W dead i).1 = true) : ∀ k, dueC w W dead (i + k) = dueC w W dead i
  | 0 => rfl
  | k + 1 => by
    have ih := due_true h k
    show dueC w W dead (i + k + 1) = _
    rw [due_succ, ih, h, if_neg (by simp)]
theorem wished_due {rep0 : List Bool} (hr : rep0.length + W.length ≤ 200) : ∀ (R : List (Option Str)) (i : Nat) (M : Mt), W.drop i = R → M.rep = rep0 ++ (dueC w W dead i).2 → (dueC w W dead i).1 = false → (∀ j, j < W.length → (M.lost[j]?).getD false = dead j) →
    Mt.wishedF w R i M = .ok (dueC w W dead W.length).1 { M with rep := rep0 ++ (dueC w W dead W.length).2 }
  | [], i, M, h, h1, h2, _ => by
    have hi : W.length ≤ i := by
      have := congrArg List.length h
      rw [List.length_drop, List.length_nil] at this
      omega
    have e : dueC w W dead i = dueC w W dead W.length := by
      have : ∀ k, dueC w W dead (W.length + k) = dueC w W dead W.length := by
        intro k
        induction k with
        | zero => rfl
        | succ k ih =>
          show dueC w W dead (W.length + k + 1) = _
          rw [due_succ, List.getElem?_eq_none (by omega), if_neg (by simp), ih]
      have := this (i - W.length)
      rwa [show W.length + (i - W.length) = i by omega] at this
    unfold Mt.wishedF
    rw [← e, h2, ← h1]
  | o :: R, i, M, h, h1, h2, h3 => by
    have hi : i < W.length := by
      have := congrArg List.length h
      rw [List.length_drop, List.length_cons] at this
      omega
    have ho : W[i]? = some o := by
      have := congrArg (fun l => l[0]?) h
      simpa using this
    have hR : W.drop (i + 1) = R := by
      have := congrArg (fun l => l.drop 1) h
      simpa [List.drop_drop, Nat.add_comm] using this
    have es : dueC w W dead (i + 1) = if o = some w then (dead i, (dueC w W dead i).2 ++ [dead i]) else dueC w W dead i := by
      have : dueC w W dead (i + 1) = if (W[i]?).join = some w ∧ (dueC w W dead i).1 = false then (dead i, (dueC w W dead i).2 ++ [dead i]) else dueC w W dead i := rfl
      rw [this, ho, h2]
      simp
    unfold Mt.wishedF
    by_cases e : o = some w
    · rw [if_pos e] at es
      rw [if_pos e]
      have hl := due_len (w := w) (W := W) (dead := dead) (i := i)
      have nl : ¬ 200 ≤ M.rep.length := by rw [h1, List.length_append]; omega
      unfold Mt.askC
      rw [if_neg nl, h3 i hi]
      cases hd : dead i with
      | true =>
        simp only
        rw [hd] at es
        have := due_true (w := w) (W := W) (dead := dead) (i := i + 1) (by rw [es]) (W.length - (i + 1))
        rw [show i + 1 + (W.length - (i + 1)) = W.length by omega] at this
        rw [this, es, h1, List.append_assoc]
      | false =>
        simp only
        rw [hd] at es
        rw [wished_due hr R (i + 1) _ hR (by rw [es]; simp only; rw [h1, List.append_assoc]) (by rw [es]) (by simpa using h3)]
    · rw [if_neg e] at es
      rw [if_neg e]
      exact wished_due hr R (i + 1) M hR (by rw [es]; exact h1) (by rw [es]; exact h2) h3
end
/-! ### cells without fields -/
theorem putT_new {α : Type} {x : Str} {v : α} : ∀ {l : List (Str × α)}, (∀ p ∈ l, p.1 ≠ x) → putT l x v = l ++ [(x, v)]
  | [], _ => rfl
  | p :: l, h => by
    unfold putT
    rw [if_neg (h p (List.mem_cons_self ..)), putT_new fun q hq => h q (List.mem_cons_of_mem _ hq)]
    rfl
theorem getT_map {α : Type} {F : Nat → Str} {g : Nat → α} {d : Nat} : ∀ {l : List Nat}, d ∈ l → (∀ a ∈ l, F a = F d → a = d) → getT (l.map fun c => (F c, g c)) (F d) = some (g d)
  | [], h, _ => by simp at h
  | c :: l, h, hF => by
    simp only [List.map_cons]
    unfold getT
    by_cases e : c = d
    · subst e; rw [if_pos rfl]
    · rw [if_neg (fun z => e (hF c (List.mem_cons_self ..) z))]
      exact getT_map ((List.mem_cons.mp h).resolve_left (fun z => e z.symm)) fun a ha => hF a (List.mem_cons_of_mem _ ha)
/-- n cells, their names F, dropped ones D -/
structure AtW (n : Nat) (F : Nat → Str) (D : Nat → Bool) (W : List (Option Str)) (lost rep : List Bool) (said : List Said) (clr : List (Int × Nat)) (t : Int) (M : Mt) : Prop where
  st : M.stands = (List.range n).map fun c => (F c, if D c then none else some c)
  kp : M.kept = []
  co : M.cont = List.replicate n []
  wi : M.wish = W
  lo : M.lost = lost
  re : M.rep = rep
  sa : M.said = said
  cl : M.clr = clr
  mo : M.moment = t
section
variable {n : Nat} {F : Nat → Str} {D : Nat → Bool} {W : List (Option Str)} {lost rep : List Bool} {said : List Said} {clr : List (Int × Nat)} {t : Int} {M : Mt}
theorem AtW.held (A : AtW n F D W lost rep said clr t M) (h : Nat) : M.held h = [] := by
  unfold Mt.held Mt.row
  rw [A.co]
  by_cases e : h < n
  · rw [List.getElem?_replicate_of_lt e]; rfl
  · rw [List.getElem?_eq_none (by simp; omega)]; rfl
theorem AtW.start (A : AtW n F D W lost rep said clr t M) {c : Nat} (hc : c < n) : M.start c ↔ D c = false := by
  unfold Mt.start
  rw [A.kp, A.st]
  simp only [List.not_mem_nil, false_or, List.mem_map, List.mem_range]
  constructor
  · rintro ⟨p, ⟨d, hd, rfl⟩, e⟩
    cases q : D d with
    | true => rw [q] at e; simp at e
    | false =>
      rw [q] at e
      simp at e
      rw [← e]; exact q
  · intro h
    exact ⟨_, ⟨c, hc, rfl⟩, by rw [h]; rfl⟩
theorem AtW.reached (A : AtW n F D W lost rep said clr t M) {c : Nat} (hc : c < n) : M.Reached c ↔ D c = false := by
  rw [← A.start hc]
  constructor
  · intro h
    cases h with
    | base h => exact h
    | step _ h => rw [A.held] at h; simp at h
  · exact .base
theorem AtW.cm (A : AtW n F D W lost rep said clr t M) {w c : Nat} : M.Cm w c ↔ c = w := by
  constructor
  · intro h
    cases h with
    | base => rfl
    | step _ _ h _ => rw [A.held] at h; simp at h
  · rintro rfl; exact .base
/-- the cells that a moment clears -/
def goneW (n : Nat) (D : Nat → Bool) (lost : List Bool) (ws : List Nat) : List Nat := (List.range n).filter fun c => decide (c ∈ ws) && (lost[c]? == some false) && D c
theorem AtW.gone (A : AtW n F D W lost rep said clr t M) (ws : List Nat) : M.gone ws = goneW n D lost ws := by
  unfold Mt.gone goneW pick
  rw [A.co, List.length_replicate]
  refine List.filter_congr fun c hc => ?_
  have hc := List.mem_range.mp hc
  rw [Bool.eq_iff_iff, @decide_eq_true_iff _ (Classical.propDecidable _)]
  simp only [Bool.and_eq_true, decide_eq_true_eq, beq_iff_eq]
  unfold Mt.Goes
  rw [A.lo]
  constructor
  · rintro ⟨w, h1, h2, h3, h4⟩
    have := A.cm.mp h4
    subst this
    refine ⟨⟨h1, h2⟩, ?_⟩
    cases q : D c with
    | true => rfl
    | false => exact absurd ((A.reached hc).mpr q) h3
  · rintro ⟨⟨h1, h2⟩, h3⟩
    exact ⟨c, h1, h2, fun z => (by rw [(A.reached hc).mp z] at h3; cases h3), A.cm.mpr rfl⟩
theorem AtW.enter (A : AtW n F D W lost rep said clr t M) {want : Int → List Nat} {shut : Int → Bool} (hs : ∀ p, shut p = false) {p : Nat} :
    AtW n F D W ((goneW n D lost (want (t + 1))).foldl (fun a c => a.set c true) lost) rep said (clr ++ (goneW n D lost (want (t + 1))).map fun c => (t + 1, c)) (t + 1) (M.enter (Mt.begin want shut) p) := by
  obtain ⟨a1, a2, a3, a4, a5, a6, a7, a8, a9⟩ := A
  have A1 : AtW n F D W lost rep said clr (t + 1) { M with place := (p : Int), moment := M.moment + 1 } := ⟨a1, a2, a3, a4, a5, a6, a7, a8, by rw [← a9]⟩
  unfold Mt.enter Mt.begin
  rw [hs]
  simp only [Bool.false_eq_true, if_false]
  have e := A1.gone (want (M.moment + 1))
  rw [e, a9]
  exact ⟨a1, a2, a3, a4, by rw [← a5]; rfl, a6, a7, by rw [← a8]; rfl, rfl⟩
theorem AtW.cell (A : AtW n F D W lost rep said clr t M) (hF : ∀ a b, a < n → b < n → F a = F b → a = b) {c : Nat} (hc : c < n) : M.cell (F c) = if D c then none else some c := by
  unfold Mt.cell
  rw [A.st, getT_map (g := fun c => if D c then none else some c) (List.mem_range.mpr hc) fun a ha e => hF a c (List.mem_range.mp ha) hc e]
  rfl
end
end Sm

/-! S140: pure rules of dicts with tuple keys -/
namespace Sm
open PySem L2
section
variable {s : Sto} {lo : Lo} {QV : Vl → Sto → Prop} {E : Ex → Sto → Prop} {j : Nat} {kvs : List (List Key × Vl)}
@[simp ↓] theorem WE_eDict0T : WE (eDict0T lo) s QV E = QV (.ref s.length) (s ++ [.dit []]) := by simp only [WE_eq]; rfl
def ditW (x : Vl) (s : Sto) (P : Nat → Prop) : Prop := match x with
  | .ref j => isDit j s = true ∧ P j
  | _ => False
@[simp] theorem ditW_ref {P : Nat → Prop} (h : s[j]? = some (.dit kvs)) : ditW (.ref j) s P = P j := by simp [ditW, isDit, h]
def getWT (j : Nat) (ys : List Vl) (s : Sto) (P : List (List Key × Vl) → List Key → Prop) : Prop := match s[j]?, mapO keyOf ys with
  | some (.dit kvs), some key => ys.length ≤ LIM ∧ P kvs key
  | _, _ => False
theorem two_lim : 2 ≤ LIM := limB (by omega)
@[simp] theorem getWT_is {i : Int} {x : Str} {P : List (List Key × Vl) → List Key → Prop} (h : s[j]? = some (.dit kvs)) : getWT j [.int i, .str x] s P = P kvs [.inl i, .inr x] := by
  simp [getWT, h, mapO, keyOf, two_lim]
@[simp] theorem getWT_ii {i k : Int} {P : List (List Key × Vl) → List Key → Prop} (h : s[j]? = some (.dit kvs)) : getWT j [.int i, .int k] s P = P kvs [.inl i, .inl k] := by
  simp [getWT, h, mapO, keyOf, two_lim]
@[simp ↓] theorem WE_eDGetT {d : EM} {k : AM} : WE (eDGetT d k lo) s QV E = WE (d lo) s (fun x s => ditW x s fun j => WE (k lo) s (fun ys s => getWT j ys s fun kvs key => QV ((look kvs key).getD .non) s) E) E := by
  unfold eDGetT
  rw [WE_bnd]
  refine WE_ext fun x s => ?_
  cases x <;> try (simp only [WE_eq]; rfl)
  rename_i j
  unfold ditW
  by_cases h : isDit j s = true
  · simp only [h, true_and]
    refine Eq.trans (b := WE (bnd (k lo) fun ys s => match s[j]?, mapO keyOf ys with | some (.dit kvs), some key => (if ys.length ≤ LIM then .ok ((look kvs key).getD .non) s else .fail) | _, _ => .fail) s QV E) ?_ ?_
    · simp only [WE_eq]; unfold WE0; simp only [h, if_true] <;> rfl
    · rw [WE_bnd]
      refine WE_ext fun ys s => ?_
      simp only [WE_eq]
      unfold WE0 getWT
      dsimp only
      cases s[j]? with
      | none => rfl
      | some o =>
        cases o <;> cases mapO keyOf ys <;> try rfl
        simp only
        by_cases q : ys.length ≤ LIM
        · simp [q]
        · simp [q]
  · simp only [h, false_and, Bool.false_eq_true]
    simp only [WE_eq]; unfold WE0; simp only [h, if_false, Bool.false_eq_true]
@[simp ↓] theorem WG_gSbT {o : EM} {i : AM} {v : Vl} {N : Lo → Sto → Prop} : WG (gSbT o i) v lo s N E = WE (o lo) s (fun x s => WE (i lo) s (fun ys s => match putTT x ys v s with | some s' => N lo s' | none => False) E) E := by
  simp only [WG_eq]
  unfold gSbT
  rw [WE_bnd]
  refine WE_ext fun x s => ?_
  rw [WE_bnd]
  refine WE_ext fun ys s => ?_
  simp only [WE_eq]
  unfold WE0 liftU
  cases putTT x ys v s <;> rfl
theorem putTT_is {i : Int} {x : Str} {v : Vl} (h : s[j]? = some (.dit kvs)) (hl : kvs.length < LIM) : putTT (.ref j) [.int i, .str x] v s = some (s.set j (.dit (putA kvs [.inl i, .inr x] v))) := by
  simp [putTT, h, mapO, keyOf, two_lim, hl]
end
section
variable {κ : Type} [DecidableEq κ]
theorem look_putA {kvs : List (κ × Vl)} {k k' : κ} {v : Vl} : look (putA kvs k v) k' = if k = k' then some v else look kvs k' := by
  have any : ∀ l : List (κ × Vl), (l.any fun kv => decide (kv.1 = k)) = true → k = k' → look (l.map fun kv => if kv.1 = k then (kv.1, v) else kv) k' = some v := by
    intro l
    induction l with
    | nil => intro h; simp at h
    | cons p r ih =>
      intro h e
      rw [List.map_cons]
      unfold look
      by_cases q : p.1 = k
      · rw [if_pos q]
        simp only
        rw [if_pos (q.trans e)]
      · rw [if_neg q, if_neg (fun z => q (z.trans e.symm))]
        rw [List.any_cons, decide_eq_false q, Bool.false_or] at h
        exact ih h e
  have oth : ∀ l : List (κ × Vl), k ≠ k' → look (l.map fun kv => if kv.1 = k then (kv.1, v) else kv) k' = look l k' := by
    intro l h
    induction l with
    | nil => rfl
    | cons p r ih =>
      rw [List.map_cons]
      unfold look
      by_cases q : p.1 = k
      · rw [if_pos q]
        simp only
        rw [if_neg (fun z => h (q.symm.trans z)), if_neg (fun z => h (q.symm.trans z)), ih]
      · rw [if_neg q]
        split
        · rfl
        · exact ih
  have app : ∀ l : List (κ × Vl), ¬ (l.any fun kv => decide (kv.1 = k)) = true → look (l ++ [(k, v)]) k' = if k = k' then some v else look l k' := by
    intro l
    induction l with
    | nil => intro _; simp [look]
    | cons p r ih =>
      intro h
      rw [List.any_cons] at h
      have h1 : ¬ p.1 = k := fun z => h (by rw [decide_eq_true z, Bool.true_or])
      have h2 : ¬ (r.any fun kv => decide (kv.1 = k)) = true := fun z => h (by rw [z, Bool.or_true])
      rw [List.cons_append]
      unfold look
      rw [ih h2]
      by_cases e : k = k'
      · subst e
        simp [h1]
      · simp [e]
  unfold putA
  split
  · rename_i h
    by_cases e : k = k'
    · rw [if_pos e]; exact any kvs h e
    · rw [if_neg e]; exact oth kvs e
  · rename_i h
    exact app kvs h
theorem putA_len {kvs : List (κ × Vl)} {k : κ} {v : Vl} : (putA kvs k v).length ≤ kvs.length + 1 := by
  unfold putA
  split <;> simp
end
end Sm

/-! S141: k56: cells with a name each, their fields; plain Lean -/
namespace Sm
open PySem L2
/-- what is in a field -/
def inV : Option (Nat × Bool) → Vl
  | none => .non
  | some p => .int (p.1 : Nat)
structure W56 (nm : Nat → Str) (n : Nat) (M : Mt) (kvs : List (List Key × Vl)) : Prop where
  cell : ∀ c, c < n → M.cell (nm c) = some c
  co : M.cont.length = n
  lo : ∀ b ∈ M.lost, b = false
  fld : ∀ c, c < n → ∀ f : Str, (look kvs [.inl ((c : Nat) : Int), .inr f]).getD .non = inV (M.fld c f)
  clr : M.clr = []
/-- one more statement executed -/
structure St56 (nm : Nat → Str) (n : Nat) (M : Mt) (x : Stm) (p : Nat) (M' : Mt) (kvs : List (List Key × Vl)) (new : List Said) (k : Nat) : Prop where
  ex : execL id [] [x] p M = .ok () M'
  w : W56 nm n M' kvs
  said : M'.said = M.said ++ new
  rep : M'.rep = M.rep ++ List.replicate k false
section
variable {nm : Nat → Str} {n p h c : Nat} {M : Mt} {kvs : List (List Key × Vl)} {f z : Str}
theorem W56.same (W : W56 nm n M kvs) {M' : Mt} (h1 : M'.stands = M.stands) (h2 : M'.cont = M.cont) (h3 : M'.lost = M.lost) (h4 : M'.clr = M.clr) : W56 nm n M' kvs := by
  refine ⟨fun c hc => ?_, by rw [h2]; exact W.co, by rw [h3]; exact W.lo, fun c hc f => ?_, by rw [h4]; exact W.clr⟩
  · have := W.cell c hc
    unfold Mt.cell at this ⊢
    rw [h1]; exact this
  · have := W.fld c hc f
    unfold Mt.fld Mt.row at this ⊢
    rw [h2]; exact this
theorem fld_fill {h' : Nat} {f' : Str} {v : Option (Nat × Bool)} (hh : h < M.cont.length) : (M.fill h f v).fld h' f' = if h = h' ∧ f = f' then v else M.fld h' f' := by
  unfold Mt.fld Mt.row Mt.fill
  simp only
  by_cases e : h = h'
  · subst e
    rw [List.getElem?_set_self hh]
    simp only [Option.getD_some, get_put]
    by_cases e2 : f = f'
    · simp [e2]
    · simp [e2, Mt.row]
  · rw [List.getElem?_set_ne e, if_neg (fun z => e z.1)]
theorem W56.fill (W : W56 nm n M kvs) (hh : h < n) {v : Option (Nat × Bool)} : W56 nm n (M.fill h f v) (putA kvs [.inl ((h : Nat) : Int), .inr f] (inV v)) := by
  refine ⟨W.cell, by show (M.cont.set _ _).length = n; rw [List.length_set]; exact W.co, W.lo, fun c hc g => ?_, W.clr⟩
  rw [look_putA, fld_fill (by rw [W.co]; exact hh)]
  by_cases e : h = c ∧ f = g
  · obtain ⟨rfl, rfl⟩ := e
    simp
  · have e2 : ¬ ([(.inl ((h : Nat) : Int) : Key), .inr f] = [.inl ((c : Nat) : Int), .inr g]) := fun q => by
      simp at q
      exact e ⟨by omega, q.2⟩
    rw [if_neg e, if_neg e2]
    exact W.fld c hc g
theorem W56.enter (W : W56 nm n M kvs) : W56 nm n (M.enter id p) kvs := W.same rfl rfl rfl rfl
theorem exec_one {x : Stm} {M' : Mt} (hx : x.ins = []) (h : (M.enter id p).deed [] x = .ok () M') : execL id [] [x] p M = .ok () M'.fin := by
  have e : exec1 id [] x p (M.enter id p) = ((M.enter id p).deed [] x).fin := by
    cases x <;> simp [Stm.ins] at hx <;> simp only [exec1]
  simp only [execL, e, h, Out.fin]
theorem W56.fin (W : W56 nm n M kvs) : W56 nm n M.fin kvs := W.same rfl rfl rfl rfl
theorem W56.stand (W : W56 nm n M kvs) {o : Option Nat} (hz : ∀ c, c < n → z ≠ nm c) : W56 nm n (M.stand z o) kvs := by
  refine ⟨fun c hc => ?_, W.co, W.lo, W.fld, W.clr⟩
  show (getT (putT M.stands z o) (nm c)).join = _
  rw [get_put, if_neg (hz c hc)]
  exact W.cell c hc
theorem W56.ask (W : W56 nm n M kvs) (hr : M.rep.length < 200) : M.askC c = .ok false { M with rep := M.rep ++ [false] } := by
  have : (M.lost[c]?).getD false = false := by
    cases e : M.lost[c]? with
    | none => rfl
    | some b => exact W.lo b (List.mem_of_getElem? e)
  unfold Mt.askC
  rw [if_neg (by omega), this]
theorem st_fill (W : W56 nm n M kvs) (hh : h < n) (hc : c < n) {b : Bool} : ∃ M', St56 nm n M (if b then .hold (nm h) f (nm c) else .weak (nm h) f (nm c)) p M' (putA kvs [.inl ((h : Nat) : Int), .inr f] (.int ((c : Nat) : Int))) [] 0 := by
  have W1 := W.enter (p := p)
  refine ⟨((M.enter id p).fill h f (some (c, b))).fin, exec_one (by cases b <;> rfl) ?_, (W1.fill (v := some (c, b)) hh).fin, by simp [Mt.enter, Mt.fill, Mt.fin], by simp [Mt.enter, Mt.fill, Mt.fin]⟩
  cases b <;> simp only [Mt.deed, W1.cell h hh, W1.cell c hc, if_true, if_false, Bool.false_eq_true]
theorem st_cut (W : W56 nm n M kvs) (hh : h < n) : ∃ M', St56 nm n M (.cut (nm h) f) p M' (putA kvs [.inl ((h : Nat) : Int), .inr f] .non) [] 0 := by
  have W1 := W.enter (p := p)
  refine ⟨((M.enter id p).fill h f none).fin, exec_one rfl ?_, (W1.fill (v := none) hh).fin, by simp [Mt.enter, Mt.fill, Mt.fin], by simp [Mt.enter, Mt.fill, Mt.fin]⟩
  simp only [Mt.deed, W1.cell h hh]
theorem fld_cases (W : W56 nm n M kvs) (hh : h < n) : (M.fld h f = none ∧ (look kvs [.inl ((h : Nat) : Int), .inr f]).getD .non = .non) ∨ ∃ q, M.fld h f = some q ∧ (look kvs [.inl ((h : Nat) : Int), .inr f]).getD .non = .int (q.1 : Nat) := by
  have := W.fld h hh f
  cases e : M.fld h f with
  | none => rw [e] at this; exact .inl ⟨rfl, this⟩
  | some q => rw [e] at this; exact .inr ⟨q, rfl, this⟩
/-- whether a field is filled -/
def isF (kvs : List (List Key × Vl)) (h : Nat) (f : Str) : Bool := !isNon ((look kvs [.inl ((h : Nat) : Int), .inr f]).getD .non)
theorem st_take (W : W56 nm n M kvs) (hh : h < n) (hz : ∀ c, c < n → z ≠ nm c) (hr : M.rep.length < 200) : ∃ M', St56 nm n M (.take z (nm h) f) p M' kvs [] (if isF kvs h f then 1 else 0) ∧ (M'.cell z).isSome = isF kvs h f := by
  have W1 := W.enter (p := p)
  have hr1 : (M.enter id p).rep.length < 200 := hr
  have cz : ∀ (N : Mt) (o : Option Nat), ((N.stand z o).fin.cell z).isSome = o.isSome := fun N o => by
    show ((getT (putT N.stands z o) z).join).isSome = _
    rw [get_put, if_pos rfl]; rfl
  rcases fld_cases (f := f) W1 hh with ⟨e1, e2⟩ | ⟨q, e1, e2⟩
  · have e3 : isF kvs h f = false := by unfold isF; rw [e2]; rfl
    refine ⟨((M.enter id p).stand z none).fin, ⟨exec_one rfl ?_, (W1.stand hz).fin, by simp [Mt.enter, Mt.stand, Mt.fin], by simp [Mt.enter, Mt.stand, Mt.fin, e3]⟩, by rw [cz, e3]; rfl⟩
    simp only [Mt.deed, W1.cell h hh, e1]
  · have e3 : isF kvs h f = true := by unfold isF; rw [e2]; rfl
    refine ⟨(({ (M.enter id p) with rep := (M.enter id p).rep ++ [false] } : Mt).stand z (some q.1)).fin, ⟨exec_one rfl ?_, ((W1.same (M' := { (M.enter id p) with rep := (M.enter id p).rep ++ [false] }) rfl rfl rfl rfl).stand hz).fin, by simp [Mt.enter, Mt.stand, Mt.fin], by simp [Mt.enter, Mt.stand, Mt.fin, e3]⟩, by rw [cz, e3]; rfl⟩
    simp only [Mt.deed, W1.cell h hh, e1, W1.ask hr1]
    rfl
theorem st_set (W : W56 nm n M kvs) : ∃ M', St56 nm n M (.ask (.set z)) p M' kvs [if (M.cell z).isSome then .yes else .no] 0 := by
  have W1 := W.enter (p := p)
  refine ⟨((M.enter id p).tell (if (M.cell z).isSome then .yes else .no)).fin, exec_one rfl ?_, (W1.same (M' := (M.enter id p).tell (if (M.cell z).isSome then .yes else .no)) rfl rfl rfl rfl).fin, by simp [Mt.enter, Mt.tell, Mt.fin], by simp [Mt.enter, Mt.tell, Mt.fin]⟩
  simp only [Mt.deed, Mt.test]
  rfl
theorem st_full (W : W56 nm n M kvs) (hh : h < n) (hr : M.rep.length < 200) {b : Bool} : ∃ M', St56 nm n M (.ask (if b then .full (nm h) f else .not (.full (nm h) f))) p M' kvs [if (isF kvs h f == b) = true then .yes else .no] (if isF kvs h f then 1 else 0) := by
  have W1 := W.enter (p := p)
  have hr1 : (M.enter id p).rep.length < 200 := hr
  rcases fld_cases (f := f) W1 hh with ⟨e1, e2⟩ | ⟨q, e1, e2⟩
  · have e3 : isF kvs h f = false := by unfold isF; rw [e2]; rfl
    refine ⟨((M.enter id p).tell (if (isF kvs h f == b) = true then .yes else .no)).fin, exec_one rfl ?_, (W1.same (M' := (M.enter id p).tell (if (isF kvs h f == b) = true then .yes else .no)) rfl rfl rfl rfl).fin, by simp [Mt.enter, Mt.tell, Mt.fin], by simp [Mt.enter, Mt.tell, Mt.fin, e3]⟩
    rw [e3]
    cases b <;> simp only [Mt.deed, Mt.test, W1.cell h hh, e1, if_true, if_false, Bool.false_eq_true] <;> rfl
  · have e3 : isF kvs h f = true := by unfold isF; rw [e2]; rfl
    refine ⟨(({ (M.enter id p) with rep := (M.enter id p).rep ++ [false] } : Mt).tell (if (isF kvs h f == b) = true then .yes else .no)).fin, exec_one rfl ?_, ((W1.same (M' := { (M.enter id p) with rep := (M.enter id p).rep ++ [false] }) rfl rfl rfl rfl).same (M' := ({ (M.enter id p) with rep := (M.enter id p).rep ++ [false] } : Mt).tell (if (isF kvs h f == b) = true then .yes else .no)) rfl rfl rfl rfl).fin, by simp [Mt.enter, Mt.tell, Mt.fin], by simp [Mt.enter, Mt.tell, Mt.fin, e3]⟩
    rw [e3]
    cases b <;> simp only [Mt.deed, Mt.test, W1.cell h hh, e1, W1.ask hr1, if_true, if_false, Bool.false_eq_true] <;> rfl
end
/-! ### rows one behind the other, cut anywhere -/
def isAskS : Stm → Bool
  | .ask _ => true
  | _ => false
def askN (b : List Stm) : Nat := (b.filter isAskS).length
structure H56 (rows : List Stm) (said : List Said) (M : Mt) : Prop where
  ex : execL id [] rows 0 Mt0 = .ok () M
  cn : Stm.cnts rows = rows.length
  sd : M.said = said
  sn : said.length = askN rows
  pre : ∀ m, m ≤ rows.length → ∃ N, execL id [] (rows.take m) 0 Mt0 = .ok () N ∧ N.said = said.take (askN (rows.take m)) ∧ (∀ b ∈ N.rep, b = false) ∧ N.clr = []
theorem askN_app {a b : List Stm} : askN (a ++ b) = askN a + askN b := by unfold askN; rw [List.filter_append, List.length_append]
theorem askN_take {a : List Stm} {m : Nat} : askN (a.take m) ≤ askN a := by
  unfold askN
  exact ((List.take_sublist m a).filter _).length_le
theorem H56.snoc {rows : List Stm} {said new : List Said} {M M' : Mt} {x : Stm} (H : H56 rows said M) (hx : x.cnt = 1) (ex : execL id [] [x] rows.length M = .ok () M') (hs : M'.said = M.said ++ new) (hn : new.length = askN [x]) (hr : ∀ b ∈ M'.rep, b = false) (hc : M'.clr = []) : H56 (rows ++ [x]) (said ++ new) M' := by
  have ex2 : execL id [] (rows ++ [x]) 0 Mt0 = .ok () M' := by
    rw [execL_app2 H.ex, Nat.zero_add, H.cn]
    exact ex
  have sd : M'.said = said ++ new := by rw [hs, H.sd]
  refine ⟨ex2, by rw [Stm.cnts_app, H.cn]; simp [Stm.cnts, hx], sd, by rw [askN_app, List.length_append, H.sn, hn], fun m hm => ?_⟩
  rw [List.length_append] at hm
  simp only [List.length_cons, List.length_nil] at hm
  by_cases h : m ≤ rows.length
  · obtain ⟨N, a, b, c, d⟩ := H.pre m h
    rw [List.take_append_of_le_length h]
    refine ⟨N, a, ?_, c, d⟩
    rw [b, List.take_append_of_le_length]
    rw [H.sn]
    exact askN_take
  · have e : (rows ++ [x]).take m = rows ++ [x] := List.take_of_length_le (by simp; omega)
    rw [e]
    refine ⟨M', ex2, ?_, hr, hc⟩
    rw [sd, List.take_of_length_le]
    rw [askN_app, List.length_append, H.sn, hn]
    omega
theorem st_make {nm : Nat → Str} {k p : Nat} {M : Mt} (W : W56 nm k M []) (hd : ∀ c, c < k → nm k ≠ nm c) : ∃ M', St56 nm (k + 1) M (.make (nm k)) p M' [] [] 0 := by
  refine ⟨((M.enter id p).made (nm k)).fin, exec_one rfl ?_, ⟨fun c hc => ?_, ?_, fun b hb => ?_, fun c hc f => ?_, W.clr⟩, by simp [Mt.enter, Mt.made, Mt.fin], by simp [Mt.enter, Mt.made, Mt.fin]⟩
  · simp only [Mt.deed]
  · show (getT (putT M.stands (nm k) (some M.cont.length)) (nm c)).join = _
    rw [get_put]
    by_cases e : c = k
    · subst e
      rw [if_pos rfl, W.co]; rfl
    · rw [if_neg (hd c (by omega))]
      exact W.cell c (by omega)
  · show (M.cont ++ [[]]).length = _
    rw [List.length_append, W.co]; rfl
  · have hb : b ∈ M.lost ++ [false] := hb
    rcases List.mem_append.mp hb with q | q
    · exact W.lo b q
    · simpa using q
  · have : ((M.enter id p).made (nm k)).fin.fld c f = none := by
      show (getT (((M.cont ++ [[]])[c]?).getD []) f).join = none
      by_cases e : c = k
      · subst e
        rw [← W.co, List.getElem?_append_right (Nat.le_refl _)]
        simp [getT]
      · have hc' : c < M.cont.length := by rw [W.co]; omega
        rw [List.getElem?_append_left hc']
        have := W.fld c (by omega) f
        have e2 : M.fld c f = (getT ((M.cont[c]?).getD []) f).join := rfl
        rw [← e2]
        cases q : M.fld c f with
        | none => rfl
        | some z => rw [q] at this; simp [look, inV] at this
    rw [this]; rfl
theorem h56_nil : H56 [] [] Mt0 := ⟨rfl, rfl, rfl, rfl, fun m hm => by
  have : m = 0 := by simpa using hm
  subst this
  exact ⟨Mt0, rfl, rfl, by simp, rfl⟩⟩
theorem makes56 {nm : Nat → Str} : ∀ k, (∀ a b, a < k → b < k → nm a = nm b → a = b) → ∃ M, H56 ((List.range k).map fun c => Stm.make (nm c)) [] M ∧ W56 nm k M [] ∧ M.rep = []
  | 0, _ => ⟨Mt0, h56_nil, ⟨fun c hc => by omega, rfl, by simp, fun c hc => by omega, rfl⟩, rfl⟩
  | k + 1, hi => by
    obtain ⟨M, H, W, r⟩ := makes56 k fun a b ha hb => hi a b (by omega) (by omega)
    obtain ⟨M', S⟩ := st_make (p := ((List.range k).map fun c => Stm.make (nm c)).length) W fun c hc e => by
      have := hi k c (by omega) (by omega) e
      omega
    have r' : M'.rep = [] := by rw [S.rep, r]; rfl
    refine ⟨M', ?_, S.w, r'⟩
    rw [List.range_succ, List.map_append]
    have := H.snoc (new := []) (x := .make (nm k)) rfl S.ex S.said rfl (by rw [r']; simp) S.w.clr
    simpa using this
/-- the names of a written dict -/
theorem put_app {κ : Type} [DecidableEq κ] {k : κ} {v : Vl} : ∀ {l : List (κ × Vl)}, (∀ p ∈ l, p.1 ≠ k) → put l k v = l ++ [(k, v)]
  | [], _ => rfl
  | p :: r, h => by
    unfold put
    rw [if_neg (h p (List.mem_cons_self ..)), put_app fun q hq => h q (List.mem_cons_of_mem _ hq)]
    rfl
theorem mergeN {nm : Nat → Str} : ∀ k, (∀ a b, a < k → b < k → nm a = nm b → a = b) → mergeP [] ((List.range k).map fun c => ((.inr (nm c) : Key), Vl.int ((c : Nat) : Int))) = (List.range k).map fun c => ((.inr (nm c) : Key), Vl.int ((c : Nat) : Int))
  | 0, _ => rfl
  | k + 1, hi => by
    have ih := mergeN k fun a b ha hb => hi a b (by omega) (by omega)
    unfold mergeP at ih ⊢
    rw [List.range_succ, List.map_append, List.foldl_append, ih]
    simp only [List.map_cons, List.map_nil, List.foldl_cons, List.foldl_nil]
    rw [put_app]
    intro p hp e
    obtain ⟨c, hc, rfl⟩ := List.mem_map.mp hp
    have := hi c k (by have := List.mem_range.mp hc; omega) (by omega) (by simpa using e)
    have := List.mem_range.mp hc
    omega
theorem look_names {nm : Nat → Str} : ∀ k, (∀ a b, a < k → b < k → nm a = nm b → a = b) → ∀ c, c < k → look ((List.range k).map fun c => ((.inr (nm c) : Key), Vl.int ((c : Nat) : Int))) (.inr (nm c)) = some (.int ((c : Nat) : Int)) := by
  intro k hi c hc
  have key : ∀ l : List Nat, (∀ x ∈ l, x < k) → c ∈ l → look (l.map fun c => ((.inr (nm c) : Key), Vl.int ((c : Nat) : Int))) (.inr (nm c)) = some (.int ((c : Nat) : Int)) := by
    intro l
    induction l with
    | nil => intro _ h; cases h
    | cons x r ih =>
      intro hl h
      rw [List.map_cons]
      unfold look
      by_cases e : nm x = nm c
      · have := hi x c (hl x (List.mem_cons_self ..)) hc e
        subst this
        rw [if_pos rfl]
      · rw [if_neg (by simpa using e)]
        rcases List.mem_cons.mp h with q | q
        · exact absurd (by rw [q]) e
        · exact ih (fun y hy => hl y (List.mem_cons_of_mem _ hy)) q
  exact key _ (fun x hx => List.mem_range.mp hx) (List.mem_range.mpr hc)
end Sm

/-! S66: named cells are there, there cells hold there cells; what comes to a cell by paths; plain Lean -/
namespace Sm
open PySem L2
structure MSafe (M : Mt) : Prop where
  nm : ∀ p ∈ M.stands, ∀ c, p.2 = some c → M.lost[c]? = some false
  kp : ∀ c ∈ M.kept, M.lost[c]? = some false
  hd : ∀ x y, M.lost[x]? = some false → y ∈ M.held x → M.lost[y]? = some false
inductive Mt.Path (M : Mt) : Nat → Nat → Prop
  | refl {x : Nat} : Mt.Path M x x
  | step {x y w : Nat} : y ∈ M.held x → Mt.Path M y w → Mt.Path M x w
section
variable {M : Mt} {B : Nat} {bits : List Int}
theorem MSafe.start (S : MSafe M) {c : Nat} (h : M.start c) : M.lost[c]? = some false := by
  rcases h with h | ⟨p, hp, e⟩
  · exact S.kp c h
  · exact S.nm p hp c e
theorem MSafe.reached (S : MSafe M) {c : Nat} (h : M.Reached c) : M.lost[c]? = some false := by
  induction h with
  | base h => exact S.start h
  | step _ h ih => exact S.hd _ _ ih h
theorem cm_reached {w c : Nat} (h : M.Cm w c) (r : M.Reached c) : M.Reached w := by
  induction h with
  | base => exact r
  | step _ _ h3 _ ih => exact ih (.step r h3)
theorem MSafe.cell (S : MSafe M) {x : Str} {c : Nat} (h : M.cell x = some c) : M.lost[c]? = some false := by
  unfold Mt.cell at h
  cases e : getT M.stands x with
  | none => rw [e] at h; cases h
  | some o =>
    rw [e] at h
    simp at h
    subst h
    exact S.nm _ (getT_mem e) c rfl
/-- the same names, cells and clearings -/
theorem MSafe.same {M' : Mt} (S : MSafe M) (h1 : M'.stands = M.stands) (h2 : M'.kept = M.kept) (h3 : M'.cont = M.cont) (h4 : M'.lost = M.lost) : MSafe M' := by
  obtain ⟨a, b, c⟩ := S
  refine ⟨by rw [h1, h4]; exact a, by rw [h2, h4]; exact b, fun x y hx hy => ?_⟩
  rw [h4] at hx ⊢
  refine c x y hx ?_
  unfold Mt.held Mt.row at hy ⊢
  rwa [h3] at hy
theorem MSafe.clear (S : MSafe M) (O : MOk B M) {ws : List Nat} : MSafe (M.clear (M.gone ws)) := by
  have keep : ∀ c, M.lost[c]? = some false → c ∉ M.gone ws → (M.clear (M.gone ws)).lost[c]? = some false := fun c h1 h2 => by
    show ((M.gone ws).foldl (fun a c => a.set c true) M.lost)[c]? = _
    rw [clear_get, if_neg h2]
    exact h1
  have not : ∀ c, M.Reached c → c ∉ M.gone ws := fun c h1 h2 => by
    obtain ⟨_, w, _, _, h5, h6⟩ := mem_pick.mp h2
    exact h5 (cm_reached h6 h1)
  refine ⟨fun p hp c e => ?_, fun c hc => ?_, fun x y hx hy => ?_⟩
  · have st : M.start c := .inr ⟨p, hp, e⟩
    exact keep c (S.start st) (not c (.base st))
  · have st : M.start c := .inl hc
    exact keep c (S.start st) (not c (.base st))
  · have hx : ((M.gone ws).foldl (fun a c => a.set c true) M.lost)[x]? = some false := hx
    rw [clear_get] at hx
    by_cases hg : x ∈ M.gone ws
    · rw [if_pos hg] at hx
      cases e : M.lost[x]? with
      | none => rw [e] at hx; cases hx
      | some b => rw [e] at hx; cases hx
    · rw [if_neg hg] at hx
      have hy : y ∈ M.held x := hy
      refine keep y (S.hd x y hx hy) fun hyg => hg ?_
      obtain ⟨_, w, h3, h4, h5, h6⟩ := mem_pick.mp hyg
      have hl := (List.getElem?_eq_some_iff.mp hx).1
      rw [O.ll] at hl
      exact mem_pick.mpr ⟨hl, w, h3, h4, h5, .step hl hx hy h6⟩
theorem MSafe.enter (S : MSafe M) (O : MOk B M) {want : Int → List Nat} {shut : Int → Bool} {p : Nat} : MSafe (M.enter (Mt.begin want shut) p) := by
  unfold Mt.enter Mt.begin
  have S1 : MSafe { M with place := (p : Int), moment := M.moment + 1 } := S.same rfl rfl rfl rfl
  split
  · exact S1
  · exact S1.clear O.at0
theorem MSafe.fin (S : MSafe M) : MSafe M.fin := S.same rfl rfl rfl rfl
theorem MSafe.tell (S : MSafe M) {x : Said} : MSafe (M.tell x) := S.same rfl rfl rfl rfl
theorem MSafe.stand (S : MSafe M) {x : Str} {o : Option Nat} (h : ∀ c, o = some c → M.lost[c]? = some false) : MSafe (M.stand x o) := by
  refine ⟨fun p hp c e => ?_, S.kp, S.hd⟩
  rcases putT_mem hp with q | q
  · exact S.nm p q c e
  · subst q
    exact h c e
theorem heldR_put {r : List (Str × Option (Nat × Bool))} {f : Str} {v : Option (Nat × Bool)} {c : Nat} (h : c ∈ heldR (putT r f v)) : c ∈ heldR r ∨ v = some (c, true) := by
  obtain ⟨p, hp, e⟩ := mem_heldR.mp h
  rcases putT_mem hp with q | q
  · exact .inl (mem_heldR.mpr ⟨p, q, e⟩)
  · subst q; exact .inr e
theorem MSafe.fill (S : MSafe M) {h : Nat} {f : Str} {v : Option (Nat × Bool)} (hv : ∀ c, v = some (c, true) → M.lost[c]? = some false) : MSafe (M.fill h f v) := by
  refine ⟨S.nm, S.kp, fun x y hx hy => ?_⟩
  unfold Mt.held Mt.row at hy
  have hy : y ∈ heldR (((M.cont.set h (putT (M.row h) f v))[x]?).getD []) := hy
  by_cases e : h = x
  · subst e
    by_cases hl : h < M.cont.length
    · rw [List.getElem?_set_self hl] at hy
      rcases heldR_put hy with q | q
      · exact S.hd h y hx q
      · exact hv y q
    · rw [List.getElem?_eq_none (by simp; omega)] at hy
      simp [heldR] at hy
  · rw [List.getElem?_set_ne e] at hy
    exact S.hd x y hx hy
theorem MSafe.made (S : MSafe M) (O : MOk B M) {x : Str} : MSafe (M.made x) := by
  have hn : (M.lost ++ [false])[M.cont.length]? = some false := by rw [← O.ll, List.getElem?_append_right (Nat.le_refl _)]; simp
  have old : ∀ c, M.lost[c]? = some false → (M.lost ++ [false])[c]? = some false := fun c h => by
    rw [List.getElem?_append_left (List.getElem?_eq_some_iff.mp h).1]; exact h
  refine ⟨fun p hp c e => ?_, fun c hc => old c (S.kp c hc), fun u y hx hy => ?_⟩
  · rcases putT_mem hp with q | q
    · exact old c (S.nm p q c e)
    · subst q
      cases e
      exact hn
  · unfold Mt.held Mt.row at hy
    have hy : y ∈ heldR (((M.cont ++ [[]])[u]?).getD []) := hy
    have hx : (M.lost ++ [false])[u]? = some false := hx
    by_cases hu : u < M.cont.length
    · rw [List.getElem?_append_left hu] at hy
      rw [List.getElem?_append_left (by rw [O.ll]; exact hu)] at hx
      exact old y (S.hd u y hx hy)
    · rw [List.getElem?_append_right (by omega)] at hy
      cases e : u - M.cont.length with
      | zero => rw [e] at hy; simp [heldR] at hy
      | succ k => rw [e] at hy; simp [heldR] at hy
theorem askC_same {c : Nat} : (M.askC c).st.stands = M.stands ∧ (M.askC c).st.kept = M.kept ∧ (M.askC c).st.cont = M.cont ∧ (M.askC c).st.lost = M.lost := by
  unfold Mt.askC
  split <;> exact ⟨rfl, rfl, rfl, rfl⟩
theorem MSafe.askS (S : MSafe M) {c : Nat} : MSafe (M.askC c).st := S.same askC_same.1 askC_same.2.1 askC_same.2.2.1 askC_same.2.2.2
theorem MSafe.testS (S : MSafe M) (O : MOk B M) {t : Tst} : MSafe (M.test bits t).st := by
  obtain ⟨_, r, e⟩ := O.testS (bits := bits) (t := t)
  rw [e]
  exact S.same rfl rfl rfl rfl
theorem MSafe.deedS (S : MSafe M) (O : MOk B M) {x : Stm} : MSafe (M.deed bits x).st := by
  cases x with
  | make x => exact S.made O
  | wish x w =>
    simp only [Mt.deed]
    cases h : M.cell x with
    | none => exact S
    | some c => exact S.same rfl rfl rfl rfl
  | keep x =>
    simp only [Mt.deed]
    cases h : M.cell x with
    | none => exact S
    | some c =>
      refine ⟨S.nm, fun d hd => ?_, S.hd⟩
      rcases addK_mem.mp hd with q | q
      · exact S.kp d q
      · subst q; exact S.cell h
  | name x y =>
    simp only [Mt.deed]
    cases h : M.cell y with
    | none => exact S
    | some c => exact S.stand fun d hd => by cases hd; exact S.cell h
  | drop x => exact S.stand fun d hd => by cases hd
  | hold x f y =>
    simp only [Mt.deed]
    cases h : M.cell x with
    | none => exact S
    | some a =>
      cases h2 : M.cell y with
      | none => exact S
      | some c => exact S.fill fun d hd => by cases hd; exact S.cell h2
  | weak x f y =>
    simp only [Mt.deed]
    cases h : M.cell x with
    | none => exact S
    | some a =>
      cases h2 : M.cell y with
      | none => exact S
      | some c => exact S.fill fun d hd => by cases hd
  | cut x f =>
    simp only [Mt.deed]
    cases h : M.cell x with
    | none => exact S
    | some a => exact S.fill fun d hd => by cases hd
  | take z x f =>
    simp only [Mt.deed]
    cases h : M.cell x with
    | none => exact S
    | some c =>
      simp only
      cases hf : M.fld c f with
      | none => exact S.stand fun d hd => by cases hd
      | some p =>
        simp only
        have S1 := S.askS (c := p.1)
        cases ha : M.askC p.1 with
        | stop y M' => rw [ha] at S1; exact S1
        | ok b M' =>
          rw [ha] at S1
          obtain ⟨O', c1, e1, e2, _⟩ := O.askC ha
          refine MSafe.stand (M := M') S1 fun d hd => ?_
          cases b with
          | true => simp at hd
          | false =>
            simp at hd
            subst hd
            have hl := O.fld hf
            rw [← O.ll] at hl
            rw [e1]
            show M.lost[p.1]? = _
            rw [List.getElem?_eq_getElem hl] at e2 ⊢
            simp at e2
            rw [e2]
  | say w => exact S.tell
  | ask t =>
    simp only [Mt.deed]
    have S1 := S.testS (bits := bits) O (t := t)
    cases h : M.test bits t with
    | stop y M' => rw [h] at S1; exact S1
    | ok b M' => rw [h] at S1; exact MSafe.tell (M := M') S1
  | ife t a b => exact S
  | rep k b => exact S
end
end Sm

/-! S80: machines of any heir: one field more than a collected machine has -/
namespace Sm
open PySem L2
/-- what stays the same in a run: class, address, program, inputs, paused places, plan -/
structure MQ where
  c : Nat
  m : Nat
  bk : Vl
  bits : Vl
  qp : Vl
  xn : Str
  xv : Vl
  ol : List (Nat × Ob)
def Mt.obq (P : MQ) (cs : List Nat) (M : Mt) : List Ob := [
  .ins P.c [("block", P.bk), ("bits", P.bits), ("at_place", .int M.place), ("moment", .int M.moment), ("stands", .ref (P.m + 1)), ("kept", .ref (P.m + 2)), ("contents", .ref (P.m + 3)), ("wishes", .ref (P.m + 4)), ("lost", .ref (P.m + 5)), ("replies", .ref (P.m + 6)), ("spoken", .ref (P.m + 7)), ("quiet_places", P.qp), ("cleared", .ref (P.m + 8)), ("there", .ref (P.m + 9)), (P.xn, P.xv)],
  .dic (rawT cV M.stands), .dic (rawK M.kept), .lst (cs.map Vl.ref), .lst (M.wish.map wV), .lst (M.lost.map Vl.bl), .lst (M.rep.map bV), .lst (M.said.map Said.vl), .lst (M.clr.map pV), .lst (M.there.map nV)]
structure QaAt (s : Sto) (P : MQ) (cs : List Nat) (M : Mt) : Prop where
  obs : ∀ (i : Nat) (o : Ob), (M.obq P cs)[i]? = some o → s[P.m + i]? = some o
  csl : cs.length = M.cont.length
  rows : ∀ (i z : Nat) (r : List (Str × Option (Nat × Bool))), cs[i]? = some z → M.cont[i]? = some r → P.m + 9 < z ∧ s[z]? = some (.dic (rawT fV r))
  nd : cs.Nodup
  pls : ∀ p ∈ P.ol, P.m + 9 < p.1 ∧ p.1 ∉ cs ∧ s[p.1]? = some p.2
section
variable {s s' : Sto} {P : MQ} {cs : List Nat} {M M' : Mt}
theorem QaAt.top (A : QaAt s P cs M) : s[P.m]? = some (.ins P.c [("block", P.bk), ("bits", P.bits), ("at_place", .int M.place), ("moment", .int M.moment), ("stands", .ref (P.m + 1)), ("kept", .ref (P.m + 2)), ("contents", .ref (P.m + 3)), ("wishes", .ref (P.m + 4)), ("lost", .ref (P.m + 5)), ("replies", .ref (P.m + 6)), ("spoken", .ref (P.m + 7)), ("quiet_places", P.qp), ("cleared", .ref (P.m + 8)), ("there", .ref (P.m + 9)), (P.xn, P.xv)]) := A.obs 0 _ rfl
theorem QaAt.st (A : QaAt s P cs M) : s[P.m + 1]? = some (.dic (rawT cV M.stands)) := A.obs 1 _ rfl
theorem QaAt.kp (A : QaAt s P cs M) : s[P.m + 2]? = some (.dic (rawK M.kept)) := A.obs 2 _ rfl
theorem QaAt.co (A : QaAt s P cs M) : s[P.m + 3]? = some (.lst (cs.map Vl.ref)) := A.obs 3 _ rfl
theorem QaAt.wi (A : QaAt s P cs M) : s[P.m + 4]? = some (.lst (M.wish.map wV)) := A.obs 4 _ rfl
theorem QaAt.lo (A : QaAt s P cs M) : s[P.m + 5]? = some (.lst (M.lost.map Vl.bl)) := A.obs 5 _ rfl
theorem QaAt.re (A : QaAt s P cs M) : s[P.m + 6]? = some (.lst (M.rep.map bV)) := A.obs 6 _ rfl
theorem QaAt.sp (A : QaAt s P cs M) : s[P.m + 7]? = some (.lst (M.said.map Said.vl)) := A.obs 7 _ rfl
theorem QaAt.cl (A : QaAt s P cs M) : s[P.m + 8]? = some (.lst (M.clr.map pV)) := A.obs 8 _ rfl
theorem QaAt.th (A : QaAt s P cs M) : s[P.m + 9]? = some (.lst (M.there.map nV)) := A.obs 9 _ rfl
theorem QaAt.len (A : QaAt s P cs M) : P.m + 9 < s.length := lt_of_get A.th
theorem obq_len : (M.obq P cs).length = 10 := rfl
theorem QaAt.fr (A : QaAt s P cs M) (f : Fr [] s s') : QaAt s' P cs M :=
  ⟨fun i o h => f.at (A.obs i o h) (by simp), A.csl, fun i z r h1 h2 => ⟨(A.rows i z r h1 h2).1, f.at (A.rows i z r h1 h2).2 (by simp)⟩, A.nd, fun p hp => ⟨(A.pls p hp).1, (A.pls p hp).2.1, f.at (A.pls p hp).2.2 (by simp)⟩⟩
theorem QaAt.set (A : QaAt s P cs M) {j : Nat} {o : Ob} (hj : j < 10) (h : M'.obq P cs = (M.obq P cs).set j o) (hc : M'.cont = M.cont) : QaAt (s.set (P.m + j) o) P cs M' := by
  have hl := A.len
  refine ⟨fun i o' q => ?_, by rw [hc]; exact A.csl, fun i z r h1 h2 => ?_, A.nd, fun p hp => ?_⟩
  · rw [h] at q
    by_cases e : i = j
    · subst e
      rw [List.getElem?_set_self (by rw [obq_len]; exact hj)] at q
      rw [List.getElem?_set_self (by omega)]
      exact q
    · rw [List.getElem?_set_ne (fun z => e z.symm)] at q
      rw [List.getElem?_set_ne (by omega)]
      exact A.obs i o' q
  · rw [hc] at h2
    obtain ⟨q1, q2⟩ := A.rows i z r h1 h2
    exact ⟨q1, by rw [List.getElem?_set_ne (by omega)]; exact q2⟩
  · obtain ⟨q1, q2, q3⟩ := A.pls p hp
    exact ⟨q1, q2, by rw [List.getElem?_set_ne (by omega)]; exact q3⟩
theorem QaAt.row (A : QaAt s P cs M) {i z : Nat} {r : List (Str × Option (Nat × Bool))} (hi : cs[i]? = some z) : QaAt (s.set z (.dic (rawT fV r))) P cs { M with cont := M.cont.set i r } := by
  have hil := (List.getElem?_eq_some_iff.mp hi).1
  have hcl := A.csl
  obtain ⟨z1, z2⟩ := A.rows i z _ hi (List.getElem?_eq_getElem (by omega))
  have hz := lt_of_get z2
  refine ⟨fun j o q => ?_, by simpa using hcl, fun j y r' h1 h2 => ?_, A.nd, fun p hp => ?_⟩
  · have hj : j < 10 := (List.getElem?_eq_some_iff.mp q).1
    rw [List.getElem?_set_ne (by omega)]
    exact A.obs j o q
  · by_cases e : j = i
    · subst e
      rw [hi] at h1
      cases h1
      simp only at h2
      rw [List.getElem?_set_self (by omega)] at h2
      cases h2
      exact ⟨z1, List.getElem?_set_self hz⟩
    · simp only at h2
      rw [List.getElem?_set_ne (fun q => e q.symm)] at h2
      obtain ⟨q1, q2⟩ := A.rows j y r' h1 h2
      have ne : z ≠ y := fun q => by
        subst q
        exact e ((List.getElem?_inj (List.getElem?_eq_some_iff.mp h1).1 A.nd).mp (h1.trans hi.symm))
      exact ⟨q1, by rw [List.getElem?_set_ne ne]; exact q2⟩
  · obtain ⟨q1, q2, q3⟩ := A.pls p hp
    have ne : z ≠ p.1 := fun q => q2 (q ▸ List.mem_of_getElem? hi)
    exact ⟨q1, q2, by rw [List.getElem?_set_ne ne]; exact q3⟩
theorem QaAt.make (A : QaAt s P cs M) : QaAt ((s ++ [Ob.dic []]).set (P.m + 3) (.lst ((cs ++ [s.length]).map Vl.ref))) P (cs ++ [s.length]) { M with cont := M.cont ++ [[]] } := by
  have hl := A.len
  have hcl := A.csl
  refine ⟨fun i o q => ?_, by simp [hcl], fun i z r h1 h2 => ?_, ?_, fun p hp => ?_⟩
  · have hi : i < 10 := (List.getElem?_eq_some_iff.mp q).1
    by_cases e : i = 3
    · subst e
      rw [List.getElem?_set_self (by simp; omega)]
      exact q
    · rw [List.getElem?_set_ne (by omega), List.getElem?_append_left (by omega)]
      refine A.obs i o ?_
      have : ∀ i, i < 10 → i ≠ 3 → (Mt.obq P (cs ++ [s.length]) { M with cont := M.cont ++ [[]] })[i]? = (M.obq P cs)[i]? := by
        intro i h1 h2
        match i, h1, h2 with
        | 0, _, _ => rfl
        | 1, _, _ => rfl
        | 2, _, _ => rfl
        | 4, _, _ => rfl
        | 5, _, _ => rfl
        | 6, _, _ => rfl
        | 7, _, _ => rfl
        | 8, _, _ => rfl
        | 9, _, _ => rfl
      rw [← this i hi e]
      exact q
  · rcases getElem?_snoc h1 with z1 | ⟨z1, z2⟩
    · have hi := (List.getElem?_eq_some_iff.mp z1).1
      simp only at h2
      rw [List.getElem?_append_left (by omega)] at h2
      obtain ⟨q1, q2⟩ := A.rows i z r z1 h2
      have := lt_of_get q2
      exact ⟨q1, by rw [List.getElem?_set_ne (by omega), List.getElem?_append_left this]; exact q2⟩
    · subst z1 z2
      simp only at h2
      rw [hcl, List.getElem?_append_right (Nat.le_refl _)] at h2
      simp at h2
      subst h2
      exact ⟨by omega, by rw [List.getElem?_set_ne (by omega)]; simp [rawT]⟩
  · rw [List.nodup_append]
    refine ⟨A.nd, by simp, fun x hx y hy => ?_⟩
    simp at hy
    subst hy
    obtain ⟨i, hi⟩ := List.getElem?_of_mem hx
    have hil := (List.getElem?_eq_some_iff.mp hi).1
    have := lt_of_get (A.rows i x _ hi (List.getElem?_eq_getElem (by omega))).2
    omega
  · obtain ⟨q1, q2, q3⟩ := A.pls p hp
    have := lt_of_get q3
    refine ⟨q1, ?_, by rw [List.getElem?_set_ne (by omega), List.getElem?_append_left this]; exact q3⟩
    rw [List.mem_append]
    rintro (z | z)
    · exact q2 z
    · simp at z
      omega
end
/-! what a moment clears, when what is wanted is told by the state -/
noncomputable def Mt.beginS (want : Mt → List Nat) (shut : Int → Bool) (M : Mt) : Mt := if shut M.place then M else M.clear (M.gone (want M))
theorem MOk.beginS {B : Nat} {M : Mt} (O : MOk B M) {want : Mt → List Nat} {shut : Int → Bool} : MOk B (M.beginS want shut) := by
  unfold Mt.beginS
  split
  · exact O
  · exact O.clear pick_nodup fun c hc => (O.goes (mem_pick.mp hc).2).2
theorem MSafe.beginS {B : Nat} {M : Mt} (S : MSafe M) (O : MOk B M) {want : Mt → List Nat} {shut : Int → Bool} : MSafe (M.beginS want shut) := by
  unfold Mt.beginS
  split
  · exact S
  · exact S.clear O
/-! what a run answers -/
def whyV (o : Out Unit) : Vl := match o with
  | .ok _ _ => .non
  | .stop y M => .tup [.str y, .int M.place]
def Out.end_ (o : Out Unit) : Mt := match o with
  | .ok _ M => M
  | .stop _ M => M.fin
def resV (o : Out Unit) : Vl := .tup [.tup ((Out.end_ o).said.map Said.vl), whyV o, .tup ((Out.end_ o).rep.map bV), .tup ((Out.end_ o).clr.map pV)]
theorem Kp.fr0 {s s' : Sto} (k : Kp s.length s s') : Fr [] s s' := ⟨k.le, fun i hi _ => k.get i hi⟩
theorem Kp.app {m : Nat} {s : Sto} {l : List Ob} (h : m ≤ s.length) : Kp m s (s ++ l) := ⟨by simp, fun i hi => by rw [List.getElem?_append_left (by omega)]⟩
theorem mt0Ok : MOk 0 Mt0 := ⟨by simp, by simp, rfl, rfl, by simp, by simp, by simp, by simp, by simp, by simp, by simp, by simp, by simp [szC]⟩
end Sm

/-! S81: MSafe through executed programs, for any beginning of moments -/
namespace Sm
open PySem L2
section
variable {M : Mt} {B : Nat} {bits : List Int} {bg : Mt → Mt}
theorem MSafe.repG {f : Mt → Out Unit} {w : Nat} (h : ∀ B M, MOk B M → MSafe M → MOk (B + w) (f M).st ∧ MSafe (f M).st) : ∀ {k B : Nat} {M : Mt}, MOk B M → MSafe M → MSafe (repN f k M).st
  | 0, B, M, O, S => S
  | k + 1, B, M, O, S => by
    obtain ⟨h1, h2⟩ := h B M O S
    unfold repN
    cases q : f M with
    | stop y M' => rw [q] at h2; exact h2
    | ok a M' =>
      rw [q] at h1 h2
      exact MSafe.repG h (B := B + w) (M := M') h1 h2
theorem MSafe.oneG (S : MSafe M) (O : MOk B M) {x : Stm} : MSafe (M.deed bits x).fin.st := by
  have h := S.deedS (bits := bits) O (x := x)
  cases q : M.deed bits x with
  | ok a M' => rw [q] at h; exact MSafe.fin (M := M') h
  | stop y M' => rw [q] at h; exact h
mutual
theorem MSafe.exec1G (h1 : ∀ B M, MOk B M → MOk B (bg M)) (h2 : ∀ B M, MOk B M → MSafe M → MSafe (bg M)) : ∀ (x : Stm) {p B : Nat} {M : Mt}, MOk B M → MSafe M → MSafe (exec1 bg bits x p M).st
  | .ife t a b, p, B, M, O, S => by
    unfold exec1
    have ht := O.testS (bits := bits) (t := t)
    have hs := S.testS (bits := bits) O (t := t)
    cases h : M.test bits t with
    | stop y M' => rw [h] at hs; exact hs
    | ok c M' =>
      rw [h] at ht hs
      have O1 := MOk.fin (M := M') ht.1
      have S1 := MSafe.fin (M := M') hs
      cases c with
      | true => exact MSafe.execLG h1 h2 a (p := p + 1) O1 S1
      | false => exact MSafe.execLG h1 h2 b (p := p + 1 + Stm.cnts a) O1 S1
  | .rep k b, p, B, M, O, S => by
    unfold exec1
    exact MSafe.repG (f := fun M => execL bg bits b (p + 1) M) (w := 2 * Stm.wgts b) (fun B M O S => ⟨MOk.execLS h1 b O, MSafe.execLG h1 h2 b O S⟩) (k := k) O.fin S.fin
  | .make x, p, B, M, O, S => by unfold exec1; exact S.oneG O
  | .wish x w, p, B, M, O, S => by unfold exec1; exact S.oneG O
  | .keep x, p, B, M, O, S => by unfold exec1; exact S.oneG O
  | .name x y, p, B, M, O, S => by unfold exec1; exact S.oneG O
  | .drop x, p, B, M, O, S => by unfold exec1; exact S.oneG O
  | .hold x f y, p, B, M, O, S => by unfold exec1; exact S.oneG O
  | .weak x f y, p, B, M, O, S => by unfold exec1; exact S.oneG O
  | .cut x f, p, B, M, O, S => by unfold exec1; exact S.oneG O
  | .take z x f, p, B, M, O, S => by unfold exec1; exact S.oneG O
  | .say w, p, B, M, O, S => by unfold exec1; exact S.oneG O
  | .ask t, p, B, M, O, S => by unfold exec1; exact S.oneG O
theorem MSafe.execLG (h1 : ∀ B M, MOk B M → MOk B (bg M)) (h2 : ∀ B M, MOk B M → MSafe M → MSafe (bg M)) : ∀ (b : List Stm) {p B : Nat} {M : Mt}, MOk B M → MSafe M → MSafe (execL bg bits b p M).st
  | [], p, B, M, O, S => S
  | x :: r, p, B, M, O, S => by
    unfold execL
    have O1 := O.enter h1 (p := p) (bg := bg)
    have S1 : MSafe (M.enter bg p) := h2 B _ O.at0 (S.same rfl rfl rfl rfl)
    have q1 := MOk.exec1S (bits := bits) (bg := bg) h1 x (p := p) O1
    have q2 := MSafe.exec1G h1 h2 x (p := p) O1 S1
    cases q : exec1 bg bits x p (M.enter bg p) with
    | stop y M' => rw [q] at q2; exact q2
    | ok a M' =>
      rw [q] at q1 q2
      exact MSafe.execLG h1 h2 r (p := p + x.cnt) (M := M') q1 q2
end
end
end Sm

/-! S71: MSafe through executed programs -/
namespace Sm
open PySem L2
section
variable {M : Mt} {B : Nat} {bits : List Int} {want : Int → List Nat} {shut : Int → Bool}
theorem begOk : ∀ B M, MOk B M → MOk B (Mt.begin want shut M) := fun _ _ O => O.begin
theorem MSafe.repS {f : Mt → Out Unit} {w : Nat} (h : ∀ B M, MOk B M → MSafe M → MOk (B + w) (f M).st ∧ MSafe (f M).st) : ∀ {k B : Nat} {M : Mt}, MOk B M → MSafe M → MSafe (repN f k M).st
  | 0, B, M, O, S => S
  | k + 1, B, M, O, S => by
    obtain ⟨h1, h2⟩ := h B M O S
    unfold repN
    cases q : f M with
    | stop y M' => rw [q] at h2; exact h2
    | ok a M' =>
      rw [q] at h1 h2
      exact MSafe.repS h (B := B + w) (M := M') h1 h2
theorem MSafe.oneS (S : MSafe M) (O : MOk B M) {x : Stm} : MSafe (M.deed bits x).fin.st := by
  have h := S.deedS (bits := bits) O (x := x)
  cases q : M.deed bits x with
  | ok a M' => rw [q] at h; exact MSafe.fin (M := M') h
  | stop y M' => rw [q] at h; exact h
mutual
theorem MSafe.exec1S : ∀ (x : Stm) {p B : Nat} {M : Mt}, MOk B M → MSafe M → MSafe (exec1 (Mt.begin want shut) bits x p M).st
  | .ife t a b, p, B, M, O, S => by
    unfold exec1
    have ht := O.testS (bits := bits) (t := t)
    have hs := S.testS (bits := bits) O (t := t)
    cases h : M.test bits t with
    | stop y M' => rw [h] at hs; exact hs
    | ok c M' =>
      rw [h] at ht hs
      have O1 := MOk.fin (M := M') ht.1
      have S1 := MSafe.fin (M := M') hs
      cases c with
      | true => exact MSafe.execLS a (p := p + 1) O1 S1
      | false => exact MSafe.execLS b (p := p + 1 + Stm.cnts a) O1 S1
  | .rep k b, p, B, M, O, S => by
    unfold exec1
    exact MSafe.repS (f := fun M => execL (Mt.begin want shut) bits b (p + 1) M) (w := 2 * Stm.wgts b) (fun B M O S => ⟨MOk.execLS begOk b O, MSafe.execLS b O S⟩) (k := k) O.fin S.fin
  | .make x, p, B, M, O, S => by unfold exec1; exact S.oneS O
  | .wish x w, p, B, M, O, S => by unfold exec1; exact S.oneS O
  | .keep x, p, B, M, O, S => by unfold exec1; exact S.oneS O
  | .name x y, p, B, M, O, S => by unfold exec1; exact S.oneS O
  | .drop x, p, B, M, O, S => by unfold exec1; exact S.oneS O
  | .hold x f y, p, B, M, O, S => by unfold exec1; exact S.oneS O
  | .weak x f y, p, B, M, O, S => by unfold exec1; exact S.oneS O
  | .cut x f, p, B, M, O, S => by unfold exec1; exact S.oneS O
  | .take z x f, p, B, M, O, S => by unfold exec1; exact S.oneS O
  | .say w, p, B, M, O, S => by unfold exec1; exact S.oneS O
  | .ask t, p, B, M, O, S => by unfold exec1; exact S.oneS O
theorem MSafe.execLS : ∀ (b : List Stm) {p B : Nat} {M : Mt}, MOk B M → MSafe M → MSafe (execL (Mt.begin want shut) bits b p M).st
  | [], p, B, M, O, S => S
  | x :: r, p, B, M, O, S => by
    unfold execL
    have O1 := O.enter begOk (p := p) (bg := Mt.begin want shut)
    have S1 := S.enter O (p := p) (want := want) (shut := shut)
    have h1 := MOk.exec1S (bits := bits) (bg := Mt.begin want shut) begOk x (p := p) O1
    have h2 := MSafe.exec1S x (p := p) O1 S1
    cases q : exec1 (Mt.begin want shut) bits x p (M.enter (Mt.begin want shut) p) with
    | stop y M' => rw [q] at h2; exact h2
    | ok a M' =>
      rw [q] at h1 h2
      exact MSafe.execLS r (p := p + x.cnt) (M := M') h1 h2
end
end
end Sm

/-! S72: what a run leaves can be written down (repr): words, moments, places -/
namespace Sm
open PySem L2
structure MPn (T : Nat) (M : Mt) : Prop where
  sd : ∀ x ∈ M.said, ∀ w, x = .w w → Nice w
  cl : ∀ p ∈ M.clr, -1 ≤ p.1 ∧ p.1 ≤ M.moment ∧ p.2 < M.cont.length
  mo : -1 ≤ M.moment ∧ M.moment + 1 ≤ T
  pl : -1 ≤ M.place ∧ M.place ≤ 1000
  th : ∀ n ∈ M.there, n ≤ M.cont.length
/-- why a run stops -/
def Out.why {α : Type} : Out α → Prop
  | .ok _ _ => True
  | .stop y _ => y = "name" ∨ y = "long"
section
variable {M M' : Mt} {B T : Nat} {bits : List Int} {want : Int → List Nat} {shut : Int → Bool}
theorem MPn.same (h : MPn T M) (h1 : M'.said = M.said) (h2 : M'.clr = M.clr) (h3 : M'.moment = M.moment) (h4 : M'.place = M.place) (h5 : M.cont.length ≤ M'.cont.length) (h6 : M'.there = M.there) : MPn T M' := by
  obtain ⟨a, b, c, d, e⟩ := h
  refine ⟨by rw [h1]; exact a, fun p hp => ?_, by rw [h3]; exact c, by rw [h4]; exact d, fun n hn => ?_⟩
  · rw [h2] at hp
    rw [h3]
    have := b p hp
    exact ⟨this.1, this.2.1, by omega⟩
  · rw [h6] at hn
    have := e n hn
    omega
theorem MPn.mono (h : MPn T M) {T' : Nat} (ht : T ≤ T') : MPn T' M := ⟨h.sd, h.cl, ⟨h.mo.1, by have := h.mo.2; omega⟩, h.pl, h.th⟩
theorem MPn.fin (h : MPn T M) (O : MOk B M) : MPn T M.fin := by
  obtain ⟨a, b, c, d, e⟩ := h
  refine ⟨a, b, c, d, fun n hn => ?_⟩
  rcases List.mem_append.mp (show n ∈ M.there ++ [M.lost.length - M.clr.length] from hn) with q | q
  · exact e n q
  · simp at q
    subst q
    show M.lost.length - M.clr.length ≤ M.cont.length
    rw [O.ll]; omega
theorem MPn.tell (h : MPn T M) {x : Said} (hx : ∀ w, x = .w w → Nice w) : MPn T (M.tell x) := by
  obtain ⟨a, b, c, d, e⟩ := h
  refine ⟨fun y hy w ew => ?_, b, c, d, e⟩
  rcases List.mem_append.mp (show y ∈ M.said ++ [x] from hy) with q | q
  · exact a y q w ew
  · simp at q; subst q; exact hx w ew
theorem MPn.enter (h : MPn T M) {p : Nat} (hp : p ≤ 1000) : MPn (T + 1) (M.enter (Mt.begin want shut) p) := by
  obtain ⟨a, b, c, d, e⟩ := h
  have h1 : MPn (T + 1) { M with place := (p : Int), moment := M.moment + 1 } := ⟨a, fun q hq => by have := b q hq; exact ⟨this.1, by show q.1 ≤ M.moment + 1; omega, this.2.2⟩, ⟨by show -1 ≤ M.moment + 1; omega, by show M.moment + 1 + 1 ≤ _; omega⟩, ⟨by show -1 ≤ (p : Int); omega, by show (p : Int) ≤ 1000; omega⟩, e⟩
  unfold Mt.enter Mt.begin
  split
  · exact h1
  · obtain ⟨a, b, c, d, e⟩ := h1
    refine ⟨a, fun q hq => ?_, c, d, e⟩
    rcases List.mem_append.mp (show q ∈ _ ++ _ from hq) with z | z
    · exact b q z
    · obtain ⟨c', hc', rfl⟩ := List.mem_map.mp z
      exact ⟨c.1, Int.le_refl _, (mem_pick.mp hc').1⟩
theorem askC_why {c : Nat} : (M.askC c).why := by
  unfold Mt.askC
  split
  · exact .inr rfl
  · trivial
theorem wishF_why {w : Str} : ∀ {l : List (Option Str)} {i : Nat} {M : Mt}, (Mt.wishedF w l i M).why
  | [], _, M => trivial
  | o :: l, i, M => by
    unfold Mt.wishedF
    split
    · have := askC_why (M := M) (c := i)
      cases h : M.askC i with
      | stop y M' => rw [h] at this; exact this
      | ok b M' =>
        cases b with
        | true => trivial
        | false => exact wishF_why
    · exact wishF_why
theorem test_why : ∀ {t : Tst} {M : Mt}, (M.test bits t).why
  | .not t, M => by
    have := test_why (t := t) (M := M)
    unfold Mt.test
    cases h : M.test bits t with
    | ok b M' => trivial
    | stop y M' => rw [h] at this; exact this
  | .given i, M => trivial
  | .set x, M => trivial
  | .same x y, M => by
    unfold Mt.test
    split
    · trivial
    · exact .inl rfl
  | .full x f, M => by
    unfold Mt.test
    split
    · exact .inl rfl
    · split
      · trivial
      · rename_i p _
        have := askC_why (M := M) (c := p.1)
        cases h : M.askC p.1 with
        | ok b M' => trivial
        | stop y M' => rw [h] at this; exact this
  | .wished w, M => by
    unfold Mt.test
    exact wishF_why
theorem MPn.testS (h : MPn T M) (O : MOk B M) {t : Tst} : MPn T (M.test bits t).st := by
  obtain ⟨_, r, e⟩ := O.testS (bits := bits) (t := t)
  rw [e]
  exact h.same rfl rfl rfl rfl (Nat.le_refl _) rfl
theorem MPn.deedS (h : MPn T M) (O : MOk B M) {x : Stm} {g n : Nat} (ok : x.ok g n) : MPn T (M.deed bits x).st ∧ (M.deed bits x).why := by
  cases x with
  | make x => exact ⟨h.same rfl rfl rfl rfl (by simp [Out.st, Mt.deed, Mt.made]) rfl, trivial⟩
  | wish x w =>
    simp only [Mt.deed]
    cases M.cell x with
    | none => exact ⟨h, .inl rfl⟩
    | some c => exact ⟨h.same rfl rfl rfl rfl (Nat.le_refl _) rfl, trivial⟩
  | keep x =>
    simp only [Mt.deed]
    cases M.cell x with
    | none => exact ⟨h, .inl rfl⟩
    | some c => exact ⟨h.same rfl rfl rfl rfl (Nat.le_refl _) rfl, trivial⟩
  | name x y =>
    simp only [Mt.deed]
    cases M.cell y with
    | none => exact ⟨h, .inl rfl⟩
    | some c => exact ⟨h.same rfl rfl rfl rfl (Nat.le_refl _) rfl, trivial⟩
  | drop x => exact ⟨h.same rfl rfl rfl rfl (Nat.le_refl _) rfl, trivial⟩
  | hold x f y =>
    simp only [Mt.deed]
    cases M.cell x with
    | none => exact ⟨h, .inl rfl⟩
    | some a =>
      cases M.cell y with
      | none => exact ⟨h, .inl rfl⟩
      | some c => exact ⟨h.same rfl rfl rfl rfl (by simp [Out.st, Mt.fill]) rfl, trivial⟩
  | weak x f y =>
    simp only [Mt.deed]
    cases M.cell x with
    | none => exact ⟨h, .inl rfl⟩
    | some a =>
      cases M.cell y with
      | none => exact ⟨h, .inl rfl⟩
      | some c => exact ⟨h.same rfl rfl rfl rfl (by simp [Out.st, Mt.fill]) rfl, trivial⟩
  | cut x f =>
    simp only [Mt.deed]
    cases M.cell x with
    | none => exact ⟨h, .inl rfl⟩
    | some a => exact ⟨h.same rfl rfl rfl rfl (by simp [Out.st, Mt.fill]) rfl, trivial⟩
  | take z x f =>
    simp only [Mt.deed]
    cases M.cell x with
    | none => exact ⟨h, .inl rfl⟩
    | some c =>
      simp only
      cases M.fld c f with
      | none => exact ⟨h.same rfl rfl rfl rfl (Nat.le_refl _) rfl, trivial⟩
      | some p =>
        simp only
        have hw := askC_why (M := M) (c := p.1)
        obtain ⟨_, r, e⟩ := O.askS (c := p.1)
        cases ha : M.askC p.1 with
        | stop y M' =>
          rw [ha] at e hw
          have e : M' = { M with rep := r } := e
          exact ⟨by show MPn T M'; rw [e]; exact h.same rfl rfl rfl rfl (Nat.le_refl _) rfl, hw⟩
        | ok b M' =>
          rw [ha] at e
          have e : M' = { M with rep := r } := e
          refine ⟨?_, trivial⟩
          show MPn T (M'.stand z _)
          rw [e]
          exact h.same rfl rfl rfl rfl (Nat.le_refl _) rfl
  | say w =>
    refine ⟨h.tell fun w' e => ?_, trivial⟩
    cases e
    simpa only [Stm.ok] using ok
  | ask t =>
    simp only [Mt.deed]
    have ht := h.testS (bits := bits) O (t := t)
    have hw := test_why (bits := bits) (M := M) (t := t)
    cases hh : M.test bits t with
    | stop y M' => rw [hh] at ht hw; exact ⟨ht, hw⟩
    | ok b M' =>
      rw [hh] at ht
      refine ⟨MPn.tell (M := M') ht fun w e => ?_, trivial⟩
      cases b <;> cases e
  | ife t a b => exact ⟨h, trivial⟩
  | rep k b => exact ⟨h, trivial⟩
theorem MPn.oneS (h : MPn T M) (O : MOk B M) {x : Stm} {g n : Nat} (ok : x.ok g n) : MPn T (M.deed bits x).fin.st ∧ (M.deed bits x).fin.why := by
  obtain ⟨h1, h2⟩ := h.deedS (bits := bits) O ok
  have O1 := O.deedS (bits := bits) (x := x)
  cases q : M.deed bits x with
  | ok a M' => rw [q] at h1 O1; exact ⟨MPn.fin (M := M') h1 O1, trivial⟩
  | stop y M' => rw [q] at h1 h2; exact ⟨h1, h2⟩
theorem MPn.repS {f : Mt → Out Unit} {w u : Nat} (h : ∀ B T M, MOk B M → MPn T M → MOk (B + w) (f M).st ∧ MPn (T + u) (f M).st ∧ (f M).why) : ∀ {k B T : Nat} {M : Mt}, MOk B M → MPn T M → MPn (T + k * u) (repN f k M).st ∧ (repN f k M).why
  | 0, B, T, M, O, S => ⟨S.mono (by omega), trivial⟩
  | k + 1, B, T, M, O, S => by
    obtain ⟨h1, h2, h3⟩ := h B T M O S
    unfold repN
    have e : T + (k + 1) * u = T + u + k * u := by rw [Nat.succ_mul]; omega
    cases q : f M with
    | stop y M' => rw [q] at h2 h3; exact ⟨MPn.mono (M := M') h2 (by rw [e]; omega), h3⟩
    | ok a M' =>
      rw [q] at h1 h2
      rw [e]
      exact MPn.repS h (B := B + w) (M := M') h1 h2
mutual
theorem MPn.exec1S {g : Nat} : ∀ (x : Stm) {n p B T : Nat} {M : Mt}, x.ok g n → p + x.cnt ≤ 1000 → MOk B M → MPn (T + 1) M → MPn (T + x.wgt) (exec1 (Mt.begin want shut) bits x p M).st ∧ (exec1 (Mt.begin want shut) bits x p M).why
  | .ife t a b, n, p, B, T, M, ok, hp, O, S => by
    have ok' : 0 < n ∧ t.ok g 3 ∧ Stm.oks g (n - 1) a ∧ Stm.oks g (n - 1) b := by simpa only [Stm.ok] using ok
    have w : (Stm.ife t a b).wgt = 1 + Stm.wgts a + Stm.wgts b := by simp only [Stm.wgt]
    have c : (Stm.ife t a b).cnt = 1 + Stm.cnts a + Stm.cnts b := by simp only [Stm.cnt]
    rw [c] at hp
    rw [w]
    unfold exec1
    have ht := O.testS (bits := bits) (t := t)
    have hs := S.testS (bits := bits) O (t := t)
    have hw := test_why (bits := bits) (M := M) (t := t)
    cases h : M.test bits t with
    | stop y M' => rw [h] at hs hw; exact ⟨MPn.mono (M := M') hs (by omega), hw⟩
    | ok c M' =>
      rw [h] at ht hs
      have O1 := MOk.fin (M := M') ht.1
      have S1 := MPn.fin (M := M') hs ht.1
      cases c with
      | true =>
        obtain ⟨q1, q2⟩ := MPn.execLS a (p := p + 1) (n := n - 1) ok'.2.2.1 (by omega) O1 S1
        exact ⟨q1.mono (by omega), q2⟩
      | false =>
        obtain ⟨q1, q2⟩ := MPn.execLS b (p := p + 1 + Stm.cnts a) (n := n - 1) ok'.2.2.2 (by omega) O1 S1
        exact ⟨q1.mono (by omega), q2⟩
  | .rep k b, n, p, B, T, M, ok, hp, O, S => by
    have ok' : 0 < n ∧ k ≤ 12 ∧ Stm.oks g (n - 1) b := by simpa only [Stm.ok] using ok
    have w : (Stm.rep k b).wgt = 1 + k * Stm.wgts b := by simp only [Stm.wgt]
    have c : (Stm.rep k b).cnt = 1 + Stm.cnts b := by simp only [Stm.cnt]
    rw [c] at hp
    rw [w]
    unfold exec1
    obtain ⟨q1, q2⟩ := MPn.repS (f := fun M => execL (Mt.begin want shut) bits b (p + 1) M) (w := 2 * Stm.wgts b) (u := Stm.wgts b) (fun B T M O S => ⟨MOk.execLS begOk b O, MPn.execLS b (n := n - 1) ok'.2.2 (by omega) O S⟩) (k := k) O.fin (S.fin O)
    exact ⟨q1.mono (by omega), q2⟩
  | .make x, n, p, B, T, M, ok, hp, O, S => by unfold exec1; simp only [Stm.wgt]; exact S.oneS O ok
  | .wish x w, n, p, B, T, M, ok, hp, O, S => by unfold exec1; simp only [Stm.wgt]; exact S.oneS O ok
  | .keep x, n, p, B, T, M, ok, hp, O, S => by unfold exec1; simp only [Stm.wgt]; exact S.oneS O ok
  | .name x y, n, p, B, T, M, ok, hp, O, S => by unfold exec1; simp only [Stm.wgt]; exact S.oneS O ok
  | .drop x, n, p, B, T, M, ok, hp, O, S => by unfold exec1; simp only [Stm.wgt]; exact S.oneS O ok
  | .hold x f y, n, p, B, T, M, ok, hp, O, S => by unfold exec1; simp only [Stm.wgt]; exact S.oneS O ok
  | .weak x f y, n, p, B, T, M, ok, hp, O, S => by unfold exec1; simp only [Stm.wgt]; exact S.oneS O ok
  | .cut x f, n, p, B, T, M, ok, hp, O, S => by unfold exec1; simp only [Stm.wgt]; exact S.oneS O ok
  | .take z x f, n, p, B, T, M, ok, hp, O, S => by unfold exec1; simp only [Stm.wgt]; exact S.oneS O ok
  | .say w, n, p, B, T, M, ok, hp, O, S => by unfold exec1; simp only [Stm.wgt]; exact S.oneS O ok
  | .ask t, n, p, B, T, M, ok, hp, O, S => by unfold exec1; simp only [Stm.wgt]; exact S.oneS O ok
theorem MPn.execLS {g : Nat} : ∀ (b : List Stm) {n p B T : Nat} {M : Mt}, Stm.oks g n b → p + Stm.cnts b ≤ 1000 → MOk B M → MPn T M → MPn (T + Stm.wgts b) (execL (Mt.begin want shut) bits b p M).st ∧ (execL (Mt.begin want shut) bits b p M).why
  | [], n, p, B, T, M, ok, hp, O, S => ⟨S, trivial⟩
  | x :: r, n, p, B, T, M, ok, hp, O, S => by
    have w : Stm.wgts (x :: r) = x.wgt + Stm.wgts r := by simp only [Stm.wgts]
    have c : Stm.cnts (x :: r) = x.cnt + Stm.cnts r := by simp only [Stm.cnts]
    rw [c] at hp
    rw [w]
    unfold execL
    have O1 := O.enter begOk (p := p) (bg := Mt.begin want shut)
    have S1 := S.enter (p := p) (want := want) (shut := shut) (by omega)
    have h1 := MOk.exec1S (bits := bits) (bg := Mt.begin want shut) begOk x (p := p) O1
    have h2 := MPn.exec1S x (p := p) ok.1 (by omega) O1 S1
    cases q : exec1 (Mt.begin want shut) bits x p (M.enter (Mt.begin want shut) p) with
    | stop y M' => rw [q] at h2; exact ⟨MPn.mono (M := M') h2.1 (by omega), h2.2⟩
    | ok a M' =>
      rw [q] at h1 h2
      obtain ⟨q1, q2⟩ := MPn.execLS r (p := p + x.cnt) (M := M') ok.2 (by omega) h1 h2.1
      exact ⟨q1.mono (by omega), q2⟩
end
end
end Sm

/-! S82: MPn through executed programs, for any beginning of moments -/
namespace Sm
open PySem L2
section
variable {M M' : Mt} {B T : Nat} {bits : List Int} {bg : Mt → Mt}
theorem MPn.step (h : MPn T M) {p : Nat} (hp : p ≤ 1000) : MPn (T + 1) { M with place := (p : Int), moment := M.moment + 1 } := by
  obtain ⟨a, b, c, d, e⟩ := h
  exact ⟨a, fun q hq => by have := b q hq; exact ⟨this.1, by show q.1 ≤ M.moment + 1; omega, this.2.2⟩, ⟨by show -1 ≤ M.moment + 1; omega, by show M.moment + 1 + 1 ≤ _; omega⟩, ⟨by show -1 ≤ (p : Int); omega, by show (p : Int) ≤ 1000; omega⟩, e⟩
theorem MPn.beginS (h : MPn T M) {want : Mt → List Nat} {shut : Int → Bool} : MPn T (M.beginS want shut) := by
  unfold Mt.beginS
  split
  · exact h
  · obtain ⟨a, b, c, d, e⟩ := h
    refine ⟨a, fun q hq => ?_, c, d, e⟩
    rcases List.mem_append.mp (show q ∈ _ ++ _ from hq) with z | z
    · exact b q z
    · obtain ⟨c', hc', rfl⟩ := List.mem_map.mp z
      exact ⟨c.1, Int.le_refl _, (mem_pick.mp hc').1⟩
mutual
theorem MPn.exec1G {g : Nat} (h1 : ∀ B M, MOk B M → MOk B (bg M)) (h3 : ∀ T B M, MOk B M → MPn T M → MPn T (bg M)) : ∀ (x : Stm) {n p B T : Nat} {M : Mt}, x.ok g n → p + x.cnt ≤ 1000 → MOk B M → MPn (T + 1) M → MPn (T + x.wgt) (exec1 bg bits x p M).st ∧ (exec1 bg bits x p M).why
  | .ife t a b, n, p, B, T, M, ok, hp, O, S => by
    have ok' : 0 < n ∧ t.ok g 3 ∧ Stm.oks g (n - 1) a ∧ Stm.oks g (n - 1) b := by simpa only [Stm.ok] using ok
    have w : (Stm.ife t a b).wgt = 1 + Stm.wgts a + Stm.wgts b := by simp only [Stm.wgt]
    have c : (Stm.ife t a b).cnt = 1 + Stm.cnts a + Stm.cnts b := by simp only [Stm.cnt]
    rw [c] at hp
    rw [w]
    unfold exec1
    have ht := O.testS (bits := bits) (t := t)
    have hs := S.testS (bits := bits) O (t := t)
    have hw := test_why (bits := bits) (M := M) (t := t)
    cases h : M.test bits t with
    | stop y M' => rw [h] at hs hw; exact ⟨MPn.mono (M := M') hs (by omega), hw⟩
    | ok c M' =>
      rw [h] at ht hs
      have O1 := MOk.fin (M := M') ht.1
      have S1 := MPn.fin (M := M') hs ht.1
      cases c with
      | true =>
        obtain ⟨q1, q2⟩ := MPn.execLG h1 h3 a (p := p + 1) (n := n - 1) ok'.2.2.1 (by omega) O1 S1
        exact ⟨q1.mono (by omega), q2⟩
      | false =>
        obtain ⟨q1, q2⟩ := MPn.execLG h1 h3 b (p := p + 1 + Stm.cnts a) (n := n - 1) ok'.2.2.2 (by omega) O1 S1
        exact ⟨q1.mono (by omega), q2⟩
  | .rep k b, n, p, B, T, M, ok, hp, O, S => by
    have ok' : 0 < n ∧ k ≤ 12 ∧ Stm.oks g (n - 1) b := by simpa only [Stm.ok] using ok
    have w : (Stm.rep k b).wgt = 1 + k * Stm.wgts b := by simp only [Stm.wgt]
    have c : (Stm.rep k b).cnt = 1 + Stm.cnts b := by simp only [Stm.cnt]
    rw [c] at hp
    rw [w]
    unfold exec1
    obtain ⟨q1, q2⟩ := MPn.repS (f := fun M => execL bg bits b (p + 1) M) (w := 2 * Stm.wgts b) (u := Stm.wgts b) (fun B T M O S => ⟨MOk.execLS h1 b O, MPn.execLG h1 h3 b (n := n - 1) ok'.2.2 (by omega) O S⟩) (k := k) O.fin (S.fin O)
    exact ⟨q1.mono (by omega), q2⟩
  | .make x, n, p, B, T, M, ok, hp, O, S => by unfold exec1; simp only [Stm.wgt]; exact S.oneS O ok
  | .wish x w, n, p, B, T, M, ok, hp, O, S => by unfold exec1; simp only [Stm.wgt]; exact S.oneS O ok
  | .keep x, n, p, B, T, M, ok, hp, O, S => by unfold exec1; simp only [Stm.wgt]; exact S.oneS O ok
  | .name x y, n, p, B, T, M, ok, hp, O, S => by unfold exec1; simp only [Stm.wgt]; exact S.oneS O ok
  | .drop x, n, p, B, T, M, ok, hp, O, S => by unfold exec1; simp only [Stm.wgt]; exact S.oneS O ok
  | .hold x f y, n, p, B, T, M, ok, hp, O, S => by unfold exec1; simp only [Stm.wgt]; exact S.oneS O ok
  | .weak x f y, n, p, B, T, M, ok, hp, O, S => by unfold exec1; simp only [Stm.wgt]; exact S.oneS O ok
  | .cut x f, n, p, B, T, M, ok, hp, O, S => by unfold exec1; simp only [Stm.wgt]; exact S.oneS O ok
  | .take z x f, n, p, B, T, M, ok, hp, O, S => by unfold exec1; simp only [Stm.wgt]; exact S.oneS O ok
  | .say w, n, p, B, T, M, ok, hp, O, S => by unfold exec1; simp only [Stm.wgt]; exact S.oneS O ok
  | .ask t, n, p, B, T, M, ok, hp, O, S => by unfold exec1; simp only [Stm.wgt]; exact S.oneS O ok
theorem MPn.execLG {g : Nat} (h1 : ∀ B M, MOk B M → MOk B (bg M)) (h3 : ∀ T B M, MOk B M → MPn T M → MPn T (bg M)) : ∀ (b : List Stm) {n p B T : Nat} {M : Mt}, Stm.oks g n b → p + Stm.cnts b ≤ 1000 → MOk B M → MPn T M → MPn (T + Stm.wgts b) (execL bg bits b p M).st ∧ (execL bg bits b p M).why
  | [], n, p, B, T, M, ok, hp, O, S => ⟨S, trivial⟩
  | x :: r, n, p, B, T, M, ok, hp, O, S => by
    have w : Stm.wgts (x :: r) = x.wgt + Stm.wgts r := by simp only [Stm.wgts]
    have c : Stm.cnts (x :: r) = x.cnt + Stm.cnts r := by simp only [Stm.cnts]
    rw [c] at hp
    rw [w]
    unfold execL
    have O1 := O.enter h1 (p := p) (bg := bg)
    have S1 : MPn (T + 1) (M.enter bg p) := h3 _ B _ O.at0 (S.step (by omega))
    have q1 := MOk.exec1S (bits := bits) (bg := bg) h1 x (p := p) O1
    have q2 := MPn.exec1G h1 h3 x (p := p) ok.1 (by omega) O1 S1
    cases q : exec1 bg bits x p (M.enter bg p) with
    | stop y M' => rw [q] at q2; exact ⟨MPn.mono (M := M') q2.1 (by omega), q2.2⟩
    | ok a M' =>
      rw [q] at q1 q2
      obtain ⟨r1, r2⟩ := MPn.execLG h1 h3 r (p := p + x.cnt) (M := M') ok.2 (by omega) q1 q2.1
      exact ⟨r1.mono (by omega), r2⟩
end
/-! what a run answers can be told by repr -/
end
end Sm

/-! L56: fields told: the law -/
namespace K56
open PySem L2 Sm
theorem digits_ne : ∀ i j : Fin 10, i ≠ j → (Str.ofString (toString ((i.val : Nat) : Int))) ≠ (Str.ofString (toString ((j.val : Nat) : Int))) := by decide
theorem app_cancel {L x y R : Str} (h : L ++ x ++ R = L ++ y ++ R) : x = y := by
  have e : (L ++ x ++ R).cps.toList = (L ++ y ++ R).cps.toList := by rw [h]
  rw [str_append, str_append, str_append, str_append] at e
  have e2 := List.append_cancel_left (List.append_cancel_right e)
  exact str_ext e2
def tk (i : Nat) : Str := Str.ofString "taken" ++ Str.ofString (toString ((i : Nat) : Int))
theorem digit_e : ∀ i : Fin 10, (Str.ofString (toString ((i.val : Nat) : Int))).cps.toList ≠ [101] ∧ (Str.ofString (toString ((i.val : Nat) : Int))).cps.toList.length = 1 := by decide
theorem tk_list : (tk 7).cps.toList = [116, 97, 107, 101, 110, 55] ∧ (tk 8).cps.toList = [116, 97, 107, 101, 110, 56] := by decide
theorem tk_ne {L R : Str} {i j : Nat} (hL : L.length ≤ 3) (hR : R.length ≤ 2) (hi : i < 10) (hj : j = 7 ∨ j = 8) : tk j ≠ L ++ Str.ofString (toString ((i : Nat) : Int)) ++ R := by
  intro h
  have e : (tk j).cps.toList = (L ++ Str.ofString (toString ((i : Nat) : Int)) ++ R).cps.toList := by rw [h]
  rw [str_append, str_append] at e
  obtain ⟨d1, d2⟩ := digit_e ⟨i, hi⟩
  rw [str_len] at hL hR
  generalize (Str.ofString (toString ((i : Nat) : Int))).cps.toList = D at e d1 d2
  generalize L.cps.toList = A at e hL
  generalize R.cps.toList = B at e hR
  obtain ⟨x, y, e2, hy⟩ : ∃ x y, A ++ D ++ B = [116, 97, 107, 101, x, y] ∧ True := by
    rcases hj with rfl | rfl
    · exact ⟨_, _, by rw [← e]; exact tk_list.1, trivial⟩
    · exact ⟨_, _, by rw [← e]; exact tk_list.2, trivial⟩
  have ln := congrArg List.length e2
  simp at ln
  have lA : A.length = 3 := by omega
  have g : (A ++ D ++ B)[3]? = D[0]? := by
    rw [List.append_assoc, List.getElem?_append_right (by omega), lA, List.getElem?_append_left (by omega)]
  rw [e2] at g
  cases D with
  | nil => simp at d2
  | cons z r =>
    cases r with
    | nil => simp at g; subst g; exact d1 rfl
    | cons _ _ => simp at d2
theorem tk_nice {j : Nat} (hj : j = 7 ∨ j = 8) : Nice (tk j) := by
  rcases hj with rfl | rfl
  · exact ⟨by decide, by rw [tk_list.1]; decide⟩
  · exact ⟨by decide, by rw [tk_list.2]; decide⟩
section
variable {s : Sto} {d l c : Nat} {Q : Vl → Sto → Prop} {E : Ex → Sto → Prop}
theorem rowW {a b : Nat} {xs ys : List Str} (D : Dk s d l c) (Sa : Strs s a xs) (Sb : Strs s b ys) (ha : a ∉ [d, l]) (hb : b ∉ [d, l]) (x0 : 0 < xs.length) (y0 : 0 < ys.length) (hc : c + 100 < CM)
    (k1 : ∀ (t : Bool) x f y s', x ∈ xs → f ∈ ys → y ∈ xs → Dk s' d l (c + 5) → Fr [d, l] s s' → Q (Stm.vl (if t then .hold x f y else .weak x f y)) s')
    (k2 : ∀ x f s', x ∈ xs → f ∈ ys → Dk s' d l (c + 5) → Fr [d, l] s s' → Q (Stm.vl (.cut x f)) s')
    (k3 : ∀ j x f s', j = 7 ∨ j = 8 → x ∈ xs → f ∈ ys → Dk s' d l (c + 5) → Fr [d, l] s s' → Q (Stm.vl (.take (tk j) x f)) s')
    (k4 : ∀ (t : Bool) x f s', x ∈ xs → f ∈ ys → Dk s' d l (c + 5) → Fr [d, l] s s' → Q (Stm.vl (.ask (if t then .full x f else .not (.full x f)))) s') : WE (m__law_row [.ref d, .ref a, .ref b]) s Q E := by
  unfold m__law_row b__law_row
  simp
  refine draw D (by omega) (by omega) (by omega) fun w s1 hw D1 f1 => ?_
  have Sa1 := Sa.fr f1 ha
  have Sb1 := Sb.fr f1 hb
  simp
  refine oneT D1 Sa1 ha x0 (by omega) fun x s2 hx nx D2 f2 => ?_
  have Sa2 := Sa1.fr f2 ha
  have Sb2 := Sb1.fr f2 hb
  simp
  refine oneT D2 Sa2 ha x0 (by omega) fun y s3 hy ny D3 f3 => ?_
  have Sb3 := Sb2.fr f3 hb
  simp
  refine oneT D3 Sb3 hb y0 (by omega) fun f s4 hf nf D4 f4 => ?_
  have ff := ((f1.trans f2).trans f3).trans f4
  have Dp : ∀ o, Dk (s4 ++ [o]) d l (c + 5) := fun o => (D4.new (Fr.refl.push o)).mono (by omega)
  have fp : ∀ o, Fr [d, l] s (s4 ++ [o]) := fun o => ff.push o
  have oS : ∀ j : Nat, (j = 7 ∨ j = 8) → ∀ s, oStr [.int ((j : Nat) : Int)] s = some (.str (Str.ofString (toString ((j : Nat) : Int))), s) := fun j hj s => by
    have b1 : ((j : Nat) : Int).natAbs.log2 < 1920 := by
      have : ((j : Nat) : Int).natAbs = j := by omega
      rw [this]
      have := (Nat.log2_lt (by omega) (n := j) (k := 10)).mpr (by omega)
      omega
    rw [oStr_int b1]
  simp
  rcases (show (w < 6 ∧ w % 2 = 0) ∨ (w < 6 ∧ w % 2 = 1) ∨ w = 6 ∨ (w = 7 ∨ w = 8) ∨ w = 9 ∨ w = 10 by omega) with h | h | h | h | h | h
  · have e1 : (w : Int) < 6 := by omega
    have e2 : (w : Int) % 2 = 0 := by omega
    simp [e1, e2, atI_0]
    exact k1 true x f y _ hx hf hy (Dp _) (fp _)
  · have e1 : (w : Int) < 6 := by omega
    have e2 : (w : Int) % 2 = 1 := by omega
    simp [e1, e2, atI_1]
    exact k1 false x f y _ hx hf hy (Dp _) (fp _)
  · subst h
    simp
    exact k2 x f _ hx hf (D4.mono (by omega)) ff
  · have e1 : ¬ (w : Int) < 6 := by omega
    have e2 : ¬ (w : Int) = 6 := by omega
    have e3 : (w : Int) < 9 := by omega
    have b2 : (Str.ofString "taken").length + (Str.ofString (toString ((w : Nat) : Int))).length ≤ LIM := by
      rcases h with rfl | rfl <;> exact limB (by decide)
    simp only [e1, e2, e3, if_false, if_true, oS w h, WO_some, opAdd_str b2]
    have := k3 w x f s4 h hx hf (D4.mono (by omega)) ff
    simp
    exact this
  · subst h
    simp [atI_0]
    exact k4 true x f _ hx hf (Dp _) (fp _)
  · subst h
    simp [atI_1]
    exact k4 false x f _ hx hf (Dp _) (fp _)
end
def stepB : SM := (sSeq (sSet 12 (eCall (arg 3 m__law_row) (aCons (eVar 1) (aCons (eSl opSl (eVar 8) none (some (eVar 7))) (aCons (eSl opSl (eVar 8) (some (eC (.int 4))) none) aNil)))))
  (sSeq (sIf (tVal (eOp opIn (eOp opIx (eVar 12) (eC (.int 0))) (eCB oLst (aCons (eC (.str "hold")) (aCons (eC (.str "weak")) aNil))))) (sAsg (gSbT (eVar 9) (aCons (eOp opIx (eVar 2) (eOp opIx (eVar 12) (eC (.int 1)))) (aCons (eOp opIx (eVar 12) (eC (.int 2))) aNil))) (eOp opIx (eVar 2) (eOp opIx (eVar 12) (eC (.int 3))))) (sIf (tVal (eOp opEq (eOp opIx (eVar 12) (eC (.int 0))) (eC (.str "cut")))) (sAsg (gSbT (eVar 9) (aCons (eOp opIx (eVar 2) (eOp opIx (eVar 12) (eC (.int 1)))) (aCons (eOp opIx (eVar 12) (eC (.int 2))) aNil))) (eC .non)) (sSeq (sAsg (gTp [14, 15]) (eIfM (tVal (eOp opEq (eOp opIx (eVar 12) (eC (.int 0))) (eC (.str "take")))) (eCB oTup (aCons (eOp opIx (eVar 12) (eC (.int 2))) (aCons (eOp opIx (eVar 12) (eC (.int 3))) aNil))) (eIfM (tVal (eOp opEq (eOp opIx (eOp opIx (eVar 12) (eC (.int 1))) (eC (.int 0))) (eC (.str "full")))) (eSl opSl (eOp opIx (eVar 12) (eC (.int 1))) (some (eOp1 opNeg (eC (.int 2)))) none) (eSl opSl (eOp opIx (eOp opIx (eVar 12) (eC (.int 1))) (eC (.int 1))) (some (eC (.int 1))) none))))
  (sSeq (sSet 13 (eDGetT (eVar 9) (aCons (eOp opIx (eVar 2) (eVar 14)) (aCons (eVar 15) aNil))))
  (sSeq (sSet 11 (eOp opAdd (eVar 11) (eCB oInt (aCons (eOp opNotN (eVar 13) (eC .non)) aNil))))
  (sIf (tVal (eOp opEq (eOp opIx (eVar 12) (eC (.int 0))) (eC (.str "take")))) (sSeq (sExpr (eBm .list oAppend (eVar 4) (aCons (eVar 12) aNil)))
  (sSeq (sSet 12 (eCB oTup (aCons (eC (.str "ask")) (aCons (eCB oTup (aCons (eC (.str "set")) (aCons (eOp opIx (eVar 12) (eC (.int 1))) aNil))) aNil))))
  (sExpr (eBm .list oAppend (eVar 10) (aCons (eIfM (tVal (eOp opIsN (eVar 13) (eC .non))) (eCB oTup (aCons (eC (.str "no")) aNil)) (eCB oTup (aCons (eC (.str "yes")) aNil))) aNil))))) (sExpr (eBm .list oAppend (eVar 10) (aCons (eIfM (tVal (eOp opEq (eOp opNotN (eVar 13) (eC .non)) (eOp opEq (eOp opIx (eOp opIx (eVar 12) (eC (.int 1))) (eC (.int 0))) (eC (.str "full"))))) (eCB oTup (aCons (eC (.str "yes")) aNil)) (eCB oTup (aCons (eC (.str "no")) aNil))) aNil)))))))))
  (sExpr (eBm .list oAppend (eVar 4) (aCons (eVar 12) aNil)))))
structure RB (rows : List Stm) : Prop where
  ok : Stm.oks 0 1 rows
  wg : Stm.wgts rows = rows.length
theorem RB.snoc {rows : List Stm} {x : Stm} (R : RB rows) (h : x.ok 0 1) (hw : x.wgt = 1) : RB (rows ++ [x]) := by
  refine ⟨Stm.oks_app.mpr ⟨R.ok, ⟨h, trivial⟩⟩, ?_⟩
  rw [Stm.wgts_app, R.wg]; simp [Stm.wgts, hw]
theorem RB.makes {nm : Nat → Str} (hn : ∀ c, c < 7 → Nice (nm c)) : ∀ k, k ≤ 7 → RB ((List.range k).map fun c => Stm.make (nm c))
  | 0, _ => ⟨trivial, rfl⟩
  | k + 1, hk => by
    rw [List.range_succ, List.map_append]
    exact (RB.makes hn k (by omega)).snoc (by unfold Stm.ok; exact hn k (by omega)) rfl
/-- the store and the law's own lists behind some turns -/
structure Lw (d l st nm hl sd rw : Nat) (F : Nat → Str) (n c i : Nat) (s : Sto) (rows : List Stm) (said : List Said) (M : Mt) (kvs : List (List Key × Vl)) (asked : Nat) : Prop where
  D : Dk s d l c
  std : s[st]? = some (.dic ((List.range n).map fun c => ((.inr (F c) : Key), Vl.int ((c : Nat) : Int))))
  nms : Strs s nm ((List.range 7).map F)
  hld : s[hl]? = some (.dit kvs)
  sdl : s[sd]? = some (.lst (said.map Said.vl))
  rws : s[rw]? = some (.lst (rows.map Stm.vl))
  H : H56 rows said M
  W : W56 F n M kvs
  rep : M.rep = List.replicate asked false
  r1 : rows.length ≤ 4 + 2 * i
  r2 : asked ≤ i
  r3 : kvs.length ≤ i
  r4 : said.length ≤ i
  R : RB rows
  ny : ∀ x ∈ said, x = .yes ∨ x = .no
def LpI (ns : List Int) (d l st nm hl sd rw : Nat) (F : Nat → Str) (n c0 i : Nat) (lo : Lo) (s : Sto) : Prop := ∃ (rows : List Stm) (said : List Said) (M : Mt) (kvs : List (List Key × Vl)) (asked : Nat) (x3 x12 x13 x14 x15 : Option Vl),
  lo = [some (.scr ns), some (.ref d), some (.ref st), x3, some (.ref rw), none, none, some (.int ((n : Nat) : Int)), some (.ref nm), some (.ref hl), some (.ref sd), some (.int ((asked : Nat) : Int)), x12, x13, x14, x15, none] ∧
  Lw d l st nm hl sd rw F n (c0 + 10 * i) i s rows said M kvs asked
section
variable {ns : List Int} {d l st nm hl sd rw n c i : Nat} {F : Nat → Str} {s : Sto} {rows : List Stm} {said : List Said} {M : Mt} {kvs : List (List Key × Vl)} {asked : Nat} {K : RK} {x3 x12 x13 x14 x15 : Option Vl}
theorem Lw.fr {c' : Nat} {s' : Sto} (A : Lw d l st nm hl sd rw F n c i s rows said M kvs asked) (f : Fr [d, l] s s') (D : Dk s' d l c') (ad : nm ∉ [d, l] ∧ st ∉ [d, l] ∧ hl ∉ [d, l] ∧ sd ∉ [d, l] ∧ rw ∉ [d, l]) : Lw d l st nm hl sd rw F n c' i s' rows said M kvs asked :=
  { A with D := D, std := f.at A.std ad.2.1, nms := A.nms.fr f ad.1, hld := f.at A.hld ad.2.2.1, sdl := f.at A.sdl ad.2.2.2.1, rws := f.at A.rws ad.2.2.2.2 }
theorem rep_all {asked : Nat} {N : Mt} (h : N.rep = List.replicate asked false) : ∀ b ∈ N.rep, b = false := fun b hb => by
  rw [h] at hb
  exact List.eq_of_mem_replicate hb
/-- a statement more, told in the store -/
theorem Lw.more {c' k : Nat} {s' : Sto} {x : Stm} {M' : Mt} {kvs' : List (List Key × Vl)} {new : List Said} (A : Lw d l st nm hl sd rw F n c i s rows said M kvs asked) (S : St56 F n M x rows.length M' kvs' new k) (hx : x.cnt = 1 ∧ x.wgt = 1 ∧ x.ok 0 1) (hn : new.length = askN [x]) (hn1 : new.length ≤ 1) (hk : k ≤ 1) (hkv : kvs'.length ≤ kvs.length + 1) (hny : ∀ x ∈ new, x = .yes ∨ x = .no)
    (D : Dk s' d l c') (std : s'[st]? = some (.dic ((List.range n).map fun c => ((.inr (F c) : Key), Vl.int ((c : Nat) : Int))))) (nms : Strs s' nm ((List.range 7).map F)) (hld : s'[hl]? = some (.dit kvs')) (sdl : s'[sd]? = some (.lst ((said ++ new).map Said.vl))) (rws : s'[rw]? = some (.lst ((rows ++ [x]).map Stm.vl))) :
    Lw d l st nm hl sd rw F n c' (i + 1) s' (rows ++ [x]) (said ++ new) M' kvs' (asked + k) := by
  have rp : M'.rep = List.replicate (asked + k) false := by rw [S.rep, A.rep, List.replicate_append_replicate]
  exact ⟨D, std, nms, hld, sdl, rws, A.H.snoc hx.1 S.ex S.said hn (rep_all rp) S.w.clr, S.w, rp, by have := A.r1; simp; omega, by have := A.r2; omega, by have := A.r3; omega, by have := A.r4; simp; omega, A.R.snoc hx.2.2 hx.2.1, fun x h => (List.mem_append.mp h).elim (A.ny x) (hny x)⟩
theorem stepW (A : Lw d l st nm hl sd rw F n c i s rows said M kvs asked) (hF : ∀ a b, a < 7 → b < 7 → F a = F b → a = b) (hT : ∀ j a, (j = 7 ∨ j = 8) → a < 7 → tk j ≠ F a) (hn : 3 ≤ n ∧ n ≤ 4) (hi : i < 23) (hc : c + 200 < CM)
    (ad : nm ∉ [d, l] ∧ st ∉ [d, l] ∧ hl ∉ [d, l] ∧ sd ∉ [d, l] ∧ rw ∉ [d, l]) (ne : hl ≠ st ∧ hl ≠ nm ∧ hl ≠ sd ∧ hl ≠ rw ∧ sd ≠ st ∧ sd ≠ nm ∧ sd ≠ rw ∧ rw ≠ st ∧ rw ≠ nm)
    (k : ∀ s' rows said M kvs asked y12 y13 y14 y15, Lw d l st nm hl sd rw F n (c + 10) (i + 1) s' rows said M kvs asked → K.nx [some (.scr ns), some (.ref d), some (.ref st), x3, some (.ref rw), none, none, some (.int ((n : Nat) : Int)), some (.ref nm), some (.ref hl), some (.ref sd), some (.int ((asked : Nat) : Int)), y12, y13, y14, y15, none] s') :
    WS stepB [some (.scr ns), some (.ref d), some (.ref st), x3, some (.ref rw), none, none, some (.int ((n : Nat) : Int)), some (.ref nm), some (.ref hl), some (.ref sd), some (.int ((asked : Nat) : Int)), x12, x13, x14, x15, none] s K := by
  obtain ⟨ad1, ad2, ad3, ad4, ad5⟩ := ad
  obtain ⟨ne1, ne2, ne3, ne4, ne5, ne6, ne7, ne8, ne9⟩ := ne
  unfold stepB
  have nmo := A.nms.at_
  have c1 : cutL (((List.range 7).map F).map Vl.str) none (some ((n : Nat) : Int)) = ((List.range n).map F).map Vl.str := by
    rw [cutL_nat, ← List.map_take, ← List.map_take, List.take_range, Nat.min_eq_left (by omega)]
  have c2 : cutL (((List.range 7).map F).map Vl.str) (some 4) none = [Vl.str (F 4), .str (F 5), .str (F 6)] := rfl
  have g1 := get_push (o' := Ob.lst (((List.range n).map F).map Vl.str)) nmo
  simp [opSl_lst nmo, opSl_lst g1, c1, c2, -List.map_map]
  have q1 : (s ++ [Ob.lst (((List.range n).map F).map Vl.str), Ob.lst [Vl.str (F 4), .str (F 5), .str (F 6)]])[s.length]? = some (.lst (((List.range n).map F).map Vl.str)) := by simp [-List.map_map]
  have q2 : (s ++ [Ob.lst (((List.range n).map F).map Vl.str), Ob.lst [Vl.str (F 4), .str (F 5), .str (F 6)]])[s.length + 1]? = some (.lst [Vl.str (F 4), .str (F 5), .str (F 6)]) := by simp [-List.map_map]
  have f2 : Fr [] s (s ++ [Ob.lst (((List.range n).map F).map Vl.str), Ob.lst [Vl.str (F 4), .str (F 5), .str (F 6)]]) := by
    have := ((Fr.refl (X := []) (s := s)).push (Ob.lst (((List.range n).map F).map Vl.str))).push (Ob.lst [Vl.str (F 4), .str (F 5), .str (F 6)])
    simpa only [List.append_assoc, List.cons_append, List.nil_append] using this
  have lt := A.D.lt
  have A2 := A.fr (f2.mono (by simp)) (A.D.new f2) ⟨ad1, ad2, ad3, ad4, ad5⟩
  have S1 : Strs (s ++ [Ob.lst (((List.range n).map F).map Vl.str), Ob.lst [Vl.str (F 4), .str (F 5), .str (F 6)]]) s.length ((List.range n).map F) := ⟨q1, fun x hx => A.nms.nice x (by
    obtain ⟨y, hy, rfl⟩ := List.mem_map.mp hx
    exact List.mem_map.mpr ⟨y, by simp at hy ⊢; omega, rfl⟩), by simp; omega⟩
  have S2 : Strs (s ++ [Ob.lst (((List.range n).map F).map Vl.str), Ob.lst [Vl.str (F 4), .str (F 5), .str (F 6)]]) (s.length + 1) [F 4, F 5, F 6] := ⟨q2, fun x hx => A.nms.nice x (by
    simp at hx
    rcases hx with rfl | rfl | rfl <;> exact List.mem_map.mpr ⟨_, List.mem_range.mpr (by omega), rfl⟩), by simp⟩
  have hs : s.length ∉ [d, l] := by simp; omega
  have hs1 : s.length + 1 ∉ [d, l] := by simp; omega
  generalize s ++ [_, _] = s2 at S1 S2 A2 ⊢
  have nF : ∀ a, a < 7 → Nice (F a) := fun a ha => A.nms.nice _ (List.mem_map.mpr ⟨a, List.mem_range.mpr ha, rfl⟩)
  have ixN : ∀ (t : Sto) (a : Nat), a < n → t[st]? = some (.dic ((List.range n).map fun c => ((.inr (F c) : Key), Vl.int ((c : Nat) : Int)))) → opIx (.ref st) (.str (F a)) t = some (.int ((a : Nat) : Int), t) := fun t a ha h => by
    rw [opIx_dicS h, look_names n (fun a b ha hb => hF a b (by omega) (by omega)) a ha]; rfl
  have inX : ∀ x, x ∈ (List.range n).map F → ∃ a, a < n ∧ x = F a := fun x hx => by
    obtain ⟨a, ha, rfl⟩ := List.mem_map.mp hx
    exact ⟨a, List.mem_range.mp ha, rfl⟩
  have inY : ∀ x, x ∈ [F 4, F 5, F 6] → ∃ a, a < 7 ∧ x = F a := fun x hx => by
    simp at hx
    rcases hx with rfl | rfl | rfl
    · exact ⟨4, by omega, rfl⟩
    · exact ⟨5, by omega, rfl⟩
    · exact ⟨6, by omega, rfl⟩
  refine rowW A2.D S1 S2 hs hs1 (by simp; omega) (by simp) (by omega) ?_ ?_ ?_ ?_
  · intro t x f y s3 hx hf hy D3 f3
    obtain ⟨h, hh, rfl⟩ := inX x hx
    obtain ⟨e, he, rfl⟩ := inX y hy
    obtain ⟨g, hg, rfl⟩ := inY f hf
    have A3 := A2.fr f3 D3 ⟨ad1, ad2, ad3, ad4, ad5⟩
    obtain ⟨M', S⟩ := st_fill (p := rows.length) (f := F g) (b := t) A.W hh he
    have lk : kvs.length < LIM := limC (by have := A.r3; omega)
    have lr : (rows.map Stm.vl).length < LIM := limC (by have := A.r1; simp; omega)
    have fin : ∀ (v : Vl) (s4 : Sto), v = Stm.vl (if t then .hold (F h) (F g) (F e) else .weak (F h) (F g) (F e)) → Lw d l st nm hl sd rw F n (c + 10) i s4 rows said M kvs asked → K.nx [some (.scr ns), some (.ref d), some (.ref st), x3, some (.ref rw), none, none, some (.int ((n : Nat) : Int)), some (.ref nm), some (.ref hl), some (.ref sd), some (.int ((asked : Nat) : Int)), some v, x13, x14, x15, none]
        ((s4.set hl (.dit (putA kvs [.inl ((h : Nat) : Int), .inr (F g)] (.int ((e : Nat) : Int))))).set rw (.lst (rows.map Stm.vl ++ [v]))) := by
      intro v s4 hv A4
      have := A4.more (s' := (s4.set hl (.dit (putA kvs [.inl ((h : Nat) : Int), .inr (F g)] (.int ((e : Nat) : Int))))).set rw (.lst (rows.map Stm.vl ++ [v]))) S (by cases t <;> exact ⟨rfl, rfl, by unfold Stm.ok; exact ⟨nF _ (by omega), nF _ hg, nF _ (by omega)⟩⟩) (by cases t <;> rfl) (by simp) (by omega) putA_len (by simp)
        (A4.D.fr ((Fr.refl.set (X := [hl, rw]) (by simp)).set (by simp)) (by simp at ad3 ad5 ⊢; omega) (by simp at ad3 ad5 ⊢; omega))
        (by rw [get_set_ne (by omega), get_set_ne (by omega)]; exact A4.std)
        (A4.nms.fr ((Fr.refl.set (X := [hl, rw]) (by simp)).set (by simp)) (by simp; omega))
        (by rw [get_set_ne (by omega)]; exact get_set_self A4.hld)
        (by rw [get_set_ne (by omega), get_set_ne (by omega), List.append_nil]; exact A4.sdl)
        (by rw [get_set_self (by rw [get_set_ne (by omega)]; exact A4.rws), List.map_append, hv]; rfl)
      exact k _ _ _ _ _ _ _ _ _ _ (by simpa using this)
    have A4 := A3.fr (c' := c + 10) (Fr.refl.push (Ob.lst [.str "hold", .str "weak"])) ((A3.D.new (Fr.refl.push _)).mono (by omega)) ⟨ad1, ad2, ad3, ad4, ad5⟩
    cases t <;> simp [Stm.vl]
    · generalize s3 ++ [Ob.lst [Vl.str (Str.ofString "hold"), .str (Str.ofString "weak")]] = s4 at A4 ⊢
      have r4 : (s4.set hl (.dit (putA kvs [.inl ((h : Nat) : Int), .inr (F g)] (.int ((e : Nat) : Int)))))[rw]? = some (.lst (rows.map Stm.vl)) := by rw [get_set_ne (by omega)]; exact A4.rws
      simp [ixN s4 e he A4.std, ixN s4 h hh A4.std, putTT_is A4.hld lk, kd_lst r4, oAppend_lst r4 lr]
      exact fin _ s4 rfl A4
    · generalize s3 ++ [Ob.lst [Vl.str (Str.ofString "hold"), .str (Str.ofString "weak")]] = s4 at A4 ⊢
      have r4 : (s4.set hl (.dit (putA kvs [.inl ((h : Nat) : Int), .inr (F g)] (.int ((e : Nat) : Int)))))[rw]? = some (.lst (rows.map Stm.vl)) := by rw [get_set_ne (by omega)]; exact A4.rws
      simp [ixN s4 e he A4.std, ixN s4 h hh A4.std, putTT_is A4.hld lk, kd_lst r4, oAppend_lst r4 lr]
      exact fin _ s4 rfl A4
  · intro x f s3 hx hf D3 f3
    obtain ⟨h, hh, rfl⟩ := inX x hx
    obtain ⟨g, hg, rfl⟩ := inY f hf
    have A3 := A2.fr f3 D3 ⟨ad1, ad2, ad3, ad4, ad5⟩
    obtain ⟨M', S⟩ := st_cut (p := rows.length) (f := F g) A.W hh
    have lk : kvs.length < LIM := limC (by have := A.r3; omega)
    have lr : (rows.map Stm.vl).length < LIM := limC (by have := A.r1; simp; omega)
    have A4 := A3.fr (c' := c + 10) (Fr.refl.push (Ob.lst [.str "hold", .str "weak"])) ((A3.D.new (Fr.refl.push _)).mono (by omega)) ⟨ad1, ad2, ad3, ad4, ad5⟩
    simp [Stm.vl]
    generalize s3 ++ [Ob.lst [Vl.str (Str.ofString "hold"), .str (Str.ofString "weak")]] = s4 at A4 ⊢
    have r4 : (s4.set hl (.dit (putA kvs [.inl ((h : Nat) : Int), .inr (F g)] .non)))[rw]? = some (.lst (rows.map Stm.vl)) := by rw [get_set_ne (by omega)]; exact A4.rws
    have := A4.more (s' := (s4.set hl (.dit (putA kvs [.inl ((h : Nat) : Int), .inr (F g)] .non))).set rw (.lst (rows.map Stm.vl ++ [Stm.vl (.cut (F h) (F g))]))) S ⟨rfl, rfl, by unfold Stm.ok; exact ⟨nF _ (by omega), nF _ hg⟩⟩ rfl (by simp) (by omega) putA_len (by simp)
        (A4.D.fr ((Fr.refl.set (X := [hl, rw]) (by simp)).set (by simp)) (by simp at ad3 ad5 ⊢; omega) (by simp at ad3 ad5 ⊢; omega))
        (by rw [get_set_ne (by omega), get_set_ne (by omega)]; exact A4.std)
        (A4.nms.fr ((Fr.refl.set (X := [hl, rw]) (by simp)).set (by simp)) (by simp; omega))
        (by rw [get_set_ne (by omega)]; exact get_set_self A4.hld)
        (by rw [get_set_ne (by omega), get_set_ne (by omega), List.append_nil]; exact A4.sdl)
        (by rw [get_set_self r4, List.map_append]; rfl)
    simp [ixN s4 h hh A4.std, putTT_is A4.hld lk, kd_lst r4, oAppend_lst r4 lr]
    exact k _ _ _ _ _ _ _ _ _ _ (by simpa [Stm.vl] using this)
  · intro j x f s3 hj hx hf D3 f3
    obtain ⟨h, hh, rfl⟩ := inX x hx
    obtain ⟨g, hg, rfl⟩ := inY f hf
    have A3 := A2.fr f3 D3 ⟨ad1, ad2, ad3, ad4, ad5⟩
    have A4 := A3.fr (c' := c + 10) (Fr.refl.push (Ob.lst [.str "hold", .str "weak"])) ((A3.D.new (Fr.refl.push _)).mono (by omega)) ⟨ad1, ad2, ad3, ad4, ad5⟩
    have rl : M.rep.length < 200 := by rw [A.rep, List.length_replicate]; have := A.r2; omega
    obtain ⟨M1, S1, c1⟩ := st_take (p := rows.length) (f := F g) (z := tk j) A.W hh (fun c hc => hT j c hj (by omega)) rl
    obtain ⟨M2, S2⟩ := st_set (p := rows.length + 1) (z := tk j) S1.w
    simp [Stm.vl]
    generalize s3 ++ [Ob.lst [Vl.str (Str.ofString "hold"), .str (Str.ofString "weak")]] = s4 at A4 ⊢
    have lr : (rows.map Stm.vl).length < LIM := limC (by have := A.r1; simp; omega)
    have lr2 : (rows.map Stm.vl ++ [Stm.vl (.take (tk j) (F h) (F g))]).length < LIM := limC (by have := A.r1; simp; omega)
    have ls : (said.map Said.vl).length < LIM := limC (by have := A.r4; simp; omega)
    have rp1 : M1.rep = List.replicate (asked + (if isF kvs h (F g) then 1 else 0)) false := by rw [S1.rep, A.rep, List.replicate_append_replicate]
    have rp2 : M2.rep = List.replicate (asked + (if isF kvs h (F g) then 1 else 0)) false := by rw [S2.rep, rp1]; simp
    have H1 := A.H.snoc (new := []) rfl S1.ex S1.said rfl (rep_all rp1) S1.w.clr
    have H2 := H1.snoc rfl (by simpa using S2.ex) S2.said rfl (rep_all rp2) S2.w.clr
    rw [c1] at H2
    have fin : ∀ (v : Vl) (y13 : Option Vl), v = (if isF kvs h (F g) = true then Said.yes else Said.no).vl → K.nx [some (.scr ns), some (.ref d), some (.ref st), x3, some (.ref rw), none, none, some (.int ((n : Nat) : Int)), some (.ref nm), some (.ref hl), some (.ref sd), some (.int (((asked + (if isF kvs h (F g) then 1 else 0) : Nat)) : Int)), some (Stm.vl (.ask (.set (tk j)))), y13, some (.str (F h)), some (.str (F g)), none]
        (((s4.set rw (.lst (rows.map Stm.vl ++ [Stm.vl (.take (tk j) (F h) (F g))]))).set sd (.lst (said.map Said.vl ++ [v]))).set rw (.lst (rows.map Stm.vl ++ [Stm.vl (.take (tk j) (F h) (F g))] ++ [Stm.vl (.ask (.set (tk j)))]))) := by
      intro v y13 hv
      have ff : Fr [rw, sd] s4 (((s4.set rw (.lst (rows.map Stm.vl ++ [Stm.vl (.take (tk j) (F h) (F g))]))).set sd (.lst (said.map Said.vl ++ [v]))).set rw (.lst (rows.map Stm.vl ++ [Stm.vl (.take (tk j) (F h) (F g))] ++ [Stm.vl (.ask (.set (tk j)))]))) := ((Fr.refl.set (by simp)).set (by simp)).set (by simp)
      refine k _ _ _ _ _ _ _ _ _ _ ⟨A4.D.fr ff (by simp at ad4 ad5 ⊢; omega) (by simp at ad4 ad5 ⊢; omega), ff.at A4.std (by simp; omega), A4.nms.fr ff (by simp; omega), ff.at A4.hld (by simp; omega), ?_, ?_, H2, S2.w, rp2, by have := A.r1; simp; omega, by have := A.r2; split <;> omega, by have := A.r3; omega, by have := A.r4; simp; omega, (A.R.snoc (by unfold Stm.ok; exact ⟨tk_nice hj, nF _ (by omega), nF _ hg⟩) rfl).snoc (by unfold Stm.ok; exact tk_nice hj) rfl, fun x h => by
        rw [List.append_nil] at h
        refine (List.mem_append.mp h).elim (A.ny x) fun q => ?_
        simp at q
        subst q
        split
        · exact .inl rfl
        · exact .inr rfl⟩
      · rw [get_set_ne (by omega), get_set_self (by rw [get_set_ne (by omega)]; exact A4.sdl), hv]
        simp
      · rw [get_set_self (by rw [get_set_ne (by omega)]; exact get_set_self A4.rws)]
        simp
    have s5r : (s4.set rw (.lst (rows.map Stm.vl ++ [Stm.vl (.take (tk j) (F h) (F g))])))[sd]? = some (.lst (said.map Said.vl)) := by rw [get_set_ne (by omega)]; exact A4.sdl
    have s6r : ∀ v, ((s4.set rw (.lst (rows.map Stm.vl ++ [Stm.vl (.take (tk j) (F h) (F g))]))).set sd (.lst (said.map Said.vl ++ [v])))[rw]? = some (.lst (rows.map Stm.vl ++ [Stm.vl (.take (tk j) (F h) (F g))])) := fun v => by
      rw [get_set_ne (by omega)]; exact get_set_self A4.rws
    have et : Vl.tup [.str "take", .str (tk j), .str (F h), .str (F g)] = Stm.vl (.take (tk j) (F h) (F g)) := rfl
    have ea : Vl.tup [.str "ask", .tup [.str "set", .str (tk j)]] = Stm.vl (.ask (.set (tk j))) := rfl
    unfold isF at fin
    generalize hb : Sm.isNon ((look kvs [.inl ((h : Nat) : Int), .inr (F g)]).getD .non) = bb at fin
    simp [ixN s4 h hh A4.std, A4.hld, hb]
    rw [hb]
    simp only [et]
    cases bb
    · have fin := fun y13 => fin (.tup [.str "yes"]) y13 rfl
      simp [kd_lst A4.rws, oAppend_lst A4.rws lr, hb, -List.append_assoc, s5r, oAppend_lst s5r ls, kd_lst (s6r _), oAppend_lst (s6r _) lr2, ea]
      simpa using fin _
    · have fin := fun y13 => fin (.tup [.str "no"]) y13 rfl
      simp [kd_lst A4.rws, oAppend_lst A4.rws lr, hb, -List.append_assoc, s5r, oAppend_lst s5r ls, kd_lst (s6r _), oAppend_lst (s6r _) lr2, ea]
      simpa using fin _
  · intro t x f s3 hx hf D3 f3
    obtain ⟨h, hh, rfl⟩ := inX x hx
    obtain ⟨g, hg, rfl⟩ := inY f hf
    have A3 := A2.fr f3 D3 ⟨ad1, ad2, ad3, ad4, ad5⟩
    have A4 := A3.fr (c' := c + 10) (Fr.refl.push (Ob.lst [.str "hold", .str "weak"])) ((A3.D.new (Fr.refl.push _)).mono (by omega)) ⟨ad1, ad2, ad3, ad4, ad5⟩
    have rl : M.rep.length < 200 := by rw [A.rep, List.length_replicate]; have := A.r2; omega
    obtain ⟨M', S⟩ := st_full (p := rows.length) (f := F g) (b := t) A.W hh rl
    have cu1 : cutL [Vl.str (Str.ofString "full"), .str (F h), .str (F g)] (some (-2)) none = [.str (F h), .str (F g)] := rfl
    have cu2 : cutL [Vl.str (Str.ofString "full"), .str (F h), .str (F g)] (some 1) none = [.str (F h), .str (F g)] := rfl
    have lr : (rows.map Stm.vl).length < LIM := limC (by have := A.r1; simp; omega)
    have ls : (said.map Said.vl).length < LIM := limC (by have := A.r4; simp; omega)
    have fin : ∀ (s4 : Sto), Lw d l st nm hl sd rw F n (c + 10) i s4 rows said M kvs asked → ∀ (v : Vl) (y13 : Option Vl), v = (if (isF kvs h (F g) == t) = true then Said.yes else Said.no).vl → K.nx [some (.scr ns), some (.ref d), some (.ref st), x3, some (.ref rw), none, none, some (.int ((n : Nat) : Int)), some (.ref nm), some (.ref hl), some (.ref sd), some (.int (((asked + (if isF kvs h (F g) then 1 else 0) : Nat)) : Int)), some (Stm.vl (.ask (if t then .full (F h) (F g) else .not (.full (F h) (F g))))), y13, some (.str (F h)), some (.str (F g)), none]
        ((s4.set sd (.lst (said.map Said.vl ++ [v]))).set rw (.lst (rows.map Stm.vl ++ [Stm.vl (.ask (if t then .full (F h) (F g) else .not (.full (F h) (F g))))]))) := by
      intro s4 A4 v y13 hv
      have ff : Fr [rw, sd] s4 ((s4.set sd (.lst (said.map Said.vl ++ [v]))).set rw (.lst (rows.map Stm.vl ++ [Stm.vl (.ask (if t then .full (F h) (F g) else .not (.full (F h) (F g))))]))) := (Fr.refl.set (by simp)).set (by simp)
      refine k _ _ _ _ _ _ _ _ _ _ (A4.more S ⟨rfl, rfl, by cases t <;> (unfold Stm.ok; exact ⟨nF _ (by omega), nF _ hg⟩)⟩ rfl (by simp) (by split <;> omega) (by omega) (fun x q => by
        simp at q
        subst q
        split
        · exact .inl rfl
        · exact .inr rfl) (A4.D.fr ff (by simp at ad4 ad5 ⊢; omega) (by simp at ad4 ad5 ⊢; omega)) (ff.at A4.std (by simp; omega)) (A4.nms.fr ff (by simp; omega)) (ff.at A4.hld (by simp; omega)) ?_ ?_)
      · rw [get_set_ne (by omega), get_set_self A4.sdl, hv]
        simp
      · rw [get_set_self (by rw [get_set_ne (by omega)]; exact A4.rws)]
        simp
    have fin := fin _ A4
    have s5r : ∀ v, ((s3 ++ [Ob.lst [Vl.str (Str.ofString "hold"), .str (Str.ofString "weak")]]).set sd (.lst (said.map Said.vl ++ [v])))[rw]? = some (.lst (rows.map Stm.vl)) := fun v => by rw [get_set_ne (by omega)]; exact A4.rws
    unfold isF at fin
    generalize hb : Sm.isNon ((look kvs [.inl ((h : Nat) : Int), .inr (F g)]).getD .non) = bb at fin
    cases t <;> simp [Stm.vl, Tst.vl, cu1, cu2]
    · generalize s3 ++ [Ob.lst [Vl.str (Str.ofString "hold"), .str (Str.ofString "weak")]] = s4 at A4 fin s5r ⊢
      simp [ixN s4 h hh A4.std, A4.hld]
      rw [hb]
      cases bb
      · have fin := fun y13 => fin (.tup [.str "no"]) y13 rfl
        simp [opEq, eqM, eqS, kd_lst A4.sdl, oAppend_lst A4.sdl ls, hb, -List.append_assoc, kd_lst (s5r _), oAppend_lst (s5r _) lr]
        simpa [Stm.vl, Tst.vl] using fin _
      · have fin := fun y13 => fin (.tup [.str "yes"]) y13 rfl
        simp [opEq, eqM, eqS, kd_lst A4.sdl, oAppend_lst A4.sdl ls, hb, -List.append_assoc, kd_lst (s5r _), oAppend_lst (s5r _) lr]
        simpa [Stm.vl, Tst.vl] using fin _
    · generalize s3 ++ [Ob.lst [Vl.str (Str.ofString "hold"), .str (Str.ofString "weak")]] = s4 at A4 fin s5r ⊢
      simp [ixN s4 h hh A4.std, A4.hld]
      rw [hb]
      cases bb
      · have fin := fun y13 => fin (.tup [.str "yes"]) y13 rfl
        simp [opEq, eqM, eqS, kd_lst A4.sdl, oAppend_lst A4.sdl ls, hb, -List.append_assoc, kd_lst (s5r _), oAppend_lst (s5r _) lr]
        simpa [Stm.vl, Tst.vl] using fin _
      · have fin := fun y13 => fin (.tup [.str "no"]) y13 rfl
        simp [opEq, eqM, eqS, kd_lst A4.sdl, oAppend_lst A4.sdl ls, hb, -List.append_assoc, kd_lst (s5r _), oAppend_lst (s5r _) lr]
        simpa [Stm.vl, Tst.vl] using fin _
end
def fAsk (v : Vl) : Option Vl := match v with
  | .tup (.str w :: _) => if w = Str.ofString "ask" then some v else none
  | _ => none
theorem fAsk_vl (x : Stm) : fAsk (Stm.vl x) = if isAskS x = true then some (Stm.vl x) else none := by
  cases x <;> simp [fAsk, Stm.vl, isAskS]
theorem fAsk_len : ∀ rs : List Stm, ((rs.map Stm.vl).filterMap fAsk).length = askN rs
  | [] => rfl
  | x :: r => by
    have ih := fAsk_len r
    unfold askN at ih ⊢
    rw [List.map_cons, List.filterMap_cons, fAsk_vl, List.filter_cons]
    cases h : isAskS x <;> simp [ih, -List.filterMap_map]
def restB : SM := (sSeq (sSet 4 (eSl opSl (eVar 4) none (some (eC (.int 30)))))
  (sSeq (sSet 5 (eCB oLen (aCons (eLc 100000 (iLst (eVar 4)) (glN 12) (tVal (eOp opEq (eOp opIx (eVar 12) (eC (.int 0))) (eC (.str "ask")))) (eVar 12) [12]) aNil)))
  (sSeq (sSet 6 (eCall (dflM 4 [(.tup []), (.tup [])] m_run) (aCons (eCB oTup (aCons (eC (.int 0)) (aCons (eCB oTuple (aCons (eVar 4) aNil)) aNil))) (aCons (eCB oTup aNil) aNil))))
  (sSeq (sIf (tAndM (tVal (eOp opLt (eCB oLen (aCons (eVar 4) aNil)) (eC (.int 30)))) (tVal (eOp opNe (eCB oLen (aCons (eOp opIx (eVar 6) (eC (.int 2))) aNil)) (eVar 11)))) (sRet (eC (.bl false))) sNil)
  (sSeq (sIf (tOrM (tVal (eOp opNe (eLcX (aTup (eOp opIx (eVar 6) (eC (.int 2)))) (glN 16) (tVal (eOp opNe (eVar 16) (eC (.int 0)))) (eVar 16) [16]) (eCB oLst aNil))) (tVal (eOp opNe (eOp opIx (eVar 6) (eC (.int 3))) (eCB oTup aNil)))) (sRet (eC (.bl false))) sNil)
  (sRet (eOp opEq (eCB oRepr (aCons (eSl opSl (eVar 6) none (some (eC (.int 2)))) aNil)) (eCB oRepr (aCons (eCB oTup (aCons (eCB oTuple (aCons (eSl opSl (eVar 10) none (some (eVar 5))) aNil)) (aCons (eC .non) aNil))) aNil)))))))))
section
variable {ns : List Int} {d l st nm hl sd rw n c i : Nat} {F : Nat → Str} {s : Sto} {rows : List Stm} {said : List Said} {M : Mt} {kvs : List (List Key × Vl)} {asked : Nat} {K : RK} {x3 x12 x13 x14 x15 : Option Vl}
theorem oks_take : ∀ {rs : List Stm} {k : Nat}, Stm.oks 0 1 rs → Stm.oks 0 1 (rs.take k)
  | [], k, h => by simp; exact h
  | x :: r, 0, h => trivial
  | x :: r, k + 1, h => ⟨h.1, oks_take h.2⟩
theorem cnts_take : ∀ {rs : List Stm} {k : Nat}, Stm.cnts (rs.take k) ≤ Stm.cnts rs
  | [], k => by simp
  | x :: r, 0 => by simp [Stm.cnts]
  | x :: r, k + 1 => by
    have := cnts_take (rs := r) (k := k)
    simp only [List.take_succ_cons, Stm.cnts]; omega
theorem wgts_take : ∀ {rs : List Stm} {k : Nat}, Stm.wgts (rs.take k) ≤ Stm.wgts rs
  | [], k => by simp
  | x :: r, 0 => by simp [Stm.wgts]
  | x :: r, k + 1 => by
    have := wgts_take (rs := r) (k := k)
    simp only [List.take_succ_cons, Stm.wgts]; omega
theorem endW (A : Lw d l st nm hl sd rw F n c i s rows said M kvs asked) (hi : i ≤ 23) (hK : ∀ s', K.rt (.bl true) s') :
    WS restB [some (.scr ns), some (.ref d), some (.ref st), x3, some (.ref rw), none, none, some (.int ((n : Nat) : Int)), some (.ref nm), some (.ref hl), some (.ref sd), some (.int ((asked : Nat) : Int)), x12, x13, x14, x15, none] s K := by
  unfold restB
  have r1 := A.r1
  have r4 := A.r4
  have c30 : cutL (rows.map Stm.vl) none (some 30) = (rows.take 30).map Stm.vl := by
    have := cutL_nat (n := 30) (xs := rows.map Stm.vl)
    rw [← List.map_take] at this
    exact this
  obtain ⟨N, ex, sdN, repN, clrN⟩ := A.H.pre (min 30 rows.length) (by omega)
  have et : rows.take (min 30 rows.length) = rows.take 30 := by
    rw [← List.take_take]
    simp
  rw [et] at ex sdN
  have full : (rows.take 30).length < 30 → N.rep.length = asked := fun h => by
    have : rows.take 30 = rows := List.take_of_length_le (by simp at h; omega)
    rw [this, A.H.ex] at ex
    cases ex
    rw [A.rep, List.length_replicate]
  have ok30 := oks_take (k := 30) A.R.ok
  have cn30 : Stm.cnts (rows.take 30) ≤ 1000 := by have := cnts_take (rs := rows) (k := 30); have := A.H.cn; omega
  have wg30 : 2 * Stm.wgts (rows.take 30) < 9000 := by have := wgts_take (rs := rows) (k := 30); have := A.R.wg; omega
  have an : askN (rows.take 30) ≤ said.length := by rw [A.H.sn]; exact askN_take
  have bl30 : Vl.tup ((rows.take 30).map Stm.vl) = blk (rows.take 30) := by unfold blk; rw [Stm.vls_map]
  have l30 : (rows.take 30).length ≤ 30 := by simp; omega
  generalize rows.take 30 = rs at *
  simp [opSl_lst A.rws, c30]
  refine lcL_p (xs := rs.map Stm.vl) (s ++ [Ob.lst (rs.map Stm.vl)]) fAsk (by simp) (by simp) get_last (by simp; omega) ?_ ?_
  · intro v hv acc
    obtain ⟨x, hx, rfl⟩ := List.mem_map.mp hv
    refine ⟨_, rfl, ?_⟩
    rw [fAsk_vl]
    cases x <;> simp [wipeL, Stm.vl, isAskS]
  · have lf := fAsk_len rs
    have g1 : (s ++ [Ob.lst (rs.map Stm.vl)] ++ [Ob.lst ((rs.map Stm.vl).filterMap fAsk)])[(s ++ [Ob.lst (rs.map Stm.vl)]).length]? = some (.lst ((rs.map Stm.vl).filterMap fAsk)) := get_last
    have g2 : (s ++ [Ob.lst (rs.map Stm.vl)] ++ [Ob.lst ((rs.map Stm.vl).filterMap fAsk)])[s.length]? = some (.lst (rs.map Stm.vl)) := get_push get_last
    have f1 : Fr [] s (s ++ [Ob.lst (rs.map Stm.vl)] ++ [Ob.lst ((rs.map Stm.vl).filterMap fAsk)]) := (Fr.refl.push _).push _
    generalize (rs.map Stm.vl).filterMap fAsk = fl at lf g1 g2 f1 ⊢
    generalize s ++ [Ob.lst (rs.map Stm.vl)] ++ [Ob.lst fl] = s1 at g1 g2 f1 ⊢
    generalize (s ++ [Ob.lst (rs.map Stm.vl)]).length = a1 at g1 ⊢
    generalize s.length = a at g2 ⊢
    have e0 : Vl.tup [] = .tup (([] : List Int).map Vl.int) := rfl
    have tu : oTuple [.ref a] s1 = some (blk rs, s1) := by rw [oTuple_lst g2, bl30]
    simp [oLen_lst g1, lf, tu]
    refine run0 (bits := []) (gv := .int 0) ok30 (by omega) rfl cn30 wg30 fun s2 k2 => ?_
    have f2 := f1.trans (Kp.fr0 k2)
    have O : MOk (0 + 2 * Stm.wgts rs) (execL id [] rs 0 Mt0).st := MOk.execLS (fun _ _ h => h) rs mt0Ok
    rw [ex] at O
    have rl : N.rep.length ≤ 200 := MOk.s4 (M := N) O
    have eR : resV (execL id [] rs 0 Mt0) = .tup [.tup (N.said.map Said.vl), .non, .tup (N.rep.map bV), .tup []] := by
      rw [ex]
      simp only [resV, Out.end_, whyV, clrN, List.map_nil]
    rw [eR]
    have lr : (rs.length : Int) < 30 → ((N.rep.length : Nat) : Int) = (asked : Int) := fun h => by
      have := full (by omega)
      omega
    have gL := (Kp.fr0 k2).at g2 (by simp)
    have gS := f2.at A.sdl (by simp)
    have cond : ∀ {P Z : Prop}, P → (if (rs.length : Int) < 30 then (if ((N.rep.length : Nat) : Int) = (asked : Int) then P else Z) else P) := fun {P Z} p => by
      by_cases h : (rs.length : Int) < 30
      · rw [if_pos h, if_pos (lr h)]; exact p
      · rw [if_neg h]; exact p
    simp [oLen_lst gL]
    refine cond ?_
    refine lcX_p (xs := N.rep.map bV) s2 (fun _ => none) rfl rfl (by simp; omega) ?_ ?_
    · intro v hv acc
      obtain ⟨b, hb, rfl⟩ := List.mem_map.mp hv
      rw [repN b hb]
      refine ⟨_, rfl, ?_⟩
      simp [wipeL, bV]
    · have eN : (N.rep.map bV).filterMap (fun _ : Vl => (none : Option Vl)) = [] := List.filterMap_eq_nil_iff.mpr fun _ _ => rfl
      rw [eN]
      have q8 : (s2 ++ [Ob.lst []])[s2.length]? = some (.lst (([] : List Int).map Vl.int)) := get_last
      have gS3 := get_push (o' := Ob.lst []) gS
      generalize s2 ++ [Ob.lst []] = s3 at q8 gS3 ⊢
      generalize s2.length = a3 at q8 ⊢
      have q9 : (s3 ++ [Ob.lst []])[s3.length]? = some (.lst []) := get_last
      have q8 := get_push (o' := Ob.lst []) q8
      have gS4 := get_push (o' := Ob.lst []) gS3
      have eNe := opNe_nil q8 q9
      have eT : ∀ s, opNe (.tup []) (.tup []) s = some (.bl false, s) := fun s => opNe_tup0 (n := 1) (xs := []) (by simp) (by omega)
      have cS : cutL (said.map Said.vl) none (some ((askN rs : Nat) : Int)) = N.said.map Said.vl := by
        rw [cutL_nat, ← List.map_take, ← sdN]
      have c2 : cutL [Vl.tup (N.said.map Said.vl), .non, .tup (N.rep.map bV), .tup []] none (some 2) = [Vl.tup (N.said.map Said.vl), .non] := rfl
      have pn : ∀ x ∈ N.said.map Said.vl, Pn 2 66 x := fun x hx => by
        obtain ⟨y, hy, rfl⟩ := List.mem_map.mp hx
        rw [sdN] at hy
        rcases A.ny y (List.mem_of_mem_take hy) with rfl | rfl
        · exact (Pn.tup (n := 1) (w := 64) (xs := [.str "yes"]) (fun x hx => by simp at hx; subst hx; exact Pn.lit)).mono (by omega) (by simp)
        · exact (Pn.tup (n := 1) (w := 64) (xs := [.str "no"]) (fun x hx => by simp at hx; subst hx; exact Pn.lit)).mono (by omega) (by simp)
      have ls : N.said.length ≤ 23 := by rw [sdN]; simp; omega
      obtain ⟨y, hy⟩ := Pn.repr (Pn.tup2 (Pn.tup pn) (Pn.non.mono (n := 1) (m := 3) (by omega) (Nat.le_refl _))) (by omega) (by rw [List.length_map]; omega)
      simp only [List.map_nil] at q8
      have ln : ∀ zs : List Vl, oTuple [.ref (s3 ++ [Ob.lst []]).length] (s3 ++ [Ob.lst []] ++ [Ob.lst zs]) = some (.tup zs, s3 ++ [Ob.lst []] ++ [Ob.lst zs]) := fun zs => oTuple_lst get_last
      simp only [List.length_append, List.length_cons, List.length_nil] at ln
      simp [eNe, eT, c2, hy, opSl_lst gS4, cS]
      exact hK _
end
theorem law_eq : b_law = (sSeq (sSet 1 (eCall (arg 1 m__law_deck) (aCons (eVar 0) aNil)))
  (sSeq (sAsg (gTp [7, 8]) (eCB oTup (aCons (eOp opAdd (eC (.int 3)) (eCall (arg 2 m__law_draw) (aCons (eVar 1) (aCons (eC (.int 2)) aNil)))) (aCons (eCall (arg 2 m__law_names) (aCons (eVar 1) (aCons (eC (.int 7)) aNil))) aNil))))
  (sSeq (sAsg (gTp [4, 9, 10, 11]) (eCB oTup (aCons (eLcX (aRng (aCons (eVar 7) aNil)) (glN 3) tTrue (eCB oTup (aCons (eC (.str "make")) (aCons (eOp opIx (eVar 8) (eVar 3)) aNil))) [3]) (aCons eDict0T (aCons (eCB oLst aNil) (aCons (eC (.int 0)) aNil))))))
  (sSeq (sSet 2 (eCB oDictP (aCons (eLcX (aRng (aCons (eVar 7) aNil)) (glN 3) tTrue (eCB oTup (aCons (eOp opIx (eVar 8) (eVar 3)) (aCons (eVar 3) aNil))) [3]) aNil)))
  (sSeq (sForX (aRng (aCons (eCall (arg 2 m__law_draw) (aCons (eVar 1) (aCons (eC (.int 23)) aNil))) aNil)) (gNm 3)
  stepB)
  restB))))) := rfl
theorem pure_law : ∀ ns : List Int, ns.length ≤ 63 → ∃ st, m_law [.scr ns] [] = .ok (.bl true) st := by
  intro ns hns
  have hCM : CM = 1000000000000000 := rfl
  have key : WE (m_law [.scr ns]) [] (fun v _ => v = .bl true) NoX := by
    unfold m_law
    rw [law_eq]
    simp
    refine deck hns fun d l s1 D1 f1 => ?_
    have lt1 := D1.lt
    simp
    refine draw D1 (by omega) (by omega) (by omega) fun q1 s2 h1 D2 f2 => ?_
    simp
    have lt2 := D2.lt
    refine namesL (n := 7) D2 (by omega) (by omega) fun L R nm s3 hL hR S3 hnm D3 f3 => ?_
    have lt3 := D3.lt
    have ndn : nm ∉ [d, l] := by simp; omega
    have hF : ∀ a b, a < 7 → b < 7 → L ++ Str.ofString (toString ((a : Nat) : Int)) ++ R = L ++ Str.ofString (toString ((b : Nat) : Int)) ++ R → a = b := by
      intro a b ha hb h
      refine Classical.byContradiction fun z => digits_ne ⟨a, by omega⟩ ⟨b, by omega⟩ (fun q => z (by simpa using q)) (app_cancel h)
    have hT : ∀ j a, (j = 7 ∨ j = 8) → a < 7 → tk j ≠ L ++ Str.ofString (toString ((a : Nat) : Int)) ++ R := fun j a hj ha => tk_ne hL hR (by omega) hj
    generalize hFF : (fun i : Nat => L ++ Str.ofString (toString ((i : Nat) : Int)) ++ R) = F at S3
    have hF : ∀ a b, a < 7 → b < 7 → F a = F b → a = b := by rw [← hFF]; exact hF
    have hT : ∀ j a, (j = 7 ∨ j = 8) → a < 7 → tk j ≠ F a := by rw [← hFF]; exact hT
    clear hFF
    have w1 : (3 : Int) + (q1 : Nat) = ((3 + q1 : Nat) : Int) := by omega
    have hn : 3 ≤ 3 + q1 ∧ 3 + q1 ≤ 4 := by omega
    simp
    rw [w1]
    generalize 3 + q1 = n at hn ⊢
    have nmo := S3.at_
    rw [rngW_nat (by omega)]
    have mk : (rng 0 n).filterMap (fun v => match v with | .int i => some (Stm.vl (.make (F i.toNat))) | _ => none) = ((List.range n).map fun c => Stm.make (F c)).map Stm.vl := by
      unfold rng
      rw [List.filterMap_map, List.map_map, ← List.filterMap_eq_map]
      congr 1
      funext i
      simp
    refine lcX_p (xs := rng 0 n) s3 (fun v => match v with | .int i => some (Stm.vl (.make (F i.toNat))) | _ => none) rfl rfl (by simp; omega) ?_ ?_
    · intro v hv acc
      obtain ⟨i, hi⟩ := List.getElem?_of_mem hv
      obtain ⟨hi, rfl⟩ := rng_get hi
      refine ⟨_, rfl, ?_⟩
      have g2 := get_push (o' := Ob.lst acc) nmo
      have ix : opIx (.ref nm) (.int ((i : Nat) : Int)) (s3 ++ [Ob.lst acc]) = some (.str (F i), s3 ++ [Ob.lst acc]) := by
        rw [opIx_lst g2, atN]
        simp [show i < 7 by omega]
      simp [wipeL, tTrue, ix, Stm.vl]
    · rw [mk]
      simp [-List.map_map]
      have g4 : (s3 ++ [Ob.lst (((List.range n).map fun c => Stm.make (F c)).map Stm.vl), Ob.dit [], Ob.lst []])[s3.length]? = some (.lst (((List.range n).map fun c => Stm.make (F c)).map Stm.vl)) := by simp [-List.map_map]
      have g5 : (s3 ++ [Ob.lst (((List.range n).map fun c => Stm.make (F c)).map Stm.vl), Ob.dit [], Ob.lst []])[s3.length + 1]? = some (.dit []) := by simp [-List.map_map]
      have g6 : (s3 ++ [Ob.lst (((List.range n).map fun c => Stm.make (F c)).map Stm.vl), Ob.dit [], Ob.lst []])[s3.length + 2]? = some (.lst []) := by simp [-List.map_map]
      have f4 : Fr [] s3 (s3 ++ [Ob.lst (((List.range n).map fun c => Stm.make (F c)).map Stm.vl), Ob.dit [], Ob.lst []]) := by
        have := (((Fr.refl (X := []) (s := s3)).push (Ob.lst (((List.range n).map fun c => Stm.make (F c)).map Stm.vl))).push (Ob.dit [])).push (Ob.lst [])
        simpa only [List.append_assoc, List.cons_append, List.nil_append] using this
      have ln4 : (s3 ++ [Ob.lst (((List.range n).map fun c => Stm.make (F c)).map Stm.vl), Ob.dit [], Ob.lst []]).length = s3.length + 3 := by simp
      generalize s3 ++ [Ob.lst (((List.range n).map fun c => Stm.make (F c)).map Stm.vl), Ob.dit [], Ob.lst []] = s4 at g4 g5 g6 f4 ln4 ⊢
      have nm4 := f4.at nmo (by simp)
      have D4 := D3.new f4
      rw [rngW_nat (by omega)]
      have mk2 : (rng 0 n).filterMap (fun v => match v with | .int i => some (Vl.tup [.str (F i.toNat), .int i]) | _ => none) = (List.range n).map fun c => Vl.tup [.str (F c), .int ((c : Nat) : Int)] := by
        unfold rng
        rw [List.filterMap_map, ← List.filterMap_eq_map]
        congr 1
        funext i
        simp
      refine lcX_p (xs := rng 0 n) s4 (fun v => match v with | .int i => some (Vl.tup [.str (F i.toNat), .int i]) | _ => none) rfl rfl (by simp; omega) ?_ ?_
      · intro v hv acc
        obtain ⟨i, hi⟩ := List.getElem?_of_mem hv
        obtain ⟨hi, rfl⟩ := rng_get hi
        refine ⟨_, rfl, ?_⟩
        have g2 := get_push (o' := Ob.lst acc) nm4
        have ix : opIx (.ref nm) (.int ((i : Nat) : Int)) (s4 ++ [Ob.lst acc]) = some (.str (F i), s4 ++ [Ob.lst acc]) := by
          rw [opIx_lst g2, atN]
          simp [show i < 7 by omega]
        simp [wipeL, tTrue, ix]
      · rw [mk2]
        have pr : ∀ l : List Nat, mapO asPr (l.map fun c => Vl.tup [.str (F c), .int ((c : Nat) : Int)]) = some (l.map fun c => ((.inr (F c) : Key), Vl.int ((c : Nat) : Int))) := by
          intro l
          induction l with
          | nil => rfl
          | cons x r ih => simp only [List.map_cons, mapO, asPr, Sm.keyOf, ih]
        have hd := oDictP_lst (s := s4 ++ [Ob.lst ((List.range n).map fun c => Vl.tup [.str (F c), .int ((c : Nat) : Int)])]) (a := s4.length) get_last (pr (List.range n))
        rw [mergeN n fun a b ha hb => hF a b (by omega) (by omega)] at hd
        simp only [WE_aNil, hd, WO_some]
        have f5 := ((Fr.refl (X := []) (s := s4)).push (Ob.lst ((List.range n).map fun c => Vl.tup [.str (F c), .int ((c : Nat) : Int)]))).push (Ob.dic ((List.range n).map fun c => ((.inr (F c) : Key), Vl.int ((c : Nat) : Int))))
        have g7 : (s4 ++ [Ob.lst ((List.range n).map fun c => Vl.tup [.str (F c), .int ((c : Nat) : Int)])] ++ [Ob.dic ((List.range n).map fun c => ((.inr (F c) : Key), Vl.int ((c : Nat) : Int)))])[(s4 ++ [Ob.lst ((List.range n).map fun c => Vl.tup [.str (F c), .int ((c : Nat) : Int)])]).length]? = some (.dic ((List.range n).map fun c => ((.inr (F c) : Key), Vl.int ((c : Nat) : Int)))) := get_last
        have ln5 : (s4 ++ [Ob.lst ((List.range n).map fun c => Vl.tup [.str (F c), .int ((c : Nat) : Int)])]).length = s3.length + 4 := by simp [ln4]
        rw [ln5] at g7 ⊢
        generalize s4 ++ [Ob.lst ((List.range n).map fun c => Vl.tup [.str (F c), .int ((c : Nat) : Int)])] ++ [Ob.dic ((List.range n).map fun c => ((.inr (F c) : Key), Vl.int ((c : Nat) : Int)))] = s5 at f5 g7 ⊢
        have D5 := D4.new f5
        simp
        refine draw D5 (by omega) (by omega) (by omega) fun q2 s6 h2 D6 f6 => ?_
        have ad : nm ∉ [d, l] ∧ s3.length + 4 ∉ [d, l] ∧ s3.length + 1 ∉ [d, l] ∧ s3.length + 2 ∉ [d, l] ∧ s3.length ∉ [d, l] := by simp at ndn ⊢; omega
        have nlt : nm < s3.length := lt_of_get nmo
        obtain ⟨M, H0, W0, r0⟩ := makes56 (nm := F) n fun a b ha hb => hF a b (by omega) (by omega)
        have A0 : Lw d l (s3.length + 4) nm (s3.length + 1) (s3.length + 2) s3.length F n (20 + 10 * 0) 0 s6 ((List.range n).map fun c => Stm.make (F c)) [] M [] 0 :=
          ⟨D6.mono (by omega), f6.at g7 ad.2.1, ((S3.fr f4 (by simp)).fr f5 (by simp)).fr f6 ndn, f6.at (f5.at g5 (by simp)) ad.2.2.1, f6.at (f5.at g6 (by simp)) ad.2.2.2.1, f6.at (f5.at g4 (by simp)) ad.2.2.2.2, H0, W0, by rw [r0]; rfl, by simp; omega, by omega, by simp, by simp, RB.makes (fun c hc => S3.nice _ (List.mem_map.mpr ⟨c, List.mem_range.mpr hc, rfl⟩)) n (by omega), by simp⟩
        simp
        rw [rngW_nat (by omega)]
        refine loopX_inv (LpI ns d l (s3.length + 4) nm (s3.length + 1) (s3.length + 2) s3.length F n 20) ⟨_, _, _, _, _, _, _, _, _, _, rfl, A0⟩ ?_ ?_
        · rintro i v lo s7 hv ⟨rows, said, M, kvs, asked, x3, x12, x13, x14, x15, rfl, A⟩
          obtain ⟨hi, rfl⟩ := rng_get hv
          simp only [WG_gNm, List.set_cons_succ, List.set_cons_zero]
          refine stepW A hF hT hn (by omega) (by omega) ad (by omega) fun s8 rows said M kvs asked y12 y13 y14 y15 A8 => ?_
          exact ⟨_, _, _, _, _, _, _, _, _, _, rfl, by rw [show 20 + 10 * (i + 1) = 20 + 10 * i + 10 by omega]; exact A8⟩
        · rintro lo s7 ⟨rows, said, M, kvs, asked, x3, x12, x13, x14, x15, rfl, A⟩
          rw [rng_len] at A
          exact endW A (by omega) fun s' => rfl
  obtain ⟨a, s', e, rfl⟩ := key.get
  exact ⟨s', e⟩
end K56

open PySem PySem.W PyProof.Rows
set_option maxRecDepth 100000 in
set_option maxHeartbeats 0 in
theorem PySem.Challenge.cw_maybegone_k56_fields_told_holds : PySem.Challenge.rw_maybegone_k56_fields_told.Holds := by
  w_on; o_law; k_head; (case hw => w_witness2)
  k_fill
  refine Sm.walk_G (l := PySem.Challenge.rw_maybegone_k56_fields_told) (n := 63) (k := 31) (x := "_law_script") (m := K56.m_law) rfl (by decide) rfl ⟨rfl, by decide, by decide⟩ (fun w h Y => PySem.W.kIn_of Y) ?F K56.pure_law
  case F =>
    intro w mg fa h KX G hmg
    refine' K56.all_mk KX G hmg ?aC_Machine ?aC_Collected ?aC_Planned ?aC_Stopped ?aC_D_DEEDS ?a_inner_blocks ?a_listed ?a_do_make ?a_do_wish ?a_do_keep ?a_do_name ?a_do_drop ?a_do_hold ?a_do_weak ?a_do_cut ?a_do_take ?a_do_say ?a_is_true ?a_do_ask ?a_enter ?a_execute ?a_finish ?a_result_of ?a_run ?a__law_deck ?a__law_draw ?a__law_one ?a__law_names ?a__law_row ?a_law ?ma_Machine_ask ?ma_Machine_begin_moment ?ma_Machine_cell_of ?ma_Machine_comers ?ma_Machine_decide ?ma_Machine_end_moment ?ma_Machine_fill ?ma_Machine_held_by ?ma_Machine_note ?ma_Machine_reach_from ?ma_Machine_reached ?ma_Machine_stand ?ma_Collected_ask ?ma_Collected_begin_moment ?ma_Collected_cell_of ?ma_Collected_comers ?ma_Collected_decide ?ma_Collected_end_moment ?ma_Collected_fill ?ma_Collected_held_by ?ma_Collected_note ?ma_Collected_reach_from ?ma_Collected_reached ?ma_Collected_stand ?ma_Collected_wanted ?in_Planned ?ma_Planned_ask ?ma_Planned_begin_moment ?ma_Planned_cell_of ?ma_Planned_comers ?ma_Planned_decide ?ma_Planned_end_moment ?ma_Planned_fill ?ma_Planned_held_by ?ma_Planned_note ?ma_Planned_reach_from ?ma_Planned_reached ?ma_Planned_stand ?ma_Planned_wanted ?in_S_Machine ?in_S_Collected ?in_X_Stopped ?l_inner_blocks ?c_inner_blocks ?k_inner_blocks ?l_listed ?c_listed ?k_listed ?l_MachineU_initU ?c_MachineU_initU ?k_MachineU_initU ?l_Machine_begin_moment ?c_Machine_begin_moment ?k_Machine_begin_moment ?l_Machine_decide ?c_Machine_decide ?k_Machine_decide ?l_Machine_note ?c_Machine_note ?k_Machine_note ?l_Machine_end_moment ?c_Machine_end_moment ?k_Machine_end_moment ?l_Machine_ask ?c_Machine_ask ?k_Machine_ask ?l_Machine_cell_of ?c_Machine_cell_of ?k_Machine_cell_of ?l_Machine_stand ?c_Machine_stand ?k_Machine_stand ?l_Machine_fill ?c_Machine_fill ?k_Machine_fill ?l_Machine_held_by ?c_Machine_held_by ?k_Machine_held_by ?l_Machine_reach_from ?c_Machine_reach_from ?k_Machine_reach_from ?l_Machine_reached ?c_Machine_reached ?k_Machine_reached ?l_Machine_comers ?c_Machine_comers ?k_Machine_comers ?l_do_make ?c_do_make ?k_do_make ?l_do_wish ?c_do_wish ?k_do_wish ?l_do_keep ?c_do_keep ?k_do_keep ?l_do_name ?c_do_name ?k_do_name ?l_do_drop ?c_do_drop ?k_do_drop ?l_do_hold ?c_do_hold ?k_do_hold ?l_do_weak ?c_do_weak ?k_do_weak ?l_do_cut ?c_do_cut ?k_do_cut ?l_do_take ?c_do_take ?k_do_take ?l_do_say ?c_do_say ?k_do_say ?l_is_true ?c_is_true ?k_is_true ?l_do_ask ?c_do_ask ?k_do_ask ?l_Collected_wanted ?c_Collected_wanted ?k_Collected_wanted ?l_Planned_wanted ?c_Planned_wanted ?k_Planned_wanted ?l_Collected_begin_moment ?c_Collected_begin_moment ?k_Collected_begin_moment ?l_enter ?c_enter ?k_enter ?l_Collected_end_moment ?c_Collected_end_moment ?k_Collected_end_moment ?l_execute ?c_execute ?k_execute ?l_finish ?c_finish ?k_finish ?l_CollectedU_initU ?c_CollectedU_initU ?k_CollectedU_initU ?lc_CollectedU_initU ?lv_CollectedU_initU ?le_CollectedU_initU ?lz_CollectedU_initU ?l_PlannedU_initU ?c_PlannedU_initU ?k_PlannedU_initU ?lc_PlannedU_initU ?lv_PlannedU_initU ?le_PlannedU_initU ?lz_PlannedU_initU ?l_result_of ?c_result_of ?k_result_of ?l_run ?kw_run_0 ?lE_run_1 ?lT_run ?lE_run_0 ?c_run ?k_run ?l__law_deck ?c__law_deck ?k__law_deck ?l__law_draw ?c__law_draw ?k__law_draw ?l__law_one ?c__law_one ?k__law_one ?l__law_names ?c__law_names ?k__law_names ?l__law_row ?c__law_row ?k__law_row ?l_law ?c_law ?k_law ?l_StoppedU_initU ?c_StoppedU_initU ?k_StoppedU_initU ?pg_Machine ?hd_Machine ?po_Machine ?sa_Machine ?na_Machine_at_place ?na_Machine_bits ?na_Machine_block ?na_Machine_cleared ?na_Machine_contents ?na_Machine_kept ?na_Machine_lost ?na_Machine_moment ?na_Machine_quiet_places ?na_Machine_replies ?na_Machine_spoken ?na_Machine_stands ?na_Machine_there ?na_Machine_wishes ?na_Machine_wishes_at ?mi_Machine_ask ?mi_Machine_begin_moment ?mi_Machine_cell_of ?mi_Machine_comers ?mi_Machine_decide ?mi_Machine_end_moment ?mi_Machine_fill ?mi_Machine_held_by ?mi_Machine_note ?mi_Machine_reach_from ?mi_Machine_reached ?mi_Machine_stand ?pg_Collected ?hd_Collected ?po_Collected ?sa_Collected ?na_Collected_at_place ?na_Collected_bits ?na_Collected_block ?na_Collected_cleared ?na_Collected_contents ?na_Collected_kept ?na_Collected_lost ?na_Collected_moment ?na_Collected_quiet_places ?na_Collected_replies ?na_Collected_spoken ?na_Collected_stands ?na_Collected_there ?na_Collected_wishes ?na_Collected_wishes_at ?mi_Collected_ask ?mi_Collected_begin_moment ?mi_Collected_cell_of ?mi_Collected_comers ?mi_Collected_decide ?mi_Collected_end_moment ?mi_Collected_fill ?mi_Collected_held_by ?mi_Collected_note ?mi_Collected_reach_from ?mi_Collected_reached ?mi_Collected_stand ?mi_Collected_wanted ?pg_Planned ?hd_Planned ?po_Planned ?sa_Planned ?mm_Planned ?kc_Planned ?ii_Planned ?na_Planned_at_place ?na_Planned_bits ?na_Planned_block ?na_Planned_cleared ?na_Planned_contents ?na_Planned_kept ?na_Planned_lost ?na_Planned_moment ?na_Planned_quiet_places ?na_Planned_replies ?na_Planned_spoken ?na_Planned_stands ?na_Planned_there ?na_Planned_wishes ?na_Planned_wishes_at ?mi_Planned_ask ?mi_Planned_begin_moment ?mi_Planned_cell_of ?mi_Planned_comers ?mi_Planned_decide ?mi_Planned_end_moment ?mi_Planned_fill ?mi_Planned_held_by ?mi_Planned_note ?mi_Planned_reach_from ?mi_Planned_reached ?mi_Planned_stand ?mi_Planned_wanted ?xl_Stopped ?xsa_Stopped ?xga_Stopped ?xgg_Stopped ?xno_Stopped ?xkc_Stopped ?xex_Stopped ?xty_Stopped ?xhd_Stopped ?xti_Stopped ?em_Stopped_Stopped ?nf_Stopped_Stopped_why ?lD_DEEDS ?kl_DEEDS ?kn_DEEDS_0 ?kn_DEEDS_1 ?kn_DEEDS_2 ?kn_DEEDS_3 ?kn_DEEDS_4 ?kn_DEEDS_5 ?kn_DEEDS_6 ?kn_DEEDS_7 ?kn_DEEDS_8 ?kn_DEEDS_9 ?kn_DEEDS_10 ?opq ?z_super ?p_file ?p_sup ?st_Collected ?sf_Collected ?sm_Collected_Collected ?ss_Collected_Collected ?sm_Planned_Collected ?ss_Planned_Collected ?st_Planned ?sf_Planned ?sm_Planned_Planned ?ss_Planned_Planned ?v_MAX_QUESTIONS ?z_abs ?z_dict ?z_enumerate ?z_int ?z_len ?z_list ?z_range ?z_repr ?z_sorted ?z_str ?z_sum ?z_tuple
    (case aC_Machine => k_is)
    (case aC_Collected => k_is)
    (case aC_Planned => k_is)
    (case aC_Stopped => k_is)
    (case aC_D_DEEDS => k_is)
    (case a_inner_blocks => k_is)
    (case a_listed => k_is)
    (case a_do_make => k_is)
    (case a_do_wish => k_is)
    (case a_do_keep => k_is)
    (case a_do_name => k_is)
    (case a_do_drop => k_is)
    (case a_do_hold => k_is)
    (case a_do_weak => k_is)
    (case a_do_cut => k_is)
    (case a_do_take => k_is)
    (case a_do_say => k_is)
    (case a_is_true => k_is)
    (case a_do_ask => k_is)
    (case a_enter => k_is)
    (case a_execute => k_is)
    (case a_finish => k_is)
    (case a_result_of => k_is)
    (case a_run => k_is)
    (case a__law_deck => k_is)
    (case a__law_draw => k_is)
    (case a__law_one => k_is)
    (case a__law_names => k_is)
    (case a__law_row => k_is)
    (case a_law => k_is)
    (case ma_Machine_ask => k_is)
    (case ma_Machine_begin_moment => k_is)
    (case ma_Machine_cell_of => k_is)
    (case ma_Machine_comers => k_is)
    (case ma_Machine_decide => k_is)
    (case ma_Machine_end_moment => k_is)
    (case ma_Machine_fill => k_is)
    (case ma_Machine_held_by => k_is)
    (case ma_Machine_note => k_is)
    (case ma_Machine_reach_from => k_is)
    (case ma_Machine_reached => k_is)
    (case ma_Machine_stand => k_is)
    (case ma_Collected_ask => k_is)
    (case ma_Collected_begin_moment => k_is)
    (case ma_Collected_cell_of => k_is)
    (case ma_Collected_comers => k_is)
    (case ma_Collected_decide => k_is)
    (case ma_Collected_end_moment => k_is)
    (case ma_Collected_fill => k_is)
    (case ma_Collected_held_by => k_is)
    (case ma_Collected_note => k_is)
    (case ma_Collected_reach_from => k_is)
    (case ma_Collected_reached => k_is)
    (case ma_Collected_stand => k_is)
    (case ma_Collected_wanted => k_is)
    (case in_Planned => k_is)
    (case ma_Planned_ask => k_is)
    (case ma_Planned_begin_moment => k_is)
    (case ma_Planned_cell_of => k_is)
    (case ma_Planned_comers => k_is)
    (case ma_Planned_decide => k_is)
    (case ma_Planned_end_moment => k_is)
    (case ma_Planned_fill => k_is)
    (case ma_Planned_held_by => k_is)
    (case ma_Planned_note => k_is)
    (case ma_Planned_reach_from => k_is)
    (case ma_Planned_reached => k_is)
    (case ma_Planned_stand => k_is)
    (case ma_Planned_wanted => k_is)
    (case in_S_Machine => k_is)
    (case in_S_Collected => k_is)
    (case in_X_Stopped => k_is)
    (case l_inner_blocks => k_is)
    (case c_inner_blocks => k_is)
    (case k_inner_blocks => k_is)
    (case l_listed => k_is)
    (case c_listed => k_is)
    (case k_listed => k_is)
    (case l_MachineU_initU => k_is)
    (case c_MachineU_initU => k_is)
    (case k_MachineU_initU => k_is)
    (case l_Machine_begin_moment => k_is)
    (case c_Machine_begin_moment => k_is)
    (case k_Machine_begin_moment => k_is)
    (case l_Machine_decide => k_is)
    (case c_Machine_decide => k_is)
    (case k_Machine_decide => k_is)
    (case l_Machine_note => k_is)
    (case c_Machine_note => k_is)
    (case k_Machine_note => k_is)
    (case l_Machine_end_moment => k_is)
    (case c_Machine_end_moment => k_is)
    (case k_Machine_end_moment => k_is)
    (case l_Machine_ask => k_is)
    (case c_Machine_ask => k_is)
    (case k_Machine_ask => k_is)
    (case l_Machine_cell_of => k_is)
    (case c_Machine_cell_of => k_is)
    (case k_Machine_cell_of => k_is)
    (case l_Machine_stand => k_is)
    (case c_Machine_stand => k_is)
    (case k_Machine_stand => k_is)
    (case l_Machine_fill => k_is)
    (case c_Machine_fill => k_is)
    (case k_Machine_fill => k_is)
    (case l_Machine_held_by => k_is)
    (case c_Machine_held_by => k_is)
    (case k_Machine_held_by => k_is)
    (case l_Machine_reach_from => k_is)
    (case c_Machine_reach_from => k_is)
    (case k_Machine_reach_from => k_is)
    (case l_Machine_reached => k_is)
    (case c_Machine_reached => k_is)
    (case k_Machine_reached => k_is)
    (case l_Machine_comers => k_is)
    (case c_Machine_comers => k_is)
    (case k_Machine_comers => k_is)
    (case l_do_make => k_is)
    (case c_do_make => k_is)
    (case k_do_make => k_is)
    (case l_do_wish => k_is)
    (case c_do_wish => k_is)
    (case k_do_wish => k_is)
    (case l_do_keep => k_is)
    (case c_do_keep => k_is)
    (case k_do_keep => k_is)
    (case l_do_name => k_is)
    (case c_do_name => k_is)
    (case k_do_name => k_is)
    (case l_do_drop => k_is)
    (case c_do_drop => k_is)
    (case k_do_drop => k_is)
    (case l_do_hold => k_is)
    (case c_do_hold => k_is)
    (case k_do_hold => k_is)
    (case l_do_weak => k_is)
    (case c_do_weak => k_is)
    (case k_do_weak => k_is)
    (case l_do_cut => k_is)
    (case c_do_cut => k_is)
    (case k_do_cut => k_is)
    (case l_do_take => k_is)
    (case c_do_take => k_is)
    (case k_do_take => k_is)
    (case l_do_say => k_is)
    (case c_do_say => k_is)
    (case k_do_say => k_is)
    (case l_is_true => k_is)
    (case c_is_true => k_is)
    (case k_is_true => k_is)
    (case l_do_ask => k_is)
    (case c_do_ask => k_is)
    (case k_do_ask => k_is)
    (case l_Collected_wanted => k_is)
    (case c_Collected_wanted => k_is)
    (case k_Collected_wanted => k_is)
    (case l_Planned_wanted => k_is)
    (case c_Planned_wanted => k_is)
    (case k_Planned_wanted => k_is)
    (case l_Collected_begin_moment => k_is)
    (case c_Collected_begin_moment => k_is)
    (case k_Collected_begin_moment => k_is)
    (case l_enter => k_is)
    (case c_enter => k_is)
    (case k_enter => k_is)
    (case l_Collected_end_moment => k_is)
    (case c_Collected_end_moment => k_is)
    (case k_Collected_end_moment => k_is)
    (case l_execute => k_is)
    (case c_execute => k_is)
    (case k_execute => k_is)
    (case l_finish => k_is)
    (case c_finish => k_is)
    (case k_finish => k_is)
    (case l_CollectedU_initU => k_is)
    (case c_CollectedU_initU => k_is)
    (case k_CollectedU_initU => k_is)
    (case lc_CollectedU_initU => k_is)
    (case lv_CollectedU_initU => rfl)
    (case le_CollectedU_initU => k_is)
    (case lz_CollectedU_initU => k_is)
    (case l_PlannedU_initU => k_is)
    (case c_PlannedU_initU => k_is)
    (case k_PlannedU_initU => k_is)
    (case lc_PlannedU_initU => k_is)
    (case lv_PlannedU_initU => rfl)
    (case le_PlannedU_initU => k_is)
    (case lz_PlannedU_initU => k_is)
    (case l_result_of => k_is)
    (case c_result_of => k_is)
    (case k_result_of => k_is)
    (case l_run => k_is)
    (case kw_run_0 => k_is)
    (case lE_run_1 => k_is)
    (case lT_run => k_is)
    (case lE_run_0 => k_is)
    (case c_run => k_is)
    (case k_run => k_is)
    (case l__law_deck => k_is)
    (case c__law_deck => k_is)
    (case k__law_deck => k_is)
    (case l__law_draw => k_is)
    (case c__law_draw => k_is)
    (case k__law_draw => k_is)
    (case l__law_one => k_is)
    (case c__law_one => k_is)
    (case k__law_one => k_is)
    (case l__law_names => k_is)
    (case c__law_names => k_is)
    (case k__law_names => k_is)
    (case l__law_row => k_is)
    (case c__law_row => k_is)
    (case k__law_row => k_is)
    (case l_law => k_is)
    (case c_law => k_is)
    (case k_law => k_is)
    (case l_StoppedU_initU => k_is)
    (case c_StoppedU_initU => k_is)
    (case k_StoppedU_initU => k_is)
    (case pg_Machine => k_is)
    (case hd_Machine => k_is)
    (case po_Machine => k_is)
    (case sa_Machine => k_is)
    (case na_Machine_at_place => k_is)
    (case na_Machine_bits => k_is)
    (case na_Machine_block => k_is)
    (case na_Machine_cleared => k_is)
    (case na_Machine_contents => k_is)
    (case na_Machine_kept => k_is)
    (case na_Machine_lost => k_is)
    (case na_Machine_moment => k_is)
    (case na_Machine_quiet_places => k_is)
    (case na_Machine_replies => k_is)
    (case na_Machine_spoken => k_is)
    (case na_Machine_stands => k_is)
    (case na_Machine_there => k_is)
    (case na_Machine_wishes => k_is)
    (case na_Machine_wishes_at => k_is)
    (case mi_Machine_ask => k_is)
    (case mi_Machine_begin_moment => k_is)
    (case mi_Machine_cell_of => k_is)
    (case mi_Machine_comers => k_is)
    (case mi_Machine_decide => k_is)
    (case mi_Machine_end_moment => k_is)
    (case mi_Machine_fill => k_is)
    (case mi_Machine_held_by => k_is)
    (case mi_Machine_note => k_is)
    (case mi_Machine_reach_from => k_is)
    (case mi_Machine_reached => k_is)
    (case mi_Machine_stand => k_is)
    (case pg_Collected => k_is)
    (case hd_Collected => k_is)
    (case po_Collected => k_is)
    (case sa_Collected => k_is)
    (case na_Collected_at_place => k_is)
    (case na_Collected_bits => k_is)
    (case na_Collected_block => k_is)
    (case na_Collected_cleared => k_is)
    (case na_Collected_contents => k_is)
    (case na_Collected_kept => k_is)
    (case na_Collected_lost => k_is)
    (case na_Collected_moment => k_is)
    (case na_Collected_quiet_places => k_is)
    (case na_Collected_replies => k_is)
    (case na_Collected_spoken => k_is)
    (case na_Collected_stands => k_is)
    (case na_Collected_there => k_is)
    (case na_Collected_wishes => k_is)
    (case na_Collected_wishes_at => k_is)
    (case mi_Collected_ask => k_is)
    (case mi_Collected_begin_moment => k_is)
    (case mi_Collected_cell_of => k_is)
    (case mi_Collected_comers => k_is)
    (case mi_Collected_decide => k_is)
    (case mi_Collected_end_moment => k_is)
    (case mi_Collected_fill => k_is)
    (case mi_Collected_held_by => k_is)
    (case mi_Collected_note => k_is)
    (case mi_Collected_reach_from => k_is)
    (case mi_Collected_reached => k_is)
    (case mi_Collected_stand => k_is)
    (case mi_Collected_wanted => k_is)
    (case pg_Planned => k_is)
    (case hd_Planned => k_is)
    (case po_Planned => k_is)
    (case sa_Planned => k_is)
    (case mm_Planned => k_is)
    (case kc_Planned => k_is)
    (case ii_Planned => k_is)
    (case na_Planned_at_place => k_is)
    (case na_Planned_bits => k_is)
    (case na_Planned_block => k_is)
    (case na_Planned_cleared => k_is)
    (case na_Planned_contents => k_is)
    (case na_Planned_kept => k_is)
    (case na_Planned_lost => k_is)
    (case na_Planned_moment => k_is)
    (case na_Planned_quiet_places => k_is)
    (case na_Planned_replies => k_is)
    (case na_Planned_spoken => k_is)
    (case na_Planned_stands => k_is)
    (case na_Planned_there => k_is)
    (case na_Planned_wishes => k_is)
    (case na_Planned_wishes_at => k_is)
    (case mi_Planned_ask => k_is)
    (case mi_Planned_begin_moment => k_is)
    (case mi_Planned_cell_of => k_is)
    (case mi_Planned_comers => k_is)
    (case mi_Planned_decide => k_is)
    (case mi_Planned_end_moment => k_is)
    (case mi_Planned_fill => k_is)
    (case mi_Planned_held_by => k_is)
    (case mi_Planned_note => k_is)
    (case mi_Planned_reach_from => k_is)
    (case mi_Planned_reached => k_is)
    (case mi_Planned_stand => k_is)
    (case mi_Planned_wanted => k_is)
    (case xl_Stopped => k_is)
    (case xsa_Stopped => k_is)
    (case xga_Stopped => k_is)
    (case xgg_Stopped => k_is)
    (case xno_Stopped => k_is)
    (case xkc_Stopped => k_is)
    (case xex_Stopped => k_is)
    (case xty_Stopped => k_is)
    (case xhd_Stopped => k_is)
    (case xti_Stopped => k_is)
    (case em_Stopped_Stopped => kts_exm)
    (case nf_Stopped_Stopped_why => k_is)
    (case lD_DEEDS => k_is)
    (case kl_DEEDS => exact ⟨⟨_, _, rfl, rfl⟩, ⟨_, _, rfl, rfl⟩, ⟨_, _, rfl, rfl⟩, ⟨_, _, rfl, rfl⟩, ⟨_, _, rfl, rfl⟩, ⟨_, _, rfl, rfl⟩, ⟨_, _, rfl, rfl⟩, ⟨_, _, rfl, rfl⟩, ⟨_, _, rfl, rfl⟩, ⟨_, _, rfl, rfl⟩, ⟨_, _, rfl, rfl⟩, trivial⟩)
    (case kn_DEEDS_0 => k_is)
    (case kn_DEEDS_1 => k_is)
    (case kn_DEEDS_2 => k_is)
    (case kn_DEEDS_3 => k_is)
    (case kn_DEEDS_4 => k_is)
    (case kn_DEEDS_5 => k_is)
    (case kn_DEEDS_6 => k_is)
    (case kn_DEEDS_7 => k_is)
    (case kn_DEEDS_8 => k_is)
    (case kn_DEEDS_9 => k_is)
    (case kn_DEEDS_10 => k_is)
    (case opq => k_is)
    (case z_super => k_is)
    (case p_file => first | rfl | decide +kernel)
    (case p_sup => first | rfl | decide +kernel)
    (case st_Collected => k_is)
    (case sf_Collected => k_is)
    (case sm_Collected_Collected => k_is)
    (case ss_Collected_Collected => first | k_is | ks_is)
    (case sm_Planned_Collected => k_is)
    (case ss_Planned_Collected => first | k_is | ks_is)
    (case st_Planned => k_is)
    (case sf_Planned => k_is)
    (case sm_Planned_Planned => k_is)
    (case ss_Planned_Planned => first | k_is | ks_is)
    (case v_MAX_QUESTIONS => k_is)
    (case z_abs => k_is)
    (case z_dict => k_is)
    (case z_enumerate => k_is)
    (case z_int => k_is)
    (case z_len => k_is)
    (case z_list => k_is)
    (case z_range => k_is)
    (case z_repr => k_is)
    (case z_sorted => k_is)
    (case z_str => k_is)
    (case z_sum => k_is)
    (case z_tuple => k_is)
