import PyProof.Rows.All
import Wide.All
import OpenK.AllK
import Wide.FinOn
import HandS.ForMost
import HandS.ForExc
import HandS.CallSlots
import HandS.Wide
import HandS.Strs
import HandS.TupAny
import HandS.Deep
import HandS.Conv
import HandS.SortInts
import PyProof.ReprRoads
import HandS.Style
import HandS.ExcOwn
import HandS.ExcCtx
import HandS.SetFor
import HandS.New0
import HandS.Star
import HandS.Text
import HandS.More
import HandS.IsInst
import HandS.SetKeys
import KE.GoesMore
import HandS.Defaults
import HandS.NoneIn
import HandS.FStr
import HandS.Flow
import HandS.RaiseMore
import HandS.ExcField
import HandS.ExcSuper
import HandS.HotCalls
import KE.KExcInit
import HandS.TryOnly
import HandS.ExcInitHot
import KE.KSuper
import HandS.Nested
import HandS.Zip
import KE.GoesZip
import HandS.SetBool
import HandS.SortRule
import HandS.TupSets
import PyProof.SliceList
import PyProof.ReprLen
import PyProof.NeKinds
import PyProof.StrOps2
import PySem.Challenge.RW_maybegone_k00_single_statements
import PyProof.DictUpdate
set_option Elab.async false
set_option linter.all false
set_option maxRecDepth 100000
set_option maxHeartbeats 4000000
/-! S0: a pure world beside the abstract heap: values, objects, stores, results; how they stand for each other -/
namespace Sm
open PySem L2

/-- pure values: a tuple is its items, a mutable object is its number -/
inductive Vl where
  | non | bl (b : Bool) | int (i : Int) | str (x : Str) | tup (xs : List Vl) | ref (i : Nat) | scr (ns : List Int) | ty (n : String) | fn (i : Nat)
/-- mutable objects -/
inductive Ob where
  | lst (xs : List Vl)
  | dic (kvs : List (Key × Vl))
  | dit (kvs : List (List Key × Vl))
  | fdic (kvs : List (Key × Vl))
  | ins (c : Nat) (fs : List (Str × Vl))
  | set (xs : List Int)
abbrev Sto := List Ob
/-- an exception: its class, its fields (none: it has no dict) -/
structure Ex where
  c : Nat
  fs : Option (List (Str × Vl))
inductive Res (α : Type) where
  | ok (a : α) (s : Sto) | exc (e : Ex) (s : Sto) | fail
abbrev M (α : Type) := Sto → Res α
abbrev Lo := List (Option Vl)
def bnd {α β : Type} (m : M α) (f : α → M β) : M β := fun s => match m s with
  | .ok a s' => f a s'
  | .exc e s' => .exc e s'
  | .fail => .fail
def ret {α : Type} (a : α) : M α := fun s => .ok a s
def failM {α : Type} : M α := fun _ => .fail
def lift {α : Type} (f : Sto → Option (α × Sto)) : M α := fun s => match f s with
  | some (a, s') => .ok a s'
  | none => .fail

/-- the exception that an except suite handles: its slot, its address, its dict's address, its fields -/
structure XI where
  i : Nat
  a : Addr
  d : Addr
  ns : List Str
  xs : List Vl
/-- the tables: the written part, the classes, the defs held as values -/
structure Tb where
  K : PySem.W.Frag
  w : World
  cl : List Addr
  fns : List Addr
  xs : List XI := []

mutual
inductive RV (T : Tb) (ρ : List Addr) (H : Hp) : Vl → V → Prop
  | non : RV T ρ H .non .non
  | bl (b : Bool) : RV T ρ H (.bl b) (.bl b)
  | int (i : Int) : RV T ρ H (.int i) (.int i)
  | str (x : Str) : RV T ρ H (.str x) (.str x)
  | tup {a : Addr} {vs : List V} {xs : List Vl} : SqT T.K H a vs → RVs T ρ H xs vs → RV T ρ H (.tup xs) (.ref a)
  | ref {i : Nat} {a : Addr} : ρ[i]? = some a → RV T ρ H (.ref i) (.ref a)
  | scr {ns : List Int} {a : Addr} {o : Obj} : H a = some (.frz o (.lst (ns.map V.int))) → RV T ρ H (.scr ns) (.ref a)
  | scrK {ns : List Int} {a : Addr} : (∀ H' : Hp, SqL T.K H' a (ns.map V.int)) → RV T ρ H (.scr ns) (.ref a)
  | ty (n : String) : RV T ρ H (.ty n) (.ty n)
  | fn {i : Nat} {a : Addr} : T.fns[i]? = some a → RV T ρ H (.fn i) (.ref a)
inductive RVs (T : Tb) (ρ : List Addr) (H : Hp) : List Vl → List V → Prop
  | nil : RVs T ρ H [] []
  | cons {x : Vl} {v : V} {xs : List Vl} {vs : List V} : RV T ρ H x v → RVs T ρ H xs vs → RVs T ρ H (x :: xs) (v :: vs)
end

/-- more is known, nothing that cannot change has changed -/
structure Ext0 (T : Tb) (ρ : List Addr) (H : Hp) (ρ' : List Addr) (H' : Hp) : Prop where
  pre : ∀ (i : Nat) (a : Addr), ρ[i]? = some a → ρ'[i]? = some a
  tup : ∀ a vs, SqT T.K H a vs → SqT T.K H' a vs
  frz : ∀ a o u, H a = some (.frz o (.lst u)) → H' a = some (.frz o (.lst u))
  xd : ∀ a u, H a = some (.xd u) → H' a = some (.xd u)
structure Ext (T : Tb) (ρ : List Addr) (H : Hp) (ρ' : List Addr) (H' : Hp) : Prop extends Ext0 T ρ H ρ' H' where
  frd : ∀ a o u, H a = some (.frz o (.dK u)) → H' a = some (.frz o (.dK u))
theorem Ext.refl {T : Tb} {ρ : List Addr} {H : Hp} : Ext T ρ H ρ H := ⟨⟨fun _ _ h => h, fun _ _ h => h, fun _ _ _ h => h, fun _ _ h => h⟩, fun _ _ _ h => h⟩
theorem Ext.trans {T : Tb} {ρ ρ1 ρ2 : List Addr} {H H1 H2 : Hp} (a : Ext T ρ H ρ1 H1) (b : Ext T ρ1 H1 ρ2 H2) : Ext T ρ H ρ2 H2 :=
  ⟨⟨fun i x h => b.pre i x (a.pre i x h), fun x vs h => b.tup x vs (a.tup x vs h), fun x o u h => b.frz x o u (a.frz x o u h), fun x u h => b.xd x u (a.xd x u h)⟩, fun x o u h => b.frd x o u (a.frd x o u h)⟩

section
variable {T : Tb} {ρ ρ' : List Addr} {H H' : Hp}
mutual
theorem RV.mono0 (e : Ext0 T ρ H ρ' H') : ∀ {x : Vl} {v : V}, RV T ρ H x v → RV T ρ' H' x v
  | _, _, .non => .non
  | _, _, .bl b => .bl b
  | _, _, .int i => .int i
  | _, _, .str x => .str x
  | _, _, .tup h hs => .tup (e.tup _ _ h) (RVs.mono0 e hs)
  | _, _, .ref h => .ref (e.pre _ _ h)
  | _, _, .scr h => .scr (e.frz _ _ _ h)
  | _, _, .scrK h => .scrK h
  | _, _, .ty n => .ty n
  | _, _, .fn h => .fn h
theorem RVs.mono0 (e : Ext0 T ρ H ρ' H') : ∀ {xs : List Vl} {vs : List V}, RVs T ρ H xs vs → RVs T ρ' H' xs vs
  | _, _, .nil => .nil
  | _, _, .cons h hs => .cons (RV.mono0 e h) (RVs.mono0 e hs)
end
theorem RV.mono {x : Vl} {v : V} (h : RV T ρ H x v) (e : Ext T ρ H ρ' H') : RV T ρ' H' x v := h.mono0 e.toExt0
theorem RVs.mono {xs : List Vl} {vs : List V} (h : RVs T ρ H xs vs) (e : Ext T ρ H ρ' H') : RVs T ρ' H' xs vs := h.mono0 e.toExt0
theorem RVs.length : ∀ {xs : List Vl} {vs : List V}, RVs T ρ H xs vs → xs.length = vs.length
  | _, _, .nil => rfl
  | _, _, .cons _ hs => by
    rw [List.length_cons, List.length_cons, RVs.length hs]
theorem RVs.append : ∀ {xs ys : List Vl} {vs us : List V}, RVs T ρ H xs vs → RVs T ρ H ys us → RVs T ρ H (xs ++ ys) (vs ++ us)
  | _, _, _, _, .nil, h => h
  | _, _, _, _, .cons a b, h => .cons a (RVs.append b h)
theorem RVs.get : ∀ {xs : List Vl} {vs : List V} {i : Nat} {x : Vl}, RVs T ρ H xs vs → xs[i]? = some x → ∃ v, vs[i]? = some v ∧ RV T ρ H x v
  | _, _, _, _, .nil, e => by simp at e
  | _, _, 0, _, .cons a _, e => by simp at e; subst e; exact ⟨_, rfl, a⟩
  | _, _, i + 1, x, .cons _ b, e => by
    obtain ⟨v, h1, h2⟩ := RVs.get (i := i) (x := x) b (by simpa using e)
    exact ⟨v, by simpa using h1, h2⟩
theorem RVs.set {x : Vl} {v : V} (r : RV T ρ H x v) : ∀ {xs : List Vl} {vs : List V} (i : Nat), RVs T ρ H xs vs → RVs T ρ H (xs.set i x) (vs.set i v)
  | _, _, _, .nil => .nil
  | _, _, 0, .cons _ t => .cons r t
  | _, _, i + 1, .cons q t => .cons q (RVs.set r i t)
theorem RVs.take : ∀ {xs : List Vl} {vs : List V} (n : Nat), RVs T ρ H xs vs → RVs T ρ H (xs.take n) (vs.take n)
  | _, _, 0, _ => .nil
  | _, _, _ + 1, .nil => .nil
  | _, _, n + 1, .cons r t => .cons r (RVs.take n t)
theorem RVs.drop : ∀ {xs : List Vl} {vs : List V} (n : Nat), RVs T ρ H xs vs → RVs T ρ H (xs.drop n) (vs.drop n)
  | _, _, 0, r => r
  | _, _, _ + 1, .nil => .nil
  | _, _, n + 1, .cons _ t => RVs.drop n t
end

/-- an object of the store and what stands at its address -/
def RO (T : Tb) (ρ : List Addr) (H : Hp) : Ob → Addr → Prop
  | .lst xs, a => ∃ vs, H a = some (.lst vs) ∧ RVs T ρ H xs vs
  | .dic kvs, a => ∃ vs : List (Key × V), H a = some (.dK vs) ∧ vs.map (·.1) = kvs.map (·.1) ∧ RVs T ρ H (kvs.map (·.2)) (vs.map (·.2))
  | .dit kvs, a => ∃ vs : List (List Key × V), H a = some (.dT vs) ∧ vs.map (·.1) = kvs.map (·.1) ∧ RVs T ρ H (kvs.map (·.2)) (vs.map (·.2))
  | .fdic kvs, a => ∃ (o : Obj) (vs : List (Key × V)), H a = some (.frz o (.dK vs)) ∧ vs.map (·.1) = kvs.map (·.1) ∧ RVs T ρ H (kvs.map (·.2)) (vs.map (·.2))
  | .set xs, a => xs.Nodup ∧ ∃ S : Int → Bool, (∀ k, S k = true ↔ k ∈ xs) ∧ H a = some (SetO T.w a S xs.length)
  | .ins c fs, a => ∃ (C dx : Addr) (vs : List (Str × V)), T.cl[c]? = some C ∧ H a = some (.ins C dx vs) ∧ vs.map (·.1) = fs.map (·.1) ∧ RVs T ρ H (fs.map (·.2)) (vs.map (·.2))
/-- what never stands at a store's address -/
def Fixd : HO → Prop
  | .tup _ => True
  | .xd _ => True
  | .frz _ _ => True
  | _ => False
/-- what a store's address never holds -/
def FixT : HO → Prop
  | .tup _ => True
  | .xd _ => True
  | .frz _ (.lst _) => True
  | .frz _ (.tup _) => True
  | _ => False
theorem RO.some {T : Tb} {ρ : List Addr} {H : Hp} {o : Ob} {a : Addr} (h : RO T ρ H o a) : ∃ u, H a = some u ∧ ¬ FixT u := by
  cases o with
  | lst xs => obtain ⟨vs, h, _⟩ := h; exact ⟨_, h, fun z => z⟩
  | dic xs => obtain ⟨vs, h, _⟩ := h; exact ⟨_, h, fun z => z⟩
  | dit xs => obtain ⟨vs, h, _⟩ := h; exact ⟨_, h, fun z => z⟩
  | fdic xs => obtain ⟨o, vs, h, _⟩ := h; exact ⟨_, h, fun z => z⟩
  | set xs => obtain ⟨_, S, _, h⟩ := h; exact ⟨_, h, fun z => z⟩
  | ins c xs => obtain ⟨C, dx, vs, _, h, _⟩ := h; exact ⟨_, h, fun z => z⟩
theorem RO.mono {T : Tb} {ρ ρ' : List Addr} {H H' : Hp} {o : Ob} {a : Addr} (h : RO T ρ H o a) (e : Ext0 T ρ H ρ' H') (k : H' a = H a) : RO T ρ' H' o a := by
  cases o with
  | lst xs => obtain ⟨vs, h, r⟩ := h; exact ⟨vs, k.trans h, r.mono0 e⟩
  | dic xs => obtain ⟨vs, h, n, r⟩ := h; exact ⟨vs, k.trans h, n, r.mono0 e⟩
  | dit xs => obtain ⟨vs, h, n, r⟩ := h; exact ⟨vs, k.trans h, n, r.mono0 e⟩
  | fdic xs => obtain ⟨o, vs, h, n, r⟩ := h; exact ⟨o, vs, k.trans h, n, r.mono0 e⟩
  | set xs => obtain ⟨n, S, q, h⟩ := h; exact ⟨n, S, q, k.trans h⟩
  | ins c xs => obtain ⟨C, dx, vs, hc, h, n, r⟩ := h; exact ⟨C, dx, vs, hc, k.trans h, n, r.mono0 e⟩

structure Rel (T : Tb) (ρ : List Addr) (H : Hp) (s : Sto) : Prop where
  len : ρ.length = s.length
  nd : ρ.Nodup
  ob : ∀ (i : Nat) (a : Addr) (o : Ob), ρ[i]? = some a → s[i]? = some o → RO T ρ H o a

section
variable {T : Tb} {ρ ρ' : List Addr} {H H' : Hp} {s : Sto}
theorem Rel.at (r : Rel T ρ H s) {i : Nat} {o : Ob} (h : s[i]? = some o) : ∃ a, ρ[i]? = some a ∧ RO T ρ H o a := by
  have hi : i < ρ.length := by
    have := (List.getElem?_eq_some_iff.mp h).1
    rw [r.len]; exact this
  exact ⟨ρ[i], List.getElem?_eq_getElem hi, r.ob i _ o (List.getElem?_eq_getElem hi) h⟩
theorem Rel.tracked (r : Rel T ρ H s) {i : Nat} {a : Addr} (h : ρ[i]? = some a) : ∃ u, H a = some u ∧ ¬ FixT u := by
  have hi : i < s.length := by
    have := (List.getElem?_eq_some_iff.mp h).1
    rw [← r.len]; exact this
  exact (r.ob i a _ h (List.getElem?_eq_getElem hi)).some
theorem rd_ne {H : Hp} {a p : Addr} {u o : HO} (h : Rd H a u) (hp : H p = none) : Rd (upd H p o) a u := by
  rcases h with h | ⟨z, h⟩
  · exact .inl (by rw [upd_ne (ne_of_none h hp)]; exact h)
  · exact .inr ⟨z, by rw [upd_ne (ne_of_none h hp)]; exact h⟩
/-- a new address -/
theorem ext_upd {p : Addr} {o : HO} (hp : H p = none) : Ext T ρ H ρ (upd H p o) :=
  ⟨⟨fun _ _ h => h, fun a vs h => h.elim (fun q => .inl (rd_ne q hp)) .inr, fun a z u h => by rw [upd_ne (ne_of_none h hp)]; exact h, fun a u h => by rw [upd_ne (ne_of_none h hp)]; exact h⟩, fun a z u h => by rw [upd_ne (ne_of_none h hp)]; exact h⟩
theorem ext_push {p : Addr} : Ext T ρ H (ρ ++ [p]) H :=
  ⟨⟨fun i a h => by rw [List.getElem?_append_left (List.getElem?_eq_some_iff.mp h).1]; exact h, fun _ _ h => h, fun _ _ _ h => h, fun _ _ h => h⟩, fun _ _ _ h => h⟩
/-- a change where nothing fixed stands -/
theorem ext0_set {a : Addr} {u o : HO} (ha : H a = some u) (hu : ¬ FixT u) : Ext0 T ρ H ρ (upd H a o) := by
  refine ⟨fun _ _ h => h, fun b vs h => ?_, fun b z w h => ?_, fun b w h => ?_⟩
  · rcases h with (h | ⟨z, h⟩) | h
    · have : b ≠ a := fun e => by subst e; rw [h] at ha; cases ha; exact hu trivial
      exact .inl (.inl (by rw [upd_ne this]; exact h))
    · have : b ≠ a := fun e => by subst e; rw [h] at ha; cases ha; exact hu trivial
      exact .inl (.inr ⟨z, by rw [upd_ne this]; exact h⟩)
    · exact .inr h
  · have : b ≠ a := fun e => by subst e; rw [h] at ha; cases ha; exact hu trivial
    rw [upd_ne this]; exact h
  · have : b ≠ a := fun e => by subst e; rw [h] at ha; cases ha; exact hu trivial
    rw [upd_ne this]; exact h
theorem FixT.fixd {u : HO} (h : FixT u) : Fixd u := by
  cases u <;> first | exact trivial | exact h
theorem ext_set {a : Addr} {u o : HO} (ha : H a = some u) (hu : ¬ Fixd u) : Ext T ρ H ρ (upd H a o) :=
  ⟨ext0_set ha fun z => hu z.fixd, fun b z w h => by
    have : b ≠ a := fun e => by subst e; rw [h] at ha; cases ha; exact hu trivial
    rw [upd_ne this]; exact h⟩
/-- something that the store does not know is laid -/
theorem Rel.laid (r : Rel T ρ H s) {p : Addr} {o : HO} (hp : H p = none) : Rel T ρ (upd H p o) s :=
  ⟨r.len, r.nd, fun i a o h1 h2 => (r.ob i a o h1 h2).mono (ext_upd hp).toExt0 (by
    obtain ⟨u, hu, _⟩ := r.tracked h1
    exact upd_ne (ne_of_none hu hp))⟩
theorem getElem?_snoc {α : Type} {l : List α} {x y : α} {i : Nat} (h : (l ++ [x])[i]? = some y) : l[i]? = some y ∨ (i = l.length ∧ y = x) := by
  by_cases hi : i < l.length
  · rw [List.getElem?_append_left hi] at h; exact .inl h
  · rw [List.getElem?_append_right (by omega)] at h
    have h' := h
    have : i - l.length = 0 := by
      cases e : i - l.length with
      | zero => rfl
      | succ n => rw [e] at h; simp at h
    rw [this] at h
    simp at h
    exact .inr ⟨by omega, h.symm⟩
/-- a new object -/
theorem Rel.new (r : Rel T ρ H s) {p : Addr} {o : HO} {b : Ob} (hp : H p = none) (hb : RO T (ρ ++ [p]) (upd H p o) b p) : Rel T (ρ ++ [p]) (upd H p o) (s ++ [b]) := by
  refine ⟨by rw [List.length_append, List.length_append, r.len]; rfl, ?_, fun i a o' h1 h2 => ?_⟩
  · rw [List.nodup_append]
    refine ⟨r.nd, by simp, fun x hx y hy => ?_⟩
    simp at hy
    subst hy
    obtain ⟨i, hi⟩ := List.getElem?_of_mem hx
    obtain ⟨u, hu, _⟩ := r.tracked hi
    exact ne_of_none hu hp
  · rcases getElem?_snoc h1 with q1 | ⟨e1, e2⟩
    · rcases getElem?_snoc h2 with q2 | ⟨e3, e4⟩
      · obtain ⟨u, hu, _⟩ := r.tracked q1
        exact (r.ob i a o' q1 q2).mono ((ext_upd hp).trans ext_push).toExt0 (upd_ne (ne_of_none hu hp))
      · exfalso
        have := (List.getElem?_eq_some_iff.mp q1).1
        have := r.len
        omega
    · rcases getElem?_snoc h2 with q2 | ⟨e3, e4⟩
      · exfalso
        have := (List.getElem?_eq_some_iff.mp q2).1
        have := r.len
        omega
      · subst e2 e4
        exact hb
theorem Rel.newExt (r : Rel T ρ H s) {p : Addr} {o : HO} (hp : H p = none) : Ext T ρ H (ρ ++ [p]) (upd H p o) := (ext_upd hp).trans ext_push
theorem Rel.newRef (r : Rel T ρ H s) {p : Addr} {H1 : Hp} : RV T (ρ ++ [p]) H1 (.ref s.length) (.ref p) :=
  .ref (by rw [← r.len, List.getElem?_append_right (Nat.le_refl _)]; simp)
/-- an object changed -/
theorem Rel.set (r : Rel T ρ H s) {i : Nat} {a : Addr} {o : HO} {b : Ob} (ha : ρ[i]? = some a) (hb : RO T ρ (upd H a o) b a) : Rel T ρ (upd H a o) (s.set i b) := by
  obtain ⟨u, hu, nf⟩ := r.tracked ha
  refine ⟨by rw [List.length_set]; exact r.len, r.nd, fun j c o' h1 h2 => ?_⟩
  by_cases e : j = i
  · subst e
    have ec : c = a := Option.some.inj (h1.symm.trans ha)
    subst ec
    have hl : j < s.length := by rw [← r.len]; exact (List.getElem?_eq_some_iff.mp h1).1
    rw [List.getElem?_set_self hl] at h2
    cases h2
    exact hb
  · rw [List.getElem?_set_ne (fun z => e z.symm)] at h2
    have nc : c ≠ a := fun z => by
      subst z
      exact e (nodup_at r.nd h1 ha)
    exact (r.ob j c o' h1 h2).mono (ext0_set hu nf) (upd_ne nc)
where
  nodup_at {α : Type} {l : List α} {x : α} {i j : Nat} (nd : l.Nodup) (a : l[i]? = some x) (b : l[j]? = some x) : i = j := by
    exact (List.getElem?_inj (List.getElem?_eq_some_iff.mp a).1 nd).mp (a.trans b.symm)
theorem Rel.setExt (r : Rel T ρ H s) {i : Nat} {a : Addr} {o u : HO} (ha : ρ[i]? = some a) (hu : H a = some u) (nf : ¬ Fixd u := by exact fun z => z) : Ext T ρ H ρ (upd H a o) := ext_set hu nf
end

/-- the frame's slots -/
structure RL (T : Tb) (ρ : List Addr) (H : Hp) (lo : Lo) (σ : St) : Prop where
  len : lo.length = σ.length
  at_ : ∀ (i : Nat) (x : Vl), lo[i]? = some (some x) → ∃ v, σ[i]? = some (some v) ∧ RV T ρ H x v
  xc : ∀ p ∈ T.xs, lo[p.i]? = some none → σ[p.i]? = some (some (.ref p.a)) ∧ ∃ vs : List (Str × V), H p.d = some (.xd vs) ∧ vs.map (·.1) = p.ns ∧ RVs T ρ H p.xs (vs.map (·.2))
theorem RL.mono {T : Tb} {ρ ρ' : List Addr} {H H' : Hp} {lo : Lo} {σ : St} (r : RL T ρ H lo σ) (e : Ext T ρ H ρ' H') : RL T ρ' H' lo σ :=
  ⟨r.len, fun i x h => let ⟨v, h1, h2⟩ := r.at_ i x h; ⟨v, h1, h2.mono e⟩, fun p hp h => let ⟨h1, vs, h2, h3, h4⟩ := r.xc p hp h; ⟨h1, vs, e.xd _ _ h2, h3, h4.mono e⟩⟩
theorem RL.set {T : Tb} {ρ : List Addr} {H : Hp} {lo : Lo} {σ : St} (r : RL T ρ H lo σ) {x : Vl} {v : V} (i : Nat) (h : RV T ρ H x v) : RL T ρ H (lo.set i (some x)) (σ.set i (some v)) := by
  refine ⟨by rw [List.length_set, List.length_set]; exact r.len, fun j y hj => ?_, fun p hp hj => ?_⟩
  rotate_left
  · by_cases e : p.i = i
    · exfalso
      rw [e] at hj
      by_cases hl : i < lo.length
      · rw [List.getElem?_set_self hl] at hj; cases hj
      · rw [List.getElem?_eq_none (by rw [List.length_set]; omega)] at hj; cases hj
    · rw [List.getElem?_set_ne (fun z => e z.symm)] at hj ⊢
      exact r.xc p hp hj
  by_cases e : j = i
  · subst e
    have hl : j < lo.length := by have := (List.getElem?_eq_some_iff.mp hj).1; rw [List.length_set] at this; exact this
    rw [List.getElem?_set_self hl] at hj
    cases hj
    exact ⟨v, List.getElem?_set_self (by rw [← r.len]; exact hl), h⟩
  · rw [List.getElem?_set_ne (fun z => e z.symm)] at hj
    obtain ⟨w, h1, h2⟩ := r.at_ j y hj
    exact ⟨w, by rw [List.getElem?_set_ne (fun z => e z.symm)]; exact h1, h2⟩

/-- an exception as it is handed on -/
def PoX (T : Tb) (W : XK) (ρ : List Addr) (H : Hp) (e : Ex) (s : Sto) : Prop :=
  ∀ (ρ' : List Addr) (H' : Hp) (C : Addr), Ext T ρ H ρ' H' → Rel T ρ' H' s → T.cl[e.c]? = some C →
    match e.fs with
    | none => W (.ref C) none H'
    | some fs => ∀ (d : Addr) (vs : List (Str × V)), H' d = some (.xd vs) → vs.map (·.1) = fs.map (·.1) → RVs T ρ' H' (fs.map (·.2)) (vs.map (·.2)) → W (.ref C) (some d) H'
/-- what is asked behind a computation -/
def Po {α β : Type} (R : List Addr → Hp → α → β → Prop) (T : Tb) (W : XK) (ρ : List Addr) (H : Hp) (r : Res α) (Q : β → Hp → Prop) : Prop := match r with
  | .ok a s => ∀ (ρ' : List Addr) (H' : Hp) (b : β), Ext T ρ H ρ' H' → Rel T ρ' H' s → R ρ' H' a b → Q b H'
  | .exc e s => PoX T W ρ H e s
  | .fail => False
theorem Po.mono {α β : Type} {R : List Addr → Hp → α → β → Prop} {T : Tb} {W : XK} {ρ ρ' : List Addr} {H H' : Hp} {r : Res α} {Q : β → Hp → Prop} (p : Po R T W ρ H r Q) (e : Ext T ρ H ρ' H') : Po R T W ρ' H' r Q := by
  cases r with
  | ok a s => exact fun ρ2 H2 b e2 => p ρ2 H2 b (e.trans e2)
  | exc x s => exact fun ρ2 H2 C e2 => p ρ2 H2 C (e.trans e2)
  | fail => exact p
/-- the reading of a computation -/
def tG {α β : Type} (R : List Addr → Hp → α → β → Prop) (T : Tb) (W : WX) (m : Lo → M α) : St → Hp → (β → Hp → Prop) → Prop := fun σ H Q =>
  ∃ (ρ : List Addr) (s : Sto) (lo : Lo), Rel T ρ H s ∧ RL T ρ H lo σ ∧ Po R T (fun c d H' => W c d σ H') ρ H (m lo s) Q
abbrev tE (T : Tb) (W : WX) (m : Lo → M Vl) : TE := tG (RV T) T W m
abbrev tA (T : Tb) (W : WX) (m : Lo → M (List Vl)) : TA := tG (RVs T) T W m
abbrev RB : List Addr → Hp → Bool → Bool → Prop := fun _ _ a b => a = b
abbrev tT (T : Tb) (W : WX) (m : Lo → M Bool) : TT := tG RB T W m
/-- the state behind a part -/
structure Bh {α β : Type} (R : List Addr → Hp → α → β → Prop) (T : Tb) (σ : St) (H : Hp) (b : β) (k : List Addr → Sto → Lo → α → Prop) : Prop where
  ex : ∃ (ρ : List Addr) (s : Sto) (lo : Lo) (a : α), Rel T ρ H s ∧ RL T ρ H lo σ ∧ R ρ H a b ∧ k ρ s lo a
/-- THE step: a part, then the rest -/
theorem tG_bnd {α β γ δ : Type} {R : List Addr → Hp → α → β → Prop} {R' : List Addr → Hp → γ → δ → Prop} {T : Tb} {W : WX} {m : Lo → M α} {f : Lo → α → M γ} {σ : St} {H : Hp} {Q : δ → Hp → Prop} {Q' : β → Hp → Prop}
    (h : tG R' T W (fun lo => bnd (m lo) (f lo)) σ H Q)
    (k : ∀ (ρ : List Addr) (s : Sto) (lo : Lo) (a : α) (b : β) (H1 : Hp), Rel T ρ H1 s → RL T ρ H1 lo σ → R ρ H1 a b → Po R' T (fun c d H' => W c d σ H') ρ H1 (f lo a s) Q → Q' b H1) : tG R T W m σ H Q' := by
  obtain ⟨ρ, s, lo, r, rl, p⟩ := h
  refine ⟨ρ, s, lo, r, rl, ?_⟩
  have p : Po R' T _ ρ H (bnd (m lo) (f lo) s) Q := p
  unfold bnd at p
  cases e : m lo s with
  | ok a s1 =>
    rw [e] at p
    exact fun ρ' H' b x r' hb => k ρ' s1 lo a b H' r' (rl.mono x) hb (p.mono x)
  | exc z s1 =>
    rw [e] at p
    exact p
  | fail =>
    rw [e] at p
    exact p
end Sm

/-! S1: expressions: names, constants, operators, tests, displays -/
namespace Sm
open PySem L2

theorem pe_mono {X : Cx} {e : Expr} {t t' : TE} (h : PE X e t) (k : ∀ σ H Q, t' σ H Q → t σ H Q) : PE X e t' := ⟨fun pins s σ H Q I q => h.run pins s σ H Q I (k σ H Q q)⟩
theorem pt_mono {X : Cx} {e : Expr} {t t' : TT} (h : PT X e t) (k : ∀ σ H Q, t' σ H Q → t σ H Q) : PT X e t' := ⟨fun pins s σ H Q I q => h.run pins s σ H Q I (k σ H Q q)⟩
theorem pw_mono {X : Cx} {e : Expr} {t t' : TT} (h : PW X e t) (k : ∀ σ H Q, t' σ H Q → t σ H Q) : PW X e t' := ⟨fun w pins s σ H Q I q => h.run w pins s σ H Q I (k σ H Q q)⟩
theorem pa_mono {X : Cx} {es : List Expr} {t t' : TA} (h : PA X es t) (k : ∀ σ H Q, t' σ H Q → t σ H Q) : PA X es t' := ⟨fun p pins s σ H Q I q => h.run p pins s σ H Q I (k σ H Q q)⟩

/-! ### the combinators -/
abbrev EM := Lo → M Vl
abbrev TM := Lo → M Bool
abbrev AM := Lo → M (List Vl)
abbrev O1 := Vl → Sto → Option (Vl × Sto)
abbrev O2 := Vl → Vl → Sto → Option (Vl × Sto)
abbrev OC := List Vl → Sto → Option (Vl × Sto)
abbrev OMt := Vl → List Vl → Sto → Option (Vl × Sto)
def eVar (i : Nat) : EM := fun lo s => match lo[i]? with
  | some (some v) => .ok v s
  | _ => .fail
def eC (v : Vl) : EM := fun _ s => .ok v s
def eOp1 (f : O1) (a : EM) : EM := fun lo => bnd (a lo) fun x => lift (f x)
def eOp (f : O2) (a b : EM) : EM := fun lo => bnd (a lo) fun x => bnd (b lo) fun y => lift (f x y)
def aNil : AM := fun _ s => .ok [] s
def aCons (a : EM) (r : AM) : AM := fun lo => bnd (a lo) fun x => bnd (r lo) fun xs => ret (x :: xs)
def eCB (f : OC) (a : AM) : EM := fun lo => bnd (a lo) fun xs => lift (f xs)
def eMt (f : OMt) (o : EM) (a : AM) : EM := fun lo => bnd (o lo) fun x => bnd (a lo) fun xs => lift (f x xs)
def tVal (a : EM) : TM := fun lo => bnd (a lo) fun x => match x with
  | .bl b => ret b
  | _ => failM
def tAndM (a b : TM) : TM := fun lo => bnd (a lo) fun x => match x with
  | true => b lo
  | false => ret false
def tOrM (a b : TM) : TM := fun lo => bnd (a lo) fun x => match x with
  | true => ret true
  | false => b lo
def tNotM (a : TM) : TM := fun lo => bnd (a lo) fun x => ret (!x)
def eAndM (a b : EM) : EM := fun lo => bnd (a lo) fun x => match x with
  | .bl true => b lo
  | .bl false => ret (.bl false)
  | _ => failM
def eOrM (a b : EM) : EM := fun lo => bnd (a lo) fun x => match x with
  | .bl false => b lo
  | .bl true => ret (.bl true)
  | _ => failM
def eNotM (a : EM) : EM := fun lo => bnd (a lo) fun x => match x with
  | .bl b => ret (.bl (!b))
  | _ => failM
def eIfM (t : TM) (a b : EM) : EM := fun lo => bnd (t lo) fun x => match x with
  | true => a lo
  | false => b lo
abbrev LIM : Nat := 16777216
theorem lim_eq : sizeLine = LIM := sizeLine_eq
def oTup : OC := fun xs s => if xs.length ≤ LIM then some (.tup xs, s) else none
def oLst : OC := fun xs s => if xs.length ≤ LIM then some (.ref s.length, s ++ [.lst xs]) else none

/-! ### behind an operation -/
def Aft (T : Tb) (ρ : List Addr) (H : Hp) (s : Sto) (v : Vl) (Q : VK) : Prop := ∀ (ρ' : List Addr) (H' : Hp) (z : V), Ext T ρ H ρ' H' → Rel T ρ' H' s → RV T ρ' H' v z → Q z H'
section
variable {T : Tb} {ρ : List Addr} {H : Hp} {s s' : Sto} {v : Vl} {Q : VK}
theorem Aft.here (k : Aft T ρ H s v Q) (r : Rel T ρ H s) {z : V} (h : RV T ρ H v z) : Q z H := k ρ H z .refl r h
theorem Aft.tup {xs : List Vl} {vs : List V} (k : Aft T ρ H s (.tup xs) Q) (r : Rel T ρ H s) (h : RVs T ρ H xs vs) {p : Addr} (hp : H p = none) : Q (.ref p) (upd H p (.tup vs)) :=
  k ρ _ _ (ext_upd hp) (r.laid hp) (.tup (SqT.of upd_same) (h.mono (ext_upd hp)))
theorem Aft.new {b : Ob} {o : HO} (k : Aft T ρ H (s ++ [b]) (.ref s.length) Q) (r : Rel T ρ H s) {p : Addr} (hp : H p = none) (hb : RO T (ρ ++ [p]) (upd H p o) b p) : Q (.ref p) (upd H p o) :=
  k _ _ _ (r.newExt hp) (r.new hp hb) r.newRef
theorem Aft.lst {xs : List Vl} {vs : List V} (k : Aft T ρ H (s ++ [.lst xs]) (.ref s.length) Q) (r : Rel T ρ H s) (h : RVs T ρ H xs vs) {p : Addr} (hp : H p = none) : Q (.ref p) (upd H p (.lst vs)) :=
  k.new r hp ⟨vs, upd_same, h.mono (r.newExt hp)⟩
theorem Aft.set {i : Nat} {b : Ob} {o u : HO} {a : Addr} {v : Vl} {z : V} (k : Aft T ρ H (s.set i b) v Q) (r : Rel T ρ H s) (ha : ρ[i]? = some a) (hu : H a = some u) (nf : ¬ Fixd u) (hb : RO T ρ (upd H a o) b a) (hv : RV T ρ H v z) : Q z (upd H a o) :=
  k _ _ _ (r.setExt ha hu nf) (r.set ha hb) (hv.mono (r.setExt ha hu nf))
end
def rO1 (T : Tb) (f : O1) : V → Hp → VK → Prop := fun x H Q => ∃ ρ s a v s', Rel T ρ H s ∧ RV T ρ H a x ∧ f a s = some (v, s') ∧ Aft T ρ H s' v Q
def rO (T : Tb) (f : O2) : R2 := fun x y H Q => ∃ ρ s a b v s', Rel T ρ H s ∧ RV T ρ H a x ∧ RV T ρ H b y ∧ f a b s = some (v, s') ∧ Aft T ρ H s' v Q
def rC (T : Tb) (f : OC) : List V → Hp → VK → Prop := fun xs H Q => ∃ ρ s as v s', Rel T ρ H s ∧ RVs T ρ H as xs ∧ f as s = some (v, s') ∧ Aft T ρ H s' v Q
def rMt (T : Tb) (f : OMt) : V → List V → Hp → VK → Prop := fun x xs H Q => ∃ ρ s a as v s', Rel T ρ H s ∧ RV T ρ H a x ∧ RVs T ρ H as xs ∧ f a as s = some (v, s') ∧ Aft T ρ H s' v Q
theorem po_lift {T : Tb} {W : XK} {ρ : List Addr} {H : Hp} {s : Sto} {f : Sto → Option (Vl × Sto)} {Q : VK} (p : Po (RV T) T W ρ H (lift f s) Q) : ∃ v s', f s = some (v, s') ∧ Aft T ρ H s' v Q := by
  unfold lift at p
  cases e : f s with
  | none => rw [e] at p; exact p.elim
  | some q =>
    obtain ⟨v, s'⟩ := q
    rw [e] at p
    exact ⟨v, s', rfl, p⟩
theorem po_ret {α β : Type} {R : List Addr → Hp → α → β → Prop} {T : Tb} {W : XK} {ρ : List Addr} {H : Hp} {s : Sto} {a : α} {Q : β → Hp → Prop} (p : Po R T W ρ H (ret a s) Q) (r : Rel T ρ H s) {b : β} (h : R ρ H a b) : Q b H := p ρ H b .refl r h
theorem po_bnd {α β γ δ : Type} {R : List Addr → Hp → α → β → Prop} {R' : List Addr → Hp → γ → δ → Prop} {T : Tb} {W : WX} {m : Lo → M α} {f : α → M γ} {ρ : List Addr} {s : Sto} {lo : Lo} {σ : St} {H : Hp} {Q : δ → Hp → Prop} {Q' : β → Hp → Prop}
    (r : Rel T ρ H s) (rl : RL T ρ H lo σ) (p : Po R' T (fun c d H' => W c d σ H') ρ H (bnd (m lo) f s) Q)
    (k : ∀ (ρ' : List Addr) (s' : Sto) (a : α) (b : β) (H' : Hp), Ext T ρ H ρ' H' → Rel T ρ' H' s' → RL T ρ' H' lo σ → R ρ' H' a b → Po R' T (fun c d H' => W c d σ H') ρ' H' (f a s') Q → Q' b H') : tG R T W m σ H Q' := by
  refine ⟨ρ, s, lo, r, rl, ?_⟩
  unfold bnd at p
  cases e : m lo s with
  | ok a s1 =>
    rw [e] at p
    exact fun ρ' H' b x r' hb => k ρ' s1 a b H' x r' (rl.mono x) hb (p.mono x)
  | exc z s1 => rw [e] at p; exact p
  | fail => rw [e] at p; exact p

section
variable {X : Cx} {T : Tb} {W : WX} {a b c e : Expr} {es : List Expr} {ma mb mc me : EM} {ta tb : TM} {mr : AM} {pos : Pos}
theorem ce_var (i : Nat) {x : Str} (hN : X.N[i]? = some x := by rfl) (hv : Vis X.env.scope x := by first | exact Or.inl rfl | exact Or.inr (Or.inl rfl) | exact Or.inr (Or.inr rfl)) (hd : (x == ("__debug__" : Str)) = false := by decide)
    (hcd : (x == ("__classdict__" : Str)) = false := by decide) : PE X (.Name x pos) (tE T W (eVar i)) :=
  pe_mono (pe_var hN hv hd hcd) fun σ H Q h => by
    obtain ⟨ρ, s, lo, r, rl, p⟩ := h
    have p : Po (RV T) T _ ρ H (eVar i lo s) Q := p
    unfold eVar at p
    split at p
    · rename_i v hv
      obtain ⟨z, h1, h2⟩ := rl.at_ i v hv
      exact ⟨z, h1, p ρ H z .refl r h2⟩
    · exact p.elim
theorem ce_of {v : Vl} {z : V} (h : PE X e (tC z)) (hv : ∀ ρ H, RV T ρ H v z) : PE X e (tE T W (eC v)) :=
  pe_mono h fun σ H Q h => by
    obtain ⟨ρ, s, lo, r, rl, p⟩ := h
    exact p ρ H z .refl r (hv ρ H)
theorem ce_int {i j} : PE X (.Constant (.int i) j pos) (tE T W (eC (.int i))) := ce_of pe_int fun _ _ => .int i
theorem ce_bl {i j} : PE X (.Constant (.bool i) j pos) (tE T W (eC (.bl i))) := ce_of pe_bl fun _ _ => .bl i
theorem ce_non {j} : PE X (.Constant .none j pos) (tE T W (eC .non)) := ce_of pe_non fun _ _ => .non
theorem ce_str {i j} : PE X (.Constant (.str i) j pos) (tE T W (eC (.str i))) := ce_of pe_str fun _ _ => .str i
/-- two parts and an operation of their values -/
theorem top_le {f : O2} {σ : St} {H : Hp} {Q : VK} (h : tE T W (eOp f ma mb) σ H Q) : tOp (rO T f) (tE T W ma) (tE T W mb) σ H Q :=
  tG_bnd (f := fun lo x => bnd (mb lo) fun y => lift (f x y)) h fun ρ s lo x z H1 r rl hx p =>
    po_bnd (m := mb) r rl p fun ρ' s' y z' H' ext r' rl' hy p' => by
      obtain ⟨v, s2, e, k⟩ := po_lift p'
      exact ⟨ρ', s', x, y, v, s2, r', hx.mono ext, hy, e, k⟩
theorem ce_op {op : Operator} {f : O2} (ho : OpR X (binaryOp op) (rO T f)) (ha : PE X a (tE T W ma)) (hb : PE X b (tE T W mb)) : PE X (.BinOp a op b pos) (tE T W (eOp f ma mb)) :=
  pe_mono (pe_op ho ha hb) fun _ _ _ h => top_le h
theorem ce_cmp {op : CmpOp} {f : O2} (ho : OpR X (compareOp op) (rO T f)) (ha : PE X a (tE T W ma)) (hb : PE X b (tE T W mb)) (hm : behindInMarks op b = false := by first | exact nomark _ | rfl) : PE X (.Compare a [op] [b] pos) (tE T W (eOp f ma mb)) :=
  pe_mono (pe_cmpR ho ha hb hm) fun _ _ _ h => top_le h
theorem ce_ix {f : O2} (ho : IxR X (rO T f)) (ha : PE X a (tE T W ma)) (hb : PE X b (tE T W mb)) (hs : PlainIx b := by exact fun _ _ => rfl) : PE X (.Subscript a b pos) (tE T W (eOp f ma mb)) :=
  pe_mono (pe_ix ho ha hb hs) fun _ _ _ h => top_le h
theorem ce_un {op : UnaryOp} {f : O1} (ho : UnR X (unaryOp op) (rO1 T f)) (ha : PE X a (tE T W ma)) : PE X (.UnaryOp op a pos) (tE T W (eOp1 f ma)) :=
  pe_mono (pe_un ho ha) fun σ H Q h =>
    tG_bnd (f := fun lo x => lift (f x)) h fun ρ s lo x z H1 r rl hx p => by
      obtain ⟨v, s2, e, k⟩ := po_lift p
      exact ⟨ρ, s, x, v, s2, r, hx, e, k⟩
/-! ### tests -/
theorem tval_le {σ : St} {H : Hp} {Q : Bool → Hp → Prop} (h : tT T W (tVal ma) σ H Q) : tE T W ma σ H fun x H1 => ∃ k, x = .bl k ∧ Q k H1 :=
  tG_bnd h fun ρ s lo x z H1 r rl hx p => by
    cases hx with
    | bl k => exact ⟨k, rfl, p ρ H1 k .refl r rfl⟩
    | _ => exact p.elim
theorem ct_val (h : PE X e (tE T W me)) (he : ∀ whole, isTrue e X.env whole = (do let v ← whole; standAt e.pos; holding [v] (truthy v)) := by intro _; rfl) : PT X e (tT T W (tVal me)) :=
  pt_mono (pt_val h he) fun _ _ _ h => tval_le h
theorem ct_cmp {op : CmpOp} {f : O2} (ho : OpR X (compareOp op) (rO T f)) (ha : PE X a (tE T W ma)) (hb : PE X b (tE T W mb)) (hm : behindInMarks op b = false := by first | exact nomark _ | rfl) : PT X (.Compare a [op] [b] pos) (tT T W (tVal (eOp f ma mb))) :=
  pt_mono (pt_cmpR ho ha hb hm) fun _ _ _ h => top_le (tval_le h)
theorem ct_not (h : PT X a (tT T W ta)) : PT X (.UnaryOp .Not a pos) (tT T W (tNotM ta)) :=
  pt_mono (pt_not h) fun _ _ _ h => tG_bnd h fun ρ s lo x z H1 r rl hx p => by
    cases hx
    exact po_ret (R := RB) p r rfl
theorem cw_and1 (ha : PT X a (tT T W ta)) : PW X (.BoolOp .And [a] pos) (tT T W ta) := pw_and1 ha
theorem cw_or1 (ha : PT X a (tT T W ta)) : PW X (.BoolOp .Or [a] pos) (tT T W ta) := pw_or1 ha
theorem cw_and (ha : PT X a (tT T W ta)) (hb : PW X (.BoolOp .And (b :: es) pos) (tT T W tb)) : PW X (.BoolOp .And (a :: b :: es) pos) (tT T W (tAndM ta tb)) :=
  pw_mono (pw_and ha hb) fun _ _ _ h => tG_bnd h fun ρ s lo x z H1 r rl hx p => by
    cases hx
    cases x with
    | true => exact ⟨ρ, s, lo, r, rl, p⟩
    | false => exact po_ret (R := RB) p r rfl
theorem cw_or (ha : PT X a (tT T W ta)) (hb : PW X (.BoolOp .Or (b :: es) pos) (tT T W tb)) : PW X (.BoolOp .Or (a :: b :: es) pos) (tT T W (tOrM ta tb)) :=
  pw_mono (pw_or ha hb) fun _ _ _ h => tG_bnd h fun ρ s lo x z H1 r rl hx p => by
    cases hx
    cases x with
    | false => exact ⟨ρ, s, lo, r, rl, p⟩
    | true => exact po_ret (R := RB) p r rfl
/-! ### and, or, not, if as values -/
theorem ce_one {op} (h : PE X a (tE T W ma)) : PE X (.BoolOp op [a] pos) (tE T W ma) := pe_one h
theorem ce_and (ha : PE X a (tE T W ma)) (hb : PE X (.BoolOp .And (b :: es) pos) (tE T W mb)) : PE X (.BoolOp .And (a :: b :: es) pos) (tE T W (eAndM ma mb)) :=
  pe_mono (pe_and ha hb) fun _ _ _ h => tG_bnd h fun ρ s lo x z H1 r rl hx p => by
    cases hx with
    | bl k =>
      cases k with
      | true => exact ⟨true, rfl, ρ, s, lo, r, rl, p⟩
      | false => exact ⟨false, rfl, po_ret (R := RV T) p r (.bl false)⟩
    | _ => exact p.elim
theorem ce_or (ha : PE X a (tE T W ma)) (hb : PE X (.BoolOp .Or (b :: es) pos) (tE T W mb)) : PE X (.BoolOp .Or (a :: b :: es) pos) (tE T W (eOrM ma mb)) :=
  pe_mono (pe_or ha hb) fun _ _ _ h => tG_bnd h fun ρ s lo x z H1 r rl hx p => by
    cases hx with
    | bl k =>
      cases k with
      | false => exact ⟨false, rfl, ρ, s, lo, r, rl, p⟩
      | true => exact ⟨true, rfl, po_ret (R := RV T) p r (.bl true)⟩
    | _ => exact p.elim
theorem ce_not (ha : PE X a (tE T W ma)) : PE X (.UnaryOp .Not a pos) (tE T W (eNotM ma)) :=
  pe_mono (pe_not ha) fun _ _ _ h => tG_bnd h fun ρ s lo x z H1 r rl hx p => by
    cases hx with
    | bl k => exact ⟨k, rfl, po_ret (R := RV T) p r (.bl _)⟩
    | _ => exact p.elim
theorem ce_if (hc : PT X c (tT T W ta)) (ha : PE X a (tE T W ma)) (hb : PE X b (tE T W mb)) : PE X (.IfExp c a b pos) (tE T W (eIfM ta ma mb)) :=
  pe_mono (pe_ifExp hc ha hb) fun _ _ _ h => tG_bnd h fun ρ s lo x z H1 r rl hx p => by
    cases hx
    cases x with
    | true => exact ⟨ρ, s, lo, r, rl, p⟩
    | false => exact ⟨ρ, s, lo, r, rl, p⟩
/-! ### argument lists, displays -/
theorem ca_nil : PA X [] (tA T W aNil) := pa_mono pa_nil fun σ H Q h => by
  obtain ⟨ρ, s, lo, r, rl, p⟩ := h
  exact p ρ H [] .refl r .nil
theorem ca_cons (ha : PE X e (tE T W me)) (hr : PA X es (tA T W mr)) (hs : starEach (e :: es) X.env = (false, eval e X.env) :: starEach es X.env := by rfl) : PA X (e :: es) (tA T W (aCons me mr)) :=
  pa_mono (pa_cons ha hr hs) fun _ _ _ h => tG_bnd (R := RV T) h fun ρ s lo x z H1 r rl hx p =>
    po_bnd (R := RVs T) (m := mr) r rl p fun ρ' s' xs zs H' ext r' rl' hxs p' => po_ret (R := RVs T) p' r' (.cons (hx.mono ext) hxs)
theorem tcb_le {f : OC} {σ : St} {H : Hp} {Q : VK} (h : tE T W (eCB f mr) σ H Q) : tA T W mr σ H fun vs H1 => rC T f vs H1 Q :=
  tG_bnd (R := RVs T) h fun ρ s lo xs zs H1 r rl hx p => by
    obtain ⟨v, s2, e, k⟩ := po_lift p
    exact ⟨ρ, s, xs, v, s2, r, hx, e, k⟩
theorem ce_tup {x1} (h : PA X es (tA T W mr)) : PE X (.Tuple es x1 pos) (tE T W (eCB oTup mr)) :=
  pe_mono (pe_tup h) fun _ _ _ h => tG_bnd (R := RVs T) h fun ρ s lo xs zs H1 r rl hx p => by
    obtain ⟨v, s2, e, k⟩ := po_lift p
    unfold oTup at e
    split at e
    · rename_i hl
      cases e
      exact ⟨by rw [← hx.length, lim_eq]; exact hl, fun q hq => k.tup r hx hq⟩
    · cases e
theorem ce_lst (h : PA X es (tA T W mr)) : PE X (.List es pos) (tE T W (eCB oLst mr)) :=
  pe_mono (pe_lst h) fun _ _ _ h => tG_bnd (R := RVs T) h fun ρ s lo xs zs H1 r rl hx p => by
    obtain ⟨v, s2, e, k⟩ := po_lift p
    unfold oLst at e
    split at e
    · rename_i hl
      cases e
      exact ⟨by rw [← hx.length, lim_eq]; exact hl, fun q hq => k.lst r hx hq⟩
    · cases e
/-! ### built-ins by name; methods of built-in types -/
theorem ce_callB {x : Str} {p : Pos} {id : String} {f : OC} (hc : CallR X (.builtin id) (rC T f)) (hg : Gl X x) (hm : X.mg x = none) (hv : bootBuiltins x = some (.builtin id)) (ha : PA X (e :: es) (tA T W mr)) (hn : x ≠ "__name__" := by decide) (hdb : (x == ("__debug__" : Str)) = false := by decide)
    (he : starEach (e :: es) X.env = (false, eval e X.env) :: starEach es X.env := by rfl) (hpl : (backTo pos (starEach es X.env)).any (·.1) = false := by rfl) : PE X (.Call (.Name x p) (e :: es) [] pos) (tE T W (eCB f mr)) :=
  pe_mono (pe_callB hc hg hm hv ha hn hdb he hpl) fun _ _ _ h => tcb_le h
theorem ce_callTy {x : Str} {p : Pos} {id : String} {f : OC} (hc : CallR X (.type id) (rC T f)) (hg : Gl X x) (hm : X.mg x = none) (hv : bootBuiltins x = some (.type id)) (ha : PA X (e :: es) (tA T W mr)) (hn : x ≠ "__name__" := by decide) (hdb : (x == ("__debug__" : Str)) = false := by decide)
    (he : starEach (e :: es) X.env = (false, eval e X.env) :: starEach es X.env := by rfl) (hpl : (backTo pos (starEach es X.env)).any (·.1) = false := by rfl) : PE X (.Call (.Name x p) (e :: es) [] pos) (tE T W (eCB f mr)) :=
  pe_mono (pe_callTy hc hg hm hv ha hn hdb he hpl) fun _ _ _ h => tcb_le h
end
end Sm

/-! S2: operators on values -/
namespace Sm
open PySem L2

/-! ### values that are known by their form -/
section
variable {T : Tb} {ρ : List Addr} {H : Hp} {z : V}
theorem RV.nonE (h : RV T ρ H .non z) : z = .non := by cases h; rfl
theorem RV.blE {b : Bool} (h : RV T ρ H (.bl b) z) : z = .bl b := by cases h; rfl
theorem RV.intE {i : Int} (h : RV T ρ H (.int i) z) : z = .int i := by cases h; rfl
theorem RV.strE {x : Str} (h : RV T ρ H (.str x) z) : z = .str x := by cases h; rfl
theorem RV.refE {i : Nat} (h : RV T ρ H (.ref i) z) : ∃ a, z = .ref a ∧ ρ[i]? = some a := by cases h; exact ⟨_, rfl, by assumption⟩
theorem RV.tupE {xs : List Vl} (h : RV T ρ H (.tup xs) z) : ∃ a vs, z = .ref a ∧ SqT T.K H a vs ∧ RVs T ρ H xs vs := by cases h; exact ⟨_, _, rfl, by assumption, by assumption⟩
theorem RV.scrE {ns : List Int} (h : RV T ρ H (.scr ns) z) : ∃ a, z = .ref a ∧ SqL T.K H a (ns.map V.int) := by
  cases h with
  | scr h => exact ⟨_, rfl, .inl (.inr ⟨_, h⟩)⟩
  | scrK h => exact ⟨_, rfl, h H⟩
theorem Rel.lst {s : Sto} {i : Nat} {xs : List Vl} {a : Addr} (r : Rel T ρ H s) (h : s[i]? = some (.lst xs)) (ha : ρ[i]? = some a) : ∃ vs, H a = some (.lst vs) ∧ RVs T ρ H xs vs := r.ob i a _ ha h
theorem Rel.dic {s : Sto} {i : Nat} {kvs : List (Key × Vl)} {a : Addr} (r : Rel T ρ H s) (h : s[i]? = some (.dic kvs)) (ha : ρ[i]? = some a) :
    ∃ vs : List (Key × V), H a = some (.dK vs) ∧ vs.map (·.1) = kvs.map (·.1) ∧ RVs T ρ H (kvs.map (·.2)) (vs.map (·.2)) := r.ob i a _ ha h
end

/-! ### ints -/
def opSub : O2
  | .int i, .int j, s => some (.int (i - j), s)
  | _, _, _ => none
def opMul : O2
  | .int i, .int j, s => if (-(2 ^ 64) < i ∧ i < 2 ^ 64) ∨ (-(2 ^ 64) < j ∧ j < 2 ^ 64) then some (.int (i * j), s) else none
  | .ref i, .int k, s => match s[i]? with
    | some (.lst xs) => if 0 ≤ k ∧ k < 2 ^ 60 ∧ xs.length * k.toNat ≤ LIM then some (.ref s.length, s ++ [.lst (List.replicate k.toNat xs).flatten]) else none
    | _ => none
  | _, _, _ => none
def opFdiv : O2
  | .int i, .int j, s => if 0 < j ∧ j < 1267650600228229401496703205376 then some (.int (i / j), s) else none
  | _, _, _ => none
def opMod : O2
  | .int i, .int j, s => if 0 < j then some (.int (i % j), s) else none
  | _, _, _ => none
def opPow : O2
  | .int i, .int j, s => if 0 ≤ j ∧ j ≤ 1000000 ∧ i.natAbs < 2 ^ 64 then some (.int (i ^ j.toNat), s) else none
  | _, _, _ => none
def opAdd : O2
  | .int i, .int j, s => some (.int (i + j), s)
  | .str x, .str y, s => if x.length + y.length ≤ LIM then some (.str (x ++ y), s) else none
  | .tup xs, .tup ys, s => if xs.length + ys.length ≤ LIM then some (.tup (xs ++ ys), s) else none
  | .ref i, .ref j, s => match s[i]?, s[j]? with
    | some (.lst xs), some (.lst ys) => if xs.length + ys.length ≤ LIM then some (.ref s.length, s ++ [.lst (xs ++ ys)]) else none
    | _, _ => none
  | _, _, _ => none
def opLt : O2
  | .int i, .int j, s => some (.bl (decide (i < j)), s)
  | _, _, _ => none
def opLe : O2
  | .int i, .int j, s => some (.bl (decide (i ≤ j)), s)
  | _, _, _ => none
def opGt : O2
  | .int i, .int j, s => some (.bl (decide (j < i)), s)
  | _, _, _ => none
def opGe : O2
  | .int i, .int j, s => some (.bl (decide (j ≤ i)), s)
  | _, _, _ => none
def isNon : Vl → Bool
  | .non => true
  | _ => false
def opIsN : O2
  | x, .non, s => some (.bl (isNon x), s)
  | _, _, _ => none
def opNotN : O2
  | x, .non, s => some (.bl (!isNon x), s)
  | _, _, _ => none
def opNeg : O1
  | .int i, s => some (.int (-i), s)
  | _, _ => none
section
variable {X : Cx} {T : Tb}
theorem OpR.imp {f : Value → Value → Sem Value} {r r' : R2} (h : OpR X f r) (k : ∀ x y H Q, r' x y H Q → r x y H Q) : OpR X f r' := fun pins s σ H x y v u Q I rx ry q => h pins s σ H x y v u Q I rx ry (k x y H Q q)
theorem oi {f : Value → Value → Sem Value} {C : Int → Int → Prop} {g : Int → Int → Vl} {gv : Int → Int → V} {op : O2} (hg : ∀ ρ H i j, RV T ρ H (g i j) (gv i j)) (h : OpR X f (rI C gv))
    (hop : ∀ a b s v s', op a b s = some (v, s') → ∃ i j, a = .int i ∧ b = .int j ∧ C i j ∧ v = g i j ∧ s' = s) : OpR X f (rO T op) := OpR.imp h fun x y H Q q => by
  obtain ⟨ρ, s, a, b, v, s', r, ha, hb, e, k⟩ := q
  obtain ⟨i, j, rfl, rfl, c, rfl, rfl⟩ := hop a b s v s' e
  exact ⟨i, j, ha.intE, hb.intE, c, k.here r (hg ρ H i j)⟩
theorem oi0 {f : Value → Value → Sem Value} {g : Int → Int → Vl} {gv : Int → Int → V} {op : O2} (hg : ∀ ρ H i j, RV T ρ H (g i j) (gv i j)) (h : OpR X f (rI0 gv))
    (hop : ∀ a b s v s', op a b s = some (v, s') → ∃ i j, a = .int i ∧ b = .int j ∧ v = g i j ∧ s' = s) : OpR X f (rO T op) := OpR.imp h fun x y H Q q => by
  obtain ⟨ρ, s, a, b, v, s', r, ha, hb, e, k⟩ := q
  obtain ⟨i, j, rfl, rfl, rfl, rfl⟩ := hop a b s v s' e
  exact ⟨i, j, ha.intE, hb.intE, k.here r (hg ρ H i j)⟩
theorem o_sub : OpR X (binaryOp .Sub) (rO T opSub) := oi0 (g := fun i j => .int (i - j)) (fun _ _ i j => .int _) op_sub fun a b s v s' e => by
  cases a <;> cases b <;> simp [opSub] at e
  exact ⟨_, _, rfl, rfl, e.1.symm, e.2.symm⟩
theorem o_lt : OpR X (compareOp .Lt) (rO T opLt) := oi0 (g := fun i j => .bl (decide (i < j))) (fun _ _ i j => .bl _) op_lt fun a b s v s' e => by
  cases a <;> cases b <;> simp [opLt] at e
  exact ⟨_, _, rfl, rfl, e.1.symm, e.2.symm⟩
theorem o_le : OpR X (compareOp .LtE) (rO T opLe) := oi0 (g := fun i j => .bl (decide (i ≤ j))) (fun _ _ i j => .bl _) op_le fun a b s v s' e => by
  cases a <;> cases b <;> simp [opLe] at e
  exact ⟨_, _, rfl, rfl, e.1.symm, e.2.symm⟩
theorem o_gt : OpR X (compareOp .Gt) (rO T opGt) := oi0 (g := fun i j => .bl (decide (j < i))) (fun _ _ i j => .bl _) op_gt fun a b s v s' e => by
  cases a <;> cases b <;> simp [opGt] at e
  exact ⟨_, _, rfl, rfl, e.1.symm, e.2.symm⟩
theorem o_ge : OpR X (compareOp .GtE) (rO T opGe) := oi0 (g := fun i j => .bl (decide (j ≤ i))) (fun _ _ i j => .bl _) op_ge fun a b s v s' e => by
  cases a <;> cases b <;> simp [opGe] at e
  exact ⟨_, _, rfl, rfl, e.1.symm, e.2.symm⟩
theorem o_fdiv : OpR X (binaryOp .FloorDiv) (rO T opFdiv) := oi (C := CDivW) (g := fun i j => .int (i / j)) (fun _ _ i j => .int _) op_fdivW fun a b s v s' e => by
  cases a <;> cases b <;> simp [opFdiv] at e
  exact ⟨_, _, rfl, rfl, wide_div (b := 100) e.1.1 (by have := e.1.1; have := e.1.2; omega) (by decide) (by decide), e.2.1.symm, e.2.2.symm⟩
theorem o_mod : OpR X (binaryOp .Mod) (rO T opMod) := oi (C := fun _ j => 0 < j) (g := fun i j => .int (i % j)) (fun _ _ i j => .int _) op_mod fun a b s v s' e => by
  cases a <;> cases b <;> simp [opMod] at e
  exact ⟨_, _, rfl, rfl, e.1, e.2.1.symm, e.2.2.symm⟩
theorem o_pow : OpR X (binaryOp .Pow) (rO T opPow) := oi (C := CPow) (g := fun i j => .int (i ^ j.toNat)) (fun _ _ i j => .int _) op_pow fun a b s v s' e => by
  cases a <;> cases b <;> simp only [opPow] at e <;> try cases e
  split at e
  · rename_i h
    cases e
    exact ⟨_, _, rfl, rfl, h, rfl, rfl⟩
  · cases e
theorem o_neg : UnR X (unaryOp .USub) (rO1 T opNeg) := fun pins s σ H x v Q I rx q => by
  obtain ⟨ρ, st, a, w, s', r, ha, e, k⟩ := q
  cases a <;> simp [opNeg] at e
  obtain ⟨rfl, rfl⟩ := e
  exact un_neg pins s σ H x v Q I rx ⟨_, ha.intE, k.here r (.int _)⟩
theorem o_add (hK : X.K = T.K := by rfl) : OpR X (binaryOp .Add) (rO T opAdd) := fun pins s σ H x y v u Q I rx ry q => by
  obtain ⟨ρ, st, a, b, w, s', r, ha, hb, e, k⟩ := q
  cases a <;> cases b <;> simp only [opAdd] at e <;> try cases e
  · exact op_add pins s σ H x y v u Q I rx ry ⟨_, _, ha.intE, hb.intE, k.here r (.int _)⟩
  · split at e
    · rename_i h
      cases e
      exact op_add_str pins s σ H x y v u Q I rx ry ⟨_, _, ha.strE, hb.strE, by rw [lim_eq]; exact h, k.here r (.str _)⟩
    · cases e
  · split at e
    · rename_i xs ys h
      cases e
      obtain ⟨p, vs, rfl, h1, h2⟩ := ha.tupE
      obtain ⟨p', vs', rfl, h1', h2'⟩ := hb.tupE
      refine op_catA pins s σ H _ _ v u Q I rx ry ⟨p, p', vs, vs', rfl, rfl, by rw [hK]; exact h1, by rw [hK]; exact h1', by rw [← h2.length, ← h2'.length, lim_eq]; exact h, ?_, ?_, ?_⟩
      · intro e
        subst e
        cases h2
        exact k.here r (.tup h1' h2')
      · intro _ e
        subst e
        cases h2'
        rw [List.append_nil] at k
        exact k.here r (.tup h1 h2)
      · intro _ _ q hq
        exact k.tup r (h2.append h2') hq
    · cases e
  · rename_i i j
    split at e
    · rename_i xs ys h1 h2
      split at e
      · rename_i h
        cases e
        obtain ⟨p, rfl, hp⟩ := ha.refE
        obtain ⟨p', rfl, hp'⟩ := hb.refE
        obtain ⟨vs, g1, g2⟩ := r.lst h1 hp
        obtain ⟨vs', g1', g2'⟩ := r.lst h2 hp'
        exact op_cat pins s σ H _ _ v u Q I rx ry ⟨p, p', vs, vs', rfl, rfl, g1, g1', by rw [← g2.length, ← g2'.length, lim_eq]; exact h, fun q hq => k.lst r (g2.append g2') hq⟩
      · cases e
    · cases e
theorem RVs.rep {ρ : List Addr} {H : Hp} {xs : List Vl} {vs : List V} (h : RVs T ρ H xs vs) : ∀ n : Nat, RVs T ρ H (List.replicate n xs).flatten (List.replicate n vs).flatten
  | 0 => .nil
  | n + 1 => by
    rw [List.replicate_succ, List.replicate_succ, List.flatten_cons, List.flatten_cons]
    exact h.append (RVs.rep h n)
theorem o_mul : OpR X (binaryOp .Mult) (rO T opMul) := fun pins s σ H x y v u Q I rx ry q => by
  obtain ⟨ρ, st, a, b, w, s', r, ha, hb, e, k⟩ := q
  cases a <;> cases b <;> simp only [opMul] at e <;> try cases e
  · split at e
    · rename_i h
      cases e
      exact op_mul pins s σ H x y v u Q I rx ry ⟨_, _, ha.intE, hb.intE, h, k.here r (.int _)⟩
    · cases e
  · split at e
    · rename_i xs h1
      split at e
      · rename_i h
        cases e
        obtain ⟨p, rfl, hp⟩ := ha.refE
        obtain ⟨vs, g1, g2⟩ := r.lst h1 hp
        have hz := h.2.1
        exact op_rep pins s σ H _ _ v u Q I rx ry ⟨p, _, vs, rfl, hb.intE, g1, by omega, by omega, by rw [← g2.length, lim_eq]; exact h.2.2, fun q hq => k.lst r (g2.rep _) hq⟩
      · cases e
    · cases e
theorem RV.non_iff {ρ : List Addr} {H : Hp} {a : Vl} {x : V} (h : RV T ρ H a x) : decide (x = .non) = isNon a := by
  cases h <;> simp [isNon]
theorem o_isN : OpR X (compareOp .Is) (rO T opIsN) := fun pins s σ H x y v u Q I rx ry q => by
  obtain ⟨ρ, st, a, b, w, s', r, ha, hb, e, k⟩ := q
  cases b <;> simp only [opIsN] at e <;> try cases e
  exact op_isN pins s σ H x y v u Q I rx ry ⟨hb.nonE, by rw [ha.non_iff]; exact k.here r (.bl _)⟩
theorem o_notN : OpR X (compareOp .IsNot) (rO T opNotN) := fun pins s σ H x y v u Q I rx ry q => by
  obtain ⟨ρ, st, a, b, w, s', r, ha, hb, e, k⟩ := q
  cases b <;> simp only [opNotN] at e <;> try cases e
  refine op_notN pins s σ H x y v u Q I rx ry ⟨hb.nonE, ?_⟩
  rw [ha.non_iff]
  exact k.here r (.bl _)
end

/-! ### data -/
def mapO {α β : Type} (f : α → Option β) : List α → Option (List β)
  | [] => some []
  | x :: xs => match f x, mapO f xs with
    | some y, some ys => some (y :: ys)
    | _, _ => none
def toD : Nat → Sto → Vl → Option PyData
  | 0, _, _ => none
  | n + 1, s, v => match v with
    | .non => some .none
    | .bl b => some (.bool b)
    | .int i => some (.int i)
    | .str x => some (.str x)
    | .tup xs => (mapO (toD n s) xs).map .tuple
    | .ref i => match s[i]? with
      | some (.lst xs) => (mapO (toD n s) xs).map .list
      | _ => none
    | _ => none
section
variable {T : Tb} {ρ : List Addr} {H : Hp} {s : Sto}
theorem toDs_dp {f : Vl → Option PyData} {n : Nat} (hf : ∀ v z d, RV T ρ H v z → f v = some d → Dp T.K H z d ∧ d.depth ≤ n) : ∀ {xs : List Vl} {vs : List V} {ds : List PyData}, RVs T ρ H xs vs → mapO f xs = some ds → DpAll T.K H vs ds ∧ PyData.depthAll ds ≤ n
  | _, _, _, .nil, e => by
    simp only [mapO] at e
    cases e
    exact ⟨.nil, by simp only [PyData.depthAll]; omega⟩
  | _, _, _, .cons h hs, e => by
    simp only [mapO] at e
    split at e
    · rename_i y ys e1 e2
      cases e
      obtain ⟨a1, a2⟩ := hf _ _ _ h e1
      obtain ⟨b1, b2⟩ := toDs_dp hf hs e2
      refine ⟨.cons a1 b1, ?_⟩
      simp only [PyData.depthAll]
      omega
    · cases e
theorem toD_dp (r : Rel T ρ H s) : ∀ (n : Nat) (v : Vl) (z : V) (d : PyData), RV T ρ H v z → toD n s v = some d → Dp T.K H z d ∧ d.depth ≤ n
  | 0, _, _, _, _, e => by cases e
  | n + 1, v, z, d, h, e => by
    have ih := toD_dp r n
    cases v <;> simp only [toD] at e <;> try cases e
    · rw [h.nonE]; exact ⟨.non, by simp only [PyData.depth]; omega⟩
    · rw [h.blE]; exact ⟨.bl _, by simp only [PyData.depth]; omega⟩
    · rw [h.intE]; exact ⟨.int _, by simp only [PyData.depth]; omega⟩
    · rw [h.strE]; exact ⟨.str _, by simp only [PyData.depth]; omega⟩
    · rename_i xs
      cases e1 : mapO (toD n s) xs with
      | none => rw [e1] at e; cases e
      | some ds =>
        rw [e1] at e
        cases e
        obtain ⟨a, vs, rfl, h1, h2⟩ := h.tupE
        obtain ⟨b1, b2⟩ := toDs_dp ih h2 e1
        exact ⟨.tup h1 b1, by simp only [PyData.depth]; omega⟩
    · rename_i i
      split at e
      · rename_i xs hx
        cases e1 : mapO (toD n s) xs with
        | none => rw [e1] at e; cases e
        | some ds =>
          rw [e1] at e
          cases e
          obtain ⟨a, rfl, ha⟩ := h.refE
          obtain ⟨vs, h1, h2⟩ := r.lst hx ha
          obtain ⟨b1, b2⟩ := toDs_dp ih h2 e1
          exact ⟨.lst (SqL.of h1) b1, by simp only [PyData.depth]; omega⟩
      · cases e
end
/-- == -/
def eqS : Vl → Vl → Option Bool
  | .non, .non => some true
  | .int i, .int j => some (i == j)
  | .bl i, .bl j => some (i == j)
  | .str i, .str j => some (i == j)
  | .non, .int _ => some false
  | .non, .str _ => some false
  | .int _, .non => some false
  | .int _, .str _ => some false
  | .str _, .non => some false
  | .str _, .int _ => some false
  | _, _ => none
def eqM (a b : Vl) (s : Sto) : Option Bool := match eqS a b with
  | some k => some k
  | none => match toD 40 s a, toD 40 s b with
    | some d, some e => if d.canLay0 && e.canLay0 then some (PyData.eqv d e) else none
    | _, _ => none
def opEq : O2 := fun a b s => match eqM a b s with
  | some k => some (.bl k, s)
  | none => none
def opNe : O2 := fun a b s => match eqM a b s with
  | some k => some (.bl (!k), s)
  | none => none
section
variable {X : Cx} {T : Tb}
theorem eqS_ok {ρ : List Addr} {H : Hp} {a b : Vl} {x y : V} {k : Bool} (ha : RV T ρ H a x) (hb : RV T ρ H b y) (e : eqS a b = some k) : scal x y = true ∧ decide (x = y) = k := by
  cases ha <;> cases hb <;> simp only [eqS] at e <;> try cases e
  all_goals (refine ⟨rfl, ?_⟩)
  all_goals first
    | (rw [dec_int]; done)
    | (rw [dec_bl]; done)
    | (rw [dec_str]; done)
    | simp
theorem sh40 {d : PyData} (h : d.canLay0 = true) (h2 : d.depth ≤ 40) : SeqAt.shaped d = true := by
  unfold SeqAt.shaped
  rw [h, decide_eq_true (by omega)]
  rfl
theorem o_eq (hu : X.A.units + 64 < cLine) (hK : X.K = T.K := by rfl) : OpR X (compareOp .Eq) (rO T opEq) := fun pins s σ H x y v u Q I rx ry q => by
  obtain ⟨ρ, st, a, b, w, s', r, ha, hb, e, k⟩ := q
  unfold opEq at e
  split at e
  · rename_i c hc
    cases e
    unfold eqM at hc
    split at hc
    · rename_i c' hs
      cases hc
      obtain ⟨h1, h2⟩ := eqS_ok ha hb hs
      exact op_eq pins s σ H x y v u Q I rx ry ⟨h1, by rw [h2]; exact k.here r (.bl _)⟩
    · split at hc
      · rename_i d e hd he
        split at hc
        · rename_i hl
          cases hc
          obtain ⟨l1, l2⟩ := Bool.and_eq_true_iff.mp hl
          obtain ⟨p1, p2⟩ := toD_dp r 40 a x d ha hd
          obtain ⟨q1, q2⟩ := toD_dp r 40 b y e hb he
          exact op_eqD hu pins s σ H x y v u Q I rx ry ⟨d, e, by rw [hK]; exact p1, by rw [hK]; exact q1, sh40 l1 p2, sh40 l2 q2, k.here r (.bl _)⟩
        · cases hc
      · cases hc
  · cases e
theorem o_ne (hu : X.A.units + 64 < cLine) (hK : X.K = T.K := by rfl) : OpR X (compareOp .NotEq) (rO T opNe) := fun pins s σ H x y v u Q I rx ry q => by
  obtain ⟨ρ, st, a, b, w, s', r, ha, hb, e, k⟩ := q
  unfold opNe at e
  split at e
  · rename_i c hc
    cases e
    unfold eqM at hc
    split at hc
    · rename_i c' hs
      cases hc
      obtain ⟨h1, h2⟩ := eqS_ok ha hb hs
      exact op_ne pins s σ H x y v u Q I rx ry ⟨h1, by rw [h2]; exact k.here r (.bl _)⟩
    · split at hc
      · rename_i d e hd he
        split at hc
        · rename_i hl
          cases hc
          obtain ⟨l1, l2⟩ := Bool.and_eq_true_iff.mp hl
          obtain ⟨p1, p2⟩ := toD_dp r 40 a x d ha hd
          obtain ⟨q1, q2⟩ := toD_dp r 40 b y e hb he
          exact op_neD hu pins s σ H x y v u Q I rx ry ⟨d, e, by rw [hK]; exact p1, by rw [hK]; exact q1, sh40 l1 p2, sh40 l2 q2, k.here r (.bl _)⟩
        · cases hc
      · cases hc
  · cases e
end
end Sm

/-! S3: subscripts, slices, in, stores, built-in calls, methods of built-in types -/
namespace Sm
open PySem L2

/-! ### dicts as lists of pairs -/
section
variable {κ : Type} [DecidableEq κ]
def look (kvs : List (κ × Vl)) (k : κ) : Option Vl := match kvs with
  | [] => none
  | p :: r => if p.1 = k then some p.2 else look r k
def hasK (kvs : List (κ × Vl)) (k : κ) : Bool := match kvs with
  | [] => false
  | p :: r => if p.1 = k then true else hasK r k
/-- in its place, or at the end -/
def put (kvs : List (κ × Vl)) (k : κ) (v : Vl) : List (κ × Vl) := match kvs with
  | [] => [(k, v)]
  | p :: r => if p.1 = k then (k, v) :: r else p :: put r k v
variable {T : Tb} {ρ : List Addr} {H : Hp}
theorem look_ok {k : κ} : ∀ {kvs : List (κ × Vl)} {vs : List (κ × V)}, vs.map (·.1) = kvs.map (·.1) → RVs T ρ H (kvs.map (·.2)) (vs.map (·.2)) →
    (look kvs k = none → valV vs k = none) ∧ ∀ v, look kvs k = some v → ∃ z, valV vs k = some z ∧ RV T ρ H v z
  | [], [], _, _ => ⟨fun _ => rfl, fun v e => by simp [look] at e⟩
  | [], _ :: _, e, _ => by simp at e
  | _ :: _, [], e, _ => by simp at e
  | p :: r, q :: t, e, h => by
    simp only [List.map_cons, List.cons.injEq] at e
    rw [List.map_cons, List.map_cons] at h
    cases h with
    | cons h1 h2 =>
      have ih := look_ok (k := k) e.2 h2
      by_cases hk : p.1 = k
      · have hq : q.1 = k := e.1.trans hk
        rw [valV_pos hq]
        refine ⟨fun z => ?_, fun v z => ?_⟩
        · simp only [look, if_pos hk] at z; cases z
        · simp only [look, if_pos hk] at z; cases z; exact ⟨_, rfl, h1⟩
      · have hq : ¬ q.1 = k := fun z => hk (e.1.symm.trans z)
        rw [valV_neg hq]
        simp only [look, if_neg hk]
        exact ih
theorem hasK_look (kvs : List (κ × Vl)) (k : κ) : hasK kvs k = (look kvs k).isSome := by
  induction kvs with
  | nil => rfl
  | cons p r ih =>
    unfold hasK look
    by_cases h : p.1 = k
    · rw [if_pos h, if_pos h]; rfl
    · rw [if_neg h, if_neg h]; exact ih
theorem hasK_ok {k : κ} {kvs : List (κ × Vl)} {vs : List (κ × V)} (e : vs.map (·.1) = kvs.map (·.1)) (h : RVs T ρ H (kvs.map (·.2)) (vs.map (·.2))) : hasK kvs k = (valV vs k).isSome := by
  rw [hasK_look]
  obtain ⟨h1, h2⟩ := look_ok (k := k) e h
  cases q : look kvs k with
  | none => rw [h1 q]; rfl
  | some v => obtain ⟨z, hz, _⟩ := h2 v q; rw [hz]; rfl
theorem putK_cons_eq {k : κ} {q : κ × V} {t : List (κ × V)} {z : V} (nd : q.1 = k) (hn : valV t k = none) : putK (q :: t) k z = (k, z) :: t := by
  unfold putK
  rw [if_pos (by simp [nd])]
  rw [List.map_cons, if_pos nd, nd]
  congr 1
  rw [List.map_congr_left (g := id)]
  · simp
  · intro p hp
    have : ¬ p.1 = k := fun e => by
      have h2 : (valV t k).isSome = true := by
        rw [← valV_any]
        exact List.any_eq_true.mpr ⟨p, hp, by simp [e]⟩
      rw [hn] at h2; cases h2
    rw [if_neg this]; rfl
theorem putK_cons_ne {k : κ} {q : κ × V} {t : List (κ × V)} {z : V} (h : ¬ q.1 = k) : putK (q :: t) k z = q :: putK t k z := by
  unfold putK
  rw [List.any_cons, decide_eq_false h, Bool.false_or]
  split
  · rw [List.map_cons, if_neg h]
  · rfl
theorem put_ok {k : κ} {v : Vl} {z : V} (hv : RV T ρ H v z) : ∀ {kvs : List (κ × Vl)} {vs : List (κ × V)}, (vs.map (·.1)).Nodup → vs.map (·.1) = kvs.map (·.1) → RVs T ρ H (kvs.map (·.2)) (vs.map (·.2)) →
    (putK vs k z).map (·.1) = (put kvs k v).map (·.1) ∧ RVs T ρ H ((put kvs k v).map (·.2)) ((putK vs k z).map (·.2))
  | [], [], _, _, _ => ⟨rfl, .cons hv .nil⟩
  | [], _ :: _, _, e, _ => by simp at e
  | _ :: _, [], _, e, _ => by simp at e
  | p :: r, q :: t, nd, e, h => by
    simp only [List.map_cons, List.cons.injEq] at e
    rw [List.map_cons, List.nodup_cons] at nd
    rw [List.map_cons, List.map_cons] at h
    cases h with
    | cons h1 h2 =>
      by_cases hk : p.1 = k
      · have hq : q.1 = k := e.1.trans hk
        have hn : valV t k = none := by
          cases w : valV t k with
          | none => rfl
          | some u =>
            exfalso
            have h3 : (t.any fun kv => decide (kv.1 = k)) = true := by rw [valV_any, w]; rfl
            obtain ⟨p', hp, e'⟩ := List.any_eq_true.mp h3
            exact nd.1 (by rw [hq, ← of_decide_eq_true e']; exact List.mem_map_of_mem hp)
        rw [putK_cons_eq hq hn]
        simp only [put, if_pos hk]
        exact ⟨by simp [e.2], .cons hv h2⟩
      · have hq : ¬ q.1 = k := fun z => hk (e.1.symm.trans z)
        rw [putK_cons_ne hq]
        simp only [put, if_neg hk]
        obtain ⟨a, b⟩ := put_ok hv nd.2 e.2 h2
        exact ⟨by simp [e.1, a], .cons h1 b⟩
end
def keyOf : Vl → Option Key
  | .int i => some (.inl i)
  | .str x => some (.inr x)
  | _ => none
def keyVl : Key → Vl
  | .inl i => .int i
  | .inr x => .str x
section
variable {T : Tb} {ρ : List Addr} {H : Hp}
theorem keyOf_ok {a : Vl} {x : V} {k : Key} (h : RV T ρ H a x) (e : keyOf a = some k) : x = kV k := by
  cases a <;> simp [keyOf] at e
  · subst e; exact h.intE
  · subst e; exact h.strE
theorem keyVl_ok (k : Key) : RV T ρ H (keyVl k) (kV k) := by
  cases k with
  | inl i => exact .int i
  | inr x => exact .str x
theorem RVs.at : ∀ {xs : List Vl} {vs : List V} {i : Int} {x : Vl}, RVs T ρ H xs vs → atI xs i = some x → ∃ v, atI vs i = some v ∧ RV T ρ H x v := fun {xs vs i x} h e => by
  unfold atI at e ⊢
  rw [← h.length]
  cases q : ixN xs.length i with
  | none => rw [q] at e; cases e
  | some j =>
    rw [q] at e
    exact h.get e
end
/-- the dict's keys are unlike: by the abstract heap -/
theorem dk_nodup {X : Cx} {pins : List (Addr × Obj)} {σ : St} {H : Hp} {s : Shared} {a : Addr} {vs : List (Key × V)} (I : Inv X pins σ H s) (h : H a = some (.dK vs)) : (vs.map (·.1)).Nodup := by
  obtain ⟨_, _, us, rel, dd⟩ := dk_of I.hok h
  have e := rel.keys
  rw [e]
  obtain ⟨_, _, _, _, _, _, _, _, nd⟩ := dd
  exact nd
/-! ### subscripts -/
def opIx : O2
  | .tup xs, .int i, s => (atI xs i).map fun v => (v, s)
  | .scr ns, .int i, s => (atI ns i).map fun v => (.int v, s)
  | .str x, .int i, s => if x.length ≤ LIM then (atI x.cps.toList i).map fun c => (.str ⟨#[c]⟩, s) else none
  | .ref j, y, s => match s[j]? with
    | some (.lst xs) => match y with
      | .int i => (atI xs i).map fun v => (v, s)
      | _ => none
    | some (.dic kvs) => match keyOf y with
      | some k => (look kvs k).map fun v => (v, s)
      | none => none
    | _ => none
  | _, _, _ => none
section
variable {X : Cx} {T : Tb}
theorem o_ix (hu : X.A.units + 1 < cLine) (hK : X.K = T.K := by rfl) : IxR X (rO T opIx) := fun value slice pins s σ H x y v u Q I rx ry q hs => by
  obtain ⟨ρ, st, a, b, w, s', r, ha, hb, e, k⟩ := q
  cases a with
  | tup xs =>
    cases b <;> simp only [opIx] at e <;> try cases e
    obtain ⟨z, hz, e⟩ := Option.map_eq_some_iff.mp e
    cases e
    obtain ⟨p, vs, rfl, h1, h2⟩ := ha.tupE
    obtain ⟨z', h3, h4⟩ := h2.at hz
    exact ix_tup value slice pins s σ H _ y v u Q I rx ry ⟨p, vs, _, z', rfl, hb.intE, by rw [hK]; exact h1, h3, k.here r h4⟩ hs
  | scr ns =>
    cases b <;> simp only [opIx] at e <;> try cases e
    obtain ⟨z, hz, e⟩ := Option.map_eq_some_iff.mp e
    cases e
    obtain ⟨p, rfl, h1⟩ := ha.scrE
    refine ix_list value slice pins s σ H _ y v u Q I rx ry ⟨p, _, _, .int z, rfl, hb.intE, by rw [hK]; exact h1, ?_, k.here r (.int z)⟩ hs
    unfold atI at hz ⊢
    rw [List.length_map]
    cases q : ixN ns.length _ with
    | none => rw [q] at hz; cases hz
    | some j =>
      rw [q] at hz
      have hz : ns[j]? = some z := hz
      show (ns.map V.int)[j]? = some (V.int z)
      rw [List.getElem?_map, hz]; rfl
  | str t =>
    cases b <;> simp only [opIx] at e <;> try cases e
    split at e
    · rename_i hl
      obtain ⟨z, hz, e⟩ := Option.map_eq_some_iff.mp e
      cases e
      exact ix_str value slice pins s σ H x y v u Q I rx ry ⟨t, _, z, ha.strE, hb.intE, by rw [lim_eq]; exact hl, hz, k.here r (.str _)⟩ hs
    · cases e
  | ref j =>
    obtain ⟨p, rfl, hp⟩ := ha.refE
    simp only [opIx] at e
    split at e
    · rename_i xs hx
      split at e
      · obtain ⟨z, hz, e⟩ := Option.map_eq_some_iff.mp e
        cases e
        obtain ⟨vs, h1, h2⟩ := r.lst hx hp
        obtain ⟨z', h3, h4⟩ := h2.at hz
        exact ix_list value slice pins s σ H _ y v u Q I rx ry ⟨p, vs, _, z', rfl, hb.intE, SqL.of h1, h3, k.here r h4⟩ hs
      · cases e
    · rename_i kvs hx
      split at e
      · rename_i key hk
        obtain ⟨z, hz, e⟩ := Option.map_eq_some_iff.mp e
        cases e
        obtain ⟨vs, h1, h2, h3⟩ := r.dic hx hp
        obtain ⟨z', h4, h5⟩ := (look_ok (k := key) h2 h3).2 _ hz
        have ey := keyOf_ok hb hk
        subst ey
        have g : DGet H p (kV key) (some z') := by rw [← h4]; exact DGet.k h1
        obtain rfl : v = Value.ref p := rx
        exact PyProof.Rows.tail_any (dict_typeIs I g) PySem.F.slot_dict_getitem.lookup (d_getItem hu I g ry fun w' s3 I3 rw' => ⟨z', H, I3, rw', k.here r h5⟩) hs
      · cases e
    · cases e
  | _ => simp only [opIx] at e; cases e
end
/-! ### slices -/
def cutL {α : Type} (xs : List α) (lo hi : Option Int) : List α := (xs.drop (HT.sIx xs.length 0 lo)).take (HT.sIx xs.length xs.length hi - HT.sIx xs.length 0 lo)
abbrev OSl := Vl → Option Int → Option Int → Sto → Option (Vl × Sto)
def opSl : OSl
  | .tup xs, lo, hi, s => some (.tup (cutL xs lo hi), s)
  | .scr ns, lo, hi, s => some (.ref s.length, s ++ [.lst ((cutL ns lo hi).map Vl.int)])
  | .str x, lo, hi, s => if x.length ≤ LIM then some (.str (cutS x lo hi), s) else none
  | .ref j, lo, hi, s => match s[j]? with
    | some (.lst xs) => some (.ref s.length, s ++ [.lst (cutL xs lo hi)])
    | _ => none
  | _, _, _, _ => none
def oPart : Option EM → Lo → M (Option Int)
  | none, _ => ret none
  | some m, lo => bnd (m lo) fun x => match x with
    | .int i => ret (some i)
    | _ => failM
def eSl (f : OSl) (a : EM) (l h : Option EM) : EM := fun lo => bnd (a lo) fun x => bnd (oPart l lo) fun i => bnd (oPart h lo) fun j => lift (f x i j)
theorem cutL_map {α β : Type} (f : α → β) (xs : List α) (lo hi : Option Int) : cutL (xs.map f) lo hi = (cutL xs lo hi).map f := by
  unfold cutL
  rw [List.length_map, List.map_take, List.map_drop]
def rSl (T : Tb) (f : OSl) : V → Option Int → Option Int → Hp → VK → Prop := fun x lo hi H Q => ∃ ρ s a v s', Rel T ρ H s ∧ RV T ρ H a x ∧ f a lo hi s = some (v, s') ∧ Aft T ρ H s' v Q
section
variable {X : Cx} {T : Tb} {W : WX}
theorem RVs.cut {ρ : List Addr} {H : Hp} {xs : List Vl} {vs : List V} (h : RVs T ρ H xs vs) (lo hi : Option Int) : RVs T ρ H (cutL xs lo hi) (cutV vs lo hi) := by
  unfold cutL cutV
  rw [h.length]
  exact (h.drop _).take _
theorem RVs.ints {ρ : List Addr} {H : Hp} : ∀ ns : List Int, RVs T ρ H (ns.map Vl.int) (ns.map V.int)
  | [] => .nil
  | n :: ns => .cons (.int n) (RVs.ints ns)
theorem o_sl (hK : X.K = T.K := by rfl) : SlR X (rSl T opSl) := fun pins s σ H x v vl vu lo hi sl Q I rx hs pl pu q => by
  obtain ⟨ρ, st, a, w, s', r, ha, e, k⟩ := q
  cases a with
  | tup xs =>
    simp only [opSl] at e
    cases e
    obtain ⟨p, vs, rfl, h1, h2⟩ := ha.tupE
    refine sl_tupA pins s σ H _ v vl vu lo hi sl Q I rx hs pl pu ⟨p, vs, rfl, by rw [hK]; exact h1, fun hw => ?_, fun _ q hq => k.tup r (h2.cut lo hi) hq⟩
    have : cutL xs lo hi = xs := by
      unfold cutL
      rw [h2.length, hw.1, hw.2]
      rw [List.drop_zero, Nat.sub_zero, ← h2.length, List.take_length]
    rw [this] at k
    exact k.here r (.tup h1 h2)
  | scr ns =>
    simp only [opSl] at e
    cases e
    obtain ⟨p, rfl, h1⟩ := ha.scrE
    refine sl_list pins s σ H _ v vl vu lo hi sl Q I rx hs pl pu ⟨p, _, rfl, by rw [hK]; exact h1, fun q hq => ?_⟩
    refine k.lst r ?_ hq
    rw [← cutL_map]
    exact RVs.cut (RVs.ints ns) lo hi
  | str t =>
    simp only [opSl] at e
    split at e
    · rename_i hl
      cases e
      exact sl_str pins s σ H x v vl vu lo hi sl Q I rx hs pl pu ⟨t, ha.strE, by rw [lim_eq]; exact hl, k.here r (.str _)⟩
    · cases e
  | ref j =>
    simp only [opSl] at e
    split at e
    · rename_i xs hx
      cases e
      obtain ⟨p, rfl, hp⟩ := ha.refE
      obtain ⟨vs, h1, h2⟩ := r.lst hx hp
      exact sl_list pins s σ H _ v vl vu lo hi sl Q I rx hs pl pu ⟨p, vs, rfl, SqL.of h1, fun q hq => k.lst r (h2.cut lo hi) hq⟩
    · cases e
  | _ => simp only [opSl] at e; cases e
/-- a slice's part -/
abbrev tO (T : Tb) (W : WX) (m : Option EM) : TO := tG (fun _ _ a b => a = b) T W (oPart m)
theorem co_none : PO X none (tO T W none) := ⟨fun pins s σ H Q I h => po_none.run pins s σ H Q I (by
  obtain ⟨ρ, st, lo, r, rl, p⟩ := h
  exact p ρ H none .refl r rfl)⟩
theorem co_some {e : Expr} {me : EM} (he : PE X e (tE T W me)) : PO X (some e) (tO T W (some me)) := ⟨fun pins s σ H Q I h => (po_some he).run pins s σ H Q I (by
  refine tG_bnd (R := RV T) h fun ρ st lo x z H1 r rl hx p => ?_
  cases hx with
  | int i => exact ⟨i, rfl, p ρ H1 (some i) .refl r rfl⟩
  | _ => exact p.elim)⟩
theorem ce_slice {e : Expr} {l h : Option Expr} {me : EM} {ml mh : Option EM} {pos p2 : Pos} {f : OSl} (hr : SlR X (rSl T f)) (he : PE X e (tE T W me)) (hl : PO X l (tO T W ml)) (hh : PO X h (tO T W mh)) : PE X (.Subscript e (.Slice l h none p2) pos) (tE T W (eSl f me ml mh)) :=
  pe_mono (pe_slice hr he hl hh) fun σ H Q q => tG_bnd (R := RV T) q fun ρ s lo x z H1 r rl hx p =>
    po_bnd (R := fun _ _ a b => a = b) (m := oPart ml) r rl p fun ρ1 s1 i i' H2 ext1 r1 rl1 hi p1 =>
      po_bnd (R := fun _ _ a b => a = b) (m := oPart mh) r1 rl1 p1 fun ρ2 s2 j j' H3 ext2 r2 rl2 hj p2 => by
        subst hi hj
        obtain ⟨v, s3, e, k⟩ := po_lift p2
        exact ⟨ρ2, s2, x, v, s3, r2, hx.mono (ext1.trans ext2), e, k⟩
end
/-! ### in -/
def flat : Vl → Bool
  | .non => true
  | .bl _ => true
  | .int _ => true
  | .str _ => true
  | _ => false
def eqF : Vl → Vl → Bool
  | .non, .non => true
  | .bl a, .bl b => a == b
  | .bl a, .int b => (if a then 1 else 0) == b
  | .int a, .bl b => a == (if b then 1 else 0)
  | .int a, .int b => a == b
  | .str a, .str b => a == b
  | _, _ => false
def inF (x : Vl) (xs : List Vl) : Bool := xs.any fun y => eqF y x
def inM (x y : Vl) (s : Sto) : Option Bool := match y with
  | .tup ys => if flat x && ys.all flat then some (inF x ys) else none
  | .str b => match x with
    | .str a => match a.cps.toList with
      | [c] => some (decide (c ∈ b.cps.toList))
      | _ => none
    | _ => none
  | .ref j => match s[j]? with
    | some (.lst ys) => if flat x && ys.all flat then some (inF x ys) else none
    | some (.dic kvs) => match keyOf x with
      | some k => some (hasK kvs k)
      | none => none
    | _ => none
  | _ => none
def opIn : O2 := fun x y s => match inM x y s with
  | some b => some (.bl b, s)
  | none => none
def opNotIn : O2 := fun x y s => match inM x y s with
  | some b => some (.bl (!b), s)
  | none => none
section
variable {X : Cx} {T : Tb} {ρ : List Addr} {H : Hp}
theorem flat_ok {a : Vl} {x : V} (h : RV T ρ H a x) (f : flat a = true) : flatV x = true := by
  cases h <;> simp [flat] at f <;> rfl
theorem eqF_ok {a b : Vl} {x y : V} (h : RV T ρ H a x) (g : RV T ρ H b y) (fa : flat a = true) (fb : flat b = true) : eqV x y = eqF a b := by
  cases h <;> simp [flat] at fa <;> cases g <;> simp [flat] at fb <;> rfl
theorem flats_ok : ∀ {xs : List Vl} {vs : List V}, RVs T ρ H xs vs → xs.all flat = true → vs.all flatV = true
  | _, _, .nil, _ => rfl
  | _, _, .cons h hs, e => by
    rw [List.all_cons, Bool.and_eq_true_iff] at e
    rw [List.all_cons, flat_ok h e.1, flats_ok hs e.2]; rfl
theorem inF_ok {a : Vl} {x : V} (h : RV T ρ H a x) (f : flat a = true) : ∀ {xs : List Vl} {vs : List V}, RVs T ρ H xs vs → xs.all flat = true → inV x vs = inF a xs
  | _, _, .nil, _ => rfl
  | _, _, .cons g hs, e => by
    rw [List.all_cons, Bool.and_eq_true_iff] at e
    have ih := inF_ok h f hs e.2
    unfold inV inF at ih ⊢
    rw [List.any_cons, List.any_cons, ih, eqF_ok g h e.1 f]
/-- the four kinds, told apart -/
theorem inM_cases {s : Sto} {a b : Vl} {x y : V} {c : Bool} (r : Rel T ρ H s) (ha : RV T ρ H a x) (hb : RV T ρ H b y) (e : inM a b s = some c) :
    (∃ p vs, y = .ref p ∧ (SqL T.K H p vs ∨ SqT T.K H p vs) ∧ flatV x = true ∧ vs.all flatV = true ∧ inV x vs = c) ∨ (∃ (n : Nat) (z : Str), x = .str ⟨#[n]⟩ ∧ y = .str z ∧ decide (n ∈ z.cps.toList) = c) ∨
    ∃ p o, y = .ref p ∧ DGet H p x o ∧ o.isSome = c := by
  cases b with
  | tup ys =>
    simp only [inM] at e
    split at e
    · rename_i hf
      cases e
      obtain ⟨f1, f2⟩ := Bool.and_eq_true_iff.mp hf
      obtain ⟨p, vs, rfl, h1, h2⟩ := hb.tupE
      exact .inl ⟨p, vs, rfl, .inr h1, flat_ok ha f1, flats_ok h2 f2, inF_ok ha f1 h2 f2⟩
    · cases e
  | str z =>
    simp only [inM] at e
    cases a <;> simp only at e <;> try cases e
    rename_i t
    split at e
    · rename_i c' hc
      cases e
      refine .inr (.inl ⟨c', z, ?_, hb.strE, rfl⟩)
      rw [ha.strE]
      obtain ⟨⟨l⟩⟩ := t
      have hc : l = [c'] := hc
      subst hc; rfl
    · cases e
  | ref j =>
    obtain ⟨p, rfl, hp⟩ := hb.refE
    simp only [inM] at e
    split at e
    · rename_i ys hx
      split at e
      · rename_i hf
        cases e
        obtain ⟨f1, f2⟩ := Bool.and_eq_true_iff.mp hf
        obtain ⟨vs, h1, h2⟩ := r.lst hx hp
        exact .inl ⟨p, vs, rfl, .inl (SqL.of h1), flat_ok ha f1, flats_ok h2 f2, inF_ok ha f1 h2 f2⟩
      · cases e
    · rename_i kvs hx
      split at e
      · rename_i k hk
        cases e
        obtain ⟨vs, h1, h2, h3⟩ := r.dic hx hp
        have ey := keyOf_ok ha hk
        subst ey
        exact .inr (.inr ⟨p, _, rfl, DGet.k h1, (hasK_ok h2 h3).symm⟩)
      · cases e
    · cases e
  | _ => simp only [inM] at e; cases e
theorem o_in (hu : X.A.units + 1 < cLine) (hK : X.K = T.K := by rfl) : OpR X (compareOp .In) (rO T opIn) := fun pins s σ H x y v u Q I rx ry q => by
  obtain ⟨ρ, st, a, b, w, s', r, ha, hb, e, k⟩ := q
  unfold opIn at e
  split at e
  · rename_i c hc
    cases e
    rcases inM_cases r ha hb hc with ⟨p, vs, rfl, h1, h2, h3, h4⟩ | ⟨n, z, rfl, rfl, h4⟩ | ⟨p, o, rfl, g, h4⟩
    · exact op_in_seq pins s σ H x _ v u Q I rx ry ⟨p, vs, rfl, by rw [hK]; exact h1, h2, h3, by rw [if_neg (by decide), h4]; exact k.here r (.bl _)⟩
    · exact op_in_sign pins s σ H _ _ v u Q I rx ry ⟨n, z, rfl, rfl, by rw [h4]; exact k.here r (.bl _)⟩
    · obtain rfl : u = Value.ref p := ry
      exact d_in hu I g rx fun s3 I3 => ⟨.bl o.isSome, H, I3, rfl, by rw [h4]; exact k.here r (.bl _)⟩
  · cases e
theorem o_notIn (hu : X.A.units + 1 < cLine) (hK : X.K = T.K := by rfl) : OpR X (compareOp .NotIn) (rO T opNotIn) := fun pins s σ H x y v u Q I rx ry q => by
  obtain ⟨ρ, st, a, b, w, s', r, ha, hb, e, k⟩ := q
  unfold opNotIn at e
  split at e
  · rename_i c hc
    cases e
    rcases inM_cases r ha hb hc with ⟨p, vs, rfl, h1, h2, h3, h4⟩ | ⟨n, z, rfl, rfl, h4⟩ | ⟨p, o, rfl, g, h4⟩
    · exact op_notIn_seq pins s σ H x _ v u Q I rx ry ⟨p, vs, rfl, by rw [hK]; exact h1, h2, h3, by rw [if_pos rfl, h4]; exact k.here r (.bl _)⟩
    · exact op_notIn_sign pins s σ H _ _ v u Q I rx ry ⟨n, z, rfl, rfl, by rw [h4]; exact k.here r (.bl _)⟩
    · obtain rfl : u = Value.ref p := ry
      exact d_notIn hu I g rx fun s3 I3 => ⟨.bl (!o.isSome), H, I3, rfl, by rw [h4]; exact k.here r (.bl _)⟩
  · cases e
end
end Sm

/-! S4: built-in calls and methods of built-in types -/
namespace Sm
open PySem L2
section
variable {T : Tb} {ρ : List Addr} {H : Hp}
theorem RVs.one {a : Vl} {xs : List V} (h : RVs T ρ H [a] xs) : ∃ x, xs = [x] ∧ RV T ρ H a x := by
  cases h with
  | cons h1 h2 => cases h2; exact ⟨_, rfl, h1⟩
theorem RVs.two {a b : Vl} {xs : List V} (h : RVs T ρ H [a, b] xs) : ∃ x y, xs = [x, y] ∧ RV T ρ H a x ∧ RV T ρ H b y := by
  cases h with
  | cons h1 h2 =>
    obtain ⟨y, rfl, h3⟩ := h2.one
    exact ⟨_, y, rfl, h1, h3⟩
theorem RVs.zero {xs : List V} (h : RVs T ρ H [] xs) : xs = [] := by cases h; rfl
def asInt : Vl → Option Int
  | .int i => some i
  | _ => none
def asBl : Vl → Option Bool
  | .bl i => some i
  | _ => none
def asStr : Vl → Option Str
  | .str i => some i
  | _ => none
theorem asInts_ok : ∀ {xs : List Vl} {vs : List V} {ns : List Int}, RVs T ρ H xs vs → mapO asInt xs = some ns → vs = ns.map V.int
  | _, _, _, .nil, e => by simp [mapO] at e; subst e; rfl
  | _, _, _, .cons h hs, e => by
    simp only [mapO] at e
    split at e
    · rename_i y ys e1 e2
      cases e
      have := asInts_ok hs e2
      subst this
      cases h <;> simp [asInt] at e1
      subst e1; rfl
    · cases e
theorem asBls_ok : ∀ {xs : List Vl} {vs : List V} {ns : List Bool}, RVs T ρ H xs vs → mapO asBl xs = some ns → vs = ns.map V.bl
  | _, _, _, .nil, e => by simp [mapO] at e; subst e; rfl
  | _, _, _, .cons h hs, e => by
    simp only [mapO] at e
    split at e
    · rename_i y ys e1 e2
      cases e
      have := asBls_ok hs e2
      subst this
      cases h <;> simp [asBl] at e1
      subst e1; rfl
    · cases e
theorem asStrs_ok : ∀ {xs : List Vl} {vs : List V} {ns : List Str}, RVs T ρ H xs vs → mapO asStr xs = some ns → vs = ns.map V.str
  | _, _, _, .nil, e => by simp [mapO] at e; subst e; rfl
  | _, _, _, .cons h hs, e => by
    simp only [mapO] at e
    split at e
    · rename_i y ys e1 e2
      cases e
      have := asStrs_ok hs e2
      subst this
      cases h <;> simp [asStr] at e1
      subst e1; rfl
    · cases e
end
theorem mapO_ints (ns : List Int) : mapO asInt (ns.map Vl.int) = some ns := by
  induction ns with
  | nil => rfl
  | cons n ns ih => simp only [List.map_cons, mapO, asInt, ih]
theorem mapO_bls (ns : List Bool) : mapO asBl (ns.map Vl.bl) = some ns := by
  induction ns with
  | nil => rfl
  | cons n ns ih => simp only [List.map_cons, mapO, asBl, ih]
theorem mapO_strs (ns : List Str) : mapO asStr (ns.map Vl.str) = some ns := by
  induction ns with
  | nil => rfl
  | cons n ns ih => simp only [List.map_cons, mapO, asStr, ih]
/-! ### sorting ints -/
def insS (x : Int) : List Int → List Int
  | [] => [x]
  | y :: ys => if x ≤ y then x :: y :: ys else y :: insS x ys
def srt : List Int → List Int
  | [] => []
  | x :: xs => insS x (srt xs)
/-! ### calls -/
def lenM (x : Vl) (s : Sto) : Option Nat := match x with
  | .tup xs => some xs.length
  | .scr ns => some ns.length
  | .str z => if z.length ≤ LIM then some z.length else none
  | .ref j => match s[j]? with
    | some (.lst xs) => some xs.length
    | some (.dic kvs) => some kvs.length
    | _ => none
  | _ => none
def oLen : OC
  | [x], s => (lenM x s).map fun n => (.int n, s)
  | _, _ => none
def oAbs : OC
  | [.int i], s => some (.int (if i < 0 then -i else i), s)
  | _, _ => none
def oInt : OC
  | [.int i], s => some (.int i, s)
  | [.bl b], s => some (.int (if b then 1 else 0), s)
  | _, _ => none
def oStr : OC
  | [.int i], s => if i.natAbs.log2 < 1920 then some (.str (toString i), s) else none
  | _, _ => none
def oMax : OC
  | [.int i, .int j], s => some (.int (if j > i then j else i), s)
  | _, _ => none
def oMin : OC
  | [.int i, .int j], s => some (.int (if j < i then j else i), s)
  | _, _ => none
def oTuple : OC
  | [.tup xs], s => some (.tup xs, s)
  | [.ref j], s => match s[j]? with
    | some (.lst xs) => some (.tup xs, s)
    | _ => none
  | _, _ => none
def oList : OC
  | [.tup xs], s => some (.ref s.length, s ++ [.lst xs])
  | [.ref j], s => match s[j]? with
    | some (.lst xs) => some (.ref s.length, s ++ [.lst xs])
    | some (.dic kvs) => some (.ref s.length, s ++ [.lst (kvs.map fun kv => keyVl kv.1)])
    | _ => none
  | _, _ => none
def lstOf (x : Vl) (s : Sto) : Option (List Vl) := match x with
  | .ref j => match s[j]? with
    | some (.lst xs) => some xs
    | _ => none
  | _ => none
def oSum : OC
  | [x], s => match lstOf x s with
    | some xs => (mapO asInt xs).map fun ns => (.int ns.sum, s)
    | none => none
  | _, _ => none
def oAll : OC
  | [x], s => match lstOf x s with
    | some xs => (mapO asBl xs).map fun ns => (.bl (ns.all id), s)
    | none => none
  | _, _ => none
def oAny : OC
  | [x], s => match lstOf x s with
    | some xs => (mapO asBl xs).map fun ns => (.bl (ns.any id), s)
    | none => none
  | _, _ => none
def oSorted : OC
  | [x], s => match lstOf x s with
    | some xs => (mapO asInt xs).map fun ns => (.ref s.length, s ++ [.lst ((srt ns).map Vl.int)])
    | none => none
  | _, _ => none
def oRepr : OC
  | [x], s => match toD 40 s x with
    | some d => if d.showable && decide (d.shown.length ≤ LIM) then some (.str d.shown, s) else none
    | none => none
  | _, _ => none
section
variable {X : Cx} {T : Tb}
theorem CallR.imp {f : Value} {r r' : List V → Hp → VK → Prop} (h : CallR X f r) (k : ∀ xs H Q, r' xs H Q → r xs H Q) : CallR X f r' := fun pins s σ H xs us Q I rs q => h pins s σ H xs us Q I rs (k xs H Q q)
theorem d_lenC {H : Hp} {a : Addr} {kvs : List (Key × V)} : ∀ (pins : List (Addr × Obj)) (s : Shared) (σ : St) (xs : List V) (us : List Value) (Q : VK), Inv X pins σ H s → Vals xs us → xs = [.ref a] → H a = some (.dK kvs) → Q (.int kvs.length) H →
    wpAny (model X.prog X.w) X.A (call (.builtin "len") us) (EP X pins σ Q) X.xe s := fun pins s σ xs us Q I r e h q => by
  subst e
  cases r with
  | cons r1 r2 =>
    cases r2
    obtain rfl := r1
    exact d_len I (.inl h) fun t s' I' => ⟨.int _, H, I', ⟨t, rfl⟩, q⟩
theorem c_len (hK : X.K = T.K := by rfl) : CallR X (.builtin "len") (rC T oLen) := fun pins s σ H xs us Q I rs q => by
  obtain ⟨ρ, st, as, w, s', r, ha, e, k⟩ := q
  unfold oLen at e
  split at e
  · rename_i x
    obtain ⟨z, rfl, hz⟩ := ha.one
    obtain ⟨n, hn, e⟩ := Option.map_eq_some_iff.mp e
    cases e
    have fin := k.here r (.int (n : Int))
    cases x with
    | tup ys =>
      obtain ⟨p, vs, rfl, h1, h2⟩ := hz.tupE
      cases hn
      rw [h2.length] at fin
      exact call_len_seq pins s σ H _ us Q I rs ⟨p, vs, rfl, .inr (by rw [hK]; exact h1), fin⟩
    | scr ns =>
      obtain ⟨p, rfl, h1⟩ := hz.scrE
      cases hn
      exact call_len_seq pins s σ H _ us Q I rs ⟨p, _, rfl, .inl (by rw [hK]; exact h1), by rw [List.length_map]; exact fin⟩
    | str t =>
      simp only [lenM] at hn
      split at hn
      · rename_i hl
        cases hn
        exact call_len pins s σ H _ us Q I rs ⟨_, _, rfl, by rw [hz.strE]; exact ⟨by rw [lim_eq]; exact hl, rfl⟩, fin⟩
      · cases hn
    | ref j =>
      obtain ⟨p, rfl, hp⟩ := hz.refE
      simp only [lenM] at hn
      split at hn
      · rename_i ys hx
        cases hn
        obtain ⟨vs, h1, h2⟩ := r.lst hx hp
        rw [h2.length] at fin
        exact call_len_seq pins s σ H _ us Q I rs ⟨p, vs, rfl, .inl (SqL.of h1), fin⟩
      · rename_i kvs hx
        cases hn
        obtain ⟨vs, h1, h2, h3⟩ := r.dic hx hp
        have : kvs.length = vs.length := by have := congrArg List.length h2; simpa using this.symm
        rw [this] at fin
        exact d_lenC pins s σ _ us Q I rs rfl h1 fin
      · cases hn
    | _ => cases hn
  · cases e
theorem c_abs : CallR X (.builtin "abs") (rC T oAbs) := CallR.imp call_abs fun xs H Q q => by
  obtain ⟨ρ, st, as, w, s', r, ha, e, k⟩ := q
  unfold oAbs at e
  split at e
  · obtain ⟨z, rfl, hz⟩ := ha.one
    cases e
    exact ⟨_, by rw [hz.intE], k.here r (.int _)⟩
  · cases e
theorem c_int : CallR X (.type "int") (rC T oInt) := CallR.imp call_int1 fun xs H Q q => by
  obtain ⟨ρ, st, as, w, s', r, ha, e, k⟩ := q
  unfold oInt at e
  split at e
  · obtain ⟨z, rfl, hz⟩ := ha.one
    cases e
    exact .inl ⟨_, by rw [hz.intE], k.here r (.int _)⟩
  · obtain ⟨z, rfl, hz⟩ := ha.one
    cases e
    exact .inr ⟨_, by rw [hz.blE], k.here r (.int _)⟩
  · cases e
theorem c_tuple (hK : X.K = T.K := by rfl) : CallR X (.type "tuple") (rC T oTuple) := CallR.imp call_tuple_of fun xs H Q q => by
  obtain ⟨ρ, st, as, w, s', r, ha, e, k⟩ := q
  unfold oTuple at e
  split at e
  · obtain ⟨z, rfl, hz⟩ := ha.one
    cases e
    obtain ⟨p, vs, rfl, h1, h2⟩ := hz.tupE
    exact ⟨p, vs, rfl, .inr ⟨by rw [hK]; exact h1, k.here r (.tup h1 h2)⟩⟩
  · split at e
    · rename_i xs hx
      cases e
      obtain ⟨z, rfl, hz⟩ := ha.one
      obtain ⟨p, rfl, hp⟩ := hz.refE
      obtain ⟨vs, h1, h2⟩ := r.lst hx hp
      exact ⟨p, vs, rfl, .inl ⟨SqL.of h1, fun q hq => k.tup r h2 hq⟩⟩
    · cases e
  · cases e
theorem keys_ok {ρ : List Addr} {H : Hp} : ∀ {kvs : List (Key × Vl)} {vs : List (Key × V)}, vs.map (·.1) = kvs.map (·.1) → RVs T ρ H (kvs.map fun kv => keyVl kv.1) (vs.map fun kv => kV kv.1)
  | [], [], _ => .nil
  | [], _ :: _, e => by simp at e
  | _ :: _, [], e => by simp at e
  | p :: r, q :: t, e => by
    simp only [List.map_cons, List.cons.injEq] at e
    rw [List.map_cons, List.map_cons, e.1]
    exact .cons (keyVl_ok _) (keys_ok e.2)
theorem c_list (hc : X.calm = true := by rfl) (hK : X.K = T.K := by rfl) : CallR X (.type "list") (rC T oList) := fun pins s σ H xs us Q I rs q => by
  obtain ⟨ρ, st, as, w, s', r, ha, e, k⟩ := q
  unfold oList at e
  split at e
  · obtain ⟨z, rfl, hz⟩ := ha.one
    cases e
    obtain ⟨p, vs, rfl, h1, h2⟩ := hz.tupE
    exact call_list_of pins s σ H _ us Q I rs ⟨p, vs, rfl, .inr (by rw [hK]; exact h1), fun q hq => k.lst r h2 hq⟩
  · obtain ⟨z, rfl, hz⟩ := ha.one
    obtain ⟨p, rfl, hp⟩ := hz.refE
    split at e
    · rename_i xs hx
      cases e
      obtain ⟨vs, h1, h2⟩ := r.lst hx hp
      exact call_list_of pins s σ H _ us Q I rs ⟨p, vs, rfl, .inl (SqL.of h1), fun q hq => k.lst r h2 hq⟩
    · rename_i kvs hx
      cases e
      obtain ⟨vs, h1, h2, h3⟩ := r.dic hx hp
      exact call_list_dK hc pins s σ H _ us Q I rs ⟨p, vs, rfl, h1, fun q hq => k.lst r (keys_ok h2) hq⟩
    · cases e
  · cases e
theorem lstOf_ok {ρ : List Addr} {H : Hp} {s : Sto} {x : Vl} {z : V} {xs : List Vl} (r : Rel T ρ H s) (hz : RV T ρ H x z) (e : lstOf x s = some xs) : ∃ p vs, z = .ref p ∧ H p = some (.lst vs) ∧ RVs T ρ H xs vs := by
  unfold lstOf at e
  split at e
  · split at e
    · rename_i ys hx
      cases e
      obtain ⟨p, rfl, hp⟩ := hz.refE
      obtain ⟨vs, h1, h2⟩ := r.lst hx hp
      exact ⟨p, vs, rfl, h1, h2⟩
    · cases e
  · cases e
theorem c_sum (hc : X.calm = true := by rfl) : CallR X (.builtin "sum") (rC T oSum) := CallR.imp (cr_sum hc) fun xs H Q q => by
  obtain ⟨ρ, st, as, w, s', r, ha, e, k⟩ := q
  unfold oSum at e
  split at e
  · split at e
    · rename_i x xs hx
      obtain ⟨z, rfl, hz⟩ := ha.one
      obtain ⟨ns, hn, e⟩ := Option.map_eq_some_iff.mp e
      cases e
      obtain ⟨p, vs, rfl, h1, h2⟩ := lstOf_ok r hz hx
      rw [asInts_ok h2 hn] at h1
      exact ⟨p, ns, rfl, SqL.of h1, k.here r (.int _)⟩
    · cases e
  · cases e
theorem c_all (hc : X.calm = true := by rfl) : CallR X (.builtin "all") (rC T oAll) := CallR.imp (cr_all hc) fun xs H Q q => by
  obtain ⟨ρ, st, as, w, s', r, ha, e, k⟩ := q
  unfold oAll at e
  split at e
  · split at e
    · rename_i x xs hx
      obtain ⟨z, rfl, hz⟩ := ha.one
      obtain ⟨ns, hn, e⟩ := Option.map_eq_some_iff.mp e
      cases e
      obtain ⟨p, vs, rfl, h1, h2⟩ := lstOf_ok r hz hx
      rw [asBls_ok h2 hn] at h1
      exact ⟨p, ns, rfl, SqL.of h1, k.here r (.bl _)⟩
    · cases e
  · cases e
/-- repr of data -/
theorem dp_noDict {K : PySem.W.Frag} {H : Hp} : ∀ (d : PyData) (v : V), Dp K H v d → d.hasDict = false
  | .none, _, _ => by simp only [PyData.hasDict]
  | .bool _, _, _ => by simp only [PyData.hasDict]
  | .int _, _, _ => by simp only [PyData.hasDict]
  | .str _, _, _ => by simp only [PyData.hasDict]
  | .list ds, _, .lst _ h => by
    simp only [PyData.hasDict]
    exact go ds _ h
  | .tuple ds, _, .tup _ h => by
    simp only [PyData.hasDict]
    exact go ds _ h
where
  go {K : PySem.W.Frag} {H : Hp} : ∀ (ds : List PyData) (vs : List V), DpAll K H vs ds → PyData.hasDictAll ds = false
  | [], _, _ => by simp only [PyData.hasDictAll]
  | d :: ds, _, .cons h hs => by
    simp only [PyData.hasDictAll]
    rw [dp_noDict d _ h, go ds _ hs]
    rfl
theorem c_repr (hg : X.A.guards = some []) (hu : X.A.units + 64 < cLine) (hK : X.K = T.K := by rfl) : CallR X (.builtin "repr") (rC T oRepr) := fun pins s σ H xs us Q I rs q => by
  obtain ⟨ρ, st, as, w, s', r, ha, e, k⟩ := q
  unfold oRepr at e
  split at e
  · rename_i x
    split at e
    · rename_i d hd
      split at e
      · rename_i hb
        cases e
        obtain ⟨hs, hl⟩ := Bool.and_eq_true_iff.mp hb
        have hl := of_decide_eq_true hl
        obtain ⟨z, rfl, hz⟩ := ha.one
        obtain ⟨p1, p2⟩ := toD_dp r 40 x z d hz hd
        have nd := dp_noDict d z p1
        have fin := k.here r (.str d.shown)
        cases rs with
        | cons r1 r2 =>
          cases r2
          rename_i u
          rw [← hK] at p1
          obtain ⟨bs, rd⟩ := Dp.reads I d z u p1 r1
          cases p1 with
          | non =>
            obtain rfl := r1
            simp only [PyData.shown] at fin
            exact PySem.P.repr_of_none ⟨.str _, H, I.tok _, ⟨_, rfl⟩, fin⟩
          | bl b =>
            obtain rfl := r1
            simp only [PyData.shown] at fin
            refine PySem.P.repr_of_bool ⟨.str _, H, I.tok _, ⟨_, rfl⟩, fin⟩
          | int i =>
            obtain ⟨t, rfl⟩ := r1
            simp only [PyData.shown] at fin
            simp only [PyData.showable] at hs
            exact PySem.P.repr_of_int (of_decide_eq_true hs) ⟨.str _, H, I.tok _, ⟨_, rfl⟩, fin⟩
          | str y =>
            obtain ⟨t, rfl⟩ := r1
            simp only [PyData.shown] at fin hl
            exact PySem.P.repr_of_str ⟨.str _, H, I.tok _, ⟨_, rfl⟩, fin⟩ (by rw [lim_eq]; exact hl)
          | lst g1 g2 =>
            obtain rfl := r1
            exact repr_of_reads' rd hs (fun z => by rw [nd] at z; cases z) hg (by omega) (fun _ _ e => e) (fun h' u tk hk => ⟨.str _, H, I.kept (t' := tk) hk, ⟨_, rfl⟩, fin⟩) (by rw [lim_eq]; exact hl)
          | tup g1 g2 =>
            obtain rfl := r1
            exact repr_of_reads' rd hs (fun z => by rw [nd] at z; cases z) hg (by omega) (fun _ _ e => e) (fun h' u tk hk => ⟨.str _, H, I.kept (t' := tk) hk, ⟨_, rfl⟩, fin⟩) (by rw [lim_eq]; exact hl)
      · cases e
    · cases e
  · cases e
end
/-! ### methods of built-in types -/
inductive Kd where
  | list | dict | str
def kd (k : Kd) (x : Vl) (s : Sto) : Bool := match k, x with
  | .str, .str _ => true
  | .list, .ref j => match s[j]? with
    | some (.lst _) => true
    | _ => false
  | .dict, .ref j => match s[j]? with
    | some (.dic _) => true
    | _ => false
  | _, _ => false
def Kd.nm : Kd → String
  | .list => "list"
  | .dict => "dict"
  | .str => "str"
def eBm (t : Kd) (f : OMt) (o : EM) (a : AM) : EM := fun lo => bnd (o lo) fun x s => match kd t x s with
  | true => bnd (a lo) (fun xs => lift (f x xs)) s
  | false => .fail
def eBm0 (t : Kd) (f : OMt) (o : EM) : EM := fun lo => bnd (o lo) fun x s => match kd t x s with
  | true => lift (f x []) s
  | false => .fail
def oAppend : OMt
  | .ref j, [v], s => match s[j]? with
    | some (.lst xs) => if xs.length < LIM then some (.non, s.set j (.lst (xs ++ [v]))) else none
    | _ => none
  | _, _, _ => none
def oExtend : OMt
  | .ref j, [.ref i], s => match s[j]?, s[i]? with
    | some (.lst xs), some (.lst ys) => if xs.length + ys.length ≤ LIM then some (.non, s.set j (.lst (xs ++ ys))) else none
    | _, _ => none
  | .ref j, [.tup ys], s => match s[j]? with
    | some (.lst xs) => if xs.length + ys.length ≤ LIM then some (.non, s.set j (.lst (xs ++ ys))) else none
    | _ => none
  | _, _, _ => none
def oPop : OMt
  | .ref j, [], s => match s[j]? with
    | some (.lst xs) => match xs[xs.length - 1]? with
      | some v => some (v, s.set j (.lst xs.dropLast))
      | none => none
    | _ => none
  | _, _, _ => none
section
variable {X : Cx} {T : Tb} {W : WX} {o e : Expr} {es : List Expr} {mo : EM} {ma : AM} {name : Str} {apos cpos : Pos} {id : String} {f : OMt} {t : Kd}
theorem kd_ok {ρ : List Addr} {H : Hp} {s : Sto} {x : Vl} {z : V} (r : Rel T ρ H s) (hz : RV T ρ H x z) (h : kd t x s = true) : tyV X.K t.nm z H := by
  cases t <;> cases x <;> simp only [kd] at h <;> try cases h
  · split at h
    · rename_i hx
      obtain ⟨p, rfl, hp⟩ := hz.refE
      obtain ⟨vs, h1, h2⟩ := r.lst hx hp
      exact .inl ⟨rfl, vs, SqL.of h1⟩
    · cases h
  · split at h
    · rename_i hx
      obtain ⟨p, rfl, hp⟩ := hz.refE
      obtain ⟨vs, h1, h2⟩ := r.dic hx hp
      exact .inr (.inr (.inl ⟨rfl, .inl ⟨vs, h1⟩⟩))
    · cases h
  · rw [hz.strE]; exact rfl
theorem ce_bm (pa : PlainAttrs t.nm) (slot : Slot t.nm name id) (hty : typeOf (.builtin id) = pure (.type "method_descriptor")) (hm : MtR X id (rMt T f)) (ho : PE X o (tE T W mo)) (ha : PA X (e :: es) (tA T W ma))
    (hbase : attributeBase o name X.env (eval o X.env) = eval o X.env := by rfl)
    (hfew : ((backTo cpos (starEach (e :: es) X.env)).all (fun x => !x.1) && (backToKw cpos (keywordEach [] X.env)).all (fun x => x.1.isSome)
      && decide ((e :: es).length + ([] : List Keyword).length + (if ([] : List Keyword).isEmpty then 0 else 1) < 30)) = true := by rfl)
    (hline : (apos.endLine == cpos.line) = true := by rfl) (hs : starEach (e :: es) X.env = (false, eval e X.env) :: starEach es X.env := by rfl) (hplain : (backTo cpos (starEach es X.env)).any (·.1) = false := by rfl) :
    PE X (.Call (.Attribute o name apos) (e :: es) [] cpos) (tE T W (eBm t f mo ma)) :=
  pe_mono (pe_bm pa slot hty hm ho ha hbase hfew hline hs hplain) fun σ H Q h => tG_bnd (R := RV T) h fun ρ s lo x z H1 r rl hx p => by
    cases hk : kd t x s with
    | false => simp only [hk] at p; exact p.elim
    | true =>
      simp only [hk] at p
      refine ⟨kd_ok r hx hk, po_bnd (R := RVs T) (m := ma) r rl p fun ρ' s' xs zs H' ext r' rl' hxs p' => ?_⟩
      obtain ⟨v, s3, e, k⟩ := po_lift p'
      exact ⟨ρ', s', x, xs, v, s3, r', hx.mono ext, hxs, e, k⟩
theorem ce_bm0 (pa : PlainAttrs t.nm) (slot : Slot t.nm name id) (hty : typeOf (.builtin id) = pure (.type "method_descriptor")) (hm : MtR X id (rMt T f)) (ho : PE X o (tE T W mo))
    (hbase : attributeBase o name X.env (eval o X.env) = eval o X.env := by rfl) (hline : (apos.endLine == cpos.line) = true := by rfl) : PE X (.Call (.Attribute o name apos) [] [] cpos) (tE T W (eBm0 t f mo)) :=
  pe_mono (pe_bm0 pa slot hty hm ho hbase hline) fun σ H Q h => tG_bnd (R := RV T) h fun ρ s lo x z H1 r rl hx p => by
    cases hk : kd t x s with
    | false => simp only [hk] at p; exact p.elim
    | true =>
      simp only [hk] at p
      obtain ⟨v, s3, e, k⟩ := po_lift p
      exact ⟨kd_ok r hx hk, ρ, s, x, [], v, s3, r, hx, .nil, e, k⟩
theorem MtR.imp {r r' : V → List V → Hp → VK → Prop} (h : MtR X id r) (k : ∀ x xs H Q, r' x xs H Q → r x xs H Q) : MtR X id r' := fun pins s σ H x xs v us Q I rx rs q => h pins s σ H x xs v us Q I rx rs (k x xs H Q q)
theorem m_append : MtR X "list.append" (rMt T oAppend) := MtR.imp mt_append fun x xs H Q q => by
  obtain ⟨ρ, st, a, as, w, s', r, ha, hs, e, k⟩ := q
  unfold oAppend at e
  split at e
  · split at e
    · rename_i v s j ys hx
      split at e
      · rename_i hl
        cases e
        obtain ⟨p, rfl, hp⟩ := ha.refE
        obtain ⟨z, rfl, hz⟩ := hs.one
        obtain ⟨vs, h1, h2⟩ := r.lst hx hp
        refine ⟨p, vs, z, rfl, rfl, h1, by rw [← h2.length, lim_eq]; exact hl, ?_⟩
        exact k.set r hp h1 (fun z => z) ⟨_, upd_same, (h2.append (.cons hz .nil)).mono (r.setExt hp h1)⟩ .non
      · cases e
    · cases e
  · cases e
/-- extend by a tuple -/
theorem list_extend_tup (l : Addr) (items : Array Value) (n : Nat) (b : Addr) (items2 : Array Value) (n2 : Nat) (od : Option Addr) (sl : Array (Option Value)) (hs0 : ¬(!items.isEmpty && Builtin.List.listTooLong (items.size + items2.size)) = true) (hs1 : items.size ≤ sizeLine) (hs2 : items.size + items2.size ≤ sizeLine + 1) :
    PySem.Meets (Builtin.«list.extend» ⟨[.ref l, .ref b], []⟩) (fun _ R s => s.heap.get? l = some { cls := .type "list", dict := none, data := .seq items n, slots := #[] } ∧ s.heap.get? b = some { cls := .type "tuple", dict := od, data := .seq items2 n2, slots := sl } ∧ R (.ok (.ret Value.none)) { s with heap := s.heap.update l (Obj.mapSeq fun x => x ++ items2), toks := s.toks }) :=
  .of_wp fun prog w A R s h => by
    obtain ⟨hp, g, d, tk, os⟩ := s; obtain ⟨hl, hb, h⟩ := h; have f1 := PySem.AutoSeq1.idx_int; have f2 := PySem.AutoSeq1.sub_tuple_tuple; have f3 := PySem.AutoSeq1.sub_list_list; have f4 := PySem.AutoSeq1.sub_tuple_list; have f5 := PySem.AutoSeq1.sub_list_tuple
    have hz' : (items ++ items2).size ≤ sizeLine + 1 := by rw [Array.size_append]; exact hs2
    wp_walk using (wpAny_updateSeq hl rfl (hz := hs1) (_hz' := hz')), PySem.AutoSeq1.wpAny_loadPart' hl, PySem.AutoSeq1.wpAny_loadPart' hb; exact ⟨_, rfl, h⟩
def rExtT (K : PySem.W.Frag) : V → List V → Hp → VK → Prop := fun x vs H Q => ∃ l b xs zs, x = .ref l ∧ vs = [.ref b] ∧ H l = some (.lst xs) ∧ SqT K H b zs ∧ xs.length + zs.length ≤ sizeLine ∧ Q .non (upd H l (.lst (xs ++ zs)))
theorem mt_extendT : MtM X "list.extend" (rExtT X.K) := by
  intro pins s σ H x vs v us Q I rx rv h
  obtain ⟨l, b, xs, zs, rfl, rfl, hH, hB, hz, q⟩ := h
  cases rx
  obtain ⟨u, rfl, ru⟩ := rv.one
  cases ru
  obtain ⟨z, its, n, r, hl, e⟩ := I.lstM hH
  obtain ⟨its2, r2, ⟨o, h1, h2, n2, h3⟩, z2⟩ := I.tuple hB
  have hl2 := r2.length
  obtain ⟨oc, od, dt, sl⟩ := o
  simp only at h2 h3
  subst h2 h3
  have hsz : its.toArray.size + its2.toArray.size ≤ sizeLine := by rw [List.size_toArray, List.size_toArray]; omega
  have hlong : ¬ (!its.toArray.isEmpty && Builtin.List.listTooLong (its.toArray.size + its2.toArray.size)) = true := by
    rw [notLongL hsz, Bool.and_false]
    exact Bool.false_ne_true
  refine PySem.call_meets PySem.F.slot_list_extend ⟨_, e, rfl⟩ PySem.F.entry_list_extend (PySem.F.args_list_extend_2 _ _)
    (list_extend_tup l its.toArray n b its2.toArray n2 od sl hlong (by rw [List.size_toArray]; omega) (by omega)) ⟨e, h1, ?_⟩
  refine ⟨.non, _, I.lset (its' := its ++ its2) hH e (by simp) (r.append r2) ?_, rfl, q⟩
  rw [List.length_append]
  omega
theorem m_extend (hK : X.K = T.K := by rfl) : MtR X "list.extend" (rMt T oExtend) := by
  intro pins s σ H x vs v us Q I rx rv h
  obtain ⟨ρ, st, a, as, w, s', r, ha, hs, e, k⟩ := h
  unfold oExtend at e
  split at e
  · split at e
    · rename_i ys zs hx hy
      split at e
      · rename_i hl
        cases e
        obtain ⟨p, rfl, hp⟩ := ha.refE
        obtain ⟨z, rfl, hz⟩ := hs.one
        obtain ⟨q, rfl, hq⟩ := hz.refE
        obtain ⟨vs, h1, h2⟩ := r.lst hx hp
        obtain ⟨us, h3, h4⟩ := r.lst hy hq
        refine mt_extend pins s σ H _ _ v _ Q I rx rv ⟨p, q, vs, us, rfl, rfl, h1, h3, by rw [← h2.length, ← h4.length, lim_eq]; exact hl, ?_⟩
        exact k.set r hp h1 (fun z => z) ⟨_, upd_same, (h2.append h4).mono (r.setExt hp h1)⟩ .non
      · cases e
    · cases e
  · split at e
    · rename_i ys hx
      split at e
      · rename_i hl
        cases e
        obtain ⟨p, rfl, hp⟩ := ha.refE
        obtain ⟨z, rfl, hz⟩ := hs.one
        obtain ⟨q, us, rfl, hq, h4⟩ := hz.tupE
        obtain ⟨vs, h1, h2⟩ := r.lst hx hp
        refine mt_extendT pins s σ H _ _ v _ Q I rx rv ⟨p, q, vs, us, rfl, rfl, h1, by rw [hK]; exact hq, by rw [← h2.length, ← h4.length, lim_eq]; exact hl, ?_⟩
        exact k.set r hp h1 (fun z => z) ⟨_, upd_same, (h2.append h4).mono (r.setExt hp h1)⟩ .non
      · cases e
    · cases e
  · cases e
theorem RVs.dropLast {ρ : List Addr} {H : Hp} {xs : List Vl} {vs : List V} (h : RVs T ρ H xs vs) : RVs T ρ H xs.dropLast vs.dropLast := by
  rw [List.dropLast_eq_take, List.dropLast_eq_take, h.length]
  exact h.take _
end
end Sm

/-! S5: statements -/
namespace Sm
open PySem L2

inductive RS where
  | nx (lo : Lo) (s : Sto) | rt (v : Vl) (s : Sto) | bk (lo : Lo) (s : Sto) | ct (lo : Lo) (s : Sto) | exc (e : Ex) (lo : Lo) (s : Sto) | fail
abbrev SM := Lo → Sto → RS
def bndS {α : Type} (m : Lo → M α) (f : Lo → α → Sto → RS) : SM := fun lo s => match m lo s with
  | .ok a s' => f lo a s'
  | .exc e s' => .exc e lo s'
  | .fail => .fail
def sNil : SM := fun lo s => .nx lo s
def sSeq (a b : SM) : SM := fun lo s => match a lo s with
  | .nx lo' s' => b lo' s'
  | .rt v s' => .rt v s'
  | .bk lo' s' => .bk lo' s'
  | .ct lo' s' => .ct lo' s'
  | .exc e lo' s' => .exc e lo' s'
  | .fail => .fail
def sExpr (e : EM) : SM := bndS e fun lo _ s => .nx lo s
def sRet (e : EM) : SM := bndS e fun _ v s => .rt v s
def sRetN : SM := fun _ s => .rt .non s
def sSet (i : Nat) (e : EM) : SM := bndS e fun lo v s => .nx (lo.set i (some v)) s
def sIf (t : TM) (a b : SM) : SM := bndS t fun lo c s => match c with
  | true => a lo s
  | false => b lo s
def sBreak : SM := fun lo s => .bk lo s
def sCont : SM := fun lo s => .ct lo s
/-- a, b = e1, e2 and three -/
def sPar (i j : Nat) (a : AM) : SM := bndS a fun lo vs s => match vs with
  | [v, w] => .nx ((lo.set i (some v)).set j (some w)) s
  | _ => .fail
def sPar3 (i j l : Nat) (a : AM) : SM := bndS a fun lo vs s => match vs with
  | [v, w, x] => .nx (((lo.set i (some v)).set j (some w)).set l (some x)) s
  | _ => .fail

/-- what is asked behind a statement -/
def PoXS (T : Tb) (W : WX) (ρ : List Addr) (H : Hp) (e : Ex) (lo : Lo) (s : Sto) : Prop :=
  ∀ (ρ' : List Addr) (H' : Hp) (σ' : St) (C : Addr), Ext T ρ H ρ' H' → Rel T ρ' H' s → RL T ρ' H' lo σ' → T.cl[e.c]? = some C →
    match e.fs with
    | none => W (.ref C) none σ' H'
    | some fs => ∀ (d : Addr) (vs : List (Str × V)), H' d = some (.xd vs) → vs.map (·.1) = fs.map (·.1) → RVs T ρ' H' (fs.map (·.2)) (vs.map (·.2)) → W (.ref C) (some d) σ' H'
def PoN (T : Tb) (ρ : List Addr) (H : Hp) (lo : Lo) (s : Sto) (Q : St → Hp → Prop) : Prop := ∀ (ρ' : List Addr) (H' : Hp) (σ' : St), Ext T ρ H ρ' H' → Rel T ρ' H' s → RL T ρ' H' lo σ' → Q σ' H'
def PoS (T : Tb) (W : WX) (ρ : List Addr) (H : Hp) (r : RS) (D : Ends) : Prop := match r with
  | .nx lo s => PoN T ρ H lo s D.nx
  | .rt v s => ∀ (ρ' : List Addr) (H' : Hp) (z : V), Ext T ρ H ρ' H' → Rel T ρ' H' s → RV T ρ' H' v z → D.rt z H'
  | .bk lo s => PoN T ρ H lo s D.bk
  | .ct lo s => PoN T ρ H lo s D.ct
  | .exc e lo s => PoXS T W ρ H e lo s
  | .fail => False
theorem PoN.mono {T : Tb} {ρ ρ' : List Addr} {H H' : Hp} {lo : Lo} {s : Sto} {Q : St → Hp → Prop} (p : PoN T ρ H lo s Q) (e : Ext T ρ H ρ' H') : PoN T ρ' H' lo s Q := fun ρ2 H2 σ2 e2 => p ρ2 H2 σ2 (e.trans e2)
theorem PoS.mono {T : Tb} {W : WX} {ρ ρ' : List Addr} {H H' : Hp} {r : RS} {D : Ends} (p : PoS T W ρ H r D) (e : Ext T ρ H ρ' H') : PoS T W ρ' H' r D := by
  cases r with
  | nx lo s => exact PoN.mono (lo := lo) p e
  | rt v s => exact fun ρ2 H2 z e2 => p ρ2 H2 z (e.trans e2)
  | bk lo s => exact PoN.mono (lo := lo) p e
  | ct lo s => exact PoN.mono (lo := lo) p e
  | exc x lo s => exact fun ρ2 H2 σ2 C e2 => p ρ2 H2 σ2 C (e.trans e2)
  | fail => exact p
def tS (T : Tb) (W : WX) (m : SM) : TS := fun D σ H => ∃ (ρ : List Addr) (s : Sto) (lo : Lo), Rel T ρ H s ∧ RL T ρ H lo σ ∧ PoS T W ρ H (m lo s) D
theorem ps_mono {X : Cx} {e : Stmt} {t t' : TS} (h : PS X e t) (k : ∀ D σ H, t' D σ H → t D σ H) : PS X e t' := ⟨fun pins s σ H D I q => h.run pins s σ H D I (k D σ H q)⟩
theorem pss_mono {X : Cx} {e : List Stmt} {t t' : TS} (h : PSs X e t) (k : ∀ D σ H, t' D σ H → t D σ H) : PSs X e t' := ⟨fun pins s σ H D I q => h.run pins s σ H D I (k D σ H q)⟩
/-- a part of a statement, then the rest -/
theorem poS_bnd {α β : Type} {R : List Addr → Hp → α → β → Prop} {T : Tb} {W : WX} {m : Lo → M α} {f : Lo → α → Sto → RS} {ρ : List Addr} {s : Sto} {lo : Lo} {σ : St} {H : Hp} {D : Ends} {Q' : β → Hp → Prop}
    (r : Rel T ρ H s) (rl : RL T ρ H lo σ) (p : PoS T W ρ H (bndS m f lo s) D)
    (k : ∀ (ρ' : List Addr) (s' : Sto) (a : α) (b : β) (H' : Hp), Ext T ρ H ρ' H' → Rel T ρ' H' s' → RL T ρ' H' lo σ → R ρ' H' a b → PoS T W ρ' H' (f lo a s') D → Q' b H') : tG R T W m σ H Q' := by
  refine ⟨ρ, s, lo, r, rl, ?_⟩
  unfold bndS at p
  cases e : m lo s with
  | ok a s1 =>
    rw [e] at p
    exact fun ρ' H' b x r' hb => k ρ' s1 a b H' x r' (rl.mono x) hb (p.mono x)
  | exc z s1 =>
    rw [e] at p
    exact fun ρ' H' C x r' hC => p ρ' H' σ C x r' (rl.mono x) hC
  | fail => rw [e] at p; exact p
theorem tS_bnd {α β : Type} {R : List Addr → Hp → α → β → Prop} {T : Tb} {W : WX} {m : Lo → M α} {f : Lo → α → Sto → RS} {σ : St} {H : Hp} {D : Ends} {Q' : β → Hp → Prop} (h : tS T W (bndS m f) D σ H)
    (k : ∀ (ρ : List Addr) (s : Sto) (lo : Lo) (a : α) (b : β) (H' : Hp), Rel T ρ H' s → RL T ρ H' lo σ → R ρ H' a b → PoS T W ρ H' (f lo a s) D → Q' b H') : tG R T W m σ H Q' := by
  obtain ⟨ρ, s, lo, r, rl, p⟩ := h
  exact poS_bnd r rl p fun ρ' s' a b H' _ r' rl' hb p' => k ρ' s' lo a b H' r' rl' hb p'
section
variable {X : Cx} {T : Tb} {W : WX} {e c : Expr} {st : Stmt} {rest a b : List Stmt} {me : EM} {mt : TM} {ms mr ma mb : SM} {pos : Pos}
theorem cs_nil : PSs X [] (tS T W sNil) := pss_mono pss_nil fun D σ H h => by
  obtain ⟨ρ, s, lo, r, rl, p⟩ := h
  exact p ρ H σ .refl r rl
theorem cs_cons (h1 : PS X st (tS T W ms)) (h2 : PSs X rest (tS T W mr)) : PSs X (st :: rest) (tS T W (sSeq ms mr)) := pss_mono (pss_cons h1 h2) fun D σ H h => by
  obtain ⟨ρ, s, lo, r, rl, p⟩ := h
  refine ⟨ρ, s, lo, r, rl, ?_⟩
  unfold sSeq at p
  cases e : ms lo s with
  | nx lo' s' =>
    rw [e] at p
    exact fun ρ' H' σ' x r' rl' => ⟨ρ', s', lo', r', rl', p.mono x⟩
  | rt v s' => rw [e] at p; exact p
  | bk lo' s' => rw [e] at p; exact p
  | ct lo' s' => rw [e] at p; exact p
  | exc z lo' s' => rw [e] at p; exact p
  | fail => rw [e] at p; exact p
theorem cs_one (h1 : PS X st (tS T W ms)) : PSs X [st] (tS T W ms) := pss_one h1
theorem cs_expr (he : PE X e (tE T W me)) (hs : swapsWith e none pos.line X.env = pure false := by rfl) : PS X (.Expr e pos) (tS T W (sExpr me)) := ps_mono (ps_expr he hs) fun D σ H h =>
  tS_bnd (R := RV T) h fun ρ s lo x z H' r rl hx p => p ρ H' σ .refl r rl
theorem cs_ret (he : PE X e (tE T W me)) : PS X (.Return (some e) pos) (tS T W (sRet me)) := ps_mono (ps_ret he) fun D σ H h =>
  tS_bnd (R := RV T) h fun ρ s lo x z H' r rl hx p => p ρ H' z .refl r hx
theorem cs_if (hc : PT X c (tT T W mt)) (ha : PSs X a (tS T W ma)) (hb : PSs X b (tS T W mb)) : PS X (.If c a b pos) (tS T W (sIf mt ma mb)) := ps_mono (ps_if hc ha hb) fun D σ H h =>
  tS_bnd (R := RB) h fun ρ s lo x z H' r rl hx p => by
    cases hx
    cases x with
    | true => exact ⟨ρ, s, lo, r, rl, p⟩
    | false => exact ⟨ρ, s, lo, r, rl, p⟩
theorem tasg_le {i : Nat} {D : Ends} {σ : St} {H : Hp} (h : tS T W (sSet i me) D σ H) : tAsg (tE T W me) (gName i) D σ H :=
  tS_bnd (R := RV T) h fun ρ s lo x z H' r rl hx p => p ρ H' _ .refl r (rl.set i hx)
theorem cs_set {i : Nat} {x : Str} {pos' : Pos} (hN : X.N.Nodup) (hi : X.N[i]? = some x) (hx : Loc X.env.scope x) (he : PE X e (tE T W me)) (hs : swapsWith e (some (.Name x pos')) pos.line X.env = pure false := by rfl) (hf : X.fn x = true ∨ X.env.scope.names.lookup x = some .local := by first | exact .inl rfl | exact .inr rfl | assumption) :
    PS X (.Assign [.Name x pos'] e pos) (tS T W (sSet i me)) := ps_mono (ps_set hN hi hx he hs hf) fun D σ H h => tasg_le h
theorem cs_par {i j : Nat} {x y : Str} {a b : Expr} {ma : AM} {px py pt : Pos} {kt k2 pt2} (hc : X.calm = true) (hN : X.N.Nodup) (hi : X.N[i]? = some x) (hj : X.N[j]? = some y) (hij : i ≠ j)
    (hx : X.env.scope.names.lookup x = some .local) (hy : X.env.scope.names.lookup y = some .local) (ha : PA X [a, b] (tA T W ma))
    (hw : swappedStores [.Tuple [.Name x px, .Name y py] kt pt] (.Tuple [a, b] k2 pt2) X.env = pure (some [x, y]))
    (hs : swapsWithSole [.Tuple [.Name x px, .Name y py] kt pt] (.Tuple [a, b] k2 pt2) pos.line X.env = pure false := by rfl) :
    PS X (.Assign [.Tuple [.Name x px, .Name y py] kt pt] (.Tuple [a, b] k2 pt2) pos) (tS T W (sPar i j ma)) := ps_mono (ps_par hc hN hi hj hij hx hy ha hw hs) fun D σ H h =>
  tS_bnd (R := RVs T) h fun ρ s lo vs zs H' r rl hx p => by
    cases hx with
    | nil => exact p.elim
    | cons h1 h2 =>
      cases h2 with
      | nil => exact p.elim
      | cons h2 h3 =>
        cases h3 with
        | nil => exact ⟨_, _, rfl, p ρ H' _ .refl r ((rl.set i h1).set j h2)⟩
        | cons h3 h4 => exact p.elim
theorem cs_par3 {i j l : Nat} {x y z : Str} {a b c : Expr} {ma : AM} {px py pz pt : Pos} {kt k2 pt2} (hc : X.calm = true) (hN : X.N.Nodup) (hi : X.N[i]? = some x) (hj : X.N[j]? = some y) (hl : X.N[l]? = some z) (hij : i ≠ j) (hil : i ≠ l) (hjl : j ≠ l)
    (hx : X.env.scope.names.lookup x = some .local) (hy : X.env.scope.names.lookup y = some .local) (hz : X.env.scope.names.lookup z = some .local) (ha : PA X [a, b, c] (tA T W ma))
    (hw : swappedStores [.Tuple [.Name x px, .Name y py, .Name z pz] kt pt] (.Tuple [a, b, c] k2 pt2) X.env = pure (some [x, y, z]))
    (hs : swapsWithSole [.Tuple [.Name x px, .Name y py, .Name z pz] kt pt] (.Tuple [a, b, c] k2 pt2) pos.line X.env = pure false := by rfl) :
    PS X (.Assign [.Tuple [.Name x px, .Name y py, .Name z pz] kt pt] (.Tuple [a, b, c] k2 pt2) pos) (tS T W (sPar3 i j l ma)) := ps_mono (ps_par3 hc hN hi hj hl hij hil hjl hx hy hz ha hw hs) fun D σ H h =>
  tS_bnd (R := RVs T) h fun ρ s lo vs zs H' r rl hx p => by
    cases hx with
    | nil => exact p.elim
    | cons h1 h2 =>
      cases h2 with
      | nil => exact p.elim
      | cons h2 h3 =>
        cases h3 with
        | nil => exact p.elim
        | cons h3 h4 =>
          cases h4 with
          | nil => exact ⟨_, _, _, rfl, p ρ H' _ .refl r (((rl.set i h1).set j h2).set l h3)⟩
          | cons h4 h5 => exact p.elim
end

/-! ### targets -/
abbrev GM := Vl → Lo → M Lo
def gNm (i : Nat) : GM := fun v lo s => .ok (lo.set i (some v)) s
abbrev OSet := Vl → Vl → Vl → Sto → Option Sto
def liftU (f : Sto → Option Sto) (lo : Lo) : M Lo := fun s => match f s with
  | some s' => .ok lo s'
  | none => .fail
def gSb (f : OSet) (o i : EM) : GM := fun v lo => bnd (o lo) fun x => bnd (i lo) fun y => liftU (f x y v) lo
def gNms (js : List Nat) (vs : List Vl) (lo : Lo) : Option Lo := match js, vs with
  | [], [] => some lo
  | j :: js, v :: vs => gNms js vs (lo.set j (some v))
  | _, _ => none
/-- names in brackets -/
def gTp (js : List Nat) : GM := fun v lo s => match v with
  | .tup xs => match gNms js xs lo with
    | some lo' => .ok lo' s
    | none => .fail
  | _ => .fail
/-- the readings of targets -/
abbrev RLo (T : Tb) : List Addr → Hp → Lo → St → Prop := fun ρ H lo σ => RL T ρ H lo σ
def tGt (T : Tb) (W : WX) (g : GM) : TG := fun z σ H Q => ∃ (ρ : List Addr) (s : Sto) (lo : Lo) (v : Vl), Rel T ρ H s ∧ RL T ρ H lo σ ∧ RV T ρ H v z ∧ Po (RLo T) T (fun c d H' => W c d σ H') ρ H (g v lo s) Q
def sAsg (g : GM) (e : EM) : SM := bndS e fun lo v s => match g v lo s with
  | .ok lo' s' => .nx lo' s'
  | .exc x s' => .exc x lo s'
  | .fail => .fail
theorem pg_mono {X : Cx} {e : Expr} {t t' : TG} (h : PG X e t) (k : ∀ v σ H Q, t' v σ H Q → t v σ H Q) : PG X e t' := ⟨fun pins s σ H v u Q I r q => h.run pins s σ H v u Q I r (k v σ H Q q)⟩
def opSet : OSet
  | .ref j, y, v, s => match s[j]? with
    | some (.lst xs) => match y with
      | .int i => match ixN xs.length i with
        | some n => some (s.set j (.lst (xs.set n v)))
        | none => none
      | _ => none
    | some (.dic kvs) => match keyOf y with
      | some k => if kvs.length < LIM then some (s.set j (.dic (put kvs k v))) else none
      | none => none
    | _ => none
  | _, _, _, _ => none
def rSt (T : Tb) (f : OSet) : TSet := fun o i v H Q => ∃ ρ s a b c s', Rel T ρ H s ∧ RV T ρ H a o ∧ RV T ρ H b i ∧ RV T ρ H c v ∧ f a b c s = some s' ∧ ∀ (ρ' : List Addr) (H' : Hp), Ext T ρ H ρ' H' → Rel T ρ' H' s' → Q H'
section
variable {X : Cx} {T : Tb} {W : WX} {o i e tg : Expr} {mo mi me : EM} {g : GM} {f : OSet} {pos : Pos}
theorem cg_name {n : Nat} {x : Str} (hN : X.N.Nodup) (hi : X.N[n]? = some x) (hx : Loc X.env.scope x) (hf : X.fn x = true ∨ X.env.scope.names.lookup x = some .local := by first | exact .inl rfl | exact .inr rfl | assumption) : PG X (.Name x pos) (tGt T W (gNm n)) :=
  pg_mono (pg_name hN hi hx hf) fun v σ H Q h => by
    obtain ⟨ρ, s, lo, x, r, rl, hx, p⟩ := h
    exact p ρ H _ .refl r (rl.set n hx)
theorem cg_sub (ho : PE X o (tE T W mo)) (hi : PE X i (tE T W mi)) (hs : PSet X (rSt T f)) (k : PG X (.Subscript o i pos) (gSub (tE T W mo) (tE T W mi) (rSt T f))) : PG X (.Subscript o i pos) (tGt T W (gSb f mo mi)) :=
  pg_mono k fun v σ H Q h => by
    obtain ⟨ρ, s, lo, x, r, rl, hx, p⟩ := h
    refine po_bnd (R := RV T) (m := mo) r rl p fun ρ1 s1 a z H1 ext1 r1 rl1 ha p1 => po_bnd (R := RV T) (m := mi) r1 rl1 p1 fun ρ2 s2 b y H2 ext2 r2 rl2 hb p2 => ?_
    unfold liftU at p2
    cases e : f a b x s2 with
    | none => rw [e] at p2; exact p2.elim
    | some s3 =>
      rw [e] at p2
      exact ⟨ρ2, s2, a, b, x, s3, r2, ha.mono ext2, hb, hx.mono (ext1.trans ext2), e, fun ρ3 H3 e3 r3 => p2 ρ3 H3 σ e3 r3 (rl2.mono e3)⟩
theorem cs_asg (he : PE X e (tE T W me)) (hg : PG X tg (tGt T W g)) (hs : swapsWithSole [tg] e pos.line X.env = pure false := by rfl) (hw : swappedStores [tg] e X.env = pure none := by rfl)
    (h1 : (assignEach [tg] X.env).map (·.2) = [assign tg X.env] := by rfl) : PS X (.Assign [tg] e pos) (tS T W (sAsg g me)) := ps_mono (ps_asg he hg hs hw h1) fun D σ H h =>
  tS_bnd (R := RV T) h fun ρ s lo x z H' r rl hx p => ⟨ρ, s, lo, x, r, rl, hx, by
    cases e : g x lo s with
    | ok lo' s' =>
      rw [e] at p
      exact fun ρ2 H2 σ2 e2 r2 rl2 => p ρ2 H2 σ2 e2 r2 rl2
    | exc y s' =>
      rw [e] at p
      exact fun ρ2 H2 C e2 r2 hC => p ρ2 H2 σ C e2 r2 (rl.mono e2) hC
    | fail => rw [e] at p; exact p⟩
theorem p_set (hu : X.A.units + 1 < cLine) : PSet X (rSt T opSet) := by
  intro pins s σ H ov iv v ou iu u Q I ro ri rv h
  obtain ⟨ρ, st, a, b, c, s', r, ha, hb, hc, e, k⟩ := h
  unfold opSet at e
  split at e
  · rename_i j y w s0
    obtain ⟨p, rfl, hp⟩ := ha.refE
    split at e
    · rename_i xs hx
      split at e
      · rename_i i
        split at e
        · rename_i n hn
          cases e
          obtain ⟨vs, h1, h2⟩ := r.lst hx hp
          refine set_list pins s σ H _ _ v ou iu u Q I ro ri rv ⟨p, vs, i, n, rfl, hb.intE, h1, by rw [← h2.length]; exact hn, ?_⟩
          exact k ρ _ (r.setExt hp h1) (r.set hp ⟨_, upd_same, (h2.set hc n).mono (r.setExt hp h1)⟩)
        · cases e
      · cases e
    · rename_i kvs hx
      split at e
      · rename_i key hk
        split at e
        · rename_i hl
          cases e
          obtain ⟨vs, h1, h2, h3⟩ := r.dic hx hp
          have ey := keyOf_ok hb hk
          subst ey
          have hlen : vs.length = kvs.length := by have := congrArg List.length h2; simpa using this
          have nd := dk_nodup I h1
          obtain ⟨q1, q2⟩ := put_ok (k := key) hc nd h2 h3
          obtain rfl : ou = Value.ref p := ro
          refine d_setItem hu I (DPut.k (v := v) h1 (by rw [hlen, lim_eq]; exact hl)) ri rv fun s4 I4 => ⟨_, I4, ?_⟩
          exact k ρ _ (r.setExt hp h1) (r.set hp ⟨_, upd_same, q1, q2.mono (r.setExt hp h1)⟩)
        · cases e
      · cases e
    · cases e
  · cases e
end
end Sm

/-! S6: loops and comprehensions -/
namespace Sm
open PySem L2

/-- the i-th item of what is walked: an item, the end, or nothing known -/
abbrev NX := Nat → Sto → Option (Option Vl)
def nxFix (xs : List Vl) : NX := fun i _ => some xs[i]?
def nxLst (j : Nat) : NX := fun i s => match s[j]? with
  | some (.lst xs) => some xs[i]?
  | _ => none
def nxEnum (j : Nat) : NX := fun i s => match s[j]? with
  | some (.lst xs) => match xs[i]? with
    | some v => some (some (.tup [.int (i : Nat), v]))
    | none => some none
  | _ => none
/-- an iterator of the model yields what nx says -/
def ItOk (T : Tb) (J : It) (nx : NX) (ρ : List Addr) (H : Hp) : Prop := ∀ (ρ1 : List Addr) (H1 : Hp) (s : Sto) (i : Nat), Ext T ρ H ρ1 H1 → Rel T ρ1 H1 s → match nx i s with
  | some (some v) => J.go i H1 ∧ ∀ x H2, J.yld i H1 x H2 → Ext T ρ1 H1 ρ1 H2 ∧ Rel T ρ1 H2 s ∧ RV T ρ1 H2 v x
  | some none => J.stop i H1
  | none => True
theorem ItOk.mono {T : Tb} {J : It} {nx : NX} {ρ ρ' : List Addr} {H H' : Hp} (h : ItOk T J nx ρ H) (e : Ext T ρ H ρ' H') : ItOk T J nx ρ' H' := fun ρ1 H1 s i e1 r => h ρ1 H1 s i (e.trans e1) r
abbrev IM := Lo → M NX
abbrev tI (T : Tb) (W : WX) (m : IM) : TI := fun σ H R => tG (fun ρ H nx J => ItOk T J nx ρ H) T W m σ H R
/-- the loop, by fuel -/
def loopN (nx : NX) (g : GM) (b : SM) : Nat → Nat → SM
  | 0, _, _, _ => .fail
  | n + 1, i, lo, s => match nx i s with
    | none => .fail
    | some none => .nx lo s
    | some (some v) => match g v lo s with
      | .fail => .fail
      | .exc e s' => .exc e lo s'
      | .ok lo' s' => match b lo' s' with
        | .nx lo2 s2 => loopN nx g b n (i + 1) lo2 s2
        | .ct lo2 s2 => loopN nx g b n (i + 1) lo2 s2
        | .bk lo2 s2 => .nx lo2 s2
        | .rt v2 s2 => .rt v2 s2
        | .exc e lo2 s2 => .exc e lo2 s2
        | .fail => .fail
def sFor (n : Nat) (m : IM) (g : GM) (b : SM) : SM := bndS m fun lo nx s => loopN nx g b n 0 lo s
/-- the same over items that are known -/
def loopX (g : GM) (b : SM) : List Vl → SM
  | [], lo, s => .nx lo s
  | v :: vs, lo, s => match g v lo s with
    | .fail => .fail
    | .exc e s' => .exc e lo s'
    | .ok lo' s' => match b lo' s' with
      | .nx lo2 s2 => loopX g b vs lo2 s2
      | .ct lo2 s2 => loopX g b vs lo2 s2
      | .bk lo2 s2 => .nx lo2 s2
      | .rt v2 s2 => .rt v2 s2
      | .exc e lo2 s2 => .exc e lo2 s2
      | .fail => .fail
def sForX (m : AM) (g : GM) (b : SM) : SM := bndS m fun lo xs s => loopX g b xs lo s
theorem loopX_eq (g : GM) (b : SM) (all : List Vl) : ∀ (n i : Nat) (lo : Lo) (s : Sto), all.length - i < n → loopN (nxFix all) g b n i lo s = loopX g b (all.drop i) lo s := by
  intro n
  induction n with
  | zero => intro i lo s h; omega
  | succ n ih =>
    intro i lo s h
    unfold loopN
    simp only [nxFix]
    cases e : all[i]? with
    | none =>
      have : all.length ≤ i := List.getElem?_eq_none_iff.mp e
      rw [List.drop_eq_nil_of_le this]
      rfl
    | some v =>
      obtain ⟨hi, hv⟩ := List.getElem?_eq_some_iff.mp e
      rw [List.drop_eq_getElem_cons hi, hv]
      simp only [loopX]
      cases g v lo s with
      | fail => rfl
      | exc e s' => rfl
      | ok lo' s' =>
        simp only
        cases b lo' s' with
        | nx lo2 s2 => exact ih (i + 1) lo2 s2 (by omega)
        | ct lo2 s2 => exact ih (i + 1) lo2 s2 (by omega)
        | bk lo2 s2 => rfl
        | rt v2 s2 => rfl
        | exc e lo2 s2 => rfl
        | fail => rfl
section
variable {X : Cx} {T : Tb} {W : WX} {tg iter : Expr} {body : List Stmt} {m : IM} {ma : AM} {g : GM} {b : SM} {pos : Pos}
theorem loop_le {n : Nat} {D : Ends} {σ : St} {H : Hp} (h : tS T W (sFor n m g b) D σ H) : tFor (tI T W m) (tGt T W g) (tS T W b) D σ H :=
  tS_bnd (R := fun ρ H nx J => ItOk T J nx ρ H) h fun ρ0 s0 lo0 nx J H0 r0 rl0 ok p0 => by
    refine ⟨fun i k σ H => ∃ ρ s lo, Rel T ρ H s ∧ RL T ρ H lo σ ∧ ItOk T J nx ρ H ∧ PoS T W ρ H (loopN nx g b k i lo s) D, ⟨n, ρ0, s0, lo0, r0, rl0, ok, p0⟩, ?_⟩
    rintro i k σ1 H1 ⟨ρ, s, lo, r, rl, ok, p⟩
    cases k with
    | zero => exact p.elim
    | succ k =>
      unfold loopN at p
      have q := ok ρ H1 s i .refl r
      cases e : nx i s with
      | none => simp only [e] at p; exact p.elim
      | some o =>
        simp only [e] at p q
        cases o with
        | none => exact .inl ⟨q, p ρ H1 σ1 .refl r rl⟩
        | some v =>
          obtain ⟨go, yl⟩ := q
          refine .inr ⟨go, fun σ' H' => ∃ ρ s lo, Rel T ρ H' s ∧ RL T ρ H' lo σ' ∧ ItOk T J nx ρ H' ∧ PoS T W ρ H' (loopN nx g b k (i + 1) lo s) D, fun σ' H' h => ⟨k, Nat.lt_succ_self k, h⟩, fun x H2 y => ?_⟩
          obtain ⟨x1, r2, hv⟩ := yl x H2 y
          refine ⟨ρ, s, lo, v, r2, rl.mono x1, hv, ?_⟩
          have p := p.mono x1
          cases e2 : g v lo s with
          | fail => simp only [e2] at p; exact p
          | exc z s' => simp only [e2] at p; exact fun ρ' H' C x r' hC => p ρ' H' σ1 C x r' (rl.mono (x1.trans x)) hC
          | ok lo' s' =>
            simp only [e2] at p
            intro ρ3 H3 σ3 x3 r3 rl3
            refine ⟨ρ3, s', lo', r3, rl3, ?_⟩
            have p := p.mono x3
            have ok3 := ok.mono (x1.trans x3)
            cases e3 : b lo' s' with
            | nx lo2 s2 => simp only [e3] at p; exact fun ρ4 H4 σ4 x4 r4 rl4 => ⟨ρ4, s2, lo2, r4, rl4, ok3.mono x4, p.mono x4⟩
            | ct lo2 s2 => simp only [e3] at p; exact fun ρ4 H4 σ4 x4 r4 rl4 => ⟨ρ4, s2, lo2, r4, rl4, ok3.mono x4, p.mono x4⟩
            | bk lo2 s2 => simp only [e3] at p; exact p
            | rt v2 s2 => simp only [e3] at p; exact p
            | exc z lo2 s2 => simp only [e3] at p; exact p
            | fail => simp only [e3] at p; exact p
/-- what is walked as a list that is known -/
def iFix (ma : AM) : IM := fun lo => bnd (ma lo) fun xs => ret (nxFix xs)
theorem cs_forX (hp : PassesOwn (model X.prog X.w) X.A X.env X.xe) (hc : X.calm = true) (hi : PI X tg iter (tI T W (iFix ma))) (hg : PG X tg (tGt T W g)) (hb : PSs X body (tS T W b))
    (hs : ∀ x, foldedSetIterable iter X.env x = pure x := by intro _; rfl) : PS X (.For tg iter body [] pos) (tS T W (sForX ma g b)) := ps_mono (ps_for hp hc hi hg hb hs) fun D σ H h => by
  obtain ⟨ρ, s, lo, r, rl, p⟩ := h
  unfold sForX bndS at p
  cases e : ma lo s with
  | ok xs s' =>
    refine loop_le (n := xs.length + 1) ⟨ρ, s, lo, r, rl, ?_⟩
    have : sFor (xs.length + 1) (iFix ma) g b lo s = loopX g b xs lo s' := by
      unfold sFor bndS iFix bnd
      rw [e]
      simp only [ret]
      rw [loopX_eq g b xs (xs.length + 1) 0 lo s' (by omega), List.drop_zero]
    rw [this]
    rw [e] at p
    exact p
  | exc z s' =>
    refine loop_le (n := 1) ⟨ρ, s, lo, r, rl, ?_⟩
    have : sFor 1 (iFix ma) g b lo s = .exc z lo s' := by
      unfold sFor bndS iFix bnd
      rw [e]
    rw [this]
    rw [e] at p
    exact p
  | fail =>
    rw [e] at p
    exact p.elim
theorem pi_mono {tg iter : Expr} {t t' : TI} (h : PI X tg iter t) (k : ∀ σ H R, t' σ H R → t σ H R) : PI X tg iter t' := ⟨fun pins s σ H R I q => h.run pins s σ H R I (k σ H R q)⟩
/-- over a tuple -/
def aTup (e : EM) : AM := fun lo => bnd (e lo) fun x => match x with
  | .tup xs => ret xs
  | _ => failM
/-- over range(n), range(a, b) -/
def rng (lo : Int) (n : Nat) : List Vl := (List.range n).map fun i => Vl.int (lo + (i : Nat))
def aRng (a : AM) : AM := fun lo => bnd (a lo) fun xs => match xs with
  | [.int n] => if -(2 ^ 62) ≤ n ∧ n < 2 ^ 62 then ret (rng 0 n.toNat) else failM
  | _ => failM
def aRng2 (a : AM) : AM := fun lo => bnd (a lo) fun xs => match xs with
  | [.int i, .int j] => if -(2 ^ 62) ≤ i ∧ i < 2 ^ 62 ∧ -(2 ^ 62) ≤ j ∧ j < 2 ^ 62 then ret (rng i (j - i).toNat) else failM
  | _ => failM
/-- over a list, enumerate(list): the list's number -/
def iLst (e : EM) : IM := fun lo => bnd (e lo) fun x => match x with
  | .ref j => fun s => match s[j]? with
    | some (.lst _) => .ok (nxLst j) s
    | _ => .fail
  | _ => failM
def iEnm (a : AM) : IM := fun lo => bnd (a lo) fun xs => match xs with
  | [.ref j] => fun s => match s[j]? with
    | some (.lst _) => .ok (nxEnum j) s
    | _ => .fail
  | _ => failM
theorem bnd_bnd {α β γ : Type} (m : M α) (f : α → M β) (g : β → M γ) : bnd (bnd m f) g = bnd m fun x => bnd (f x) g := by
  funext s
  unfold bnd
  cases m s <;> rfl
theorem ci_tup {e : Expr} {me : EM} (he : PE X e (tE T W me)) (hK : X.K = T.K := by rfl) : PI X tg e (tI T W (iFix (aTup me))) := pi_mono (pi_tup he) fun σ H R h => by
  obtain ⟨ρ, s, lo, r, rl, p⟩ := h
  refine po_bnd (R := RV T) (m := me) (f := fun x => bnd (match x with | .tup xs => ret xs | _ => failM) fun xs => ret (nxFix xs)) (R' := fun ρ H nx J => ItOk T J nx ρ H) (Q := R) r rl ?_ fun ρ1 s1 x z H1 ext1 r1 rl1 hx p1 => ?_
  · unfold iFix aTup at p
    unfold bnd at p ⊢
    cases e : me lo s <;> rw [e] at p <;> exact p
  · cases hx with
    | tup h1 h2 =>
      rename_i a vs xs
      refine ⟨a, rfl, ⟨vs, by rw [hK]; exact h1⟩, p1 ρ1 H1 _ .refl r1 ?_⟩
      intro ρ2 H2 s2 i e2 r2
      have h1' := e2.tup _ _ h1
      have h2' := h2.mono e2
      rw [← hK] at h1'
      simp only [nxFix]
      cases e : xs[i]? with
      | none =>
        have : xs.length ≤ i := List.getElem?_eq_none_iff.mp e
        exact ⟨vs, h1', by rw [← h2'.length]; exact this⟩
      | some v =>
        obtain ⟨z, hz, rz⟩ := h2'.get e
        refine ⟨⟨vs, z, h1', hz⟩, fun x H3 y => ?_⟩
        obtain ⟨rfl, y⟩ := y
        have := y vs h1'
        rw [hz] at this
        cases this
        exact ⟨.refl, r2, rz⟩
    | _ => exact p1.elim
end
end Sm

/-! S7: what is walked; while; comprehensions -/
namespace Sm
open PySem L2
section
variable {X : Cx} {T : Tb} {W : WX} {tg : Expr} {pos p : Pos}
theorem ok_rng {lo : Int} {n : Nat} {ρ : List Addr} {H : Hp} : ItOk T (Itr lo n) (nxFix (rng lo n)) ρ H := by
  intro ρ1 H1 s i e r
  simp only [nxFix, rng]
  by_cases h : i < n
  · rw [List.getElem?_map, List.getElem?_range h]
    refine ⟨h, fun x H2 y => ?_⟩
    obtain ⟨rfl, rfl⟩ := y
    exact ⟨.refl, r, .int _⟩
  · rw [List.getElem?_eq_none (by simp; omega)]
    exact Nat.le_of_not_lt h
theorem ci_rng1 {a : Expr} {ma : AM} (hg : Gl X "range") (hm : X.mg "range" = none) (ha : PA X [a] (tA T W ma)) (hs : starEach [a] X.env = [(false, eval a X.env)] := by rfl) : PI X tg (.Call (.Name "range" p) [a] [] pos) (tI T W (iFix (aRng ma))) :=
  pi_mono (pi_range1 hg hm ha hs) fun σ H R h => by
    obtain ⟨ρ, s, lo, r, rl, q⟩ := h
    unfold iFix aRng at q
    rw [bnd_bnd] at q
    refine po_bnd (R := RVs T) (m := ma) r rl q fun ρ1 s1 xs zs H1 ext1 r1 rl1 hx p1 => ?_
    split at p1
    · rename_i n
      split at p1
      · rename_i hn
        obtain ⟨z, rfl, hz⟩ := hx.one
        exact ⟨n, by rw [hz.intE], hn.1, hn.2, p1 ρ1 H1 _ .refl r1 ok_rng⟩
      · exact p1.elim
    · exact p1.elim
theorem ci_lst {e : Expr} {me : EM} (he : PE X e (tE T W me)) (hK : X.K = T.K := by rfl) : PI X tg e (tI T W (iLst me)) := pi_mono (pi_list he) fun σ H R h => by
  obtain ⟨ρ, s, lo, r, rl, q⟩ := h
  refine po_bnd (R := RV T) (m := me) r rl q fun ρ1 s1 x z H1 ext1 r1 rl1 hx p1 => ?_
  cases hx with
  | ref ha =>
    rename_i j a
    simp only at p1
    split at p1
    · rename_i xs hj
      obtain ⟨vs, h1, h2⟩ := r1.lst hj ha
      refine ⟨a, rfl, ⟨vs, SqL.of h1⟩, p1 ρ1 H1 _ .refl r1 ?_⟩
      intro ρ2 H2 s2 i e2 r2
      have ha2 := e2.pre _ _ ha
      unfold nxLst
      cases e : s2[j]? with
      | none => trivial
      | some o =>
        cases o with
        | lst ys =>
          obtain ⟨us, g1, g2⟩ := r2.lst e ha2
          simp only
          cases e3 : ys[i]? with
          | none => exact ⟨us, SqL.of g1, by rw [← g2.length]; exact List.getElem?_eq_none_iff.mp e3⟩
          | some v =>
            obtain ⟨w, hw, rw'⟩ := g2.get e3
            refine ⟨⟨us, w, SqL.of g1, hw⟩, fun x H3 y => ?_⟩
            obtain ⟨rfl, y⟩ := y
            have := y us (SqL.of g1)
            rw [hw] at this
            cases this
            exact ⟨.refl, r2, rw'⟩
        | _ => trivial
    · exact p1.elim
  | _ => exact p1.elim
end
/-! ### while -/
def loopW (t : TM) (b : SM) : Nat → SM
  | 0, _, _ => .fail
  | n + 1, lo, s => match t lo s with
    | .fail => .fail
    | .exc e s' => .exc e lo s'
    | .ok false s' => .nx lo s'
    | .ok true s' => match b lo s' with
      | .nx lo2 s2 => loopW t b n lo2 s2
      | .ct lo2 s2 => loopW t b n lo2 s2
      | .bk lo2 s2 => .nx lo2 s2
      | .rt v2 s2 => .rt v2 s2
      | .exc e lo2 s2 => .exc e lo2 s2
      | .fail => .fail
section
variable {X : Cx} {T : Tb} {W : WX} {c : Expr} {body : List Stmt} {mt : TM} {b : SM} {pos : Pos}
theorem cs_while (n : Nat) (hp : PassesOwn (model X.prog X.w) X.A X.env X.xe) (hc : PT X c (tT T W mt)) (hb : PSs X body (tS T W b)) : PS X (.While c body [] pos) (tS T W (loopW mt b n)) :=
  ps_mono (ps_while hp hc hb) fun D σ H h => by
    obtain ⟨ρ, s, lo, r, rl, p⟩ := h
    refine ⟨fun k σ H => ∃ ρ s lo, Rel T ρ H s ∧ RL T ρ H lo σ ∧ PoS T W ρ H (loopW mt b k lo s) D, ⟨n, ρ, s, lo, r, rl, p⟩, ?_⟩
    rintro k σ1 H1 ⟨ρ, s, lo, r, rl, p⟩
    cases k with
    | zero => exact p.elim
    | succ k =>
      unfold loopW at p
      refine ⟨ρ, s, lo, r, rl, ?_⟩
      cases e : mt lo s with
      | fail => simp only [e] at p; exact p
      | exc z s' => simp only [e] at p; exact fun ρ' H' C x r' hC => p ρ' H' σ1 C x r' (rl.mono x) hC
      | ok c s' =>
        intro ρ2 H2 c' x2 r2 ec
        cases ec
        cases c with
        | false =>
          simp only [e] at p
          exact p ρ2 H2 σ1 x2 r2 (rl.mono x2)
        | true =>
          simp only [e] at p
          refine ⟨fun σ' H' => ∃ ρ s lo, Rel T ρ H' s ∧ RL T ρ H' lo σ' ∧ PoS T W ρ H' (loopW mt b k lo s) D, fun σ' H' h => ⟨k, Nat.lt_succ_self k, h⟩, ρ2, s', lo, r2, rl.mono x2, ?_⟩
          have p := p.mono x2
          cases e3 : b lo s' with
          | nx lo2 s2 => simp only [e3] at p; exact fun ρ4 H4 σ4 x4 r4 rl4 => ⟨ρ4, s2, lo2, r4, rl4, p.mono x4⟩
          | ct lo2 s2 => simp only [e3] at p; exact fun ρ4 H4 σ4 x4 r4 rl4 => ⟨ρ4, s2, lo2, r4, rl4, p.mono x4⟩
          | bk lo2 s2 => simp only [e3] at p; exact p
          | rt v2 s2 => simp only [e3] at p; exact p
          | exc z lo2 s2 => simp only [e3] at p; exact p
          | fail => simp only [e3] at p; exact p
end
/-! ### targets of several names -/
def gNs : List Nat → TGs
  | [] => gNil
  | j :: js => gCons (gName j) (gNs js)
section
variable {X : Cx} {T : Tb} {W : WX} {pos : Pos}
theorem gNs_ok {ρ : List Addr} {H : Hp} {Q : St → Hp → Prop} : ∀ {js : List Nat} {xs : List Vl} {vs : List V} {lo lo' : Lo} {σ : St}, RVs T ρ H xs vs → RL T ρ H lo σ → gNms js xs lo = some lo' → (∀ σ', RL T ρ H lo' σ' → Q σ' H) → gNs js vs σ H Q
  | [], [], _, _, _, _, .nil, rl, e, k => by
    cases e
    exact ⟨rfl, k _ rl⟩
  | [], _ :: _, _, _, _, _, _, _, e, _ => by cases e
  | _ :: _, [], _, _, _, _, _, _, e, _ => by cases e
  | j :: js, x :: xs, _, lo, lo', σ, .cons h hs, rl, e, k => ⟨_, _, rfl, gNs_ok hs (rl.set j h) (show gNms js xs (lo.set j (some x)) = some lo' from e) k⟩
theorem gNms_len : ∀ {js : List Nat} {xs : List Vl} {lo lo' : Lo}, gNms js xs lo = some lo' → xs.length = js.length
  | [], [], _, _, _ => rfl
  | [], _ :: _, _, _, e => by cases e
  | _ :: _, [], _, _, e => by cases e
  | j :: js, x :: xs, lo, lo', e => by
    rw [List.length_cons, List.length_cons, gNms_len (show gNms js xs (lo.set j (some x)) = some lo' from e)]
theorem cg_tup {es : List Expr} {k : Nat} {js : List Nat} (h : PG X (.Tuple es k pos) (gTup X.K js.length (gNs js))) (hK : X.K = T.K := by rfl) : PG X (.Tuple es k pos) (tGt T W (gTp js)) := pg_mono h fun z σ H Q h => by
  obtain ⟨ρ, s, lo, v, r, rl, hv, p⟩ := h
  unfold gTp at p
  split at p
  · rename_i xs
    split at p
    · rename_i lo' e
      obtain ⟨a, vs, rfl, h1, h2⟩ := hv.tupE
      exact ⟨a, vs, rfl, by rw [hK]; exact h1, by rw [← h2.length]; exact gNms_len e, gNs_ok h2 rl e fun σ' rl' => p ρ H σ' .refl r rl'⟩
    · exact p.elim
  · exact p.elim
end
/-! ### comprehensions -/
def wipeL (lo : Lo) : List Nat → Lo
  | [] => lo
  | v :: vs => (wipeL lo vs).set v none
abbrev GL := Vl → Lo → Option Lo
def glN (j : Nat) : GL := fun v lo => some (lo.set j (some v))
def glT (js : List Nat) : GL := fun v lo => match v with
  | .tup xs => gNms js xs lo
  | _ => none
def tTrue : TM := fun _ => ret true
/-- one turn: kept or not -/
def lcStep (t : TM) (e : EM) (d : Nat) (lo : Lo) (s : Sto) : Option Sto := match t lo s with
  | .ok false s1 => some s1
  | .ok true s1 => match e lo s1 with
    | .ok y s2 => match s2[d]? with
      | some (.lst acc) => if acc.length < LIM then some (s2.set d (.lst (acc ++ [y]))) else none
      | _ => none
    | _ => none
  | _ => none
def lcN (nx : NX) (g : GL) (t : TM) (e : EM) (d : Nat) (lo : Lo) : Nat → Nat → Sto → Option Sto
  | 0, _, _ => none
  | n + 1, i, s => match nx i s with
    | none => none
    | some none => some s
    | some (some v) => match g v lo with
      | none => none
      | some lo' => match lcStep t e d lo' s with
        | none => none
        | some s' => lcN nx g t e d lo n (i + 1) s'
def lcX (g : GL) (t : TM) (e : EM) (d : Nat) (lo : Lo) : List Vl → Sto → Option Sto
  | [], s => some s
  | v :: vs, s => match g v lo with
    | none => none
    | some lo' => match lcStep t e d lo' s with
      | none => none
      | some s' => lcX g t e d lo vs s'
def eLc (n : Nat) (m : IM) (g : GL) (t : TM) (e : EM) (vs : List Nat) : EM := fun lo => bnd (m lo) fun nx s => match lcN nx g t e s.length (wipeL lo vs) n 0 (s ++ [.lst []]) with
  | some s' => .ok (.ref s.length) s'
  | none => .fail
def eLcX (m : AM) (g : GL) (t : TM) (e : EM) (vs : List Nat) : EM := fun lo => bnd (m lo) fun xs s => match lcX g t e s.length (wipeL lo vs) xs (s ++ [.lst []]) with
  | some s' => .ok (.ref s.length) s'
  | none => .fail
theorem lcX_eq (g : GL) (t : TM) (e : EM) (d : Nat) (lo : Lo) (all : List Vl) : ∀ (n i : Nat) (s : Sto), all.length - i < n → lcN (nxFix all) g t e d lo n i s = lcX g t e d lo (all.drop i) s := by
  intro n
  induction n with
  | zero => intro i s h; omega
  | succ n ih =>
    intro i s h
    unfold lcN
    simp only [nxFix]
    cases h1 : all[i]? with
    | none =>
      have : all.length ≤ i := List.getElem?_eq_none_iff.mp h1
      rw [List.drop_eq_nil_of_le this]
      rfl
    | some v =>
      obtain ⟨hi, hv⟩ := List.getElem?_eq_some_iff.mp h1
      rw [List.drop_eq_getElem_cons hi, hv]
      simp only [lcX]
      cases g v lo with
      | none => rfl
      | some lo' =>
        simp only
        cases lcStep t e d lo' s with
        | none => rfl
        | some s' => exact ih (i + 1) s' (by omega)
theorem wipe_get (σ : St) (i : Nat) : ∀ vs : List Nat, (wipe σ vs)[i]? = if i ∈ vs ∧ i < σ.length then some none else σ[i]?
  | [] => by simp [wipe]
  | v :: vs => by
    unfold wipe
    rw [List.getElem?_set, wipe_get σ i vs, wipe_length]
    by_cases h : v = i
    · subst h
      by_cases h2 : v < σ.length
      · rw [if_pos rfl, if_pos h2, if_pos ⟨List.mem_cons_self .., h2⟩]
      · rw [if_pos rfl, if_neg h2, if_neg (fun z => h2 z.2)]
        rw [List.getElem?_eq_none (by omega)]
    · rw [if_neg h]
      by_cases h3 : i ∈ vs ∧ i < σ.length
      · rw [if_pos h3, if_pos ⟨List.mem_cons_of_mem _ h3.1, h3.2⟩]
      · rw [if_neg h3, if_neg]
        rintro ⟨a, b⟩
        rcases List.mem_cons.mp a with q | q
        · exact h q.symm
        · exact h3 ⟨q, b⟩
theorem wipe_set {σ : St} {vs : List Nat} {j : Nat} {x : Option V} (hj : j ∈ vs) : wipe (σ.set j x) vs = wipe σ vs := by
  apply List.ext_getElem?
  intro i
  rw [wipe_get, wipe_get, List.length_set]
  by_cases h : i ∈ vs ∧ i < σ.length
  · rw [if_pos h, if_pos h]
  · rw [if_neg h, if_neg h]
    by_cases e : j = i
    · subst e
      have : ¬ j < σ.length := fun z => h ⟨hj, z⟩
      rw [List.getElem?_eq_none (by rw [List.length_set]; omega), List.getElem?_eq_none (by omega)]
    · rw [List.getElem?_set_ne e]
theorem wipe_wipe (σ : St) (vs : List Nat) : wipe (wipe σ vs) vs = wipe σ vs := by
  apply List.ext_getElem?
  intro i
  rw [wipe_get, wipe_get, wipe_length]
  split <;> rfl
section
variable {X : Cx} {T : Tb} {W : WX} {pos : Pos}
abbrev WF : WX := fun _ _ _ _ => False
theorem RL.wipe {ρ : List Addr} {H : Hp} {lo : Lo} {σ : St} (hx : T.xs = []) (rl : RL T ρ H lo σ) : ∀ vs : List Nat, RL T ρ H (wipeL lo vs) (wipe σ vs)
  | [] => rl
  | v :: vs => by
    have ih := RL.wipe hx rl vs
    unfold wipeL L2.wipe
    refine ⟨by rw [List.length_set, List.length_set]; exact ih.len, fun i x h => ?_, fun p hp => by rw [hx] at hp; simp at hp⟩
    by_cases e : v = i
    · subst e
      by_cases hv : v < (wipeL lo vs).length
      · rw [List.getElem?_set_self hv] at h; cases h
      · rw [List.getElem?_eq_none (by rw [List.length_set]; omega)] at h; cases h
    · rw [List.getElem?_set_ne e] at h ⊢
      exact ih.at_ i x h
/-- how a comprehension's target stores: the reading gt and the pure gl agree, and stay within the own slots -/
def TgOk (T : Tb) (gt : TG) (gl : GL) (vs : List Nat) : Prop := ∀ (ρ : List Addr) (H : Hp) (lo lo' : Lo) (σ : St) (v : Vl) (z : V) (Q : St → Hp → Prop), RL T ρ H lo (wipe σ vs) → RV T ρ H v z → gl v lo = some lo' →
  (∀ σ', RL T ρ H lo' σ' → L2.wipe σ' vs = L2.wipe σ vs → Q σ' H) → gt z (L2.wipe σ vs) H Q
theorem tg_name {j : Nat} {vs : List Nat} (hj : j ∈ vs) : TgOk T (gName j) (glN j) vs := fun ρ H lo lo' σ v z Q rl hv e k => by
  cases e
  exact k _ (rl.set j hv) (by rw [wipe_set hj, wipe_wipe])
theorem gNs_w {ρ : List Addr} {H : Hp} {Q : St → Hp → Prop} {ws : List Nat} {σ0 : St} : ∀ {js : List Nat} {xs : List Vl} {vs : List V} {lo lo' : Lo} {σ : St}, (∀ j ∈ js, j ∈ ws) → RVs T ρ H xs vs → RL T ρ H lo σ → L2.wipe σ ws = σ0 → gNms js xs lo = some lo' → (∀ σ', RL T ρ H lo' σ' → L2.wipe σ' ws = σ0 → Q σ' H) → gNs js vs σ H Q
  | [], [], _, _, _, _, _, .nil, rl, hw, e, k => by
    cases e
    exact ⟨rfl, k _ rl hw⟩
  | [], _ :: _, _, _, _, _, _, _, _, _, e, _ => by cases e
  | _ :: _, [], _, _, _, _, _, _, _, _, e, _ => by cases e
  | j :: js, x :: xs, _, lo, lo', σ, hj, .cons h hs, rl, hw, e, k => ⟨_, _, rfl, gNs_w (fun i hi => hj i (List.mem_cons_of_mem _ hi)) hs (rl.set j h) (by rw [wipe_set (hj j (List.mem_cons_self ..))]; exact hw) (show gNms js xs (lo.set j (some x)) = some lo' from e) k⟩
theorem tg_tup {js vs : List Nat} {K : PySem.W.Frag} (hj : ∀ j ∈ js, j ∈ vs) (hK : K = T.K) : TgOk T (gTup K js.length (gNs js)) (glT js) vs := fun ρ H lo lo' σ v z Q rl hv e k => by
  unfold glT at e
  split at e
  · rename_i xs
    obtain ⟨a, us, rfl, h1, h2⟩ := hv.tupE
    exact ⟨a, us, rfl, by rw [hK]; exact h1, by rw [← h2.length]; exact gNms_len e, gNs_w hj h2 rl (wipe_wipe σ vs) e k⟩
  · cases e
theorem lc_le {n : Nat} {m : IM} {gl : GL} {gt : TG} {mt : TM} {me : EM} {vs : List Nat} {σ : St} {H : Hp} {Q : VK} (hx : T.xs = []) (hg : TgOk T gt gl vs) (h : tE T W (eLc n m gl mt me vs) σ H Q) : tLc (tI T W m) gt (tT T WF mt) (tE T WF me) vs σ H Q :=
  tG_bnd (R := fun ρ H nx J => ItOk T J nx ρ H) h fun ρ0 s0 lo0 nx J H0 r0 rl0 ok0 p0 => by
    intro D hD
    have xD : Ext T ρ0 H0 (ρ0 ++ [D]) (upd H0 D (.lst [])) := r0.newExt hD
    have rD : Rel T (ρ0 ++ [D]) (upd H0 D (.lst [])) (s0 ++ [.lst []]) := r0.new hD ⟨[], upd_same, .nil⟩
    have aD : (ρ0 ++ [D])[s0.length]? = some D := by rw [← r0.len, List.getElem?_append_right (Nat.le_refl _)]; simp
    cases e0 : lcN nx gl mt me s0.length (wipeL lo0 vs) n 0 (s0 ++ [.lst []]) with
    | none => rw [e0] at p0; exact p0.elim
    | some s9 =>
      rw [e0] at p0
      refine ⟨fun i k H => ∃ ρ s, Ext T (ρ0 ++ [D]) (upd H0 D (.lst [])) ρ H ∧ Rel T ρ H s ∧ lcN nx gl mt me s0.length (wipeL lo0 vs) k i s = some s9, ⟨n, _, _, .refl, rD, e0⟩, ?_⟩
      rintro i k H1 ⟨ρ, s, x, r, e⟩
      have hd := x.pre _ _ aD
      cases k with
      | zero => cases e
      | succ k =>
        unfold lcN at e
        have q := ok0 ρ H1 s i (xD.trans x) r
        cases e1 : nx i s with
        | none => simp only [e1] at e; cases e
        | some o =>
          simp only [e1] at e q
          cases o with
          | none =>
            cases e
            exact .inl ⟨q, p0 ρ H1 (.ref D) (xD.trans x) r (.ref hd)⟩
          | some v =>
            obtain ⟨go, yl⟩ := q
            cases e2 : gl v (wipeL lo0 vs) with
            | none => simp only [e2] at e; cases e
            | some lo' =>
              simp only [e2] at e
              cases e3 : lcStep mt me s0.length lo' s with
              | none => simp only [e3] at e; cases e
              | some s' =>
                simp only [e3] at e
                refine .inr ⟨go, fun H => ∃ ρ, Ext T (ρ0 ++ [D]) (upd H0 D (.lst [])) ρ H ∧ Rel T ρ H s', fun H' ⟨ρ', x', r'⟩ => ⟨k, Nat.lt_succ_self k, ρ', s', x', r', e⟩, fun z H2 y => ?_⟩
                obtain ⟨x1, r2, hv⟩ := yl z H2 y
                have x2 := x.trans x1
                refine hg ρ H2 (wipeL lo0 vs) lo' σ v z _ (RL.wipe hx (rl0.mono (xD.trans x2)) vs) hv e2 fun σ' rl' hw => ⟨hw, ?_⟩
                unfold lcStep at e3
                refine ⟨ρ, s, lo', r2, rl', ?_⟩
                cases e4 : mt lo' s with
                | fail => simp only [e4] at e3; cases e3
                | exc z s1 => simp only [e4] at e3; cases e3
                | ok c s1 =>
                  intro ρ3 H3 c' x3 r3 ec
                  cases ec
                  cases c with
                  | false =>
                    simp only [e4] at e3
                    cases e3
                    exact ⟨ρ3, x2.trans x3, r3⟩
                  | true =>
                    simp only [e4] at e3
                    refine ⟨ρ3, s1, lo', r3, rl'.mono x3, ?_⟩
                    cases e5 : me lo' s1 with
                    | fail => simp only [e5] at e3; cases e3
                    | exc z s2 => simp only [e5] at e3; cases e3
                    | ok w s2 =>
                      simp only [e5] at e3
                      intro ρ4 H4 zw x4 r4 hw4
                      split at e3
                      · rename_i acc hacc
                        split at e3
                        · rename_i hl
                          cases e3
                          have hd4 := (x1.trans (x3.trans x4)).pre _ _ hd
                          obtain ⟨us, g1, g2⟩ := r4.lst hacc hd4
                          refine ⟨us, g1, by rw [← g2.length, lim_eq]; exact hl, ρ4, (x2.trans (x3.trans x4)).trans (r4.setExt hd4 g1), r4.set hd4 ⟨_, upd_same, (g2.append (.cons hw4 .nil)).mono (r4.setExt hd4 g1)⟩⟩
                        · cases e3
                      · cases e3
/-- the tests of a comprehension -/
theorem cts_nil : PTs X [] (tT T WF tTrue) := ⟨fun pins s σ H Q I h => pts_nil.run pins s σ H Q I (by
  obtain ⟨ρ, st, lo, r, rl, p⟩ := h
  exact p ρ H true .refl r rfl)⟩
theorem cts_one {c : Expr} {mt : TM} (h : PT X c (tT T WF mt)) : PTs X [c] (tT T WF mt) := pts_one h
theorem lcx_le {ma : AM} {gl : GL} {gt : TG} {mt : TM} {me : EM} {vs : List Nat} {σ : St} {H : Hp} {Q : VK} (hx : T.xs = []) (hg : TgOk T gt gl vs) (h : tE T W (eLcX ma gl mt me vs) σ H Q) : tLc (tI T W (iFix ma)) gt (tT T WF mt) (tE T WF me) vs σ H Q := by
  obtain ⟨ρ, s, lo, r, rl, p⟩ := h
  unfold eLcX bnd at p
  cases e : ma lo s with
  | ok xs s' =>
    refine lc_le (n := xs.length + 1) hx hg ⟨ρ, s, lo, r, rl, ?_⟩
    have : eLc (xs.length + 1) (iFix ma) gl mt me vs lo s = (match lcX gl mt me s'.length (wipeL lo vs) xs (s' ++ [.lst []]) with | some s2 => .ok (.ref s'.length) s2 | none => .fail) := by
      unfold eLc iFix bnd
      simp only [e, ret]
      rw [lcX_eq gl mt me s'.length (wipeL lo vs) xs (xs.length + 1) 0 _ (by omega), List.drop_zero]
    rw [this]
    simp only [e] at p
    exact p
  | exc z s' =>
    refine lc_le (n := 1) hx hg ⟨ρ, s, lo, r, rl, ?_⟩
    have : eLc 1 (iFix ma) gl mt me vs lo s = .exc z s' := by
      unfold eLc iFix bnd
      simp only [e]
    rw [this]
    simp only [e] at p
    exact p
  | fail => simp only [e] at p; exact p.elim
end
end Sm

/-! S8: comprehensions as expressions; defs and their calls; attributes -/
namespace Sm
open PySem PySem.Spec PyProof.Rows L2
section
variable {X : Cx} {T : Tb} {W : WX} {elt tg iter : Expr} {ifs : List Expr} {scope : Scope} {own : List (Str × Nat)} {pos spos py : Pos} {m : IM} {ma : AM} {gt : TG} {gl : GL} {mt : TM} {me : EM}
theorem ce_lc (n : Nat) (hc : X.calm = true) (hN : X.N.Nodup) (hi : PI X tg iter (tI T W m)) (ok : BlkOk X.N X.env.scope scope own) (ho : TgOk T gt gl (own.map (·.2)))
    (hg : ∀ s H C cl fp, PG (X.blk s H scope (compEnvC scope cl C X.env) fp) tg gt) (ht : ∀ s H C cl fp, PTs (X.blk s H scope (compEnvC scope cl C X.env) fp) ifs (tT T WF mt))
    (he : ∀ s H C cl fp, PE (X.blk s H scope (compEnvC scope cl C X.env) fp) elt (tE T WF me)) (hs : ∀ x, foldedSetIterable iter X.env x = pure x := by intro _; rfl) (hx : T.xs = [] := by rfl) :
    PE X (.ListComp elt [⟨tg, iter, ifs, 0⟩] scope pos) (tE T W (eLc n m gl mt me (own.map (·.2)))) := pe_mono (pe_lc hc hN hi ok hg ht he hs) fun _ _ _ h => lc_le hx ho h
theorem ce_lcX (hc : X.calm = true) (hN : X.N.Nodup) (hi : PI X tg iter (tI T W (iFix ma))) (ok : BlkOk X.N X.env.scope scope own) (ho : TgOk T gt gl (own.map (·.2)))
    (hg : ∀ s H C cl fp, PG (X.blk s H scope (compEnvC scope cl C X.env) fp) tg gt) (ht : ∀ s H C cl fp, PTs (X.blk s H scope (compEnvC scope cl C X.env) fp) ifs (tT T WF mt))
    (he : ∀ s H C cl fp, PE (X.blk s H scope (compEnvC scope cl C X.env) fp) elt (tE T WF me)) (hs : ∀ x, foldedSetIterable iter X.env x = pure x := by intro _; rfl) (hx : T.xs = [] := by rfl) :
    PE X (.ListComp elt [⟨tg, iter, ifs, 0⟩] scope pos) (tE T W (eLcX ma gl mt me (own.map (·.2)))) := pe_mono (pe_lc hc hN hi ok hg ht he hs) fun _ _ _ h => lcx_le hx ho h
theorem cs_setLcX {i : Nat} {y : Str} (hc : X.calm = true) (hN : X.N.Nodup) (hy : X.N[i]? = some y) (hyl : X.env.scope.names.lookup y = some .local)
    (hsw : swapsWith (.ListComp elt [⟨tg, iter, ifs, 0⟩] scope pos) (some (.Name y py)) spos.line X.env = pure true) (hi : PI X tg iter (tI T W (iFix ma))) (ok : BlkOk X.N X.env.scope scope own) (ho : TgOk T gt gl (own.map (·.2)))
    (hg : ∀ s H C cl fp, PG (X.blk s H scope (compEnvC scope cl C X.env) fp) tg gt) (ht : ∀ s H C cl fp, PTs (X.blk s H scope (compEnvC scope cl C X.env) fp) ifs (tT T WF mt))
    (he : ∀ s H C cl fp, PE (X.blk s H scope (compEnvC scope cl C X.env) fp) elt (tE T WF me)) (hs : ∀ x, foldedSetIterable iter X.env x = pure x := by intro _; rfl) (hx : T.xs = [] := by rfl) :
    PS X (.Assign [.Name y py] (.ListComp elt [⟨tg, iter, ifs, 0⟩] scope pos) spos) (tS T W (sSet i (eLcX ma gl mt me (own.map (·.2))))) := ps_mono (ps_setLc hc hN hy hyl hsw hi ok hg ht he hs) fun _ _ _ h => lcx_le hx ho (tasg_le h)
end

/-! ### defs -/
/-- a def's promise where no repr runs around -/
structure FnG (P : Program) (w : World) (K : PySem.W.Frag) (mg : Str → Option Value) (base : Heap) (k : Nat) (f : Addr) (fd : FuncData) (ps : List Str) (sp : Sp) : Prop where
  len : ∀ vs H Q E, sp vs H Q E → vs.length = ps.length
  run : ∀ (A : Around) (outer : List Env) (s : Shared) (H : Hp) (args : Args) (us : List Value) (vs : List V) (Q : VK) (E : XK), Room k A → A.guards = some [] → Env0 P w K mg base A outer s H → BindsTo s fd args (ps.zip us) → Vals vs us → sp vs H Q E →
    codeAny (model P w) A (.call (.ref f) args) (CR (L2N.CX P w) outer P w H s Q E) s
theorem FnG.mono {P : Program} {w : World} {K : PySem.W.Frag} {mg : Str → Option Value} {base : Heap} {j k : Nat} {f : Addr} {fd : FuncData} {ps : List Str} {sp : Sp} (F : FnG P w K mg base j f fd ps sp) (h : j ≤ k) : FnG P w K mg base k f fd ps sp :=
  ⟨F.len, fun A outer s H args us vs Q E hr => F.run A outer s H args us vs Q E (hr.mono h)⟩
/-- a def by its body -/
theorem fnG_of {P : Program} {w : World} {K : PySem.W.Frag} {mg : Str → Option Value} {base : Heap} {k : Nat} {x qual : Str} {st : Stmt} {f : Addr} {fd : FuncData} {N ps : List Str} {sp : Sp} (F : Fun K x qual st f fd) (S : FnScope N ps (defScope st)) (len : ∀ vs H Q E, sp vs H Q E → vs.length = ps.length)
    (hbody : ∀ (cdv : Value) (A : Around) (outer : List Env) (s : Shared) (H : Hp) (vs : List V) (Q : VK) (E : XK), Room k (A.deeper (envOfC qual (defScope st) s.heap.objs.size f cdv)) → A.guards = some [] → sp vs H Q E →
      ∃ t, PSs (cxOf (L2N.CX P w) P w K mg base N qual (defScope st) f cdv A outer s H E) (defBody st) t ∧ t { nx := fun _ H' => Q .non H', rt := Q } (L2.start N vs) H) : FnG P w K mg base (k + 1) f fd ps sp := by
  obtain ⟨oc, od, kV, doc, pm, an, cdv, ct, osl, rfl, lk, hcd⟩ := F.ex
  refine ⟨len, fun A outer s H args us vs Q E hr hg e0 hb r hsp => ?_⟩
  have inK : K.In s.heap := e0.mod.kin.keeps fun b o e => (e0.bs b o e).1
  have nl : s.heap.NoLimit := e0.mod.nolimit.keeps fun b o e => (e0.bs b o e).1
  have kinds : ∀ y ∈ ps.zip us, (defScope st).names.lookup y.1 = some .local ∨ ((defScope st).names.lookup y.1 = some .cell ∧ ((cellsFrom (s.heap.objs.size + 1) (defScope st).names []).lookup y.1).isSome = true) := by
    rintro ⟨n, v⟩ hy
    exact (S.par n (List.of_mem_zip hy).1).imp id fun q => ⟨q, PySem.W.cellsFrom_some _ _ _ (.inl q)⟩
  refine codeAny_call_function hr.depth (inK _ _ lk) rfl S.co S.gen rfl (PySem.W.codeRec_of inK hcd) (hb _ _ _ _ (wpAny_newFunctionEnv_cells S.kind kinds fun env he s1 y => ?_))
  subst he
  refine ⟨nl.keeps y.toInCall.keep, codeAny_func ?_⟩
  obtain ⟨t, ht, hq⟩ := hbody cdv A outer s H vs Q E (hr.deeper _) hg hsp
  refine wpAny_mono (ht.run [] s1 (L2.start N vs) H _ (inv_start S hr.hd e0 (len _ _ _ _ hsp) r y) hq) (fun fl s' hs => ?_) fun e s' hs => hs
  cases fl with
  | ret u => obtain ⟨v, σ', H', J, rv, q⟩ := hs; exact ⟨v, H', J.os, J.bare, J.base, J.hok, rv, q⟩
  | next => obtain ⟨σ', H', J, q⟩ := hs; exact ⟨V.non, H', J.os, J.bare, J.base, J.hok, rfl, q⟩
  | brk => obtain ⟨_, _, _, q⟩ := hs; exact q.elim
  | cont => obtain ⟨_, _, _, q⟩ := hs; exact q.elim
/-- the promise of a pure function -/
def SpM (T : Tb) (n : Nat) (m : List Vl → M Vl) : Sp := fun vs H Q E => ∃ (ρ : List Addr) (s : Sto) (as : List Vl), Rel T ρ H s ∧ RVs T ρ H as vs ∧ as.length = n ∧ Po (RV T) T E ρ H (m as s) Q
/-- a body as a function; n: how many names -/
def fnM (n : Nat) (b : SM) : List Vl → M Vl := fun as s => match b (as.map some ++ List.replicate (n - as.length) none) s with
  | .nx _ s' => .ok .non s'
  | .rt v s' => .ok v s'
  | .exc e _ s' => .exc e s'
  | _ => .fail
theorem rl_start {T : Tb} {ρ : List Addr} {H : Hp} {as : List Vl} {vs : List V} {N : List Str} (hx : T.xs = []) (h : RVs T ρ H as vs) : RL T ρ H (as.map some ++ List.replicate (N.length - as.length) none) (L2.start N vs) := by
  refine ⟨?_, fun i x e => ?_, fun p hp => by rw [hx] at hp; simp at hp⟩
  · unfold L2.start
    simp only [List.length_append, List.length_map, List.length_replicate, h.length]
  · by_cases hi : i < as.length
    · rw [List.getElem?_append_left (by simpa using hi), List.getElem?_map] at e
      cases q : as[i]? with
      | none => rw [q] at e; cases e
      | some y =>
        rw [q] at e
        cases e
        obtain ⟨z, h1, h2⟩ := h.get q
        refine ⟨z, ?_, h2⟩
        unfold L2.start
        rw [List.getElem?_append_left (by rw [List.length_map, ← h.length]; exact hi), List.getElem?_map, h1]; rfl
    · rw [List.getElem?_append_right (by simpa using hi), List.getElem?_replicate] at e
      split at e <;> cases e
theorem fn_body {T : Tb} {N : List Str} {n : Nat} {b : SM} {vs : List V} {H : Hp} {Q : VK} {E : XK} (hx : T.xs = []) (h : SpM T n (fnM N.length b) vs H Q E) : tS T (fun c d _ H' => E c d H') b { nx := fun _ H' => Q .non H', rt := Q } (L2.start N vs) H := by
  obtain ⟨ρ, s, as, r, hv, hl, p⟩ := h
  refine ⟨ρ, s, _, r, rl_start hx hv, ?_⟩
  unfold fnM at p
  cases e : b (as.map some ++ List.replicate (N.length - as.length) none) s with
  | nx lo s' => rw [e] at p; exact fun ρ' H' σ' x r' _ => p ρ' H' .non x r' .non
  | rt v s' => rw [e] at p; exact p
  | exc z lo s' => rw [e] at p; exact fun ρ' H' σ' C x r' _ hC => p ρ' H' C x r' hC
  | bk lo s' => rw [e] at p; exact p.elim
  | ct lo s' => rw [e] at p; exact p.elim
  | fail => rw [e] at p; exact p.elim
/-- a def of the text computes the pure function of its body -/
theorem fn_sim {P : Program} {w : World} {K : PySem.W.Frag} {mg : Str → Option Value} {base : Heap} {k n : Nat} {x qual : Str} {st : Stmt} {f : Addr} {fd : FuncData} {N ps : List Str} {T : Tb} {b : SM} (F : Fun K x qual st f fd) (S : FnScope N ps (defScope st)) (hn : n = ps.length)
    (body : ∀ (cdv : Value) (A : Around) (outer : List Env) (s : Shared) (H : Hp) (E : XK), Room k (A.deeper (envOfC qual (defScope st) s.heap.objs.size f cdv)) → A.guards = some [] →
      PSs (cxOf (L2N.CX P w) P w K mg base N qual (defScope st) f cdv A outer s H E) (defBody st) (tS T (fun c d _ H' => E c d H') b)) (hx : T.xs = [] := by rfl) : FnG P w K mg base (k + 1) f fd ps (SpM T n (fnM N.length b)) :=
  fnG_of F S (fun vs H Q E ⟨ρ, s, as, r, hv, hl, p⟩ => by rw [← hv.length, hl, hn]) fun cdv A outer s H vs Q E hr hg h => ⟨_, body cdv A outer s H E hr hg, fn_body hx h⟩

/-! ### calls of defs -/
section
variable {X : Cx} {T : Tb} {W : WX} {k n : Nat} {f : Addr} {fd : FuncData} {ps : List Str} {mf : List Vl → M Vl} {x : Str} {p pos apos : Pos} {e o : Expr} {es : List Expr} {ma : AM} {mo : EM} {ds : List Value} {dvs : List V} {das : List Vl}
def eCall (mf : List Vl → M Vl) (a : AM) : EM := fun lo => bnd (a lo) mf
/-- with defaults das behind the arguments -/
def eCallD (mf : List Vl → M Vl) (das : List Vl) (a : AM) : EM := fun lo => bnd (a lo) fun as => mf (as ++ das)
theorem run_G {sp : Sp} {pins : List (Addr × Obj)} {σ : L2.St} {H : Hp} {s : Shared} {Q : VK} {us : List Value} {vs : List V} (F : FnG X.prog X.w X.K X.mg X.base k f fd ps sp) (hr : Room k X.A) (hg : X.A.guards = some []) (hb : Binds X.K fd ps ds) (hd : Vals dvs ds) (tk : L2N.Takes X W)
    (I : Inv X pins σ H s) (r : Vals vs us) (h : sp (vs ++ dvs) H Q fun c d H' => W c d σ H') : wpAny (model X.prog X.w) X.A (call (.ref f) us) (EP X pins σ Q) X.xe s := by
  have r2 : Vals (vs ++ dvs) (us ++ ds) := r.append hd
  refine wpAny_call (codeAny_mono (F.run X.A X.stack s H ⟨us, []⟩ (us ++ ds) (vs ++ dvs) Q _ hr hg I.env0 (hb s us I.kIn (by rw [← r2.length]; exact F.len _ _ _ _ h)) r2 h) fun z s' hq => ?_)
  cases z with
  | error y => exact tk y s' (L2N.XE.of_call I (fun _ _ _ q => q) hq)
  | ok fl =>
    cases fl with
    | ret u => exact I.after hq
    | next => exact hq.elim
    | brk => exact hq.elim
    | cont => exact hq.elim
theorem spM_of {ρ : List Addr} {s : Sto} {as : List Vl} {vs : List V} {H : Hp} {Q : VK} {E : XK} (r : Rel T ρ H s) (hv : RVs T ρ H as vs) (hl : as.length = n) (p : Po (RV T) T E ρ H (mf as s) Q) : SpM T n mf vs H Q E := ⟨ρ, s, as, r, hv, hl, p⟩
/-- the number of arguments is checked in the pure function -/
def arg (n : Nat) (mf : List Vl → M Vl) : List Vl → M Vl := fun as s => if as.length = n then mf as s else .fail
theorem ce_call (F : FnG X.prog X.w X.K X.mg X.base k f fd ps (SpM T n mf)) (hr : Room k X.A) (hgd : X.A.guards = some []) (hg : Gl X x) (hm : X.mg x = some (.ref f)) (hk : PySem.W.keepIn X.K (.ref f) = true) (hb : Binds X.K fd ps []) (tk : L2N.Takes X W) (ha : PA X (e :: es) (tA T W ma))
    (hdb : (x == ("__debug__" : Str)) = false := by decide) (he : starEach (e :: es) X.env = (false, eval e X.env) :: starEach es X.env := by rfl) (hpl : (backTo pos (starEach es X.env)).any (·.1) = false := by rfl) :
    PE X (.Call (.Name x p) (e :: es) [] pos) (tE T W (eCall (arg n mf) ma)) := by
  refine ⟨fun pins s σ H Q I h => wpAny_Call_Name_kw (ld_glob I hg hm ?_ hdb)⟩
  have h : tA T W ma σ H fun vs H1 => SpM T n mf (vs ++ []) H1 Q fun c d H' => W c d σ H' := tG_bnd (R := RVs T) h fun ρ s lo xs zs H1 r rl hx q => by
    unfold arg at q
    split at q
    · rename_i hl
      rw [List.append_nil]
      exact spM_of r hx hl q
    · exact q.elim
  refine PySem.W.callWith_K (h₀ := X.base) I.ok.mod.kin hk (thn (ha.run pos pins s σ H _ I h) fun us s1 ⟨vs, H1, I1, r, q⟩ => ⟨I1.kIn, ?_⟩) he hpl
  exact run_G F hr hgd hb .nil tk I1 r q
theorem ce_call0 (F : FnG X.prog X.w X.K X.mg X.base k f fd ps (SpM T 0 mf)) (hr : Room k X.A) (hgd : X.A.guards = some []) (hg : Gl X x) (hm : X.mg x = some (.ref f)) (hk : PySem.W.keepIn X.K (.ref f) = true) (hb : Binds X.K fd ps []) (tk : L2N.Takes X W)
    (hdb : (x == ("__debug__" : Str)) = false := by decide) : PE X (.Call (.Name x p) [] [] pos) (tE T W (eCall mf aNil)) := by
  refine ⟨fun pins s σ H Q I h => wpAny_Call_Name_kw (ld_glob I hg hm ?_ hdb)⟩
  obtain ⟨ρ, st, lo, r, rl, q⟩ := h
  exact PySem.W.callWith_K0 I.kIn hk (run_G (us := []) (vs := []) F hr hgd hb .nil tk I .nil (spM_of (as := []) r .nil rfl q))
end
end Sm

/-! S9: the end of a law: from the pure function of the law to the row -/
namespace Sm
open PySem PySem.Spec PyProof.Rows L2
/-- nothing is tracked but the script -/
def H0 (K : PySem.W.Frag) (a : Addr) (ob : Obj) (ns : List Int) : Hp := fun b => if b = a ∧ (K.lookup a).isNone = true then some (.frz ob (.lst (ns.map V.int))) else none
theorem H0_some {K : PySem.W.Frag} {a b : Addr} {ob : Obj} {ns : List Int} {u : HO} (h : H0 K a ob ns b = some u) : b = a ∧ K.lookup a = none ∧ u = .frz ob (.lst (ns.map V.int)) := by
  unfold H0 at h
  split at h
  · rename_i q
    cases h
    refine ⟨q.1, ?_, rfl⟩
    cases e : K.lookup a with
    | none => rfl
    | some o => rw [e] at q; exact absurd q.2 (by simp)
  · cases h
theorem law_G {P : Program} {w : World} {T : Tb} {mg mb : Str → Option Value} {k : Nat} {fa a : Addr} {fd : FuncData} {x : Str} {m : List Vl → M Vl} {s₁ : Shared} {vs : List Value} {ns : List Int} {st : Sto}
    (KX : T.K.In s₁.heap) (hns : s₁.heap.Ns mainGlobals mg) (hb : s₁.heap.Ns builtinsNs mb) (hbb : ∀ x : Str, x ≠ "__name__" → mb x = bootBuiltins x) (hlim : s₁.heap.NoLimit) (hg : s₁.gens = #[])
    (ha : s₁.heap.get? a = some { cls := .type "list", data := .seq vs.toArray }) (hi : IntsAre vs ns) (hl : ns.length ≤ sizeLine) (hr : Room k callerA)
    (F : ∀ base : Heap, T.K.In base → base.Ns mainGlobals mg → FnG P w T.K mg base k fa fd [x] (SpM T 1 m)) (hbind : ∀ (s : Shared) (u : Value), BindsTo s fd ⟨[u], []⟩ [(x, u)])
    (hm : m [.scr ns] [] = .ok (.bl true) st) :
    codeAny (model P w) callerA (.call (.ref fa) ⟨[.ref a], []⟩) (fun r s' => r = .ok (.ret (.bool true)) ∧ OldK s₁.heap s'.heap ∧ s'.os = s₁.os ∧ AllBare s'.gens) s₁ := by
  have rv := vals_ints hi
  let ob : Obj := { cls := .type "list", data := .seq vs.toArray }
  let H := H0 T.K a ob ns
  have out : ∀ {b : Addr} {o : Obj}, s₁.heap.get? b = some o → b ≠ a → (hidT s₁.heap H).get? b = some o := fun {b o} e n => hidT_get e (by
    cases q : H b with
    | none => rfl
    | some u => exact absurd (H0_some q).1 n)
  have nd : ∀ {b : Addr} {m : Str → Option Value}, s₁.heap.Ns b m → (hidT s₁.heap H).Ns b m := fun {b m} ⟨o, es, ep, e, d, r⟩ => ⟨o, es, ep, out e (fun z => by
    subst z
    rw [ha] at e
    cases e
    have d : Data.seq vs.toArray _ = Data.dict es ep := d
    cases d), d, r⟩
  have inB : T.K.In (hidT s₁.heap H) := fun b o e => hidT_get (KX b o e) (by
    cases q : H b with
    | none => rfl
    | some u =>
      obtain ⟨rfl, h2, _⟩ := H0_some q
      rw [h2] at e
      cases e)
  have md : Mod T.K mg (hidT s₁.heap H) := ⟨inB, nd hns, ⟨mb, nd hb, hbb⟩, let ⟨mc, h1, h2⟩ := hlim; ⟨mc, nd h1, h2⟩⟩
  have hok : HOk P w H s₁.heap := fun b u q => by
    obtain ⟨rfl, h2, rfl⟩ := H0_some q
    exact ⟨ha, by rw [List.length_map]; exact hl, vs, _, rv, ha⟩
  have e0 : Env0 P w T.K mg (hidT s₁.heap H) callerA [] s₁ H := ⟨rfl, md, fun b o e => of_hidT e, Nat.le_of_eq (hidT_size _ _), trivial, fun b hb => absurd hb (List.not_mem_nil), hok, .of_eq hg⟩
  have rs : RV T [] H (.scr ns) (.ref a) := by
    cases q : T.K.lookup a with
    | none => exact .scr (o := ob) (by show H0 T.K a ob ns a = _; unfold H0; rw [if_pos ⟨rfl, by rw [q]; rfl⟩])
    | some o =>
      have e := KX a o q
      rw [ha] at e
      cases e
      exact .scrK fun H' => .inr ⟨_, vs.toArray, _, q, rfl, rfl, rfl, by rw [List.size_toArray, ← rv.length, List.length_map]; exact hl, by simpa using rv⟩
  have sp : SpM T 1 m [.ref a] H (fun v _ => v = .bl true) fun _ _ _ => False := ⟨[], [], [.scr ns], ⟨rfl, List.nodup_nil, fun i a o h _ => by simp at h⟩, .cons rs .nil, rfl, by
    rw [hm]
    exact fun ρ' H' z _ _ hz => hz.blE⟩
  refine codeAny_mono ((F _ inB (nd hns)).run callerA [] s₁ H ⟨[.ref a], []⟩ [.ref a] [.ref a] _ _ hr rfl e0 (hbind s₁ (.ref a)) (.cons rfl .nil) sp) fun r s' h => ?_
  cases r with
  | error e =>
    obtain ⟨_, _, _, _, _, _, _, _, _, _, _, _, z⟩ := h
    exact z.elim
  | ok fl =>
    cases fl with
    | next => exact h.elim
    | brk => exact h.elim
    | cont => exact h.elim
    | ret u =>
      obtain ⟨v, H', os, bare, un, hok', r', q⟩ := h
      have q : v = .bl true := q
      subst q
      obtain rfl : u = Value.bool true := r'
      refine ⟨rfl, OldK.of_keep fun b o e => ?_, os, bare⟩
      cases q : H b with
      | none => exact un.keep b o e q (fun z => absurd z (List.not_mem_nil)) (List.not_mem_nil)
      | some u =>
        obtain ⟨rfl, h2, rfl⟩ := H0_some q
        have z2 := un.frzs b _ _ q
        obtain ⟨e2, _⟩ := hok' b _ z2
        rw [ha] at e
        cases e
        exact e2
/-- the goal that the head leaves, from the law's pure function -/
theorem walk_G {l : PySem.W.OpenLaw} {n k : Nat} {q : Program} {loose : List Str} {XP : (Str → Option Value) → Heap → Prop} {YP : World → Heap → Prop} {d : DefRec} {K : Params → PySem.W.Frag} {x : Str} {m : List Vl → M Vl}
    (hn : l.most = some n) (hn2 : n ≤ sizeLine) (hdf : d.params.defaults = []) (hr : Room k callerA) (hY : ∀ (w : World) (h : Heap), YP w h → (K w.params).In h)
    (F : ∀ (w : World) (mg : Str → Option Value) (fa : Addr) (h : Heap), (K w.params).In h → h.Ns mainGlobals mg → mg d.name = some (.ref fa) → ∃ (T : Tb) (fd : FuncData), T.K = K w.params ∧ (∀ (s : Shared) (u : Value), BindsTo s fd ⟨[u], []⟩ [(x, u)]) ∧
        ∀ base : Heap, T.K.In base → base.Ns mainGlobals mg → FnG l.prog w T.K mg base k fa fd [x] (SpM T 1 m))
    (hm : ∀ ns : List Int, ns.length ≤ n → ∃ st, m [.scr ns] [] = .ok (.bl true) st) :
    PySem.W.WalkO q loose XP YP l.row.toRowW d [] (fun f vs => PySem.call f vs) := by
  refine Att.attach_call hn hdf fun w s₀ s₁ mg mb fa o pm cd doc a vs ns G Y ho hd hcd hmg hobj hints hlen hg => ?_
  obtain ⟨T, fd, eT, hb, hF⟩ := F w mg fa _ (hY w _ Y) G.T.g hmg
  obtain ⟨st, e⟩ := hm ns hlen
  exact law_G (by rw [eT]; exact hY w _ Y) G.T.g G.T.b G.T.builtins G.T.nolimit hg hobj hints (Nat.le_trans hlen hn2) hr hF hb e
end Sm

/-! S10: objects: fields, methods, making -/
namespace Sm
open PySem PySem.Spec PyProof.Rows L2
def putS (f : Str) (v : Vl) : List (Str × Vl) → List (Str × Vl)
  | [] => [(f, v)]
  | (g, x) :: r => if g = f then (g, v) :: r else (g, x) :: putS f v r
def getS (fs : List (Str × Vl)) (f : Str) : Option Vl := match fs with
  | [] => none
  | (g, x) :: r => if g = f then some x else getS r f
section
variable {T : Tb} {ρ : List Addr} {H : Hp}
theorem lookup_step {α : Type} (f g : Str) (x : α) (r : List (Str × α)) : List.lookup f ((g, x) :: r) = if g = f then some x else List.lookup f r := by
  by_cases h : g = f
  · subst h
    rw [if_pos rfl]
    simp [List.lookup]
  · rw [if_neg h]
    have : (f == g) = false := by
      cases e : (f == g) with
      | false => rfl
      | true => exact absurd (eq_of_beq e).symm h
    simp [List.lookup, this]
theorem getS_ok {f : Str} : ∀ {fs : List (Str × Vl)} {vs : List (Str × V)}, vs.map (·.1) = fs.map (·.1) → RVs T ρ H (fs.map (·.2)) (vs.map (·.2)) →
    (getS fs f = none → vs.lookup f = none) ∧ ∀ v, getS fs f = some v → ∃ z, vs.lookup f = some z ∧ RV T ρ H v z
  | [], [], _, _ => ⟨fun _ => rfl, fun v e => by simp [getS] at e⟩
  | [], _ :: _, e, _ => by simp at e
  | _ :: _, [], e, _ => by simp at e
  | (g, x) :: r, (g', z) :: t, e, h => by
    simp only [List.map_cons, List.cons.injEq] at e
    rw [List.map_cons, List.map_cons] at h
    obtain ⟨e1, e2⟩ := e
    subst e1
    cases h with
    | cons h1 h2 =>
      have ih := getS_ok (f := f) e2 h2
      rw [lookup_step]
      unfold getS
      by_cases hk : g' = f
      · rw [if_pos hk, if_pos hk]
        refine ⟨(fun q => nomatch q), fun v q => ?_⟩
        cases q
        exact ⟨z, rfl, h1⟩
      · rw [if_neg hk, if_neg hk]
        exact ih
theorem Rel.ins {s : Sto} {i c : Nat} {fs : List (Str × Vl)} {a : Addr} (r : Rel T ρ H s) (h : s[i]? = some (.ins c fs)) (ha : ρ[i]? = some a) :
    ∃ (C dx : Addr) (vs : List (Str × V)), T.cl[c]? = some C ∧ H a = some (.ins C dx vs) ∧ vs.map (·.1) = fs.map (·.1) ∧ RVs T ρ H (fs.map (·.2)) (vs.map (·.2)) := r.ob i a _ ha h
end
/-- e.f, of an object of one of the classes cs -/
def eFld (cs : List Nat) (f : Str) (o : EM) : EM := fun lo => bnd (o lo) fun x s => match x with
  | .ref j => match s[j]? with
    | some (.ins c fs) => if c ∈ cs then match getS fs f with
        | some v => .ok v s
        | none => .fail
      else .fail
    | _ => .fail
  | _ => .fail
/-- e.f = v -/
def setFld (cs : List Nat) (f : Str) (x v : Vl) (s : Sto) : Option Sto := match x with
  | .ref j => match s[j]? with
    | some (.ins c fs) => if c ∈ cs ∧ fs.length < 1000 then some (s.set j (.ins c (putS f v fs))) else none
    | _ => none
  | _ => none
def sFldM (cs : List Nat) (f : Str) (o e : EM) : SM := bndS e fun lo v s => bndS o (fun lo x s => match setFld cs f x v s with
  | some s' => .nx lo s'
  | none => .fail) lo s
/-- the classes cs have no attribute f of their own -/
def FldOk (T : Tb) (cs : List Nat) (f : Str) : Prop := ∀ c ∈ cs, ∀ C, T.cl[c]? = some C → Cls T.K C ∧ NoAttr T.K C f
/-- o.m(..): the method by the object's class -/
abbrev MTab := Nat → Option (List Vl → M Vl)
def eMeth (m : Str) (tab : MTab) (o : EM) (a : AM) : EM := fun lo => bnd (o lo) fun x s => match x with
  | .ref j => match s[j]? with
    | some (.ins c fs) => match tab c, getS fs m with
      | some mf, none => bnd (a lo) (fun as => mf (.ref j :: as)) s
      | _, _ => .fail
    | _ => .fail
  | _ => .fail
section
variable {X : Cx} {T : Tb} {W : WX} {o e value : Expr} {es : List Expr} {f : Str} {pos pos' apos : Pos} {mo me : EM} {ma : AM} {cs : List Nat}
/-- the methods m of the classes of tab -/
def MethOk (X : Cx) (T : Tb) (m : Str) (k n : Nat) (tab : MTab) : Prop := ∀ c mf, tab c = some mf → ∀ C, T.cl[c]? = some C → ∃ (f : Addr) (fd : FuncData) (ps : List Str), Cls T.K C ∧ Meth T.K C m f ∧ FnG X.prog X.w X.K X.mg X.base k f fd ps (SpM T (n + 1) mf) ∧ Binds X.K fd ps []
def tabA (n : Nat) (tab : MTab) : MTab := fun c => (tab c).map (arg (n + 1))
end
/-! ### making -/
/-- C(..): a new object of class c, then __init__ -/
def eMake (c : Nat) (mi : List Vl → M Vl) (a : AM) : EM := fun lo => bnd (a lo) fun as s => match mi (.ref s.length :: as) (s ++ [.ins c []]) with
  | .ok .non s' => .ok (.ref s.length) s'
  | .ok _ _ => .fail
  | .exc e s' => .exc e s'
  | .fail => .fail
section
variable {X : Cx} {T : Tb} {W : WX} {e : Expr} {es : List Expr} {p pos : Pos} {ma : AM} {C f : Addr} {fd : FuncData} {ps : List Str} {k n c : Nat} {mi : List Vl → M Vl} {x : Str}
def argI (n : Nat) (mf : List Vl → M Vl) : List Vl → M Vl := fun as s => if as.length = n + 1 then mf as s else .fail
end
end Sm

/-! S11: sets of ints: set(list), sorted(set) -/
namespace L2
open PySem PySem.Spec PyProof.Rows
abbrev set0 (w : World) : Obj := { cls := .type "set", dict := none, data := .set #[] 0 (.fresh 0 0 (!w.params.followText "set-order")) }
section
variable {P : Program} {w : World} {A : Around} {E : Value → Shared → Prop} {s : Shared}
/-- set(l), l a list of ints -/
theorem call_set_lst {l : Addr} {items : Array Value} (ns : List Int) {Q : Value → Shared → Prop} (hh : A.handled = none) (hl : s.heap.IsList l items) (hit : IntsAre items.toList ns) (hb : ns.length + 1 < scanBound)
    (h : ∀ (h' : Heap) (tk c : Nat), SetR w h' s.heap.objs.size (fun j => decide (j ∈ ns)) c → (∀ b o, s.heap.get? b = some o → h'.get? b = some o) → Q (.ref s.heap.objs.size) { s with heap := h', toks := tk }) :
    wpAny (model P w) A (call (.type "set") [.ref l]) Q E s := by
  have hz : items.size = ns.length := by rw [← Array.length_toList]; exact hit.length
  obtain ⟨c, tl, hmro⟩ := F.called_set.mro
  have hmade := F.called_set.made
  have hsub := F.called_set.sub
  have h1 := F.called_set.notType
  have h2 := F.called_set.canCreate
  have hct := F.typeCall_set_1 (.ref l)
  refine wpAny_call (codeAny_of_tree (show wpAny _ _ (callAny (.type "set") _) _ _ _ from wpAny_pure ⟨Code.quiet_builtin _ (by decide +kernel), codeAny_builtin F.entry_type_call ?_⟩))
  rw [Around.under_plain (weight_type_call_type "set" [.ref l] []) rfl]
  repeat (any_goals (first | assumption | wp_step))
  refine codeAny_mono (code_set_led1 (.ref l) (E := E) (Q₁ := fun obj s₁ => obj = .ref s.heap.objs.size ∧ s₁ = { s with heap := s.heap.push (set0 w) }) ⟨rfl, rfl⟩) fun r s₁ hr => ?_
  cases r with
  | error e => exact hr
  | ok fl =>
    cases fl with
    | ret obj =>
      obtain ⟨rfl, rfl⟩ := hr
      have hS : (s.heap.push (set0 w)).get? s.heap.objs.size = some (set0 w) := Heap.get?_push_size _ rfl
      have hT : Shared.TypeIs { s with heap := s.heap.push (set0 w) } (.ref s.heap.objs.size) "set" := ⟨_, hS, rfl⟩
      have hli := F.called_set.init.lookup
      have hbi := F.called_set.init.bind (.ref s.heap.objs.size)
      repeat (any_goals (first | assumption | wp_step))
      refine codeAny_mono (codeAny_call_builtin (R := wants (fun r s₂ => r = .none ∧ ∃ h' tk c, s₂ = { s with heap := h', toks := tk } ∧ SetR w h' s.heap.objs.size (fun j => decide (j ∈ ns)) c ∧ ∀ b o, s.heap.get? b = some o → h'.get? b = some o) E) F.called_set.init.plain F.entry_set_init (check_set_init_1 hT ?_)) fun r₂ s₂ hr₂ => ?_
      · obtain ⟨⟨oc, od, oda, osl⟩, ho, hc, nl, hd⟩ := hl
        obtain rfl : oc = _ := hc
        obtain rfl : oda = _ := hd
        have hS2 := F.sub_list_set
        have hF2 := F.sub_list_frozenset
        have hne : (Value.type "list" == Value.type "dict") = false := by decide
        have ho' := Heap.get?_push_of_some (set0 w) ho
        have hl1 : (s.heap.push (set0 w)).IsList l items := ⟨_, ho', rfl, nl, rfl⟩
        unfold Builtin.«set.__init__» noKeywords Builtin.Frozenset.updateFrom
        generalize hPI : pyIter = PI
        wp_walk
        subst hPI
        refine wpAny_pyIter_list hl1 (wpAny_bind (wpAny_runValue ?_))
        have lS : l < s.heap.objs.size := Heap.lt_size ho
        have eS : (s.heap.push (set0 w)).objs.size = s.heap.objs.size + 1 := Heap.size_push ..
        refine set_update_ints ((Walks.list (A := A.in1.in1.in1) (by simp [hh]) (s.heap.push (set0 w)).objs.size l (by rw [eS]; exact Nat.ne_of_lt (Nat.lt_succ_of_lt lS)) items).toS) s.heap.objs.size (by rw [eS]; simp only [List.mem_cons, List.not_mem_nil, or_false, not_or]; exact ⟨Nat.ne_of_lt (Nat.lt_succ_self _), Nat.ne_of_gt lS⟩) ns hz hb (fun i v hv => ?_) (items.size - 0) 0 _ (by omega) (Nat.zero_le _)
          ⟨⟨_, Heap.get?_push_size _ rfl, rfl, rfl⟩, (hl1.push _)⟩ ⟨0, Nat.le_refl 0, setR_new_at (Heap.get?_push_of_some _ hS)⟩ fun s' c' hm hc' hS' => ?_
        · have hi : i < ns.length := by rw [← hz]; exact (Array.getElem?_eq_some_iff.mp hv).1
          obtain ⟨t, e⟩ := PyProof.Rows.IntsAre.int_at hit i v (by rw [Array.getElem?_toList]; exact hv)
          exact ⟨ns[i], t, List.getElem?_eq_getElem hi, by rw [e, List.getD_eq_getElem?_getD, List.getElem?_eq_getElem hi] <;> rfl⟩
        · obtain ⟨h', g2, d', tk', os'⟩ := s'
          obtain rfl : g2 = s.gens := hm.gens
          obtain rfl : d' = s.drawn := hm.drawn
          obtain rfl : os' = s.os := hm.os
          refine wpAny_pure (show wpAny _ _ (ret Value.none) _ _ _ from wpAny_pure ⟨rfl, h', tk', c', rfl, hS', fun b o e => ?_⟩)
          have lb : b < s.heap.objs.size := Heap.lt_size e
          exact hm.heap b o (by rw [eS]; simp only [List.mem_cons, List.not_mem_nil, or_false, not_or]; exact ⟨Nat.ne_of_lt lb, Nat.ne_of_lt (Nat.lt_succ_of_lt lb)⟩) (Heap.get?_push_of_some _ (Heap.get?_push_of_some _ e))
      · cases r₂ with
        | error e => exact hr₂
        | ok fl₂ =>
          cases fl₂ with
          | ret r =>
            obtain ⟨rfl, h', tk, c', rfl, hS', hk'⟩ := hr₂
            repeat (any_goals (first | assumption | wp_step))
            exact h _ _ _ hS' hk'
          | _ => exact hr₂.elim
    | _ => exact hr.elim
end
theorem nodup_len {α : Type} [DecidableEq α] : ∀ (a b : List α), a.Nodup → b.Nodup → (∀ x, x ∈ a ↔ x ∈ b) → a.length = b.length := fun a b ha hb h => by
  exact ((List.perm_ext_iff_of_nodup ha hb).mpr h).length_eq
theorem SetR.size {w : World} {h : Heap} {a : Addr} {S : Int → Bool} {n : Nat} (R : SetR w h a S n) {xs : List Int} (nd : xs.Nodup) (hS : ∀ k, S k = true ↔ k ∈ xs) : n = xs.length := by
  obtain ⟨o, es, ep, t, h1, h2, h3, h4, h5, h6, h7, h8, h9, _⟩ := R
  rw [← h9, ← Array.length_toList, ← List.length_map (f := keyOf) (as := es.toList)]
  exact nodup_len _ _ h5 nd fun x => (h6 x).symm.trans (hS x)
end L2
namespace Sm
open PySem PySem.Spec PyProof.Rows L2
/-- the unlike ones of a list, each at its last place -/
def ddup : List Int → List Int
  | [] => []
  | x :: xs => if x ∈ xs then ddup xs else x :: ddup xs
def oSet : OC
  | [x], s => match lstOf x s with
    | some xs => match mapO asInt xs with
      | some ns => if ns.length < 4000 then some (.ref s.length, s ++ [.set (ddup ns)]) else none
      | none => none
    | none => none
  | _, _ => none
/-- sorted of a list or of a set of ints -/
def oSortS : OC
  | [.ref j], s => match s[j]? with
    | some (.lst xs) => (mapO asInt xs).map fun ns => (.ref s.length, s ++ [.lst ((srt ns).map Vl.int)])
    | some (.set xs) => if xs.length < 64 then some (.ref s.length, s ++ [.lst ((srt xs).map Vl.int)]) else none
    | _ => none
  | _, _ => none
section
variable {X : Cx} {T : Tb}
end
end Sm

/-! S12: dicts: displays, their values walked and listed -/
namespace Sm
open PySem PySem.Spec PyProof.Rows L2
def eDict0 : EM := fun _ s => .ok (.ref s.length) (s ++ [.dic []])
/-- the pairs of a display -/
def dpM : List (EM × EM) → Lo → M (List (Vl × Vl))
  | [], _ => ret []
  | (k, v) :: r, lo => bnd (k lo) fun x => bnd (v lo) fun y => bnd (dpM r lo) fun ps => ret ((x, y) :: ps)
def keyP (p : Vl × Vl) : Option (Key × Vl) := match keyOf p.1 with
  | some k => some (k, p.2)
  | none => none
def mergeP (kvs more : List (Key × Vl)) : List (Key × Vl) := more.foldl (fun acc kv => put acc kv.1 kv.2) kvs
def eDict (ps : List (EM × EM)) : EM := fun lo s => match dpM ps lo (s ++ [.dic []]) with
  | .ok prs s' => match s'[s.length]?, mapO keyP prs with
    | some (.dic []), some kvs => if kvs.length ≤ 15 then .ok (.ref s.length) (s'.set s.length (.dic (mergeP [] kvs))) else .fail
    | _, _ => .fail
  | .exc e s' => .exc e s'
  | .fail => .fail
def RP (T : Tb) : List Addr → Hp → List (Vl × Vl) → List (V × V) → Prop := fun ρ H ps qs => RVs T ρ H (ps.map (·.1)) (qs.map (·.1)) ∧ RVs T ρ H (ps.map (·.2)) (qs.map (·.2))
section
variable {X : Cx} {T : Tb} {W : WX} {pos : Pos}
theorem ce_dict0 : PE X (.Dict [] [] pos) (tE T W eDict0) := pe_mono pe_dnewK fun σ H Q h => by
  obtain ⟨ρ, s, lo, r, rl, p⟩ := h
  exact fun q hq => p (ρ ++ [q]) _ _ (r.newExt hq) (r.new (b := .dic []) hq ⟨[], upd_same, rfl, .nil⟩) r.newRef
theorem pairs_le {σ : L2.St} : ∀ {ps : List (EM × EM)} {H : Hp} {Q : List (V × V) → Hp → Prop}, tG (RP T) T W (dpM ps) σ H Q → tPairs (ps.map fun p => (tE T W p.1, tE T W p.2)) σ H Q
  | [], H, Q, h => by
    obtain ⟨ρ, s, lo, r, rl, p⟩ := h
    exact p ρ H [] .refl r ⟨.nil, .nil⟩
  | (k, v) :: ps, H, Q, h => tG_bnd (R := RV T) h fun ρ s lo x z H1 r rl hx p => po_bnd (R := RV T) (m := v) r rl p fun ρ1 s1 y z1 H2 e1 r1 rl1 hy p1 =>
      pairs_le (po_bnd (R := RP T) (m := dpM ps) r1 rl1 p1 fun ρ2 s2 prs qs H3 e2 r2 rl2 hp p2 => p2 ρ2 H3 _ .refl r2 ⟨.cons (hx.mono (e1.trans e2)) hp.1, .cons (hy.mono e2) hp.2⟩)
theorem keyP_ok {ρ : List Addr} {H : Hp} : ∀ {ps : List (Vl × Vl)} {qs : List (V × V)} {kvs : List (Key × Vl)}, RP T ρ H ps qs → mapO keyP ps = some kvs → ∃ vs : List (Key × V), qs = vs.map (fun kv => (kV kv.1, kv.2)) ∧ vs.map (·.1) = kvs.map (·.1) ∧ RVs T ρ H (kvs.map (·.2)) (vs.map (·.2))
  | [], [], _, _, e => by
    simp only [mapO] at e
    cases e
    exact ⟨[], rfl, rfl, .nil⟩
  | [], _ :: _, _, h, _ => by cases h.1
  | _ :: _, [], _, h, _ => by cases h.1
  | (a, b) :: ps, (x, y) :: qs, kvs, h, e => by
    obtain ⟨h1, h2⟩ := h
    rw [List.map_cons, List.map_cons] at h1 h2
    cases h1 with
    | cons a1 a2 =>
      cases h2 with
      | cons b1 b2 =>
        simp only [mapO] at e
        split at e
        · rename_i kv kvs' e1 e2
          cases e
          unfold keyP at e1
          split at e1
          · rename_i k hk
            cases e1
            obtain ⟨vs, rfl, g2, g3⟩ := keyP_ok ⟨a2, b2⟩ e2
            refine ⟨(k, y) :: vs, ?_, by simp [g2], .cons b1 g3⟩
            have := keyOf_ok a1 hk
            simp only at this
            rw [this]; rfl
          · cases e1
        · cases e
theorem putK_nodup {kvs : List (Key × V)} {k : Key} {v : V} (h : (kvs.map (·.1)).Nodup) : ((putK kvs k v).map (·.1)).Nodup := by
  unfold putK
  split
  · have : (kvs.map fun kv => if kv.1 = k then (kv.1, v) else kv).map (·.1) = kvs.map (·.1) := by
      rw [List.map_map]
      apply List.map_congr_left
      intro p _
      simp only [Function.comp]
      split <;> rfl
    rw [this]; exact h
  · rename_i hn
    rw [List.map_append, List.nodup_append]
    refine ⟨h, by simp, fun a ha b hb => ?_⟩
    simp at hb
    subst hb
    intro e
    subst e
    obtain ⟨p, hp, e⟩ := List.mem_map.mp ha
    exact hn (List.any_eq_true.mpr ⟨p, hp, by simp [e]⟩)
theorem merge_ok {ρ : List Addr} {H : Hp} : ∀ {more : List (Key × Vl)} {ms : List (Key × V)} {kvs : List (Key × Vl)} {vs : List (Key × V)}, ms.map (·.1) = more.map (·.1) → RVs T ρ H (more.map (·.2)) (ms.map (·.2)) → (vs.map (·.1)).Nodup → vs.map (·.1) = kvs.map (·.1) → RVs T ρ H (kvs.map (·.2)) (vs.map (·.2)) →
    (mergeK vs ms).map (·.1) = (mergeP kvs more).map (·.1) ∧ RVs T ρ H ((mergeP kvs more).map (·.2)) ((mergeK vs ms).map (·.2))
  | [], [], _, _, _, _, _, e, h => ⟨e, h⟩
  | [], _ :: _, _, _, e, _, _, _, _ => by simp at e
  | _ :: _, [], _, _, e, _, _, _, _ => by simp at e
  | (k, v) :: more, (k', z) :: ms, kvs, vs, e, h, nd, e2, h2 => by
    simp only [List.map_cons, List.cons.injEq] at e
    rw [List.map_cons, List.map_cons] at h
    obtain ⟨e1, e3⟩ := e
    subst e1
    cases h with
    | cons a b =>
      obtain ⟨g1, g2⟩ := put_ok (k := k') a nd e2 h2
      exact merge_ok (more := more) (ms := ms) (kvs := put kvs k' v) (vs := putK vs k' z) e3 b (putK_nodup nd) g1 g2
theorem ce_dict {keys : List (Option Expr)} {values : List Expr} {ps : List (EM × EM)} (h : PPs X pos keys values (ps.map fun p => (tE T W p.1, tE T W p.2))) (hall : keys.all (·.isSome) = true := by rfl) (hl : keys.length = values.length := by rfl) (h0 : keys ≠ [] := by exact fun z => nomatch z)
    (h15 : keys.length ≤ 15 := by decide) : PE X (.Dict keys values pos) (tE T W (eDict ps)) := pe_mono (pe_disp h hall hl h0 h15) fun σ H Q h => by
  obtain ⟨ρ, s, lo, r, rl, p⟩ := h
  intro q hq
  have xD : Ext T ρ H (ρ ++ [q]) (upd H q (.dK [])) := r.newExt hq
  have aD : (ρ ++ [q])[s.length]? = some q := by rw [← r.len, List.getElem?_append_right (Nat.le_refl _)]; simp
  refine pairs_le ⟨ρ ++ [q], s ++ [.dic []], lo, r.new (b := .dic []) hq ⟨[], upd_same, rfl, .nil⟩, rl.mono xD, ?_⟩
  unfold eDict at p
  cases e : dpM ps lo (s ++ [.dic []]) with
  | fail => rw [e] at p; exact p
  | exc z s' => rw [e] at p; exact fun ρ' H' C x => p ρ' H' C (xD.trans x)
  | ok prs s' =>
    rw [e] at p
    intro ρ' H' qs x r' hp
    simp only at p
    split at p
    · rename_i kvs hd hk
      split at p
      · rename_i hn
        have aD' := x.pre _ _ aD
        obtain ⟨vs0, g1, g2, _⟩ := r'.dic hd aD'
        have : vs0 = [] := by simpa using g2
        subst this
        obtain ⟨vs, rfl, k2, k3⟩ := keyP_ok hp hk
        refine ⟨g1, vs, rfl, ?_, ?_⟩
        · have : vs.length = kvs.length := by have := congrArg List.length k2; simpa using this
          rw [this]; exact hn
        · obtain ⟨m1, m2⟩ := merge_ok (kvs := []) (vs := []) k2 k3 (by simp) rfl .nil
          exact p ρ' _ _ ((xD.trans x).trans (r'.setExt aD' g1)) (r'.set aD' ⟨_, upd_same, m1, m2.mono (r'.setExt aD' g1)⟩) (.ref aD')
      · exact p.elim
    · exact p.elim
/-! ### the values of a dict, walked in a comprehension: it is locked meanwhile -/
def nxVals (j : Nat) : NX := fun i s => match s[j]? with
  | some (.fdic kvs) => match kvs[i]? with
    | some kv => some (some kv.2)
    | none => some none
  | _ => none
def iVal (e : EM) : IM := fun lo => bnd (e lo) fun x => match x with
  | .ref j => fun s => match s[j]? with
    | some (.fdic _) => .ok (nxVals j) s
    | _ => .fail
  | _ => failM
/-- c run while the dict of e is locked -/
def eLock (e c : EM) : EM := fun lo s => match e lo s with
  | .ok (.ref j) _ => match s[j]? with
    | some (.dic kvs) => match c lo (s.set j (.fdic kvs)) with
      | .ok v s' => match s'[j]? with
        | some (.fdic _) => .ok v (s'.set j (.dic kvs))
        | _ => .fail
      | _ => .fail
    | _ => .fail
  | _ => .fail
/-- list(d.values()) -/
def eListVals (e : EM) : EM := fun lo => bnd (e lo) fun x s => match x with
  | .ref j => match s[j]? with
    | some (.dic kvs) => .ok (.ref s.length) (s ++ [.lst (kvs.map (·.2))])
    | _ => .fail
  | _ => .fail
end
end Sm

/-! S18: walls (code that the pure program never reaches), recursion -/
namespace Sm
open PySem L2
section
variable {X : Cx} {T : Tb} {W : WX}
def eFail : EM := fun _ => failM
def sFail : SM := fun _ _ => .fail
end
def mFail : List Vl → M Vl := fun _ => failM
theorem fnG_fail {P : Program} {w : World} {K : PySem.W.Frag} {mg : Str → Option Value} {base : Heap} {k n : Nat} {f : Addr} {fd : FuncData} {ps : List Str} {T : Tb} : FnG P w K mg base k f fd ps (SpM T n mFail) :=
  ⟨fun vs H Q E ⟨_, _, _, _, _, _, p⟩ => p.elim, fun A outer s H args us vs Q E _ _ _ _ _ ⟨_, _, _, _, _, _, p⟩ => p.elim⟩
end Sm

/-! S19: making objects of classes without an __init__ -/
namespace Sm
open PySem L2 PySem.W
structure MkB (K : PySem.W.Frag) (C : Addr) : Prop where
  makes : PySem.W.makesIn K C = true
  init : PySem.W.findIn K (.ref C) "__init__" = some (some (.builtin "object.__init__"))
  top : PySem.W.mroIn K C (.type "object") = some true
  kp : PySem.W.keepIn K (.ref C) = true
def eMakeB (c : Nat) : EM := fun _ s => .ok (.ref s.length) (s ++ [.ins c []])
end Sm

/-! S22: defs with a star parameter, objects made by such an __init__; objects that are called -/
namespace Sm
open PySem PySem.Spec PyProof.Rows L2
/-- a def's promise at any number of arguments -/
def FnV (P : Program) (w : World) (K : PySem.W.Frag) (mg : Str → Option Value) (base : Heap) (k : Nat) (f : Addr) (sp : Sp) : Prop :=
  ∀ (A : Around) (outer : List Env) (s : Shared) (H : Hp) (us : List Value) (vs : List V) (Q : VK) (E : XK), Room k A → A.guards = some [] → Env0 P w K mg base A outer s H → Vals vs us → sp vs H Q E →
    codeAny (model P w) A (.call (.ref f) ⟨us, []⟩) (CR (L2N.CX P w) outer P w H s Q E) s
theorem FnV.mono {P : Program} {w : World} {K : PySem.W.Frag} {mg : Str → Option Value} {base : Heap} {j k : Nat} {f : Addr} {sp : Sp} (F : FnV P w K mg base j f sp) (h : j ≤ k) : FnV P w K mg base k f sp := fun A outer s H us vs Q E hr => F A outer s H us vs Q E (hr.mono h)
def SpV (T : Tb) (m : List Vl → M Vl) : Sp := fun vs H Q E => ∃ (ρ : List Addr) (s : Sto) (as : List Vl), Rel T ρ H s ∧ RVs T ρ H as vs ∧ Po (RV T) T E ρ H (m as s) Q
/-- n parameters, the rest a tuple -/
def starM (n : Nat) (mf : List Vl → M Vl) : List Vl → M Vl := fun as s => if n ≤ as.length ∧ as.length ≤ LIM then mf (as.take n ++ [.tup (as.drop n)]) s else .fail
/-- how a def with a star parameter binds -/
def BindV (fd : FuncData) (ps : List Str) (pv : Str) : Prop := ∀ us rest : List Value, us.length = ps.length → bindArgs fd ⟨us ++ rest, []⟩ = (newTuple rest >>= fun t => pure (ps.zip us ++ [(pv, t)]))
section
variable {X : Cx} {T : Tb} {W : WX} {e : Expr} {es : List Expr} {p pos : Pos} {ma : AM} {C f : Addr} {k c : Nat} {mi : List Vl → M Vl} {x : Str}
end
/-! ### objects that are called -/
def eCallO (tab : MTab) (o : EM) (a : AM) : EM := fun lo => bnd (o lo) fun x s => match x with
  | .ref j => bnd (a lo) (fun as s => match s[j]? with
    | some (.ins c fs) => match tab c with
      | some mf => mf (.ref j :: as) s
      | none => .fail
    | _ => .fail) s
  | _ => .fail
def CallOk (X : Cx) (T : Tb) (k n : Nat) (tab : MTab) : Prop := ∀ c mf, tab c = some mf → ∀ C, T.cl[c]? = some C → ∃ (f : Addr) (fd : FuncData) (ps : List Str), StX.CallO T.K C f ∧ FnG X.prog X.w X.K X.mg X.base k f fd ps (SpM T (n + 1) mf) ∧ Binds X.K fd ps []
section
variable {X : Cx} {T : Tb} {W : WX} {k n : Nat} {f : Addr} {fd : FuncData} {ps : List Str} {mf : List Vl → M Vl} {pos : Pos} {e o : Expr} {es : List Expr} {ma : AM} {mo : EM} {ds : List Value} {dvs : List V}
end
end Sm

/-! S20: str.join, dict(d), sorted(d) -/
namespace Sm
open PySem L2
section
variable {X : Cx} {T : Tb}
/-- x.join(list of strs) -/
def oJoin : OMt
  | .str a, [x], s => match lstOf x s with
    | some xs => match mapO asStr xs with
      | some ys => if (ys.map (·.length)).sum + ys.length * a.length ≤ LIM then some (.str (Txt.join a ys), s) else none
      | none => none
    | none => none
  | _, _, _ => none
theorem m_join : MtR X "str.join" (rMt T oJoin) := MtR.imp mt_join fun x xs H Q q => by
  obtain ⟨ρ, st, a, as, w, s', r, ha, hs, e, k⟩ := q
  unfold oJoin at e
  split at e
  · split at e
    · rename_i ys hx
      split at e
      · rename_i zs hz
        split at e
        · rename_i hl
          cases e
          obtain ⟨z, rfl, hz'⟩ := hs.one
          obtain ⟨p, vs, rfl, h1, h2⟩ := lstOf_ok r hz' hx
          have ev := asStrs_ok h2 hz
          subst ev
          cases ha
          exact ⟨_, p, zs, rfl, rfl, .inl (SqL.of h1), hl, k.here r (.str _)⟩
        · cases e
      · cases e
    · cases e
  · cases e
/-- dict(d) -/
def oDict : OC
  | [.ref j], s => match s[j]? with
    | some (.dic kvs) => some (.ref s.length, s ++ [.dic kvs])
    | _ => none
  | _, _ => none
end
end Sm

/-! S21: texts in order; sorted of lists, sets and dicts -/
namespace Sm
open PySem L2 PySem.Spec
theorem lt_irr : ∀ a : List Nat, ltCps a a = false
  | [] => rfl
  | x :: a => by simp [ltCps, lt_irr a]
theorem lt_anti : ∀ a b : List Nat, ltCps a b = false → ltCps b a = false → a = b
  | [], [], _, _ => rfl
  | [], _ :: _, h, _ => by simp [ltCps] at h
  | _ :: _, [], _, h => by simp [ltCps] at h
  | x :: a, y :: b, h1, h2 => by
    simp [ltCps] at h1 h2
    have e : x = y := Nat.le_antisymm h2.1 h1.1
    subst e
    rw [lt_anti a b (h1.2 rfl) (h2.2 rfl)]
theorem lt_asym : ∀ a b : List Nat, ltCps a b = true → ltCps b a = false
  | [], [], h => by simp [ltCps] at h
  | [], _ :: _, _ => by simp [ltCps]
  | _ :: _, [], h => by simp [ltCps] at h
  | x :: a, y :: b, h => by
    simp [ltCps] at h ⊢
    rcases h with h | ⟨rfl, h⟩
    · exact ⟨by omega, fun e => by omega⟩
    · exact ⟨Nat.le_refl _, fun _ => lt_asym a b h⟩
/-- a ≤ b is: not b < a -/
theorem le_trans3 : ∀ a b c : List Nat, ltCps b a = false → ltCps c b = false → ltCps c a = false
  | [], _, [], _, _ => rfl
  | [], [], _ :: _, _, _ => by simp [ltCps]
  | [], _ :: _, _ :: _, _, _ => by simp [ltCps]
  | _ :: _, [], _, h, _ => by simp [ltCps] at h
  | _ :: _, _ :: _, [], _, h => by simp [ltCps] at h
  | x :: a, y :: b, z :: c, h1, h2 => by
    simp [ltCps] at h1 h2 ⊢
    refine ⟨by omega, fun e => ?_⟩
    have e1 : y = x := by omega
    have e2 : z = y := by omega
    exact le_trans3 a b c (h1.2 e1) (h2.2 e2)
abbrev leS (a b : Str) : Prop := ltCps b.cps.toList a.cps.toList = false
def insT (x : Str) : List Str → List Str
  | [] => [x]
  | y :: ys => if ltCps y.cps.toList x.cps.toList then y :: insT x ys else x :: y :: ys
def srtT : List Str → List Str
  | [] => []
  | x :: xs => insT x (srtT xs)
theorem insT_perm (x : Str) : ∀ ys : List Str, (insT x ys).Perm (x :: ys)
  | [] => .refl _
  | y :: ys => by
    unfold insT
    split
    · exact (List.Perm.cons y (insT_perm x ys)).trans (List.Perm.swap x y ys)
    · exact .refl _
theorem srtT_perm : ∀ xs : List Str, (srtT xs).Perm xs
  | [] => .refl _
  | x :: xs => (insT_perm x (srtT xs)).trans (List.Perm.cons x (srtT_perm xs))
theorem insT_sorted (x : Str) : ∀ ys : List Str, ys.Pairwise leS → (insT x ys).Pairwise leS
  | [], _ => List.pairwise_singleton _ _
  | y :: ys, h => by
    have h' := List.pairwise_cons.mp h
    unfold insT
    split
    · rename_i q
      refine List.pairwise_cons.mpr ⟨fun z hz => ?_, insT_sorted x ys h'.2⟩
      rcases List.mem_cons.mp ((insT_perm x ys).mem_iff.mp hz) with rfl | hz
      · exact lt_asym _ _ q
      · exact h'.1 z hz
    · rename_i q
      have q : leS x y := by simpa using q
      refine List.pairwise_cons.mpr ⟨fun z hz => ?_, h⟩
      rcases List.mem_cons.mp hz with rfl | hz
      · exact q
      · exact le_trans3 _ _ _ q (h'.1 z hz)
theorem srtT_sorted : ∀ xs : List Str, (srtT xs).Pairwise leS
  | [] => List.Pairwise.nil
  | x :: xs => insT_sorted x _ (srtT_sorted xs)
theorem rising_pw : ∀ (p : Str) (l : List Str), PyProof.Rows.risingS p l = true → (p :: l).Pairwise leS
  | p, [], _ => List.pairwise_singleton _ _
  | p, x :: r, h => by
    simp [PyProof.Rows.risingS] at h
    have ih := rising_pw x r h.2
    refine List.pairwise_cons.mpr ⟨fun z hz => ?_, ih⟩
    rcases List.mem_cons.mp hz with rfl | hz
    · exact h.1
    · exact le_trans3 _ _ _ h.1 ((List.pairwise_cons.mp ih).1 z hz)
theorem sortedS_pw : ∀ {l : List Str}, PyProof.Rows.sortedS l = true → l.Pairwise leS
  | [], _ => List.Pairwise.nil
  | x :: r, h => rising_pw x r h
theorem str_ext {a b : Str} (h : a.cps.toList = b.cps.toList) : a = b := by
  cases a; cases b
  simp at h
  rw [h]
theorem same_sorted : ∀ {a b : List Str}, a.Perm b → a.Pairwise leS → b.Pairwise leS → a = b
  | [], b, p, _, _ => by rw [List.nil_perm.mp p]
  | x :: a, [], p, _, _ => by have := p.length_eq; simp at this
  | x :: a, y :: b, p, ha, hb => by
    have ha' := List.pairwise_cons.mp ha
    have hb' := List.pairwise_cons.mp hb
    have e : x = y := by
      have h1 : leS x y := by
        rcases List.mem_cons.mp (p.mem_iff.mpr (List.mem_cons_self ..)) with q | q
        · rw [q]; exact lt_irr _
        · exact ha'.1 y q
      have h2 : leS y x := by
        rcases List.mem_cons.mp (p.mem_iff.mp (List.mem_cons_self ..)) with q | q
        · rw [q]; exact lt_irr _
        · exact hb'.1 x q
      exact str_ext (lt_anti _ _ h2 h1)
    subst e
    rw [same_sorted (List.Perm.cons_inv p) ha'.2 hb'.2]
theorem srtT_eq {xs ys : List Str} (p : ys.Perm xs) (h : PyProof.Rows.sortedS ys = true) : ys = srtT xs := same_sorted (p.trans (srtT_perm xs).symm) (sortedS_pw h) (srtT_sorted xs)
/-- all keys texts -/
def strKeys : List (Key × Vl) → Option (List Str)
  | [] => some []
  | (.inr x, _) :: r => (strKeys r).map (x :: ·)
  | _ => none
/-- sorted of ints (list, set), of texts (list, keys of a dict) -/
def oSort : OC
  | [.ref j], s => match s[j]? with
    | some (.lst xs) => match mapO asInt xs with
      | some ns => some (.ref s.length, s ++ [.lst ((srt ns).map Vl.int)])
      | none => match mapO asStr xs with
        | some zs => if zs.length < 64 then some (.ref s.length, s ++ [.lst ((srtT zs).map Vl.str)]) else none
        | none => none
    | some (.set xs) => if xs.length < 64 then some (.ref s.length, s ++ [.lst ((srt xs).map Vl.int)]) else none
    | some (.dic kvs) => match strKeys kvs with
      | some ks => if ks.length < 64 then some (.ref s.length, s ++ [.lst ((srtT ks).map Vl.str)]) else none
      | none => none
    | _ => none
  | _, _ => none
theorem RVs.strs {T : Tb} {ρ : List Addr} {H : Hp} : ∀ zs : List Str, RVs T ρ H (zs.map Vl.str) (zs.map V.str)
  | [] => .nil
  | z :: zs => .cons (.str z) (RVs.strs zs)
section
variable {X : Cx} {T : Tb}
end
end Sm

/-! S25: targets within targets, op=, chains of comparisons, isinstance, get, setdefault, dict(pairs), len of own objects -/
namespace Sm
open PySem L2
/-! ### targets -/
def gAll : List GM → List Vl → Lo → Sto → Option (Lo × Sto)
  | [], [], lo, s => some (lo, s)
  | g :: gs, v :: vs, lo, s => match g v lo s with
    | .ok lo' s' => gAll gs vs lo' s'
    | _ => none
  | _, _, _, _ => none
def gTs (gs : List GM) : GM := fun v lo s => match v with
  | .tup xs => match gAll gs xs lo s with
    | some (lo', s') => .ok lo' s'
    | none => .fail
  | _ => .fail
def tGts (T : Tb) (gs : List GM) : TGs := fun zs σ H Q => ∃ (ρ : List Addr) (s : Sto) (lo : Lo) (vs : List Vl) (lo' : Lo) (s' : Sto), Rel T ρ H s ∧ RL T ρ H lo σ ∧ RVs T ρ H vs zs ∧ gAll gs vs lo s = some (lo', s') ∧ PoN T ρ H lo' s' Q
theorem gAll_len : ∀ {gs : List GM} {vs : List Vl} {lo : Lo} {s : Sto} {r : Lo × Sto}, gAll gs vs lo s = some r → vs.length = gs.length
  | [], [], _, _, _, _ => rfl
  | [], _ :: _, _, _, _, h => by cases h
  | _ :: _, [], _, _, _, h => by cases h
  | g :: gs, v :: vs, lo, s, r, h => by
    unfold gAll at h
    split at h
    · rw [List.length_cons, List.length_cons, gAll_len h]
    · cases h
section
variable {X : Cx} {T : Tb} {W : WX} {e : Expr} {es : List Expr} {g : GM} {gs : List GM} {pos : Pos} {kk : Nat}
end
/-! ### x op= e -/
def sAug (i : Nat) (f : O2) (e : EM) : SM := fun lo s => match lo[i]? with
  | some (some x) => bndS e (fun lo v s => match f x v s with
    | some (z, s') => .nx (lo.set i (some z)) s'
    | none => .fail) lo s
  | _ => .fail
def opIAdd : O2 := fun a b s => match a, b with
  | .int i, .int j => some (.int (i + j), s)
  | .str i, .str j => if i.length + j.length ≤ LIM then some (.str (i ++ j), s) else none
  | _, _ => none
def opISub : O2 := fun a b s => match a, b with
  | .int i, .int j => some (.int (i - j), s)
  | _, _ => none
section
variable {X : Cx} {T : Tb} {W : WX} {e : Expr} {me : EM} {f : O2} {op : Operator} {pos pos' : Pos}
theorem io_add : OpR X (inplaceOp .Add) (rO T opIAdd) := by
  intro pins s σ H x y v u Q I rx ry q
  obtain ⟨ρ, st, a, b, w, s', r, ha, hb, e, k⟩ := q
  unfold opIAdd at e
  split at e
  · cases e
    rw [ha.intE] at rx
    rw [hb.intE] at ry
    exact iop_add pins s σ H _ _ v u Q I rx ry ⟨_, _, rfl, rfl, k.here r (.int _)⟩
  · split at e
    · rename_i hl
      cases e
      rw [ha.strE] at rx
      rw [hb.strE] at ry
      exact iop_add_str pins s σ H _ _ v u Q I rx ry ⟨_, _, rfl, rfl, by rw [lim_eq]; exact hl, k.here r (.str _)⟩
    · cases e
  · cases e
theorem cs_aug {i : Nat} {x : Str} (hN : X.N.Nodup) (hi : X.N[i]? = some x) (hx : Loc X.env.scope x) (ho : OpR X (inplaceOp op) (rO T f)) (he : PE X e (tE T W me))
    (hf : X.fn x = true ∨ X.env.scope.names.lookup x = some .local := by first | exact .inl rfl | exact .inr rfl | assumption) : PS X (.AugAssign (.Name x pos') op e pos) (tS T W (sAug i f me)) :=
  ps_mono (ps_aug hN hi hx he ho hf) fun D σ H h => by
    obtain ⟨ρ, s, lo, r, rl, p⟩ := h
    unfold sAug at p
    split at p
    · rename_i x hx
      obtain ⟨z, hz, hv⟩ := rl.at_ i x hx
      refine ⟨z, hz, poS_bnd (R := RV T) r rl p fun ρ' s' a b H' ext r' rl' hb p' => ?_⟩
      split at p'
      · rename_i w s2 hw
        exact ⟨ρ', s', x, a, w, s2, r', hv.mono ext, hb, hw, fun ρ2 H2 u e2 r2 hu => p' ρ2 H2 _ e2 r2 ((rl'.mono e2).set i hu)⟩
      · exact p'.elim
    · exact p.elim
end
/-- o.f op= e -/
def sFldA (cs : List Nat) (f : Str) (op : O2) (o e : EM) : SM := bndS o fun lo x s => match x with
  | .ref j => match s[j]? with
    | some (.ins c fs) => if c ∈ cs then match getS fs f with
        | some v => bndS e (fun lo y s => match op v y s with
          | some (z, s') => match setFld cs f (.ref j) z s' with
            | some s2 => match s'[j]? with
              | some (.ins c' _) => if c' = c then .nx lo s2 else .fail
              | _ => .fail
            | none => .fail
          | none => .fail) lo s
        | none => .fail
      else .fail
    | _ => .fail
  | _ => .fail
section
variable {X : Cx} {T : Tb} {W : WX} {o value : Expr} {mo me : EM} {op : O2} {oper : Operator} {cs : List Nat} {f : Str} {pos tpos : Pos}
end
/-! ### a op b op' c -/
def eChain (f f' : O2) (a b c : EM) : EM := fun lo => bnd (a lo) fun x => bnd (b lo) fun y => bnd (lift (f x y)) fun z => match z with
  | .bl true => bnd (c lo) fun w => lift (f' y w)
  | .bl false => ret (.bl false)
  | _ => failM
section
variable {X : Cx} {T : Tb} {W : WX} {a b c : Expr} {ma mb mc : EM} {f f' : O2} {op op' : CmpOp} {pos : Pos}
theorem chain_le {σ : L2.St} {H : Hp} {Q : VK} (h : tE T W (eChain f f' ma mb mc) σ H Q) : tChain (rO T f) (rO T f') (tE T W ma) (tE T W mb) (tE T W mc) σ H Q :=
  tG_bnd (f := fun lo x => bnd (mb lo) fun y => bnd (lift (f x y)) fun z => match z with | .bl true => bnd (mc lo) fun w => lift (f' y w) | .bl false => ret (.bl false) | _ => failM) h fun ρ s lo x z H1 r rl hx p =>
    po_bnd (m := mb) r rl p fun ρ1 s1 y z' H2 ext1 r1 rl1 hy p1 => by
      unfold bnd lift at p1
      cases e : f x y s1 with
      | none => rw [e] at p1; exact p1.elim
      | some q =>
        obtain ⟨v, s2⟩ := q
        rw [e] at p1
        refine ⟨ρ1, s1, x, y, v, s2, r1, hx.mono ext1, hy, e, fun ρ3 H3 t e3 r3 ht => ?_⟩
        cases v <;> try exact p1.elim
        rename_i k
        refine ⟨k, ht.blE, ?_⟩
        cases k with
        | false =>
          simp only [Bool.false_eq_true, if_false]
          exact p1 ρ3 H3 _ e3 r3 (.bl false)
        | true =>
          simp only [if_true]
          refine po_bnd (m := mc) r3 (rl1.mono e3) (p1.mono e3) fun ρ4 s4 u t' H4 ext4 r4 rl4 hu p4 => ?_
          obtain ⟨v', s5, e5, k5⟩ := po_lift p4
          exact ⟨ρ4, s4, y, u, v', s5, r4, (hy.mono e3).mono ext4, hu, e5, k5⟩
theorem ce_chain (ho : OpR X (compareOp op) (rO T f)) (ho' : OpR X (compareOp op') (rO T f')) (ha : PE X a (tE T W ma)) (hb : PE X b (tE T W mb)) (hc : PE X c (tE T W mc)) (hm : lastMarks [op, op'] [b, c] = false := by with_unfolding_all rfl) :
    PE X (.Compare a [op, op'] [b, c] pos) (tE T W (eChain f f' ma mb mc)) := pe_mono (pe_chain ho ho' ha hb hc hm) fun _ _ _ h => chain_le h
theorem ct_chain (ho : OpR X (compareOp op) (rO T f)) (ho' : OpR X (compareOp op') (rO T f')) (ha : PE X a (tE T W ma)) (hb : PE X b (tE T W mb)) (hc : PE X c (tE T W mc)) (hm : lastMarks [op, op'] [b, c] = false := by with_unfolding_all rfl) :
    PT X (.Compare a [op, op'] [b, c] pos) (tT T W (tVal (eChain f f' ma mb mc))) := pt_mono (pt_chain ho ho' ha hb hc hm) fun _ _ _ h => chain_le (tval_le h)
end
/-! ### isinstance(x, T) -/
def tyN (x : Vl) (s : Sto) : Option String := match x with
  | .non => some "NoneType"
  | .bl _ => some "bool"
  | .int _ => some "int"
  | .str _ => some "str"
  | .tup _ => some "tuple"
  | .ref j => match s[j]? with
    | some (.lst _) => some "list"
    | some (.dic _) => some "dict"
    | some (.dit _) => some "dict"
    | _ => none
  | _ => none
def isB (t n : String) : Option Bool :=
  if n = "int" then (if t = "int" ∨ t = "bool" then some true else some false)
  else if n = "bool" ∨ n = "str" ∨ n = "tuple" ∨ n = "list" ∨ n = "dict" then some (decide (t = n)) else none
def oIsi : OC
  | [x, .ty n], s => match tyN x s with
    | some t => match isB t n with
      | some b => some (.bl b, s)
      | none => none
    | none => none
  | _, _ => none
theorem isB_ok {t n : String} {b : Bool} (ht : t ∈ ["NoneType", "bool", "int", "str", "tuple", "list", "dict"]) (h : isB t n = some b) : kitB t n = some b := by
  have hn : n ∈ ["int", "bool", "str", "tuple", "list", "dict"] := by
    unfold isB at h
    split at h
    · rename_i q; subst q; simp
    · split at h
      · rename_i q; simp only [List.mem_cons, List.not_mem_nil, or_false]; exact .inr q
      · cases h
  have all : ∀ t ∈ ["NoneType", "bool", "int", "str", "tuple", "list", "dict"], ∀ n ∈ ["int", "bool", "str", "tuple", "list", "dict"], kitB t n = isB t n := by decide +kernel
  rw [all t ht n hn]; exact h
section
variable {X : Cx} {T : Tb} {W : WX}
theorem tyN_ok {ρ : List Addr} {H : Hp} {s : Sto} {x : Vl} {z : V} {t : String} (r : Rel T ρ H s) (hz : RV T ρ H x z) (h : tyN x s = some t) : TyX T.K H z (.type t) ∧ t ∈ ["NoneType", "bool", "int", "str", "tuple", "list", "dict"] := by
  unfold tyN at h
  cases x with
  | non => cases h; rw [hz.nonE]; exact ⟨.base .non, by simp⟩
  | bl b => cases h; rw [hz.blE]; exact ⟨.base (.bl b), by simp⟩
  | int i => cases h; rw [hz.intE]; exact ⟨.base (.int i), by simp⟩
  | str y => cases h; rw [hz.strE]; exact ⟨.base (.str y), by simp⟩
  | tup xs =>
    cases h
    obtain ⟨a, vs, rfl, h1, h2⟩ := hz.tupE
    refine ⟨?_, by simp⟩
    rcases h1 with (h1 | ⟨o, h1⟩) | h1
    · exact .base (.tup h1)
    · exact .fTuple h1
    · obtain ⟨o, items, n, k1, k2, k3⟩ := h1
      exact .kTuple k1 k2
  | ref j =>
    obtain ⟨a, rfl, ha⟩ := hz.refE
    simp only at h
    split at h
    · rename_i xs hj
      cases h
      obtain ⟨vs, h1, _⟩ := r.lst hj ha
      exact ⟨.base (.lst h1), by simp⟩
    · rename_i xs hj
      cases h
      obtain ⟨vs, h1, _⟩ := r.dic hj ha
      exact ⟨.base (.dK h1), by simp⟩
    · rename_i xs hj
      cases h
      obtain ⟨vs, h1, _⟩ := r.ob j a _ ha hj
      exact ⟨.base (.dT h1), by simp⟩
    · cases h
  | scr ns => cases h
  | ty n => cases h
  | fn i => cases h
theorem c_isi (hK : X.K = T.K := by rfl) : CallR X (.builtin "isinstance") (rC T oIsi) := CallR.imp call_isi fun xs H Q q => by
  obtain ⟨ρ, st, as, w, s', r, ha, e, k⟩ := q
  unfold oIsi at e
  split at e
  · split at e
    · rename_i x n _ t ht
      split at e
      · rename_i b hb
        cases e
        obtain ⟨z, y, rfl, hz, hy⟩ := ha.two
        cases hy
        obtain ⟨h1, h2⟩ := tyN_ok r hz ht
        exact ⟨z, _, _, _, b, rfl, .ty n, by rw [hK]; exact h1, kit_ty (isB_ok h2 hb), k.here r (.bl b)⟩
      · cases e
    · cases e
  · cases e
theorem ce_ty {x : Str} {n : String} {pos : Pos} (hg : Gl X x) (hm : X.mg x = none) (hv : bootBuiltins x = some (.type n)) (hn : x ≠ "__name__" := by decide) (hdb : (x == ("__debug__" : Str)) = false := by decide) : PE X (.Name x pos) (tE T W (eC (.ty n))) :=
  ce_of (z := .ty n) (pe_bltn hg hm hv rfl hn hdb) fun _ _ => .ty n
end
/-! ### d.get(k), d.get(k, x), d.setdefault(k, x) -/
def isDic (j : Nat) (s : Sto) : Bool := match s[j]? with
  | some (.dic _) => true
  | _ => false
def eDGet1 (d k : EM) : EM := fun lo => bnd (d lo) fun x s => match x with
  | .ref j => if isDic j s then bnd (k lo) (fun y s => match s[j]?, keyOf y with
    | some (.dic kvs), some key => .ok ((look kvs key).getD .non) s
    | _, _ => .fail) s else .fail
  | _ => .fail
def eDGet2 (d k v : EM) : EM := fun lo => bnd (d lo) fun x s => match x with
  | .ref j => if isDic j s then bnd (k lo) (fun y => bnd (v lo) fun z s => match s[j]?, keyOf y with
    | some (.dic kvs), some key => .ok ((look kvs key).getD z) s
    | _, _ => .fail) s else .fail
  | _ => .fail
def eDSet (d k v : EM) : EM := fun lo => bnd (d lo) fun x s => match x with
  | .ref j => if isDic j s then bnd (k lo) (fun y => bnd (v lo) fun z s => match s[j]?, keyOf y with
    | some (.dic kvs), some key => if kvs.length < LIM then (match look kvs key with
      | some w => .ok w s
      | none => .ok z (s.set j (.dic (put kvs key z)))) else .fail
    | _, _ => .fail) s else .fail
  | _ => .fail
theorem put_none {κ : Type} [DecidableEq κ] {k : κ} {v : Vl} : ∀ {kvs : List (κ × Vl)}, look kvs k = none → put kvs k v = kvs ++ [(k, v)]
  | [], _ => rfl
  | p :: r, h => by
    unfold look at h
    split at h
    · cases h
    · rename_i q
      unfold put
      rw [if_neg q, put_none h]
      rfl
section
variable {X : Cx} {T : Tb} {W : WX} {o e f : Expr} {apos cpos : Pos} {md mk mv : EM}
theorem isDic_ok {ρ : List Addr} {H : Hp} {s : Sto} {j : Nat} {a : Addr} (r : Rel T ρ H s) (ha : ρ[j]? = some a) (h : isDic j s = true) : IsD H a := by
  unfold isDic at h
  split at h
  · rename_i kvs hj
    obtain ⟨vs, h1, _⟩ := r.dic hj ha
    exact .inl ⟨vs, .inl h1⟩
  · cases h
theorem ce_dget2 (hu : X.A.units + 1 < cLine) (ho : PE X o (tE T W md)) (he : PE X e (tE T W mk)) (hf : PE X f (tE T W mv)) (m : M2 X o "get" apos e f cpos) : PE X (.Call (.Attribute o "get" apos) [e, f] [] cpos) (tE T W (eDGet2 md mk mv)) :=
  pe_mono (pe_dget2 hu ho he hf m) fun σ H Q h => tG_bnd (R := RV T) h fun ρ s lo x z H1 r rl hx p => by
    cases x <;> try exact p.elim
    rename_i j
    obtain ⟨a, rfl, ha⟩ := hx.refE
    simp only at p
    split at p
    · rename_i hd
      refine ⟨a, rfl, isDic_ok r ha hd, po_bnd (R := RV T) (m := mk) r rl p fun ρ' s' y w H' ext r' rl' hy p' => po_bnd (R := RV T) (m := mv) r' rl' p' fun ρ2 s2 dv w2 H2 ext2 r2 rl2 hd2 p2 => ?_⟩
      split at p2
      · rename_i kvs key hj hk
        obtain ⟨vs, h1, h2, h3⟩ := r2.dic hj (ext2.pre _ _ (ext.pre _ _ ha))
        have ey := keyOf_ok (hy.mono ext2) hk
        subst ey
        refine ⟨_, DGet.k h1, ?_⟩
        obtain ⟨q1, q2⟩ := look_ok (k := key) h2 h3
        cases q : look kvs key with
        | none => rw [q1 q]; rw [q] at p2; exact p2 ρ2 H2 _ .refl r2 hd2
        | some v => obtain ⟨z, hz, hv⟩ := q2 v q; rw [hz]; rw [q] at p2; exact p2 ρ2 H2 _ .refl r2 hv
      · exact p2.elim
    · exact p.elim
end
end Sm

/-! S26: len of own objects, dict(list of pairs), min and max of a list of ints -/
namespace Sm
open PySem L2 PySem.W
section
variable {prog : Program} {w : World} {A : Around} {E : Value → Shared → Prop} {s : Shared} {K : Frag} {x C f : Addr} {ox : Obj} {od : Option Obj}
end
structure LenO (K : PySem.W.Frag) (C f : Addr) : Prop where
  at_ : PySem.W.findIn K (.ref C) "__len__" = some (some (.ref f))
  fn : PySem.W.isFn K (.ref f) = true
def eLenO (tab : MTab) (o : EM) : EM := fun lo => bnd (o lo) fun x s => match x with
  | .ref j => match s[j]? with
    | some (.ins c fs) => match tab c with
      | some mf => match mf [.ref j] s with
        | .ok (.int n) s' => if 0 ≤ n ∧ n < 2 ^ 62 then .ok (.int n) s' else .fail
        | .exc e s' => .exc e s'
        | _ => .fail
      | none => .fail
    | _ => .fail
  | _ => .fail
def LenOk (X : Cx) (T : Tb) (k : Nat) (tab : MTab) : Prop := ∀ c mf, tab c = some mf → ∀ C, T.cl[c]? = some C → ∃ (f : Addr) (fd : FuncData) (ps : List Str), LenO T.K C f ∧ FnG X.prog X.w X.K X.mg X.base k f fd ps (SpM T 1 mf) ∧ Binds X.K fd ps []
section
variable {X : Cx} {T : Tb} {W : WX} {k : Nat} {p pos : Pos} {o : Expr} {mo : EM}
end
/-! ### dict(list of pairs), min, max -/
def asPr : Vl → Option (Key × Vl)
  | .tup [k, v] => match keyOf k with
    | some key => some (key, v)
    | none => none
  | _ => none
def oDictP : OC
  | [x], s => match lstOf x s with
    | some xs => match mapO asPr xs with
      | some kvs => some (.ref s.length, s ++ [.dic (mergeP [] kvs)])
      | none => none
    | none => none
  | _, _ => none
section
variable {X : Cx} {T : Tb}
end
end Sm

/-! S27: enumerate(tuple); min and max of a list of ints -/
namespace Sm
open PySem L2 PyProof.Rows
open AutoSeq1 (wpAny_loadPart')
section
variable {prog : Program} {w : World} {A : Around} {E : Value → Shared → Prop} {s : Shared}
end
def IteT (K : PySem.W.Frag) (a : Addr) (n : Nat) : It where
  go := fun i H => ∃ (xs : List V) (x : V), SqT K H a xs ∧ xs[i]? = some x ∧ xs.length = n
  yld := fun i H v H' => ∃ T x, v = .ref T ∧ H T = none ∧ H' = upd H T (.tup [.int (i : Nat), x]) ∧ ∀ xs, SqT K H a xs → xs[i]? = some x
  stop := fun i H => ∃ xs : List V, SqT K H a xs ∧ xs.length = n ∧ n ≤ i
theorem IsTup.tuple {h : Heap} {a : Addr} {its : Array Value} (x : IsTup h a its) : h.IsTuple a its := x
def iEnumT (K : PySem.W.Frag) (ta : TA) : TI := fun σ H R => ta σ H fun vs H1 => ∃ a xs, vs = [.ref a] ∧ SqT K H1 a xs ∧ R (IteT K a xs.length) H1
/-! ### its reading -/
def enmL (xs : List Vl) : List Vl := xs.zipIdx.map fun p => .tup [.int (p.2 : Nat), p.1]
def aEnm (e : AM) : AM := fun lo => bnd (e lo) fun as => match as with
  | [.tup xs] => ret (enmL xs)
  | _ => failM
section
variable {X : Cx} {T : Tb} {W : WX} {p pos : Pos}
end
/-! ### min, max of a list of ints -/
def maxL : List Int → Int
  | [] => 0
  | [x] => x
  | x :: xs => max x (maxL xs)
def minL : List Int → Int
  | [] => 0
  | [x] => x
  | x :: xs => min x (minL xs)
def oMaxL : OC
  | [x], s => match lstOf x s with
    | some xs => match mapO asInt xs with
      | some ns => if 0 < ns.length then some (.int (maxL ns), s) else none
      | none => none
    | none => none
  | _, _ => none
def oMinL : OC
  | [x], s => match lstOf x s with
    | some xs => match mapO asInt xs with
      | some ns => if 0 < ns.length then some (.int (minL ns), s) else none
      | none => none
    | none => none
  | _, _ => none
section
variable {X : Cx} {T : Tb}
end
end Sm

/-! S28: defs with defaults -/
namespace Sm
open PySem PySem.Spec PyProof.Rows L2
/-- how it binds where the last parameters are not given -/
structure BindD (K : PySem.W.Frag) (fd : FuncData) (ps : List Str) (das : List Vl) : Prop where
  ex : ∃ (ds : List Value) (dvs : List V), Vals dvs ds ∧ Binds K fd ps ds ∧ ∀ (T : Tb) (ρ : List Addr) (H : Hp), T.K = K → RVs T ρ H das dvs
def dflM (n : Nat) (das : List Vl) (mf : List Vl → M Vl) : List Vl → M Vl := fun as s => if as.length + das.length = n then mf (as ++ das) s else .fail
section
variable {X : Cx} {T : Tb} {W : WX} {k : Nat} {f : Addr} {mf : List Vl → M Vl} {x : Str} {p pos : Pos} {e : Expr} {es : List Expr} {ma : AM}
end
end Sm

/-! S31: a list unpacked into targets -/
namespace Sm
open PySem L2
def gUl (gs : List GM) : GM := fun v lo s => match v with
  | .ref j => match s[j]? with
    | some (.lst xs) => match gAll gs xs lo s with
      | some (lo', s') => .ok lo' s'
      | none => .fail
    | _ => .fail
  | _ => .fail
section
variable {X : Cx} {T : Tb} {W : WX} {es : List Expr} {gs : List GM} {pos : Pos} {kk : Nat}
end
end Sm

/-! S34: f-strings, x or y of lists, split() -/
namespace Sm
open PySem L2
/-- {x}: a text or an int -/
def fmtM (x : Vl) : M Vl := fun s => match x with
  | .str y => if y.length ≤ LIM then .ok (.str y) s else .fail
  | .int i => if i.natAbs.log2 < 1920 then .ok (.str (Str.ofString (toString i))) s else .fail
  | _ => .fail
def eFmt (m : EM) : EM := fun lo => bnd (m lo) fmtM
/-- the parts of a text one behind the other -/
def jnd : List EM → Str → EM
  | [], acc => fun _ => ret (.str acc)
  | m :: ms, acc => fun lo => bnd (m lo) fun x s => match x with
    | .str y => if (acc ++ y).length ≤ LIM then jnd ms (acc ++ y) lo s else .fail
    | _ => .fail
def eJnd (ms : List EM) : EM := jnd ms Str.empty
/-- x or y, x a list -/
def eOrL (a b : EM) : EM := fun lo => bnd (a lo) fun x s => match lstOf x s with
  | some xs => if xs.isEmpty = true then b lo s else .ok x s
  | none => .fail
/-- x.split() -/
def oSplit0 : OMt
  | .str a, [], s => if a.length + 2 ≤ LIM then some (.ref s.length, s ++ [.lst ((Txt.words a).map Vl.str)]) else none
  | _, _, _ => none
/-- str(x): texts, ints, tuples -/
def oStrD : OC
  | [.str y], s => some (.str y, s)
  | [.int i], s => if i.natAbs.log2 < 1920 then some (.str (Str.ofString (toString i)), s) else none
  | [.tup xs], s => match toD 40 s (.tup xs) with
    | some d => if d.showable && decide (d.shown.length ≤ LIM) then some (.str d.shown, s) else none
    | none => none
  | _, _ => none
section
variable {X : Cx} {T : Tb} {W : WX} {a b e : Expr} {ma mb m : EM} {pos : Pos} {rest es : List Expr} {ms : List EM}
theorem m_split0 : MtR X "str.split" (rMt T oSplit0) := MtR.imp mt_words fun x xs H Q q => by
  obtain ⟨ρ, st, a, as, w, s', r, ha, hs, e, k⟩ := q
  unfold oSplit0 at e
  split at e
  · split at e
    · rename_i hl
      cases e
      cases ha
      cases hs
      refine ⟨_, rfl, rfl, by rw [lim_eq]; exact hl, fun p hp => ?_⟩
      exact k.lst r (RVs.strs _) hp
    · cases e
  · cases e
end
end Sm

/-! S42: own exceptions with one field: raise C(e) -/
namespace Sm
section
open PySem PySem.W PySem.Calls PyProof.Rows PySem.HandSPX Builtin Builtin.ObjectAttr
variable {prog : Program} {w : World} {A : Around} {R : Result → Shared → Prop} {hp : Heap} {g : Array GenState} {d : Drawn} {t : Nat} {os : OsState}
/-- the first field of an exception of any base -/
theorem ox_store {K : W.Frag} {nm : Str} {tk : Tok} {v : Value} {e C : Addr} {fv : Array Value} {cd : ClassData} (kin : K.In hp) (he : hp.get? e = some { cls := .ref C, data := .fields fv }) (hcd : W.clsIn K C = some cd) (hob : cd.mro.contains (.type "object") = true)
    (pass : ∀ z : Value, refuseLoop z "__setattr__" cd.mro = pure ()) (hdict : cd.hasDict = true) (hnone : W.findIn K (.ref C) nm = some none)
    (fin : ∀ h' tk' dx, (∀ b o, b ≠ e → hp.get? b = some o → h'.get? b = some o) → hp.objs.size ≤ dx → dx ≠ e → h'.get? e = some { cls := .ref C, dict := some dx, data := .fields fv } → h'.Ns1 dx (fun y => if y = nm then some v else none) → R (.ok (.ret .none)) ⟨h', g, d, tk', os⟩) :
    codeAny (model prog w) A (.call (.builtin "object.__setattr__") ⟨[.ref e, .str nm tk, v], []⟩) R ⟨hp, g, d, t, os⟩ := by
  have inst : W.InstAt hp e { cls := .ref C, data := .fields fv } C none := ⟨he, rfl, rfl, trivial⟩
  have sf := F.store_object
  have nemp : cd.mro.isEmpty = false := by
    cases q : cd.mro with
    | nil => rw [q] at hob; simp at hob
    | cons _ _ => rfl
  have apart : e ≠ hp.objs.size := Nat.ne_of_lt (Heap.lt_size he)
  have isob : W.Looks (model prog w) hp (isInstance (.ref e) (.type "object")) true := inst.type.andThen (W.looks_mroIn kin (by unfold W.mroIn; rw [hcd, Option.bind_some, if_neg (by rw [nemp]; decide), hob]))
  refine codeAny_call_builtin sf.slot.plain sf.entry (@W.check_slot (model prog w) _ _ ⟨hp, g, d, t, os⟩ "object.__setattr__" "object" "__setattr__" (.ref e) [.str nm tk, v] [] _ sf.kind sf.split isob (sf.args (.ref e) (.str nm tk) v) ?_)
  have lm : W.Looks (model prog w) hp (mroOf (.ref C)) cd.mro := (W.looks_clsIn kin hcd).andThen .now
  have lt : W.Looks (model prog w) hp (storeTaker? none) none := .now
  have lc : W.Looks (model prog w) hp (classData C) cd := W.looks_clsIn kin hcd
  rw [W.osa_eq, refuse_eq]
  refine wpAny_bind (wpAny_bind (inst.type.at (wpAny_bind (lm.at ?_))))
  rw [pass]
  refine wpAny_pure (wpAny_bind (inst.type.at (wpAny_bind ((W.looks_findIn kin hnone).at (wpAny_bind (lt.at ?_))))))
  show wpAny _ _ (storeInOwnDict (.ref e) (.ref C) (.str nm tk) nm v false) _ _ _
  obtain ⟨nm', bs, mro, ns, qn, hd, sn, sb, ab, col, del⟩ := cd
  dsimp only at hdict
  subst hdict
  unfold storeInOwnDict ownDictForStores
  repeat (first | with_reducible refine store_in_new ?_ ?_ | with_reducible refine wpAny_loadPart_at he ?_ | with_reducible refine lc.at ?_ | wp_step)
  · exact ⟨_, #[], _, (Heap.get?_update_ne _ _ _ _ apart.symm).trans (Heap.get?_push_at rfl rfl), rfl, fun z hz => absurd hz (by simp), fun _ => rfl⟩
  · intro h' tk' hn' hs
    have he1 : (hp.push { cls := .type "dict", data := .dict #[] }).get? e = some { cls := .ref C, data := .fields fv } := Heap.get?_push_of_some _ he
    refine fin h' tk' hp.objs.size (fun b o hb ho => ?_) (Nat.le_refl _) apart.symm ?_ hn'
    · exact (hs.2 b (Nat.ne_of_lt (Heap.lt_size ho))).trans ((Heap.get?_update_ne _ _ _ _ hb).trans (Heap.get?_push_of_some _ ho))
    · exact (hs.2 e apart).trans (Heap.get?_update_self _ he1 rfl)
/-- what the written part says of the class x at C and of its __init__ at fI: def __init__(self, par): self.fld = par -/
structure OxT (K : W.Frag) (mg : Str → Option Value) (x fld : Str) (C fI : Addr) : Prop where
  gC : mg x = some (.ref C)
  cls : ∃ (B newId initId : String) (bmB : List Value) (nm q : Str) (N : Addr) (bs bm : List Value) (sn : List Str) (sub : List Value) (ab : Bool) (col : Option Bool) (dd : Option Addr) (k0 k1 k2 k3 k5 : Option Value), ExcBaseFacts B newId initId bmB ∧
    K.lookup C = some (excClassObj nm q C N bs bm true sn sub ab col dd k0 k1 k2 k3 k5 newId) ∧ (∀ Y : String, bm.contains (.type Y) = bmB.contains (.type Y)) ∧ (∀ v : Value, refuseLoop v "__setattr__" (.ref C :: bm) = pure ()) ∧ bm.contains (.type "object") = true
  sa : W.findIn K (.ref C) "__setattr__" = some (some (.builtin "object.__setattr__"))
  ga : W.findIn K (.ref C) "__getattribute__" = some (some (.builtin "BaseException.__getattribute__"))
  gg : W.findIn K (.ref C) "__getattr__" = some none
  noN : W.findIn K (.ref C) fld = some none
  iC : W.findIn K (.ref C) "__init__" = some (some (.ref fI))
  tI : W.typeIn K (.ref fI) = some (.type "function")
  kC : W.keepIn K (.ref C) = true
  exC : W.subIn K (.ref C) (.type "BaseException") = some true
  tyC : W.typeIn K (.ref C) = some (.type "type")
  hdC : W.hasDictIn K C = true
  fn : ∃ (qual par : Str) (st : Stmt) (fd : FuncData) (q1 q2 q3 q4 : Pos), L2.Fun K "__init__" qual st fI fd ∧ L2.Binds K fd ["self", par] [] ∧ L2.defBody st = [.Assign [.Attribute (.Name "self" q1) fld q2] (.Name par q3) q4] ∧
    (L2.defScope st).names.lookup (Str.ofString "self") = some NameKind.local ∧ (L2.defScope st).names.lookup par = some NameKind.local ∧ par ≠ "self" ∧ (par == ("__debug__" : Str)) = false ∧ (L2.defScope st).isCoroutine = false ∧ (L2.defScope st).isGenerator = false ∧ (L2.defScope st).kind = .function
end
section
open PySem PySem.W PySem.Calls PySem.Spec PyProof.Rows PySem.HandSPX L2
variable {prog : Program} {w : World} {A : Around} {E : Value → Shared → Prop} {R : Result → Shared → Prop} {s : Shared} {K : W.Frag} {mg : Str → Option Value} {C fI : Addr} {x fld : Str}
/-- what __init__ leaves of a fresh exception at e -/
structure OxEnd (fld : Str) (h h' : Heap) (e C dx t1 : Addr) (v : Value) : Prop where
  keep : ∀ b o, b ≠ e → h.get? b = some o → h'.get? b = some o
  obj : h'.get? e = some { cls := .ref C, dict := some dx, data := .fields #[.ref t1, .none, .none, .none, .bool false, .none] }
  big : h.objs.size ≤ dx
  ne : dx ≠ e
  ns : h'.Ns1 dx (fun y => if y = fld then some v else none)
/-- a made exception -/
structure OxMade (fld : Str) (h h' : Heap) (e C d : Addr) (v : Value) : Prop where
  keep : ∀ b o, h.get? b = some o → h'.get? b = some o
  new : h.objs.size ≤ e
  obj : ∃ oe vs, h'.get? e = some oe ∧ oe.cls = .ref C ∧ oe.dict = some d ∧ oe.data = .fields vs ∧ vs[1]? = some .none ∧ vs[2]? = some .none
  big : h.objs.size ≤ d
  ne : d ≠ e
  ns : h'.Ns1 d (fun y => if y = fld then some v else none)
end
section
open PySem PySem.Spec PyProof.Rows L2
variable {X : Cx} {T : Tb} {W : WX} {C fI : Addr} {x fld : Str} {a : Expr} {me : EM} {p pos pos2 : Pos} {k c : Nat}
def tMkX (C : Addr) (fld : Str) (ta : TA) : L2.St → Hp → XK → Prop := fun σ H Q => ta σ H fun vs H1 => ∃ v, vs = [v] ∧ ∀ d, H1 d = none → Q (.ref C) (some d) (upd H1 d (.xd [(fld, v)]))
/-- raise C(e): the class's index, the field -/
def sRaise (c : Nat) (fld : Str) (e : EM) : SM := bndS e fun lo v s => .exc ⟨c, some [(fld, v)]⟩ lo s
end
end Sm

/-! S43: try .. except C as n; what runs in such a suite -/
namespace Sm
open PySem PySem.Spec PyProof.Rows L2 L2H
/-- the same table, with other handled exceptions -/
abbrev Tb.on (T : Tb) (l : List XI) : Tb := ⟨T.K, T.w, T.cl, T.fns, l⟩
section
variable {T : Tb} {l : List XI} {ρ ρ' : List Addr} {H H' : Hp} {s : Sto} {lo : Lo} {σ : L2.St}
mutual
theorem RV.on : ∀ {x : Vl} {v : V}, RV T ρ H x v → RV (T.on l) ρ H x v
  | _, _, .non => .non
  | _, _, .bl b => .bl b
  | _, _, .int i => .int i
  | _, _, .str x => .str x
  | _, _, .tup h hs => .tup h (RVs.on hs)
  | _, _, .ref h => .ref h
  | _, _, .scr h => .scr h
  | _, _, .scrK h => .scrK h
  | _, _, .ty n => .ty n
  | _, _, .fn h => .fn h
theorem RVs.on : ∀ {xs : List Vl} {vs : List V}, RVs T ρ H xs vs → RVs (T.on l) ρ H xs vs
  | _, _, .nil => .nil
  | _, _, .cons h hs => .cons (RV.on h) (RVs.on hs)
end
theorem RO.on {o : Ob} {a : Addr} (h : RO T ρ H o a) : RO (T.on l) ρ H o a := by
  cases o with
  | lst xs => obtain ⟨vs, h, r⟩ := h; exact ⟨vs, h, r.on⟩
  | dic xs => obtain ⟨vs, h, n, r⟩ := h; exact ⟨vs, h, n, r.on⟩
  | dit xs => obtain ⟨vs, h, n, r⟩ := h; exact ⟨vs, h, n, r.on⟩
  | fdic xs => obtain ⟨o, vs, h, n, r⟩ := h; exact ⟨o, vs, h, n, r.on⟩
  | set xs => obtain ⟨n, S, q, h⟩ := h; exact ⟨n, S, q, h⟩
  | ins c xs => obtain ⟨C, dx, vs, hc, h, n, r⟩ := h; exact ⟨C, dx, vs, hc, h, n, r.on⟩
theorem Rel.on (r : Rel T ρ H s) : Rel (T.on l) ρ H s := ⟨r.len, r.nd, fun i a o h1 h2 => (r.ob i a o h1 h2).on⟩
theorem Ext.on (e : Ext T ρ H ρ' H') : Ext (T.on l) ρ H ρ' H' := ⟨⟨e.pre, e.tup, e.frz, e.xd⟩, e.frd⟩
theorem RL.enter {i : Nat} {a d : Addr} {ns : List Str} {xs : List Vl} {vs : List (Str × V)} (rl : RL T ρ H lo σ) (hd : H d = some (.xd vs)) (hn : vs.map (·.1) = ns) (hv : RVs T ρ H xs (vs.map (·.2))) :
    RL (T.on [⟨i, a, d, ns, xs⟩]) ρ H (lo.set i none) (σ.set i (some (.ref a))) := by
  refine ⟨by rw [List.length_set, List.length_set]; exact rl.len, fun j x h => ?_, fun p hp h => ?_⟩
  · by_cases e : i = j
    · subst e
      by_cases hi : i < lo.length
      · rw [List.getElem?_set_self hi] at h; cases h
      · rw [List.getElem?_eq_none (by rw [List.length_set]; omega)] at h; cases h
    · rw [List.getElem?_set_ne e] at h ⊢
      obtain ⟨v, h1, h2⟩ := rl.at_ j x h
      exact ⟨v, h1, h2.on⟩
  · simp at hp
    subst hp
    have hi : i < lo.length := by
      have := (List.getElem?_eq_some_iff.mp h).1
      rw [List.length_set] at this
      exact this
    exact ⟨List.getElem?_set_self (by rw [← rl.len]; exact hi), vs, hd, hn, hv.on⟩
theorem RL.leave {i : Nat} (hx : T.xs = []) (rl : RL (T.on l) ρ H lo σ) : RL T ρ H (lo.set i none) (σ.set i none) := by
  refine ⟨by rw [List.length_set, List.length_set]; exact rl.len, fun j x h => ?_, fun p hp => by rw [hx] at hp; simp at hp⟩
  by_cases e : i = j
  · subst e
    by_cases hi : i < lo.length
    · rw [List.getElem?_set_self hi] at h; cases h
    · rw [List.getElem?_eq_none (by rw [List.length_set]; omega)] at h; cases h
  · rw [List.getElem?_set_ne e] at h ⊢
    obtain ⟨v, h1, h2⟩ := rl.at_ j x h
    exact ⟨v, h1, h2.on (l := T.xs)⟩
end
/-- try: b; except C as n: su; n's slot is i -/
def sTryAs (hit : Nat → Option Bool) (i : Nat) (b : SM) (su : Ex → SM) : SM := fun lo s => match b lo s with
  | .exc e lo' s' => match hit e.c with
    | some true => match e.fs with
      | some _ => match su e (lo'.set i none) s' with
        | .nx lo2 s2 => .nx (lo2.set i none) s2
        | .rt v s2 => .rt v s2
        | .bk lo2 s2 => .bk (lo2.set i none) s2
        | .ct lo2 s2 => .ct (lo2.set i none) s2
        | _ => .fail
      | none => .fail
    | some false => .exc e lo' s'
    | none => .fail
  | r => r
section
variable {X : Cx} {T : Tb} {W : WX} {x n : Str} {Cc : Addr} {i : Nat} {body suite : List Stmt} {b0 : Stmt} {np pos pos' : Pos} {mb : SM} {su : Ex → SM} {hit : Nat → Option Bool}
def tSuite (T : Tb) (i : Nat) (hit : Nat → Option Bool) (su : Ex → SM) : Addr → Value → Option Addr → TS := fun a cls d D σ H => ∃ (e : Ex) (C dd : Addr) (fs : List (Str × Vl)), cls = .ref C ∧ d = some dd ∧ e.fs = some fs ∧ T.cl[e.c]? = some C ∧ hit e.c = some true ∧
  tS (T.on [⟨i, a, dd, fs.map (·.1), fs.map (·.2)⟩]) WF (su e) D σ H
/-- n.f in the suite: the field of the handled exception -/
def eXf (i : Nat) (e : Ex) (f : Str) : EM := fun lo s => match lo[i]?, e.fs with
  | some none, some fs => match getS fs f with
    | some v => .ok v s
    | none => .fail
  | _, _ => .fail
end
end Sm

/-! S44: defs and methods called while an exception is handled -/
namespace Sm
open PySem PySem.Spec PyProof.Rows L2 L2H
/-- the methods m of the classes of tab, where an exception is handled -/
def MethOkH (X : Cx) (T : Tb) (m : Str) (k n : Nat) (tab : MTab) : Prop := ∀ c mf, tab c = some mf → ∀ C, T.cl[c]? = some C → ∃ (f : Addr) (fd : FuncData) (ps : List Str), Cls T.K C ∧ Meth T.K C m f ∧ FnH X.prog X.w X.K X.mg X.base (L2N.CX X.prog X.w) k f fd ps (SpM T (n + 1) mf) ∧ Binds X.K fd ps []
section
variable {X : Cx} {T : Tb} {l : List XI} {W : WX} {o : Expr} {apos pos : Pos} {mo : EM} {E : XK} {ρ : List Addr} {H : Hp} {Q : VK}
end
end Sm

/-! S45: super().__init__(..) at the begin of a def -/
namespace Sm
open PySem PySem.Spec PyProof.Rows L2
/-- the context of a def that closes over __class__ -/
def cxS (CX : CXT) (P : Program) (w : World) (K : PySem.W.Frag) (mg : Str → Option Value) (base : Heap) (N : List Str) (qual : Str) (scope : Scope) (f : Addr) (cd : Value) (cc : Addr) (A : Around) (outer : List Env) (s : Shared) (H : Hp) (E : XK) : Cx where
  prog := P
  w := w
  K := K
  mg := mg
  base := base
  A := A.deeper (PySem.W.ksEnv qual scope s.heap.objs.size f cd cc)
  N := N
  s_0 := s
  H_0 := H
  env := PySem.W.ksEnv qual scope s.heap.objs.size f cd cc
  outer := outer
  stack := PySem.W.ksEnv qual scope s.heap.objs.size f cd cc :: outer
  ex := []
  calm := true
  fn := fun y => y != "__class__"
  pn := []
  xe := fun e s' => wpAny (model P w) (A.deeper (PySem.W.ksEnv qual scope s.heap.objs.size f cd cc)) (leaving (PySem.W.ksEnv qual scope s.heap.objs.size f cd cc) e) (fun _ s'' => CX outer H s E e s'') (fun e' s'' => CX outer H s E e' s'') s'
structure FnScopeS (N P : List Str) (sc : Scope) : Prop where
  kind : sc.kind = .function
  co : sc.isCoroutine = false
  gen : sc.isGenerator = false
  nd : N.Nodup
  pre : N.take P.length = P
  par : ∀ x ∈ P, sc.names.lookup x = some .local
  nocell : ∀ y ∈ sc.names, y.2 ≠ .cell
  free : ∀ y ∈ sc.names, y.2 = .free → y.1 = "__class__"
  sup : sc.names.lookup (Str.ofString "super") = some NameKind.globalImplicit
  cls : sc.names.lookup (Str.ofString "__class__") = some NameKind.free
/-- super().__init__(..): the next __init__ behind D in the class's order; self in slot 0 -/
def eSup (tab : MTab) (a : AM) : EM := fun (lo : Lo) (s : Sto) => match (lo[0]? : Option (Option Vl)) with
  | some (some (.ref j)) => match s[j]? with
    | some (.ins c _) => match tab c with
      | some mf => bnd (a lo) (fun as => mf (.ref j :: as)) s
      | none => .fail
    | _ => .fail
  | _ => .fail
/-- the __init__ behind D of the classes of tab -/
def SupOk (P : Program) (w : World) (K : PySem.W.Frag) (mg : Str → Option Value) (base : Heap) (T : Tb) (D : Addr) (k n : Nat) (tab : MTab) : Prop := ∀ c mf, tab c = some mf → ∀ C, T.cl[c]? = some C → ∃ (f : Addr) (fd : FuncData) (ps : List Str),
  PySem.W.mroIn K C (.ref D) = some true ∧ PySem.W.ks_superIn K C D "__init__" = some (some (.ref f)) ∧ PySem.W.typeIn K (.ref f) = some (.type "function") ∧ PySem.W.fnIn K f = true ∧ FnG P w K mg base k f fd ps (SpM T (n + 1) mf) ∧ Binds K fd ps []
/-- what the written part says of such a def -/
structure FunS (K : PySem.W.Frag) (mg : Str → Option Value) (qual file : Str) (st : Stmt) (f : Addr) (fd : FuncData) (D cc cda : Addr) : Prop where
  ex : ∃ (oc : Value) (od : Option Addr) (kV doc pm : Value) (an : Option Addr) (ct : Value) (osl : Array (Option Value)),
    fd = PySem.W.ksFn "__init__" qual (defArgs st) (defBody st) (defScope st) .none kV doc pm an (.ref cda) ct cc ∧ K.lookup f = some ⟨oc, od, .func fd, osl⟩ ∧ PySem.W.codeIn K (.ref cda) qual = true
  kp : PySem.W.keepIn K (.ref f) = true
  code : ∃ (ccl : Value) (cdd : Option Addr) (vs : Array Value) (ccs : Array (Option Value)) (tf : Tok), K.lookup cda = some ⟨ccl, cdd, .fields vs, ccs⟩ ∧ vs[2]? = some (.str file tf)
  cell : ∃ (cl : Value) (cld : Option Addr) (csl : Array (Option Value)), K.lookup cc = some ⟨cl, cld, .cell (some (.ref D)), csl⟩
  cls : ∃ cdD, PySem.W.clsIn K D = some cdD
  opq : PySem.W.nsIn K cStatics "thirdparty.any" = some none
  sup : mg "super" = none
section
variable {T : Tb} {W : WX} {σ : L2.St} {H : Hp} {D : Ends} {tab : MTab} {ma : AM} {mr : SM} {P : Program} {w : World} {K : PySem.W.Frag} {mg : Str → Option Value} {base : Heap} {k n : Nat} {Dc : Addr}
end
end Sm

/-! S46: a written dict of defs, the call of a local that holds a def, keywords -/
namespace Sm
open PySem PySem.Spec PyProof.Rows L2
theorem takesN {X : Cx} : L2N.Takes X WF := fun _ _ ⟨_, _, _, _, _, _, _, _, _, _, _, _, _, _, _, _, w⟩ => w.elim
/-- D[e], D a written dict with the str keys of tbl -/
def eKix (tbl : List (Str × Vl)) (e : EM) : EM := fun lo => bnd (e lo) fun v s => match v with
  | .str z => match getS tbl z with
    | some u => .ok u s
    | none => .fail
  | _ => .fail
/-- f(..), f a local that holds a def -/
def eCallF (i : Nat) (tab : MTab) (a : AM) : EM := fun (lo : Lo) (s : Sto) => match (lo[i]? : Option (Option Vl)) with
  | some (some (.fn j)) => match tab j with
    | some mf => bnd (a lo) mf s
    | none => .fail
  | _ => .fail
def tabF (n : Nat) (tab : MTab) : MTab := fun c => (tab c).map (arg n)
/-- f(.., k = ..) -/
def eCallK (n : Nat) (das : List Vl) (m : Nat) (mf : List Vl → M Vl) (a k : AM) : EM := fun lo => bnd (a lo) fun as => bnd (k lo) fun zs s => if as.length = n ∧ zs.length = m then mf (as ++ das ++ zs) s else .fail
section
variable {X : Cx} {T : Tb} {W : WX} {k n i : Nat} {f : Addr} {fd : FuncData} {ps : List Str} {mf : List Vl → M Vl} {x : Str} {p pos : Pos} {e : Expr} {es : List Expr} {ma mk : AM} {me : EM}
/-- the defs of the table -/
def FnsOk (X : Cx) (T : Tb) (k n : Nat) (tab : MTab) : Prop := ∀ j mf, tab j = some mf → ∀ f, T.fns[j]? = some f → ∃ (fd : FuncData) (ps : List Str), PySem.W.keepIn X.K (.ref f) = true ∧ FnG X.prog X.w X.K X.mg X.base k f fd ps (SpM T n mf) ∧ Binds X.K fd ps []
/-- how a call with keywords binds: das between -/
structure BindKw (K : PySem.W.Frag) (fd : FuncData) (ps : List Str) (n : Nat) (ks : List Str) (das : List Vl) : Prop where
  ex : ∃ (its : List Value) (dvs : List V), KBn K fd ps n ks (fun us ws => us ++ its ++ ws) (fun vs zs => vs ++ dvs ++ zs) ∧ ∀ (T : Tb) (ρ : List Addr) (H : Hp), T.K = K → RVs T ρ H das dvs
end
/-! how binding facts are made -/
section
variable {K : PySem.W.Frag} {x qual : Str} {params : Arguments} {body : List Stmt} {scope : Scope} {dvs : List V} {kws : List (Str × V)} {f : Addr} {fd : FuncData} {ps ks : List Str} {n : Nat}
end
theorem getS_mem {tbl : List (Str × Vl)} {z : Str} {u : Vl} (h : getS tbl z = some u) : (z, u) ∈ tbl := by
  induction tbl with
  | nil => simp [getS] at h
  | cons p r ih =>
    obtain ⟨k, v⟩ := p
    simp only [getS] at h
    split at h
    · rename_i e
      cases h
      subst e
      exact List.mem_cons_self ..
    · exact List.mem_cons_of_mem _ (ih h)
end Sm

/-! S169: zip(text, tuple) -/
namespace Sm
open PySem PySem.Spec PyProof.Rows L2 RZ

/-- the text x and the tuple at b, side by side -/
def ItzS (K : PySem.W.Frag) (x : Str) (b : Addr) (n : Nat) : It :=
  ⟨fun i H => ∃ (ys : List V) (c : Nat) (y : V), SqT K H b ys ∧ ys.length = n ∧ x.cps[i]? = some c ∧ ys[i]? = some y,
    fun i H v H' => ∃ T c y, v = .ref T ∧ H T = none ∧ H' = upd H T (.tup [.str ⟨#[c]⟩, y]) ∧ x.cps[i]? = some c ∧ ∀ ys, SqT K H b ys → ys[i]? = some y,
    fun i H => ∃ ys : List V, SqT K H b ys ∧ ys.length = n ∧ (x.cps.size ≤ i ∨ ys.length ≤ i)⟩
theorem zsep {z TI TO i1 i2 b : Addr} (D : ZipApart z TI TO i1 i2 b b) : ZipSep2 z TI TO i1 i2 [i1] [i2, b] where
  TIz := D.TIz
  TOz := D.TOz
  TITO := D.TITO
  TIi1 := D.TIi1
  mem1 := by simp
  zf1 := by simp; exact fun q => D.i1z q.symm
  Tf1 := by simp; exact D.TOi1
  TIi2 := D.TIi2
  mem2 := by simp
  zf2 := by simp; exact ⟨fun q => D.i2z q.symm, fun q => D.l1z q.symm⟩
  Tf2 := by simp; exact ⟨D.TOi2, fun q => D.l1TO q.symm⟩
  sep1_2 := by simp; exact ⟨D.i12, fun q => D.l1i1 q.symm⟩
  sep2_1 := by simp; exact fun q => D.i12 q.symm
theorem turn_zipS {P : Program} {w : World} {K : PySem.W.Frag} {elts : List Expr} {kk : Nat} {tpos : Pos} {x : Str} {t : Tok} {n : Nat} {b z TI TO i1 i2 : Addr} (D : ZipApart z TI TO i1 i2 b b) :
    Turn P w K (.Tuple elts kk tpos) (ItzS K x b n) [z, TI, TO, i1, i2] z (fun i h => IsZip h z TI TO .none ∧ IsTupOf2 h TI (.ref i1) (.ref i2) ∧ (∃ x y, IsTupOf2 h TO x y) ∧ h.IsStrIter i1 (strIterType x) x t i ∧ h.IsTupleIter i2 b i ∧ i ≤ x.cps.size ∧ i ≤ n) where
  mem := by simp
  obj := fun i h st c hc => by
    obtain ⟨hz, hTI, ⟨x, y, hTO⟩, ⟨o1, e1, _, d1⟩, ⟨o2, e2, _, d2⟩, _⟩ := st
    have e' : c = z ∨ c = TI ∨ c = TO ∨ c = i1 ∨ c = i2 := by simpa using hc
    rcases e' with q | q | q | q | q
    · rw [q]; exact ⟨_, hz, fun v q => nomatch q⟩
    · rw [q]; exact ⟨_, hTI, fun v q => nomatch q⟩
    · rw [q]; exact ⟨_, hTO, fun v q => nomatch q⟩
    · rw [q]; exact ⟨o1, e1, fun v q => by rw [d1] at q; cases q⟩
    · rw [q]; exact ⟨o2, e2, fun v q => by rw [d2] at q; cases q⟩
  keep := fun i h h' st k => by
    obtain ⟨hz, hTI, ⟨x, y, hTO⟩, ⟨o1, e1, r1⟩, h2, hi⟩ := st
    exact ⟨k z (by simp) _ hz, k TI (by simp) _ hTI, ⟨x, y, k TO (by simp) _ hTO⟩, ⟨o1, k i1 (by simp) o1 e1, r1⟩, h2.at fun o q => k i2 (by simp) o q, hi⟩
  item := by
    intro X hP hw hK hc i pins s σ H E I hf st hg
    subst hP hw hK
    obtain ⟨hz, hTI, ⟨x0, y0, hTO⟩, h1, h2, hile, hiln⟩ := st
    obtain ⟨ys, c, y, hqy, hyn, hcx, hy⟩ := hg
    obtain ⟨its2, rv2, p2, _⟩ := I.tuple hqy
    obtain ⟨u2, hu2, ru2⟩ := rv2.get hy
    have hzl : z < s.heap.objs.size := Heap.lt_size hz
    have hlt1 : i < x.cps.size := (Array.getElem?_eq_some_iff.mp hcx).1
    have hlt2 : i < its2.toArray.size := by
      have := (List.getElem?_eq_some_iff.mp hu2).1
      simpa using this
    refine wpAny_pyNext_zipD2_item (zsep D) (.text (A := X.A.in1) (I.ok.hd hc) i1 x t) (.tuple (A := X.A.in1) (I.ok.hd hc) i2 b D.l1i2 its2.toArray) hz hTI hTO h1 ⟨h2, p2⟩ hlt1 hlt2 fun x1 x2 h' tk q1 q2 z' TO' h1' h2' hT hsz hk => ?_
    obtain ⟨c', u', hc', rfl⟩ := q1
    rw [hcx] at hc'
    cases hc'
    have e2 : x2 = u2 := by
      have : its2.toArray[i]? = some u2 := by simpa using hu2
      rw [this] at q2
      exact (Option.some.inj q2).symm
    subst e2
    refine ⟨_, rfl, wpAny_letOwnedTupleGo_zip (s := { s with heap := h', toks := tk }) z' fun h'' z'' sb => ?_⟩
    have hT2 : h''.get? s.heap.objs.size = some { cls := .type "tuple", data := .seq #[.str ⟨#[c]⟩ u', x2] } := (sb.2 _ (Nat.ne_of_gt hzl)).trans hT
    have new : ObjOk X.prog X.w (upd H s.heap.objs.size (.tup [.str ⟨#[c]⟩, y])) h'' s.heap.objs.size (.tup [.str ⟨#[c]⟩, y]) :=
      ⟨by show 2 ≤ sizeLine; decide, [.str ⟨#[c]⟩ u', x2], .cons ⟨u', rfl⟩ (.cons ru2 .nil), ⟨_, hT2, rfl, _, rfl⟩⟩
    have I1 : Inv X pins σ (upd H s.heap.objs.size (.tup [.str ⟨#[c]⟩, y])) { s with heap := h'', toks := tk } :=
      I.turnedNew (t' := tk) (ch := [z, TI, TO, i1, i2]) (fun c o hb q => (sb.2 c (fun q' => hb (by simp [q']))).trans (hk c o (fun q' => hb (by simp [q'])) (fun q' => hb (by simp [q'])) (fun q' => hb (by simp [q'])) (fun q' => hb (by simp [q'])) q)) hf (Nat.le_refl _) new
    obtain ⟨o1, e1, r1⟩ := h1'
    refine ⟨.ref s.heap.objs.size, _, I1, rfl, ⟨_, c, y, rfl, I.hok.fresh (Nat.le_refl _), rfl, hcx, fun l hl => by rw [I.tuple_inj hl hqy]; exact hy⟩, ⟨z'', ?_, ⟨.str ⟨#[c]⟩ u', x2, ?_⟩, ?_, ?_, hlt1, by have := (List.getElem?_eq_some_iff.mp hy).1; omega⟩, fun c hcm => ?_⟩
    · exact (sb.2 _ D.TIz).trans (hk _ _ D.TIz D.TITO D.TIi1 D.TIi2 hTI)
    · exact (sb.2 _ D.TOz).trans TO'
    · exact ⟨o1, (sb.2 _ D.i1z).trans e1, r1⟩
    · exact h2'.1.at fun o q => (sb.2 _ D.i2z).trans q
    · have hlt : c < s.heap.objs.size := by
        have e' : c = z ∨ c = TI ∨ c = TO ∨ c = i1 ∨ c = i2 := by simpa using hcm
        rcases e' with q | q | q | q | q
        · rw [q]; exact hzl
        · rw [q]; exact Heap.lt_size hTI
        · rw [q]; exact Heap.lt_size hTO
        · rw [q]; obtain ⟨_, e1, _⟩ := h1; exact Heap.lt_size e1
        · rw [q]; obtain ⟨_, e2, _⟩ := h2; exact Heap.lt_size e2
      rw [upd_ne (Nat.ne_of_lt hlt)]
      exact (hf c hcm).1
  done := by
    intro X hP hw hK hc i pins s σ H E I hf st hg
    subst hP hw hK
    obtain ⟨hz, hTI, ⟨x0, y0, hTO⟩, h1, h2, hile, hiln⟩ := st
    obtain ⟨ys, hqy, hyn, hend⟩ := hg
    obtain ⟨its2, rv2, p2, _⟩ := I.tuple hqy
    have l2 := rv2.length
    have hge : i ≤ its2.length := by omega
    exact wpAny_pyNext_zipD2_end (zsep D) (.text (A := X.A.in1) (I.ok.hd hc) i1 x t) (.tuple (A := X.A.in1) (I.ok.hd hc) i2 b D.l1i2 its2.toArray) hz hTI hTO h1 ⟨h2, p2⟩ hile (by simpa using hge) (by
        rcases hend with q | q
        · exact .inl (by omega)
        · exact .inr (by simp; omega)) fun h' tk hk => ⟨rfl, I.turnedL (t' := tk) (ch := [z, TI, TO, i1, i2]) (fun c o hb q =>
          hk c o (fun q' => hb (by simp [q'])) (fun q' => hb (by simp [q'])) (fun q' => hb (by simp [q'])) (fun q' => hb (by simp [q'])) q) hf⟩
  self := fun A i s Q E st h => wpAny_pyIter_zip st.1 h

def iZipS (K : PySem.W.Frag) (ta : TA) : TI := fun σ H R => ta σ H fun vs H1 => ∃ (x : Str) (b : Addr) (ys : List V), vs = [.str x, .ref b] ∧ SqT K H1 b ys ∧ R (ItzS K x b ys.length) H1
theorem pi_zipS {X : Cx} {e e2 : Expr} {ta : TA} {p pos tpos : Pos} {elts : List Expr} {kk : Nat} (hg : Gl X "zip") (hm : X.mg "zip" = none) (ha : PA X [e, e2] ta)
    (hs : starEach [e, e2] X.env = (false, eval e X.env) :: starEach [e2] X.env := by rfl) (hpl : (backTo pos (starEach [e2] X.env)).any (·.1) = false := by rfl) :
    PI X (.Tuple elts kk tpos) (.Call (.Name "zip" p) [e, e2] [] pos) (iZipS X.K ta) := by
  refine ⟨fun pins s σ H R I h => ?_⟩
  refine Call_ (ld_blt I hg hm PyProof.Rows.boot_zip (PyProof.Rows.callWith_type1 (thn (ha.run pos pins s σ H _ I h) fun us s1 ⟨vs, H1, I1, r1, q1⟩ => ?_) hs hpl))
  obtain ⟨x, b, ys, ex, hqy, q⟩ := q1
  subst ex
  cases r1 with
  | cons r rr =>
    cases rr with
    | cons r' rr =>
      cases rr
      obtain ⟨t, rfl⟩ := r
      cases r'
      have fresh5 : ∀ c, c ∈ [s1.heap.objs.size + 4, s1.heap.objs.size + 2, s1.heap.objs.size + 3, s1.heap.objs.size, s1.heap.objs.size + 1] → FpOk X pins H1 c := fun c hcm => by
        have e' : c = s1.heap.objs.size + 4 ∨ c = s1.heap.objs.size + 2 ∨ c = s1.heap.objs.size + 3 ∨ c = s1.heap.objs.size ∨ c = s1.heap.objs.size + 1 := by simpa using hcm
        have hle : s1.heap.objs.size ≤ c := by
          rcases e' with z | z | z | z | z
          · rw [z]; exact Nat.le_add_right _ _
          · rw [z]; exact Nat.le_add_right _ _
          · rw [z]; exact Nat.le_add_right _ _
          · rw [z]; exact Nat.le_refl _
          · rw [z]; exact Nat.le_add_right _ _
        exact I1.fpOk hle (I1.hok.fresh hle)
      obtain ⟨its2, rv2, p2, _⟩ := I1.tuple hqy
      obtain ⟨o2, ho2, _⟩ := id p2
      refine zip_begins2 (begins_text x t) (begins_tuple b its2.toArray) trivial p2 fun h' hz hTI hTO g1 g2 hsz hk => wpAny_pyIter_zip hz ?_
      have I2 : Inv X pins σ H1 { s1 with heap := h' } := I1.kept (t' := s1.toks) hk
      exact ⟨s1.heap.objs.size + 4, [s1.heap.objs.size + 4, s1.heap.objs.size + 2, s1.heap.objs.size + 3, s1.heap.objs.size, s1.heap.objs.size + 1], _, _, H1, rfl, I2, turn_zipS (t := t) (PySem.W.ktu_apart s1.heap.objs.size b b (Heap.lt_size ho2) (Heap.lt_size ho2)), ⟨hz, hTI, ⟨_, _, hTO⟩, ⟨_, g1, rfl, rfl⟩, ⟨_, g2, rfl, rfl⟩, Nat.zero_le _, Nat.zero_le _⟩, fresh5, q⟩
/-- the pairs -/
def zipL (x : Str) (ys : List Vl) : List Vl := (x.cps.toList.zip ys).map fun p => .tup [.str ⟨#[p.1]⟩, p.2]
def aZipS (ma : AM) : AM := fun lo => bnd (ma lo) fun as => match as with
  | [.str x, .tup ys] => ret (zipL x ys)
  | _ => failM
theorem zipL_get {x : Str} {ys : List Vl} {i : Nat} : (zipL x ys)[i]? = match x.cps[i]?, ys[i]? with
    | some c, some y => some (.tup [.str ⟨#[c]⟩, y])
    | _, _ => none := by
  unfold zipL
  rw [List.getElem?_map, List.zip, List.getElem?_zipWith, Array.getElem?_toList]
  cases x.cps[i]? <;> cases ys[i]? <;> rfl
section
variable {X : Cx} {T : Tb} {W : WX} {p pos : Pos}
theorem ci_zipS {e e2 : Expr} {ma : AM} {elts : List Expr} {kk : Nat} {tpos : Pos} (hg : Gl X "zip") (hm : X.mg "zip" = none) (ha : PA X [e, e2] (tA T W ma))
    (hs : starEach [e, e2] X.env = (false, eval e X.env) :: starEach [e2] X.env := by rfl) (hpl : (backTo pos (starEach [e2] X.env)).any (·.1) = false := by rfl) (hK : X.K = T.K := by rfl) :
    PI X (.Tuple elts kk tpos) (.Call (.Name "zip" p) [e, e2] [] pos) (tI T W (iFix (aZipS ma))) := pi_mono (pi_zipS hg hm ha hs hpl) fun σ H R h => by
  obtain ⟨ρ, s, lo, r, rl, q⟩ := h
  refine po_bnd (R := RVs T) (m := ma) (f := fun as => bnd (match as with | [.str x, .tup ys] => ret (zipL x ys) | _ => failM) fun xs => ret (nxFix xs)) (R' := fun ρ H nx J => ItOk T J nx ρ H) (Q := R) r rl ?_ fun ρ1 s1 as zs H1 ext1 r1 rl1 hx p1 => ?_
  · unfold iFix aZipS at q
    unfold bnd at q ⊢
    cases e : ma lo s <;> rw [e] at q <;> exact q
  · split at p1
    · rename_i x ys
      obtain ⟨z, z', rfl, hz, hz'⟩ := hx.two
      cases hz
      obtain ⟨a, vs, rfl, h1, h2⟩ := hz'.tupE
      rw [← hK] at h1
      refine ⟨x, a, vs, rfl, h1, p1 ρ1 H1 _ .refl r1 ?_⟩
      intro ρ2 H2 s2 i e2 r2
      have h1' := e2.tup _ _ (hK ▸ h1)
      have h2' := h2.mono e2
      rw [← hK] at h1'
      simp only [nxFix, zipL_get]
      cases e : x.cps[i]? with
      | none => exact ⟨vs, h1', rfl, .inl (Array.getElem?_eq_none_iff.mp e)⟩
      | some c =>
        cases e' : ys[i]? with
        | none =>
          have : ys.length ≤ i := List.getElem?_eq_none_iff.mp e'
          exact ⟨vs, h1', rfl, .inr (by rw [← h2'.length]; exact this)⟩
        | some v =>
          obtain ⟨u, hu, ru⟩ := h2'.get e'
          refine ⟨⟨vs, c, u, h1', rfl, e, hu⟩, fun x' H3 y => ?_⟩
          obtain ⟨t, c', w, rfl, ht, rfl, hc', y⟩ := y
          have := y vs h1'
          rw [hu] at this
          cases this
          rw [e] at hc'
          cases hc'
          exact ⟨ext_upd ht, r2.laid ht, .tup (SqT.of upd_same) (.cons (.str _) (.cons (ru.mono (ext_upd ht)) .nil))⟩
    · exact p1.elim
end
end Sm

/-! S170: D.get(e) of a written dict of texts; a written tuple of texts -/
namespace Sm
open PySem PySem.Spec PyProof.Rows L2
/-- the text of a key -/
def keyT (e : DictEntry) : Option Str := match e.key with
  | .str x _ => some x
  | _ => none
/-- the written dict at a has the table tbl -/
structure KTab (K : PySem.W.Frag) (w : World) (T : Tb) (a : Addr) (tbl : List (Str × Vl)) : Prop where
  ex : ∃ es n, K.lookup a = some ⟨.type "dict", none, .dict es n, #[]⟩ ∧ PySem.W.KeysLit w.params es.toList ∧ (a == sysModules) = false ∧
    (∀ z, getS tbl z = none → findBy Value.isStrOf es z = none) ∧ ∀ z u, getS tbl z = some u → ∃ v x, findBy Value.isStrOf es z = some x ∧ RelV v x ∧ ∀ ρ H, RV T ρ H u v
theorem KTab.mk' {K : PySem.W.Frag} {w : World} {T : Tb} {a : Addr} {tbl : List (Str × Vl)} {es : Array DictEntry} {n : Nat} (hl : K.lookup a = some ⟨.type "dict", none, .dict es n, #[]⟩) (hk : PySem.W.KeysLit w.params es.toList) (hs : (a == sysModules) = false)
    (hz : es.toList.map keyT = tbl.map fun p => some p.1) (ok : ∀ z u, getS tbl z = some u → ∃ v x, PySem.W.nsIn K a z = some (some x) ∧ RelV v x ∧ ∀ ρ H, RV T ρ H u v) : KTab K w T a tbl := by
  refine ⟨es, n, hl, hk, hs, fun z h => ?_, fun z u h => ?_⟩
  · unfold findBy
    cases e : es.find? (fun d => Value.isStrOf z d.key) with
    | none => rfl
    | some d =>
      exfalso
      have h1 := Array.find?_some e
      have h2 := Array.mem_of_find?_eq_some e
      obtain ⟨t, ht⟩ := Value.isStrOf_shape h1
      have h3 : keyT d ∈ es.toList.map keyT := List.mem_map_of_mem (Array.mem_toList_iff.mpr h2)
      rw [hz] at h3
      obtain ⟨p, hp, q⟩ := List.mem_map.mp h3
      unfold keyT at q
      rw [ht] at q
      have q : p.1 = z := Option.some.inj q
      have : ∀ (l : List (Str × Vl)), p ∈ l → getS l p.1 ≠ none := by
        intro l
        induction l with
        | nil => intro h; cases h
        | cons y r ih =>
          intro h
          unfold getS
          split
          · simp
          · rename_i hne
            rcases List.mem_cons.mp h with rfl | h
            · exact absurd rfl hne
            · exact ih h
      exact this tbl hp (q ▸ h)
  · obtain ⟨v, x, h1, h2, h3⟩ := ok z u h
    exact ⟨v, x, PySem.W.find_K hl h1, h2, h3⟩
/-- D.get(e) -/
def eKGet (tbl : List (Str × Vl)) (e : EM) : EM := fun lo => bnd (e lo) fun v s => match v with
  | .str z => .ok ((getS tbl z).getD .non) s
  | _ => .fail
section
variable {X : Cx} {T : Tb} {W : WX} {x : Str} {p apos cpos : Pos} {e : Expr} {me : EM}
theorem ce_kget {tbl : List (Str × Vl)} {a : Addr} (hg : Gl X x) (hm : X.mg x = some (.ref a)) (ok : KTab X.K X.w T a tbl) (he : PE X e (tE T W me)) (m : M1 X (.Name x p) "get" apos e cpos) (hdb : (x == ("__debug__" : Str)) = false := by decide) :
    PE X (.Call (.Attribute (.Name x p) "get" apos) [e] [] cpos) (tE T W (eKGet tbl me)) := by
  refine ⟨fun pins s σ H Q I h => ?_⟩
  obtain ⟨es, n, hl, hk, hs, ok0, ok1⟩ := ok.ex
  refine wpAny_Call_method m.base m.few m.line PySem.F.plainAttrs_dict PySem.F.slot_dict_get PySem.F.type_dict_get (thn ((pe_glob (v := .ref a) (pos := p) hg hm rfl hdb).run pins s σ H (fun v H1 => v = .ref a ∧ tE T W (eKGet tbl me) σ H1 Q) I ⟨rfl, h⟩) fun u s1 ⟨v, H1, I1, rx, ex, q1⟩ => ?_)
  subst ex
  obtain rfl : u = Value.ref a := rx
  have hm1 := PySem.W.mapOf_K (prog := X.prog) (w := X.w) I1.kIn hl hk
  refine ⟨hm1.typeIs, hm1.noDict, ?_⟩
  rw [m.trees]
  have q2 : tE T W me σ H1 fun y H2 => ∃ z v, y = .str z ∧ RelV v ((findBy Value.isStrOf es z).getD .none) ∧ Q v H2 := by
    refine tG_bnd (R := RV T) q1 fun ρ s lo y v H2 r rl hy p => ?_
    cases hy with
    | str z =>
      simp only at p
      cases hz : getS tbl z with
      | none =>
        rw [hz] at p
        refine ⟨z, .non, rfl, ?_, p ρ H2 _ .refl r .non⟩
        rw [ok0 z hz]
        rfl
      | some u =>
        rw [hz] at p
        obtain ⟨v', x, g1, g2, g3⟩ := ok1 z u hz
        refine ⟨z, v', rfl, ?_, p ρ H2 _ .refl r (g3 ρ H2)⟩
        rw [g1]
        exact g2
    | _ => exact p.elim
  refine Calls.callWith_builtin rfl (Calls.evalArgs_plain (Calls.spliced_cons (thn (he.run pins s1 σ H1 _ I1 q2) fun iv s2 ⟨y, H2, I2, ry, z, v, ey, rv, q3⟩ => Calls.spliced_nil ?_)))
  subst ey
  obtain ⟨t, rfl⟩ := ry
  have hm2 := PySem.W.mapOf_K (prog := X.prog) (w := X.w) I2.kIn hl hk
  refine call_meetsIn PySem.F.slot_dict_get hm2.typeIs PySem.F.entry_dict_get (PySem.F.args_dict_get_2 _ _) (meets_dict_get (strKind X.prog X.w) a (strKind_is X.prog X.w z t) hs) ⟨_, hm2, v, H2, I2.tok _, rv, q3⟩
end
/-! ### a written tuple of texts -/
end Sm

/-! S171: sets of texts in the heap: new, add, sorted -/
namespace StT
open PySem PySem.Spec PyProof.Rows L2 PpSet
/-- the text of an entry -/
def kS (e : Int × Value) : Str := match e.2 with
  | .str k _ => k
  | _ => Str.empty
/-- an entry of a text -/
def EnS (w : World) (e : Int × Value) : Prop := ∃ (k : Str) (t : Tok), e = (hashStr w k, Value.str k t)
/-- at a stands a set of the texts L, each once, whose table can be walked -/
structure TxS (w : World) (h : Heap) (a : Addr) (L : List Str) : Prop where
  ex : ∃ o es ep t, (h.get? a = some o ∧ o.ExactSet ∧ o.data = .set es ep t) ∧ (∀ e ∈ es.toList, EnS w e) ∧ (es.toList.map kS).Perm L ∧ L.Nodup ∧ es.size < scanBound ∧
    t.fits es.size = true ∧ Ris t.place.toList ∧ (w.params.followText "set-order" = true ∨ t.led = true)
section
variable {P : Program} {w : World} {A : Around} {E : Value → Shared → Prop} {s : Shared} {a : Addr} {L : List Str}
theorem TxS.move {h h' : Heap} (R : TxS w h a L) (k : ∀ o, h.get? a = some o → h'.get? a = some o) : TxS w h' a L :=
  let ⟨o, es, ep, t, ⟨h1, h2⟩, r⟩ := R.ex
  ⟨o, es, ep, t, ⟨k o h1, h2⟩, r⟩
theorem EnS.is {e : Int × Value} (g : EnS w e) (k : Str) : (strKind P w).is k e.2 = true ↔ kS e = k := by
  obtain ⟨z, t, rfl⟩ := g
  show ((z == k) = true) ↔ z = k
  simp
theorem els {l : List (Int × Value)} (g : ∀ e ∈ l, EnS w e) : ElemsOf (strKind P w) l := by
  intro e he
  obtain ⟨z, t, rfl⟩ := g e he
  exact ⟨⟨z, strKind_is P w z t, rfl⟩, rfl⟩
/-- what is stored in the end -/
theorem tx_put {o : Obj} {es : Array (Int × Value)} {ep : Nat} {t : SetTable} (ho : s.heap.get? a = some o ∧ o.ExactSet ∧ o.data = .set es ep t) {g : Bool → Sem Unit}
    (hg : ∀ (b : Bool) (z : Shared) (Z : Unit → Shared → Prop), Z () z → wpAny (model P w) A (g b) Z E z) {fs : Array (Int × Value)} {u : SetTable} {M : List Str}
    (ge : ∀ e ∈ fs.toList, EnS w e) (pm : (fs.toList.map kS).Perm M) (nd : M.Nodup) (hb : fs.size < scanBound) (hf : u.fits fs.size = true) (hr : Ris u.place.toList) (hl : w.params.followText "set-order" = true ∨ u.led = true)
    {dm : Bool} {R : Option Bool → Shared → Prop} (hR : ∀ h', Heap.SameBut a s.heap h' → TxS w h' a M → R (some true) { s with heap := h' }) :
    wpAny (model P w) A (do
      storeSet a fs u
      if (!dm && u.tooFull) = true then do
        g (relayAll u fs (SetTable.grown fs.size)).2.2
        storeSet a (relayAll u fs (SetTable.grown fs.size)).1 (relayAll u fs (SetTable.grown fs.size)).2.1
        pure (some true)
      else pure (some true)) R E s := by
  obtain ⟨h1, h2, h3⟩ := ho
  refine wpAny_bind (wpAny_storeSet_of h1 h3 ?_ (fits_of_scanBound hb))
  have k1 := storeB_at (es' := fs) (t' := u) h1 h3
  have b1 := Heap.SameBut.update s.heap a (Obj.putSet fs u)
  by_cases full : (!dm && u.tooFull) = true
  · rw [if_pos full]
    have q1 := relayAll_perm u fs (SetTable.grown fs.size)
    have q2 := relayAll_fits u fs (SetTable.grown fs.size)
    have q3 := relayAll_ris u fs (SetTable.grown fs.size)
    have q4 := relayAll_led u fs (SetTable.grown fs.size)
    generalize relayAll u fs (SetTable.grown fs.size) = N at q1 q2 q3 q4 ⊢
    rcases N with ⟨gs, v, way⟩
    have ez : gs.size = fs.size := by simpa using q1.length_eq
    have bz : gs.size < scanBound := ez ▸ hb
    refine wpAny_bind (hg _ _ _ (wpAny_bind (wpAny_storeSet_of k1 rfl ?_ (fits_of_scanBound bz))))
    have k2 := storeB_at (es' := gs) (t' := v) k1 rfl
    exact wpAny_pure (hR _ (b1.trans (.update _ a _)) ⟨_, gs, _, v, ⟨k2, h2, rfl⟩, fun e he => ge e (q1.mem_iff.mp he), (q1.map kS).trans pm, nd, bz, by simpa [ez] using q2, q3, hl.imp id fun z => q4.trans z⟩)
  · rw [if_neg full]
    exact wpAny_pure (hR _ b1 ⟨_, fs, _, u, ⟨k1, h2, rfl⟩, ge, pm, nd, hb, hf, hr, hl⟩)

theorem mem_is {es : List (Int × Value)} (g : ∀ e ∈ es, EnS w e) (pm : (es.map kS).Perm L) (k : Str) : k ∈ L ↔ ∃ e ∈ es, (strKind P w).is k e.2 = true := by
  rw [← pm.mem_iff, List.mem_map]
  exact ⟨fun ⟨e, he, q⟩ => ⟨e, he, ((g e he).is (P := P) k).2 q⟩, fun ⟨e, he, q⟩ => ⟨e, he, ((g e he).is (P := P) k).1 q⟩⟩
/-- the members, k put to them -/
def addL (k : Str) (L : List Str) : List Str := if k ∈ L then L else k :: L
theorem tx_addH {k : Str} {tk : Tok} {Q : Bool → Shared → Prop} (R : TxS w s.heap a L) (room : L.length + 1 < scanBound) (hQ : ∀ b h', Heap.SameBut a s.heap h' → TxS w h' a (addL k L) → Q b { s with heap := h' }) :
    wpAny (model P w) A (setAddHashed a (.str k tk) ((strKind P w).hash k)) Q E s := by
  obtain ⟨o, es, ep, t, ⟨ho, hex, hd⟩, ge, pm, nd, hb, hf, hr, hl⟩ := R.ex
  have hn : es.size = L.length := by simpa using pm.length_eq
  have isK : (strKind P w).is k (.str k tk) = true := strKind_is P w k tk
  have scan : (Value.str k tk).scannable = true := rfl
  have el : ElemsOf (strKind P w) es.toList := els ge
  unfold setAddHashed setAddHashedIn
  refine wpAny_holding (wpAny_bind (wpAny_setState_of ho hd hf ?_))
  dsimp only
  rw [byScan_of scan hb el]
  simp only [↓reduceIte]
  unfold setAddByScan
  refine wpAny_bind (wpAny_bind (wpAny_rule (wpAny_bind (wpAny_setScan_of isK ho hd hf el ?_))))
  cases at_ : List.findIdx? (fun e => (strKind P w).is k e.2) es.toList with
  | some j =>
    obtain ⟨hj, pj, _⟩ := List.findIdx?_eq_some_iff_getElem.mp at_
    have hk : k ∈ L := (mem_is (P := P) ge pm k).2 ⟨_, List.getElem_mem hj, pj⟩
    refine wpAny_pure (wpAny_pure (hQ _ s.heap (.refl a _) ?_))
    unfold addL
    rw [if_pos hk]
    exact R
  | none =>
    have hk : k ∉ L := fun z => by
      obtain ⟨e, he, q⟩ := (mem_is (P := P) ge pm k).1 z
      simp [List.findIdx?_eq_none_iff.mp at_ e he] at q
    have eA : addL k L = k :: L := if_neg hk
    have quiet : ∀ (b : Bool) {z : Shared} {Z : Unit → Shared → Prop}, Z () z → wpAny (model P w) A (match b with | true => rule "set.scan.the-table-gave-way" | false => pure ()) Z E z := by
      rintro (_ | _) z Z q
      · exact wpAny_pure q
      · exact wpAny_rule q
    have p1 := layNew_perm t es ((strKind P w).hash k) (.str k tk)
    have p2 := layNew_fits t es ((strKind P w).hash k) (.str k tk)
    have p3 := layNew_ris t es ((strKind P w).hash k) (.str k tk) hr
    have p4 := layNew_led t es ((strKind P w).hash k) (.str k tk)
    dsimp only
    generalize layNew t es ((strKind P w).hash k) (.str k tk) = N at p1 p2 p3 p4 ⊢
    rcases N with ⟨fs, u, dm, way⟩
    rw [Array.toList_push] at p1
    dsimp only at p1 p2 p3 p4 ⊢
    have pc := p1.trans (List.perm_append_singleton _ _)
    have ge' : ∀ e ∈ fs.toList, EnS w e := fun e he => (List.mem_cons.mp (pc.mem_iff.mp he)).elim (fun z => ⟨k, tk, z⟩) (ge e)
    have pk : (fs.toList.map kS).Perm (k :: L) := (pc.map kS).trans (.cons k pm)
    have sz : fs.size = L.length + 1 := by simpa using pk.length_eq
    have bz : fs.size < scanBound := sz ▸ room
    have lz : w.params.followText "set-order" = true ∨ u.led = true := hl.imp id fun z => p4.trans z
    have fin : ∀ h', Heap.SameBut a s.heap h' → TxS w h' a (k :: L) → Q true { s with heap := h' } := fun h' sb r => hQ _ h' sb (eA ▸ r)
    have ndk : (k :: L).Nodup := List.nodup_cons.mpr ⟨hk, nd⟩
    refine wpAny_bind (quiet _ ?_)
    split
    · refine wpAny_bind ?_
      rw [hashByValue_scannable 8 scan]
      refine wpAny_pure (tx_put ⟨ho, hex, hd⟩ ?_ ge' pk ndk bz ?_ ?_ ?_ fun h' sb r => wpAny_pure (fin h' sb r))
      · rintro (_ | _) z Z q
        · exact wpAny_pure q
        · exact wpAny_rule q
      · first | (split <;> first | exact p2 | exact SetTable.fits_plain_off p2) | exact p2
      · first | (split <;> exact p3) | exact p3
      · first | (split <;> exact lz) | exact lz
    · refine wpAny_bind (wpAny_pure ?_)
      simp only [↓reduceIte]
      refine tx_put ⟨ho, hex, hd⟩ ?_ ge' pk ndk bz p2 p3 lz fun h' sb r => wpAny_pure (fin h' sb r)
      rintro (_ | _) z Z q
      · exact wpAny_pure q
      · exact wpAny_rule q
/-- S.add(k) -/
theorem tx_add {k : Str} {tk : Tok} {Q : Value → Shared → Prop} (R : TxS w s.heap a L) (room : L.length + 1 < scanBound) (hQ : ∀ h', Heap.SameBut a s.heap h' → TxS w h' a (addL k L) → Q .none { s with heap := h', toks := s.toks + 1 }) :
    wpAny (model P w) A (call (.builtin "set.add") [.ref a, .str k tk]) Q E s := by
  obtain ⟨o, es, ep, t, ⟨ho, hex, hd⟩, r⟩ := R.ex
  refine wpAny_call_entry F.slot_set_add ⟨o, ho, hex.1⟩ F.entry_set_add ?_ (F.args_set_add_2 _ _)
  unfold Builtin.«set.add» Builtin.Frozenset.oneOther
  simp only [List.isEmpty_nil, bind_assoc]
  unfold Builtin.Frozenset.addrOf setAdd
  refine wpAny_bind (wpAny_pure (wpAny_bind (wpAny_pure (wpAny_bind (wpAny_holding (wpAny_bind ((strKind P w).pyHash (strKind_is P w k tk) ?_)))))))
  refine tx_addH (s := { s with toks := s.toks + 1 }) R room fun b h' sb r => ?_
  show wpAny _ _ (ret Value.none) _ _ _
  exact wpAny_pure ⟨_, rfl, hQ h' sb r⟩
/-- a new one -/
theorem tx_new {h : Heap} (w : World) : TxS w (h.push { cls := .type "set", dict := none, data := .set #[] 0 (.fresh 0 0 (!w.params.followText "set-order")) }) h.objs.size [] :=
  ⟨_, #[], 0, _, ⟨Heap.get?_push_size _ rfl, ⟨rfl, rfl, rfl⟩, rfl⟩, by simp, by simp, by simp, by decide, rfl, .nil, by
    show _ ∨ (!w.params.followText "set-order") = true
    cases w.params.followText "set-order" <;> simp⟩

theorem strs_of : ∀ (l : List Value) (f : Value → Str), (∀ v ∈ l, ∃ k t, v = Value.str k t ∧ f v = k) → StrsAre l (l.map f)
  | [], _, _ => .nil
  | v :: l, f, h => by
    obtain ⟨k, t, rfl, e⟩ := h v List.mem_cons_self
    rw [List.map_cons, e]
    exact .cons k t (strs_of l f fun u hu => h u (List.mem_cons_of_mem _ hu))
def vS : Value → Str
  | .str k _ => k
  | _ => Str.empty
/-- sorted(S) -/
theorem tx_sorted {Q : Value → Shared → Prop} (R : TxS w s.heap a L) (hh : A.handled = none) (few : L.length < 64)
    (hQ : ∀ s' p (out : Array Value) (c : Nat) (ys : List Str), (∀ b o, s.heap.get? b = some o → s'.heap.get? b = some o) → s'.gens = s.gens → s'.os = s.os → s.heap.objs.size ≤ p →
      s'.heap.get? p = some (seqObj "list" out c) → StrsAre out.toList ys → ys.Perm L → sortedS ys = true → Q (.ref p) s') : wpAny (model P w) A (call (.builtin "sorted") [.ref a]) Q E s := by
  obtain ⟨o, es, ep, t, ⟨ho, hex, hd⟩, ge, pm, nd, hb, hf, hr, hl⟩ := R.ex
  have hn : es.size = L.length := by simpa using pm.length_eq
  refine Calls.call_function_entry kind_sorted plain_sorted entry_sorted (args_sorted1 _) ?_
  unfold Builtin.«sorted»
  refine wpAny_bind (m := checkCount "sorted" 1 1 _) (wpAny_pure (wpAny_bind (collect_set (A := A.in1) hh ⟨o, ho, hex.1, hd⟩ hf hb hr hl fun s1 vs k1 hz g1 o1 pv => ?_)))
  have hvl : vs.length = L.length := by rw [pv.length_eq, List.length_map, Array.length_toList, hn]
  have hv : ∀ v ∈ vs, ∃ k t, v = Value.str k t ∧ vS v = k := fun v hv => by
    obtain ⟨e, he, rfl⟩ := List.mem_map.mp (pv.mem_iff.mp hv)
    obtain ⟨k, tk, rfl⟩ := ge e he
    exact ⟨k, tk, rfl, rfl⟩
  have hS := strs_of vs vS hv
  have pk : (vs.map vS).Perm L := by
    refine (pv.map vS).trans ?_
    rw [List.map_map]
    exact pm
  refine wpAny_bind (wpAny_newList ?_ (by rw [hvl, sizeLine_eq]; omega))
  have hoL : (s1.heap.push (seqObj "list" vs.toArray 0)).get? s1.heap.objs.size = some (seqObj "list" vs.toArray 0) := Heap.get?_push_size _ rfl
  refine wpAny_bind (wpAny_holding (wpAny_call_entry slot_list_sort ⟨_, hoL, rfl⟩ entry_list_sort (list_sort_treeK strKind_oneLt hoL hS.keysOf (fun v₁ v₂ rest e => keyKind_strs (by rw [← e]; exact hS)) (by omega) fun st hp hs => ⟨_, rfl, ?_⟩) (args_list_sort _)))
  obtain ⟨ys, y1, y2, y3⟩ := sorted_out_str hS hp hs
  obtain ⟨c, hc⟩ := sortedHeap_at (vs := vs) (out := (arrOf st).map (·.2)) hoL
  refine wpAny_pure ⟨_, rfl, hQ _ s1.heap.objs.size _ c ys (fun b u e => ?_) g1 o1 hz hc y1 (y2.trans pk) y3⟩
  have q := k1 b u e
  have lt := Heap.lt_size q
  refine (sortedHeap_old (Nat.ne_of_lt lt) ?_).trans (Heap.get?_push_of_some _ q)
  rw [size_push']
  exact Nat.lt_succ_of_lt lt
end
/-! ### tracked -/
def TxO (w : World) (a : Addr) (L : List Str) : HO := .ext fun h => TxS w h a L
theorem txO_new {w : World} {P : Program} {H : Hp} {h : Heap} {a : Addr} {L : List Str} (R : TxS w h a L) : ObjOk P w H h a (TxO w a L) :=
  ⟨R, let ⟨o, _, _, _, ⟨ho, _⟩, _⟩ := R.ex; ⟨o, ho⟩, fun _ _ p k => TxS.move p k⟩
section
variable {X : Cx} {pins : List (Addr × Obj)} {σ : L2.St} {H : Hp} {s : Shared}
theorem txO_get {a : Addr} {L : List Str} (I : Inv X pins σ H s) (ha : H a = some (TxO X.w a L)) : TxS X.w s.heap a L := (I.hok a _ ha).1
theorem txO_add {E : Value → Shared → Prop} {D : Addr} {L : List Str} {k : Str} {t : Tok} {Q : Value → Shared → Prop} (I : Inv X pins σ H s) (hD : H D = some (TxO X.w D L)) (room : L.length + 1 < scanBound)
    (h : ∀ s', Inv X pins σ (upd H D (TxO X.w D (addL k L))) s' → Q .none s') : wpAny (model X.prog X.w) X.A (call (.builtin "set.add") [.ref D, .str k t]) Q E s := by
  refine tx_add (txO_get I hD) room fun h' sb R => h _ (I.write (e := D) (t' := s.toks + 1) (by rw [hD]; trivial) (.inl rfl) (fun b u hb hu => (sb.2 b hb).trans hu) ?_ (txO_new R))
  obtain ⟨o, _, _, _, ⟨ho, _⟩, _⟩ := R.ex
  exact ⟨o, ho⟩
/-- sorted(S) -/
def rSortedTx (w : World) : List V → Hp → VK → Prop := fun vs H Q => ∃ (a : Addr) (L : List Str), vs = [V.ref a] ∧ H a = some (TxO w a L) ∧ L.length < 64 ∧
  ∀ (ys : List Str) (p : Addr), ys.Perm L → sortedS ys = true → H p = none → Q (.ref p) (upd H p (.lst (ys.map V.str)))
theorem cr_sortedTx (hc : X.calm = true) : CallR X (.builtin "sorted") (rSortedTx X.w) := by
  rintro pins s σ H vs us Q I r ⟨a, L, rfl, ha, few, q⟩
  rw [Vals.ref1 r]
  refine tx_sorted (txO_get I ha) (I.ok.hd hc) few fun s' p out c ys kp hg ho hp hat hS pm hs => ?_
  obtain ⟨h', g', d', tk', os'⟩ := s'
  subst hg ho
  have len : (ys.map V.str).length ≤ sizeLine := by rw [List.length_map, pm.length_eq, sizeLine_eq]; omega
  have lay : ObjOk X.prog X.w (upd H p (.lst (ys.map V.str))) h' p (.lst (ys.map V.str)) := ⟨len, out.toList, c, vals_of_strs hS, hat⟩
  exact ⟨.ref p, _, I.call (ch := []) (Un.laid kp hp (I.hok.fresh hp)) (I.hok.laid kp hp lay) I.bare (fun _ z => nomatch z), rfl, q ys p pm hs (I.hok.fresh hp)⟩
end
end StT

/-! S172: set comprehensions of texts -/
namespace StT
open PySem PySem.Spec PyProof.Rows L2 PpSet
section
variable {X : Cx}
/-- {e for t in it if c}, e a text: D stands for the set while it grows -/
def tScT (w : World) (wi : TI) (g : TG) (tt : TT) (te : TE) (vs : List Nat) : TE := fun σ H Q => wi σ H fun J H1 => ∀ D, H1 D = none →
  ∃ W : Nat → Nat → Hp → Prop, (∃ m, W 0 m (upd H1 D (TxO w D []))) ∧ ∀ i m H, W i m H →
    (J.stop i H ∧ Q (.ref D) H) ∨ (J.go i H ∧ ∃ Nx : Hp → Prop, (∀ H', Nx H' → ∃ m', m' < m ∧ W (i + 1) m' H') ∧ ∀ x H', J.yld i H x H' → g x (wipe σ vs) H' fun σ2 H2 => wipe σ2 vs = wipe σ vs ∧
      tt σ2 H2 fun b H3 => if b = true then te σ2 H3 fun y H4 => ∃ (c : Str) (L : List Str), y = .str c ∧ H4 D = some (TxO w D L) ∧ L.length + 1 < scanBound ∧ Nx (upd H4 D (TxO w D (addL c L))) else Nx H3)
theorem scT_core {pins : List (Addr × Obj)} {s : Shared} {σ : L2.St} {H : Hp} {Q : VK} {elt tg iter : Expr} {ifs : List Expr} {scope : Scope} {own : List (PySem.Str × Nat)} {pos pos' : Pos} {wi : TI} {g : TG} {tt : TT} {te : TE} {use : Option (Value → Sem Unit)} {Qf : Value → Shared → Prop}
    (hc : X.calm = true) (hN : X.N.Nodup) (I : Inv X pins σ H s) (hi : PI X tg iter wi) (ok : BlkOk X.N X.env.scope scope own)
    (hg : ∀ (s : Shared) (H : Hp) (C : Addr) (cl : List (PySem.Str × Addr)) (fp : List Addr), PG (X.blk s H scope (compEnvC scope cl C X.env) fp) tg g)
    (ht : ∀ (s : Shared) (H : Hp) (C : Addr) (cl : List (PySem.Str × Addr)) (fp : List Addr), PTs (X.blk s H scope (compEnvC scope cl C X.env) fp) ifs tt)
    (he : ∀ (s : Shared) (H : Hp) (C : Addr) (cl : List (PySem.Str × Addr)) (fp : List Addr), PE (X.blk s H scope (compEnvC scope cl C X.env) fp) elt te) (hs : ∀ x, foldedSetIterable iter X.env x = pure x)
    (h : tScT X.w wi g tt te (own.map (·.2)) σ H Q)
    (hRR : ∀ D C s' m H', Inv X pins σ H' s' → Q (.ref D) H' → s'.heap.Ns C m → FpOk X pins H' C → compPost (model X.prog X.w) X.A X.xe use Qf (.ref D) C (.ok .next) s') :
    wpAny (model X.prog X.w) X.A (comprehension (.SetComp elt [⟨tg, iter, ifs, 0⟩] scope pos) scope X.env pos' (newSet (.type "set")) false (eval iter X.env) use) Qf X.xe s := by
  have hfree : ∀ y ∈ scope.names, y.2 = .free → ∃ c, X.env.cells.lookup y.1 = some c := by
    intro y hy e
    exact (ok.free y hy e).elim (fun k => I.ok.has _ (.inl k)) fun k => I.ok.has _ (.inr k)
  refine wpAny_comprehension_free (use := use) rfl hs (closure_ok hfree) ok.kind (fun y hy e => by rw [ok.uniq y hy, e]) (thn (hi.run pins s σ H _ I h) fun _ s1 hx => thn hx fun _ s2 h2 => ?_)
  obtain ⟨it, fp, tn, J, H2, rfl, I2, T, st2, f2, q⟩ := h2
  refine newSet_ok (newEnv_comp ?_)
  obtain ⟨D, hD⟩ : ∃ D, s2.heap.objs.size = D := ⟨_, rfl⟩
  obtain ⟨W, ⟨m0, w0⟩, turn⟩ := q D (I2.hok.fresh (Nat.le_of_eq hD))
  rw [hD]
  obtain ⟨s3, hs3⟩ : ∃ s3 : Shared, s3 = { s2 with heap := s2.heap.push { cls := .type "set", dict := none, data := .set #[] 0 (.fresh 0 0 (!X.w.params.followText "set-order")) } } := ⟨_, rfl⟩
  have e3 : s3.heap = s2.heap.push { cls := .type "set", dict := none, data := .set #[] 0 (.fresh 0 0 (!X.w.params.followText "set-order")) } := by rw [hs3]
  have I3 : Inv X pins σ (upd H2 D (TxO X.w D [])) s3 := by
    rw [hs3, ← hD]
    exact I2.laid (t' := s2.toks) (fun b o e => Heap.get?_push_of_some _ e) (Nat.le_refl _) (txO_new (tx_new X.w))
  have sz : ∀ b ∈ fp, b < s2.heap.objs.size := fun b hb => let ⟨o, e, _⟩ := T.obj _ _ st2 b hb; Heap.lt_size e
  have f3 : ∀ b ∈ fp, FpOk X pins (upd H2 D (TxO X.w D [])) b ∧ b < s3.heap.objs.size := fun b hb =>
    ⟨⟨(upd_ne (hD ▸ Nat.ne_of_lt (sz b hb))).trans (f2 b hb).1, (f2 b hb).2⟩, by rw [e3, Heap.size_push]; exact Nat.lt_succ_of_lt (sz b hb)⟩
  have st3 : tn 0 s3.heap := T.keep _ _ _ st2 fun b _ o e => by rw [e3]; exact Heap.get?_push_of_some _ e
  rw [← hs3]
  have I4 := block_start I3 ok hN f3
  obtain ⟨cl, hcl⟩ : ∃ cl, cellsFrom (s3.heap.objs.size + 1) scope.names (cloFrom X.env.cells scope.names []) = cl := ⟨_, rfl⟩
  rw [hcl] at I4 ⊢
  obtain ⟨H3, hH3⟩ : ∃ H3, upd H2 D (TxO X.w D []) = H3 := ⟨_, rfl⟩
  rw [hH3] at I3 I4 w0 f3
  have pg := hg s3 H3 s3.heap.objs.size cl fp
  have pt := ht s3 H3 s3.heap.objs.size cl fp
  have pe := he s3 H3 s3.heap.objs.size cl fp
  show codeAny _ _ (.compStart (.SetComp elt [⟨tg, iter, ifs, 0⟩] scope pos) 0 (.ref it) (.ref D) (compEnvC scope cl s3.heap.objs.size X.env)) (compPost (model X.prog X.w) X.A X.xe use Qf (.ref D) s3.heap.objs.size)
    { s3 with heap := pushCells (s3.heap.push { cls := .type "dict", data := .dict #[] }) scope.names }
  obtain ⟨ce, hce⟩ : ∃ ce, compEnvC scope cl s3.heap.objs.size X.env = ce := ⟨_, rfl⟩
  rw [hce] at I4 pg pt pe ⊢
  have cL : ce.locals = s3.heap.objs.size := by subst hce; rfl
  obtain ⟨s4, hs4⟩ : ∃ s4 : Shared, s4 = { s3 with heap := pushCells (s3.heap.push { cls := .type "dict", data := .dict #[] }) scope.names } := ⟨_, rfl⟩
  rw [← hs4] at I4 ⊢
  have st4 : tn 0 s4.heap := T.keep _ _ _ st3 fun b _ o e => by rw [hs4]; exact pushCells_keeps _ _ _ _ (Heap.get?_push_of_some _ e)
  have stat : ∀ {σ' : L2.St} {H' : Hp} {s' : Shared}, Inv (X.blk s3 H3 scope ce fp) [] σ' H' s' → (∀ b ∈ fp, H' b = none) → ∀ b ∈ fp, FpOk (X.blk s3 H3 scope ce fp) [] H' b := fun {σ' H' s'} I' hn b hb =>
    ⟨hn b hb, (I'.ok.exf b hb).1, I'.ok.exfs b hb, .inl hb, fun x c e => (I'.ok.exf b hb).2 x c e, fun p hp => by simp at hp⟩
  have loop : codeAny (model X.prog X.w) X.A (.compLoop (.SetComp elt [⟨tg, iter, ifs, 0⟩] scope pos) 0 (.ref it) (.ref D) ce) (compPost (model X.prog X.w) X.A X.xe use Qf (.ref D) s3.heap.objs.size) s4 := by
    refine compLoopS_any (fun n s' => ∃ i H', Inv (X.blk s3 H3 scope ce fp) [] (wipe σ (own.map (·.2))) H' s' ∧ tn i s'.heap ∧ (∀ b ∈ fp, H' b = none) ∧ W i n H') ?_ m0 ⟨0, H3, I4, st4, fun b hb => (f3 b hb).1.1, w0⟩
    rintro n s5 ⟨i, H5, I5, st5, n5, w5⟩
    rcases turn i n H5 w5 with ⟨stop, qq⟩ | ⟨go, Nx, hNx, step⟩
    · refine thnF (T.done (X.blk s3 H3 scope ce fp) rfl rfl rfl hc i [] s5 _ H5 (fun _ _ => False) I5 (stat I5 n5) st5 stop) fun r s6 ⟨hr, I6⟩ => ?_
      subst hr
      have I7 : Inv X pins σ H5 s6 := I3.call' (ch := fp) I6.os I6.base I6.hok I6.bare fun b hb => ⟨(f3 b hb).1.2.2.2.1, (f3 b hb).1.2.1, (f3 b hb).1.2.2.2.2.1, (f3 b hb).1.2.2.2.2.2⟩
      obtain ⟨m, hn, _⟩ := I6.loc
      exact hRR D s3.heap.objs.size s6 m H5 I7 qq (cL ▸ (show s6.heap.Ns ce.locals m from hn)) (I3.fpOk (Nat.le_refl _) (cL ▸ (show H5 ce.locals = none from I6.free)))
    · refine thnF (T.item (X.blk s3 H3 scope ce fp) rfl rfl rfl hc i [] s5 _ H5 (fun _ _ => False) I5 (stat I5 n5) st5 go) fun r s6 ⟨u, hr, h6⟩ => ?_
      subst hr
      refine thnF h6 fun _ s7 ⟨x, H7, I7, r7, y7, st7, n7⟩ => ?_
      refine thnF (pg.run _ s7 _ H7 x u _ (I7.pinned (stat I7 n7) (T.obj _ _ st7)) r7 (step x H7 y7)) fun _ s8 ⟨σ8, H8, I8, hw8, q8⟩ => ?_
      refine thnF (pt.run _ s8 σ8 H8 _ I8 q8) fun b s9 ⟨H9, I9, q9⟩ => ?_
      have fin : ∀ {s' : Shared} {H' : Hp}, Inv (X.blk s3 H3 scope ce fp) ([] ++ pinsAt fp s7.heap) σ8 H' s' → Nx H' → ∃ m, m < n ∧ ∃ i H', Inv (X.blk s3 H3 scope ce fp) [] (wipe σ (own.map (·.2))) H' s' ∧ tn i s'.heap ∧ (∀ b ∈ fp, H' b = none) ∧ W i m H' := by
        intro s' H' I' nx
        obtain ⟨m', hm, w'⟩ := hNx H' nx
        have pin : ∀ b ∈ fp, ∀ o, s7.heap.get? b = some o → s'.heap.get? b = some o ∧ H' b = none := fun b hb o e =>
          have z := I'.pin (b, o) (List.mem_append_right _ (List.mem_append_right _ (mem_pinsAt hb e)))
          ⟨z.1, z.2.1⟩
        refine ⟨m', hm, i + 1, H', (I'.unpinned (pins := [])).weak (by rw [← hw8, wipe_length]) (fun j v e => (wipe_some (hw8 ▸ e)).1), T.keep _ _ _ st7 fun b hb o e => (pin b hb o e).1, fun b hb => ?_, w'⟩
        obtain ⟨o, e, _⟩ := T.obj _ _ st7 b hb
        exact (pin b hb o e).2
      cases b with
      | false => exact fin I9 q9
      | true =>
        refine thnF (pe.run _ s9 σ8 H9 _ I9 q9) fun z s10 ⟨yv, H10, I10, r10, c, L, ey, hD10, few, nx⟩ => ?_
        subst ey
        obtain ⟨tk, rfl⟩ := r10
        exact txO_add (X := X.blk s3 H3 scope ce fp) I10 hD10 few fun s11 I11 => fin I11 nx
  exact codeAny_compStart_set loop (T.self X.A 0 _ _ _ st4 loop)
theorem pe_scT {elt tg iter : Expr} {ifs : List Expr} {scope : Scope} {own : List (PySem.Str × Nat)} {pos : Pos} {wi : TI} {g : TG} {tt : TT} {te : TE} (hc : X.calm = true) (hN : X.N.Nodup) (hi : PI X tg iter wi) (ok : BlkOk X.N X.env.scope scope own)
    (hg : ∀ (s : Shared) (H : Hp) (C : Addr) (cl : List (PySem.Str × Addr)) (fp : List Addr), PG (X.blk s H scope (compEnvC scope cl C X.env) fp) tg g)
    (ht : ∀ (s : Shared) (H : Hp) (C : Addr) (cl : List (PySem.Str × Addr)) (fp : List Addr), PTs (X.blk s H scope (compEnvC scope cl C X.env) fp) ifs tt)
    (he : ∀ (s : Shared) (H : Hp) (C : Addr) (cl : List (PySem.Str × Addr)) (fp : List Addr), PE (X.blk s H scope (compEnvC scope cl C X.env) fp) elt te) (hs : ∀ x, foldedSetIterable iter X.env x = pure x := by intro _; rfl) :
    PE X (.SetComp elt [⟨tg, iter, ifs, 0⟩] scope pos) (tScT X.w wi g tt te (own.map (·.2))) := by
  refine ⟨fun pins s σ H Q I h => ?_⟩
  rw [eval_SetComp]
  refine scT_core hc hN I hi ok hg ht he hs h fun D C s' m H' I' q hn ⟨f0, f1, _, f3, f4, f5⟩ => ⟨m, hn, fun h'' sb => ?_⟩
  exact ⟨.ref D, H', I'.turned (t' := s'.toks) (fun b o hb e => (sb.2 b hb).trans e) f0 f1 f3 f4 f5, rfl, q⟩
end
end StT

/-! S55: sorted lists of pairs of ints; x in l of deep data -/
namespace Sm
open PySem PySem.Spec PyProof.Rows L2
abbrev lexL (p q : Int × Int) : Prop := p.1 < q.1 ∨ (p.1 = q.1 ∧ p.2 < q.2)
def insP (p : Int × Int) : List (Int × Int) → List (Int × Int)
  | [] => [p]
  | q :: r => if lexL q p then q :: insP p r else p :: q :: r
def srtP : List (Int × Int) → List (Int × Int)
  | [] => []
  | p :: r => insP p (srtP r)
abbrev SrtdP (l : List (Int × Int)) : Prop := l.Pairwise fun x y => ¬ lexL y x
def prV (p : Int × Int) : Vl := .tup [.int p.1, .int p.2]
def asPair : Vl → Option (Int × Int)
  | .tup [.int i, .int j] => some (i, j)
  | _ => none
@[simp] theorem mapO_prV : ∀ ps : List (Int × Int), mapO asPair (ps.map prV) = some ps
  | [] => rfl
  | p :: ps => by
    have e : asPair (prV p) = some p := rfl
    simp only [List.map_cons, mapO, e, mapO_prV ps]
def oSortP : OC
  | [.ref j], s => match s[j]? with
    | some (.lst xs) => match mapO asPair xs with
      | some ps => some (.ref s.length, s ++ [.lst ((srtP ps).map prV)])
      | none => none
    | _ => none
  | _, _ => none
@[simp] theorem oSortP_lst {s : Sto} {a : Nat} {ps : List (Int × Int)} (h : s[a]? = some (.lst (ps.map prV))) : oSortP [.ref a] s = some (.ref s.length, s ++ [.lst ((srtP ps).map prV)]) := by simp [oSortP, h]
section
variable {X : Cx} {T : Tb}
def rSortPT (K : PySem.W.Frag) : List V → Hp → VK → Prop := fun vs H Q => ∃ (a : Addr) (xs : List V) (k : V → Int × Int), vs = [V.ref a] ∧ SqL K H a xs ∧ (∀ x ∈ xs, ∃ t, x = V.ref t ∧ SqT K H t [.int (k x).1, .int (k x).2]) ∧
  ∀ ys p, SrtO.Srtd (ltP k) ys → SrtO.Stb (ltP k) ys xs → H p = none → Q (.ref p) (upd H p (.lst ys))
theorem RVs.pairs {ρ : List Addr} {H : Hp} : ∀ {ps : List (Int × Int)} {vs : List V}, RVs T ρ H (ps.map prV) vs → ∀ x ∈ vs, ∃ (p : Int × Int) (t : Addr), x = V.ref t ∧ SqT T.K H t [.int p.1, .int p.2]
  | [], _, h, x, hx => by cases h; simp at hx
  | p :: ps, _, h, x, hx => by
    cases h with
    | cons h1 h2 =>
      rcases List.mem_cons.mp hx with rfl | hx
      · obtain ⟨t, vs, rfl, q1, q2⟩ := h1.tupE
        obtain ⟨y, z, rfl, hy, hz⟩ := q2.two
        rw [hy.intE, hz.intE] at q1
        exact ⟨p, t, rfl, q1⟩
      · exact RVs.pairs h2 x hx
theorem RVs.keys {ρ : List Addr} {H : Hp} {k : V → Int × Int} (inj : ∀ t (p q : Int × Int), SqT T.K H t [.int p.1, .int p.2] → SqT T.K H t [.int q.1, .int q.2] → p = q) : ∀ {ps : List (Int × Int)} {vs : List V}, RVs T ρ H (ps.map prV) vs → (∀ x ∈ vs, ∃ t, x = V.ref t ∧ SqT T.K H t [.int (k x).1, .int (k x).2]) → vs.map k = ps
  | [], _, h, _ => by cases h; rfl
  | p :: ps, _, h, hk => by
    cases h with
    | cons h1 h2 =>
      obtain ⟨t, vs, rfl, q1, q2⟩ := h1.tupE
      obtain ⟨y, z, rfl, hy, hz⟩ := q2.two
      rw [hy.intE, hz.intE] at q1
      obtain ⟨t', e, q3⟩ := hk _ (List.mem_cons_self ..)
      cases e
      rw [List.map_cons, RVs.keys inj h2 fun x hx => hk x (List.mem_cons_of_mem _ hx), inj t _ _ q3 q1]
/-! x in l, deep data -/
def inD (x y : Vl) (s : Sto) : Option Bool := match toD 40 s x, toD 40 s y with
  | some d, some (.list ds) => if d.canLay0 && (PyData.list ds).canLay0 then some (ds.any fun z => PyData.eqv z d) else none
  | _, _ => none
def opInD : O2 := fun x y s => match inD x y s with
  | some b => some (.bl b, s)
  | none => none
def opNotInD : O2 := fun x y s => match inD x y s with
  | some b => some (.bl (!b), s)
  | none => none
end
end Sm

/-! S59: sorted(set(l)), l a list of pairs of ints -/
namespace Sm
open PySem PySem.Spec PyProof.Rows L2
def ddP : List (Int × Int) → List (Int × Int)
  | [] => []
  | x :: xs => if x ∈ xs then ddP xs else x :: ddP xs
abbrev okP (p : Int × Int) : Prop := (0 ≤ p.1 ∧ p.1 < 4096) ∧ 0 ≤ p.2 ∧ p.2 < 4096
def oSortSetP : OC
  | [.ref j], s => match s[j]? with
    | some (.lst xs) => match mapO asPair xs with
      | some ps => if ps.length < 64 ∧ ∀ p ∈ ps, okP p then some (.ref s.length, s ++ [.lst ((srtP (ddP ps)).map prV)]) else none
      | none => none
    | _ => none
  | _, _ => none
@[simp] theorem oSortSetP_lst {s : Sto} {a : Nat} {ps : List (Int × Int)} (h : s[a]? = some (.lst (ps.map prV))) (hl : ps.length < 64) (hb : ∀ p ∈ ps, okP p) : oSortSetP [.ref a] s = some (.ref s.length, s ++ [.lst ((srtP (ddP ps)).map prV)]) := by
  have h2 : ps.length < 64 ∧ ∀ p ∈ ps, okP p := ⟨hl, hb⟩
  simp only [oSortSetP, h, mapO_prV, if_pos h2]
def unP : List Int → Int × Int
  | [x, y] => (x, y)
  | _ => (0, 0)
def liP (p : Int × Int) : List Int := [p.1, p.2]
theorem unli (p : Int × Int) : unP (liP p) = p := rfl
section
variable {X : Cx} {T : Tb} {W : WX} {es : List Expr} {e : Expr} {mr : AM}
end
end Sm

/-! S173: sorted({v[1 + k] for v in l if v[0] == w}), tuples and texts -/
namespace Sm
open PySem PySem.Spec PyProof.Rows L2 StT
/-- the texts, each once -/
def ddT (zs : List Str) : List Str := zs.foldl (fun L k => addL k L) []
def sdT (zs : List Str) : List Str := srtT (ddT zs)
theorem mem_addL {k z : Str} {L : List Str} : z ∈ addL k L ↔ z = k ∨ z ∈ L := by
  unfold addL
  split
  · rename_i h
    exact ⟨.inr, fun q => q.elim (fun e => e ▸ h) id⟩
  · exact List.mem_cons
theorem addL_nd {k : Str} {L : List Str} (h : L.Nodup) : (addL k L).Nodup := by
  unfold addL
  split
  · exact h
  · rename_i n
    exact List.nodup_cons.mpr ⟨n, h⟩
theorem addL_len {k : Str} {L : List Str} : (addL k L).length ≤ L.length + 1 := by
  unfold addL
  split <;> simp
theorem ddT_snoc (zs : List Str) (k : Str) : ddT (zs ++ [k]) = addL k (ddT zs) := by simp [ddT]
theorem fold_mem (zs : List Str) : ∀ (L : List Str) (z : Str), z ∈ zs.foldl (fun L k => addL k L) L ↔ z ∈ L ∨ z ∈ zs := by
  induction zs with
  | nil => intro L z; simp
  | cons k zs ih =>
    intro L z
    rw [List.foldl_cons, ih, mem_addL, List.mem_cons]
    constructor
    · rintro ((h | h) | h)
      · exact .inr (.inl h)
      · exact .inl h
      · exact .inr (.inr h)
    · rintro (h | h | h)
      · exact .inl (.inr h)
      · exact .inl (.inl h)
      · exact .inr h
theorem fold_nd (zs : List Str) : ∀ (L : List Str), L.Nodup → (zs.foldl (fun L k => addL k L) L).Nodup := by
  induction zs with
  | nil => intro L h; exact h
  | cons k zs ih => intro L h; exact ih _ (addL_nd h)
theorem fold_len (zs : List Str) : ∀ (L : List Str), (zs.foldl (fun L k => addL k L) L).length ≤ L.length + zs.length := by
  induction zs with
  | nil => intro L; simp
  | cons k zs ih =>
    intro L
    have h1 := ih (addL k L)
    have h2 := addL_len (k := k) (L := L)
    rw [List.foldl_cons, List.length_cons]
    omega
theorem mem_ddT {zs : List Str} {z : Str} : z ∈ ddT zs ↔ z ∈ zs := by
  unfold ddT
  rw [fold_mem]
  simp
theorem ddT_nd (zs : List Str) : (ddT zs).Nodup := fold_nd zs [] .nil
theorem ddT_len (zs : List Str) : (ddT zs).length ≤ zs.length := by have := fold_len zs []; rw [List.length_nil, Nat.zero_add] at this; exact this
/-- what is picked out of the rows -/
def pickW (w : Str) (k : Nat) : List Vl → Option (List Str)
  | [] => some []
  | .tup (.str h :: xs) :: r => if h = w then (match xs[k]? with
      | some (.str z) => (pickW w k r).map (z :: ·)
      | _ => none) else pickW w k r
  | _ => none
theorem pickW_cons {w : Str} {k : Nat} {x : Vl} {r : List Vl} {zs : List Str} (h : pickW w k (x :: r) = some zs) : ∃ h' xs, x = .tup (.str h' :: xs) ∧ ((h' = w ∧ ∃ z zs', xs[k]? = some (.str z) ∧ pickW w k r = some zs' ∧ zs = z :: zs') ∨ (h' ≠ w ∧ pickW w k r = some zs)) := by
  unfold pickW at h
  split at h
  · cases ‹_ = []›
  · rename_i hh xs r' e
    cases e
    refine ⟨hh, xs, rfl, ?_⟩
    split at h
    · rename_i e
      split at h
      · rename_i z hz
        cases q : pickW w k r with
        | none => rw [q] at h; cases h
        | some zs' => rw [q] at h; cases h; exact .inl ⟨e, z, zs', hz, rfl, rfl⟩
      · cases h
    · rename_i ne
      exact .inr ⟨ne, h⟩
  · cases h
theorem atI_nat {α : Type} {xs : List α} {n : Nat} {x : α} (h : xs[n]? = some x) : atI xs (n : Int) = some x := by
  have := (List.getElem?_eq_some_iff.mp h).1
  unfold atI ixN
  rw [if_pos (by omega), if_pos (by omega)]
  exact h
def eSsc (i : Nat) (w : Str) (k : Nat) (m : EM) : EM := fun lo => bnd (m lo) fun v s => match v with
  | .ref j => match s[j]? with
    | some (.lst xs) => if xs.length < 64 ∧ i < lo.length then match pickW w k xs with
        | some zs => .ok (.ref s.length) (s ++ [.lst ((sdT zs).map .str)])
        | none => .fail
      else .fail
    | _ => .fail
  | _ => .fail
section
variable {X : Cx} {T : Tb} {W : WX} {p1 p2 p3 p4 p5 p6 p7 p8 p9 pn pos pos' : Pos} {iter : Expr} {me : EM} {scope : Scope} {j : Nat} {v : Str} {w : Str} {k : Nat} {j1 j2 j3 : Nat} {i : Int}
theorem ce_sortSc (hi : i = (k : Int) + 1) (hc : X.calm = true) (hN : X.N.Nodup) (hg : Gl X "sorted") (hm : X.mg "sorted" = none) (hK : X.K = T.K) (he : PE X iter (tE T W me)) (ok : BlkOk X.N X.env.scope scope [(v, j)])
    (ht : ∀ (s : Shared) (H : Hp) (C : Addr) (cl : List (Str × Addr)) (fp : List Addr), PG (X.blk s H scope (compEnvC scope cl C X.env) fp) (.Name v p1) (gName j))
    (hv1 : ∀ (s : Shared) (H : Hp) (C : Addr) (cl : List (Str × Addr)) (fp : List Addr), PE (X.blk s H scope (compEnvC scope cl C X.env) fp) (.Name v p2) (tVar j))
    (hv2 : ∀ (s : Shared) (H : Hp) (C : Addr) (cl : List (Str × Addr)) (fp : List Addr), PE (X.blk s H scope (compEnvC scope cl C X.env) fp) (.Name v p5) (tVar j))
    (hs : ∀ x, foldedSetIterable iter X.env x = pure x := by intro _; rfl)
    (hst : starEach [.SetComp (.Subscript (.Name v p2) (.Constant (.int i) j1 p3) p4) [⟨.Name v p1, iter, [.Compare (.Subscript (.Name v p5) (.Constant (.int 0) j2 p6) p7) [.Eq] [.Constant (.str w) j3 p8] p9], 0⟩] scope pos] X.env
      = (false, eval (.SetComp (.Subscript (.Name v p2) (.Constant (.int i) j1 p3) p4) [⟨.Name v p1, iter, [.Compare (.Subscript (.Name v p5) (.Constant (.int 0) j2 p6) p7) [.Eq] [.Constant (.str w) j3 p8] p9], 0⟩] scope pos) X.env) :: starEach [] X.env := by rfl)
    (hpl : (backTo pos' (starEach ([] : List Expr) X.env)).any (·.1) = false := by rfl) :
    PE X (.Call (.Name "sorted" pn) [.SetComp (.Subscript (.Name v p2) (.Constant (.int i) j1 p3) p4) [⟨.Name v p1, iter, [.Compare (.Subscript (.Name v p5) (.Constant (.int 0) j2 p6) p7) [.Eq] [.Constant (.str w) j3 p8] p9], 0⟩] scope pos] [] pos') (tE T W (eSsc j w k me)) := by
  refine pe_mono (pe_callB (id := "sorted") (cr_sortedTx hc) hg hm (by decide +kernel) (pa_cons (pe_scT (own := [(v, j)]) hc hN (pi_list he) ok ht
    (fun s H C cl fp => pts_one (pt_cmpR op_eq (pe_ix (r := rIxT X.K) (ix_tup (X := X.blk s H scope (compEnvC scope cl C X.env) fp)) (hv2 s H C cl fp) pe_int (fun _ _ => rfl)) pe_str (by first | exact nomark _ | rfl))) (fun s H C cl fp => pe_ix (r := rIxT X.K) (ix_tup (X := X.blk s H scope (compEnvC scope cl C X.env) fp)) (hv1 s H C cl fp) pe_int (fun _ _ => rfl)) hs) pa_nil hst) (by decide) (by decide) hst hpl) fun σ H Q h => ?_
  refine tG_bnd (R := RV T) h fun ρ s lo x z H1 r rl hx p => ?_
  cases hx with
  | ref ha =>
    rename_i jr a
    simp only at p
    split at p
    · rename_i xs hj
      split at p
      · rename_i few
        obtain ⟨few, jl⟩ := few
        have js : j < σ.length := rl.len ▸ jl
        split at p
        · rename_i zs hz
          obtain ⟨vs, h1, h2⟩ := r.lst hj ha
          have len := h2.length
          refine ⟨a, rfl, ⟨vs, SqL.of h1⟩, fun D hD => ?_⟩
          refine ⟨fun n m H => m = vs.length - n ∧ n ≤ vs.length ∧ ∃ us ws, us.length + ws.length ≤ n + ws.length ∧ pickW w k (xs.drop n) = some ws ∧ zs = us ++ ws ∧ H = upd H1 D (TxO X.w D (ddT us)), ⟨vs.length, rfl, Nat.zero_le _, [], zs, by simp, hz, rfl, rfl⟩, ?_⟩
          rintro n m H ⟨rfl, hn, us, ws, hul, hp, rfl, rfl⟩
          have hne : a ≠ D := ne_of_none h1 hD
          have hat : (upd H1 D (TxO X.w D (ddT us))) a = some (.lst vs) := (upd_ne hne).trans h1
          have xD : Ext T ρ H1 ρ (upd H1 D (TxO X.w D (ddT us))) := ext_upd hD
          by_cases hlt : n < vs.length
          · refine .inr ⟨⟨vs, vs[n], SqL.of hat, List.getElem?_eq_getElem hlt⟩, fun H' => ∃ us' ws', us'.length + ws'.length ≤ (n + 1) + ws'.length ∧ pickW w k (xs.drop (n + 1)) = some ws' ∧ us ++ ws = us' ++ ws' ∧ H' = upd H1 D (TxO X.w D (ddT us')), fun H' ⟨us', ws', q1, q2, q3, q4⟩ => ⟨_, by omega, rfl, hlt, us', ws', q1, q2, q3, q4⟩, ?_⟩
            rintro x H' ⟨rfl, hx⟩
            have hx := hx vs (SqL.of hat)
            have hlx : n < xs.length := by omega
            obtain ⟨u, hu, hr⟩ := h2.get (List.getElem?_eq_getElem hlx)
            rw [hx] at hu
            cases hu
            rw [List.drop_eq_getElem_cons hlx] at hp
            obtain ⟨h', ys, e, c⟩ := pickW_cons hp
            rw [e] at hr
            obtain ⟨t, ts, rfl, t1, t2⟩ := hr.tupE
            have t1' := xD.tup _ _ t1
            rw [← hK] at t1'
            obtain ⟨tv, ts, rfl, tr, trs⟩ : ∃ tv ts', ts = tv :: ts' ∧ RV T ρ H1 (.str h') tv ∧ RVs T ρ H1 ys ts' := by
              cases t2 with
              | cons a b => exact ⟨_, _, rfl, a, b⟩
            cases tr
            have hw : wipe ((wipe σ [j]).set j (some (.ref t))) [j] = wipe σ [j] := by rw [wipe_set (List.mem_cons_self ..), wipe_wipe]
            have hj' : ((wipe σ [j]).set j (some (.ref t)))[j]? = some (some (.ref t)) := List.getElem?_set_self (by rw [wipe_length]; exact js)
            refine ⟨hw, .ref t, hj', t, _, 0, .str h', rfl, rfl, t1', atI_nat (n := 0) rfl, rfl, decide (V.str h' = V.str w), rfl, ?_⟩
            rcases c with ⟨e, zv, ws', y1, y2, rfl⟩ | ⟨ne, y2⟩
            · subst e
              rw [if_pos (by simp)]
              obtain ⟨zz, z1, z2⟩ := trs.get y1
              cases z2
              refine ⟨.ref t, hj', t, _, _, .str zv, rfl, rfl, t1', ?_, zv, ddT us, rfl, upd_same, ?_, us ++ [zv], ws', ?_, y2, by simp, ?_⟩
              · rw [hi]
                exact atI_nat (n := k + 1) z1
              · have := ddT_len us
                show _ < (4096 : Nat)
                omega
              · simp
                omega
              · rw [ddT_snoc, upd_upd]
            · rw [if_neg (by simpa using ne)]
              exact ⟨us, ws, by omega, y2, rfl, rfl⟩
          · have en : n = vs.length := by omega
            subst en
            rw [List.drop_eq_nil_of_le (by omega)] at hp
            cases hp
            refine .inl ⟨⟨vs, SqL.of hat, Nat.le_refl _⟩, D, ddT us, rfl, upd_same, ?_, fun ys b pm srt hb => ?_⟩
            · have := ddT_len us
              omega
            · have ey : ys = sdT us := srtT_eq pm srt
              subst ey
              have r1 := r.laid (o := TxO X.w D (ddT us)) hD
              rw [List.append_nil] at p
              exact p (ρ ++ [b]) _ (.ref b) (xD.trans (r1.newExt hb)) (r1.new hb ⟨_, upd_same, RVs.strs _⟩) r1.newRef
        · exact p.elim
      · exact p.elim
    · exact p.elim
  | _ => exact p.elim
end
end Sm

/-! S174: the signs of a text walked; t == () for any tuple; written tuples of texts -/
namespace Sm
open PySem PySem.Spec PyProof.Rows L2
/-- the signs of a text -/
def signs (x : Str) : List Vl := x.cps.toList.map fun c => .str ⟨#[c]⟩
def aStr (e : EM) : AM := fun lo => bnd (e lo) fun x => match x with
  | .str x => ret (signs x)
  | _ => failM
theorem signs_get {x : Str} {i : Nat} : (signs x)[i]? = (x.cps[i]?).map fun c => Vl.str ⟨#[c]⟩ := by
  unfold signs
  rw [List.getElem?_map, Array.getElem?_toList]
section
variable {X : Cx} {T : Tb} {W : WX} {tg : Expr}
theorem ci_str {e : Expr} {me : EM} (he : PE X e (tE T W me)) : PI X tg e (tI T W (iFix (aStr me))) := pi_mono (pi_str he) fun σ H R h => by
  obtain ⟨ρ, s, lo, r, rl, p⟩ := h
  refine po_bnd (R := RV T) (m := me) (f := fun x => bnd (match x with | .str x => ret (signs x) | _ => failM) fun xs => ret (nxFix xs)) (R' := fun ρ H nx J => ItOk T J nx ρ H) (Q := R) r rl ?_ fun ρ1 s1 x z H1 ext1 r1 rl1 hx p1 => ?_
  · unfold iFix aStr at p
    unfold bnd at p ⊢
    cases e : me lo s <;> rw [e] at p <;> exact p
  · cases hx with
    | str t =>
      refine ⟨t, rfl, p1 ρ1 H1 _ .refl r1 ?_⟩
      intro ρ2 H2 s2 i e2 r2
      simp only [nxFix, signs_get]
      cases e : t.cps[i]? with
      | none => exact Array.getElem?_eq_none_iff.mp e
      | some c =>
        refine ⟨(Array.getElem?_eq_some_iff.mp e).1, fun x H3 y => ?_⟩
        obtain ⟨rfl, c', hc, rfl⟩ := y
        rw [e] at hc
        cases hc
        exact ⟨.refl, r2, .str _⟩
    | _ => exact p1.elim
/-- t == () -/
def opEq0 : O2 := fun a b s => match a, b with
  | .tup xs, .tup [] => some (.bl xs.isEmpty, s)
  | _, _ => opEq a b s
theorem o_eq0 (hu : X.A.units + 64 < cLine) (hK : X.K = T.K := by rfl) : OpR X (compareOp .Eq) (rO T opEq0) := fun pins s σ H x y v u Q I rx ry q => by
  obtain ⟨ρ, st, a, b, w, s', r, ha, hb, e, k⟩ := q
  unfold opEq0 at e
  split at e
  · rename_i xs
    cases e
    obtain ⟨p, vs, rfl, h1, h2⟩ := ha.tupE
    obtain ⟨p', vs', rfl, h1', h2'⟩ := hb.tupE
    cases h2'
    obtain rfl : v = Value.ref p := rx
    obtain rfl : u = Value.ref p' := ry
    rw [← hK] at h1 h1'
    obtain ⟨its, rv, q1, _⟩ := I.tuple h1
    obtain ⟨its', rv', q2, _⟩ := I.tuple h1'
    cases rv'
    have e0 : xs.isEmpty = its.isEmpty := by
      have := h2.length.trans rv.length
      cases xs <;> cases its <;> simp_all
    have := SeqAt.RcAt.tuples (A := X.A) (e := fun _ => true) q1 q2 (by omega) (fun j h1 h2 => absurd h2 (Nat.not_lt_zero _))
    refine this X.prog X.w X.xe _ ⟨.bl xs.isEmpty, H, I, ?_, k.here r (.bl _)⟩
    rw [e0]
    cases its <;> rfl
  · exact o_eq hu hK pins s σ H x y v u Q I rx ry ⟨ρ, st, a, b, w, s', r, ha, hb, e, k⟩
end
/-- a written tuple -/
structure TupK (K : PySem.W.Frag) (a : Addr) (vs : List V) : Prop where
  ex : ∃ o its n sl, K.lookup a = some ⟨.type "tuple", o, .seq its n, sl⟩ ∧ its.size ≤ sizeLine ∧ Vals vs its.toList
theorem TupK.rv {T : Tb} {a : Addr} {vs : List V} {xs : List Vl} (h : TupK T.K a vs) (hx : ∀ ρ H, RVs T ρ H xs vs) : ∀ ρ H, RV T ρ H (.tup xs) (.ref a) := fun ρ H =>
  let ⟨_, its, n, _, hl, hs, hv⟩ := h.ex
  .tup (.inr ⟨_, its, n, hl, rfl, rfl, hs, hv⟩) (hx ρ H)
theorem rvs_strs {T : Tb} {ρ : List Addr} {H : Hp} : ∀ ys : List Str, RVs T ρ H (ys.map Vl.str) (ys.map V.str)
  | [] => .nil
  | y :: ys => .cons (.str y) (rvs_strs ys)
end Sm

/-! S177: any value == a text -/
namespace PySem.SeqAt
open PySem
theorem dict_eq_declines_strX (a : Addr) (es : Array DictEntry) (n : Nat) (dd : Option Addr) (sl : Array (Option Value)) (b : Str) (u : Tok) :
    Meets (Builtin.«dict.__eq__» ⟨[.ref a, .str b u], []⟩) (fun _ R s => s.heap.get? a = some { cls := .type "dict", dict := dd, data := .dict es n, slots := sl } ∧ R (.ok (.ret .notImplemented)) s) :=
  .of_wp fun prog w A R s h => by
    obtain ⟨hp, g, d, tk, os⟩ := s
    obtain ⟨hl, h⟩ := h
    have f1 := F.sub_str_dict
    wp_walk using wpAny_loadPart' hl
    exact ⟨_, rfl, h⟩
theorem str_eq_declines_dictX (b : Str) (u : Tok) (l : Addr) (c : Value) (es : Array DictEntry) (n : Nat) (dd : Option Addr) (sl : Array (Option Value)) :
    Meets (Builtin.«str.__eq__» ⟨[.str b u, .ref l], []⟩) (fun _ R s => s.heap.get? l = some { cls := c, dict := dd, data := .dict es n, slots := sl } ∧ R (.ok (.ret .notImplemented)) s) :=
  .of_wp fun prog w A R s h => by obtain ⟨hp, g, d, tk, os⟩ := s; obtain ⟨hl, h⟩ := h; wp_walk using wpAny_loadPart' hl, wpAny_load hl; exact ⟨_, rfl, h⟩
section
variable {A : Around} {s : Shared}
theorem RcAt.dict_strX {a : Addr} {o : Obj} {es : Array DictEntry} {n : Nat} (b : Str) (u : Tok) (ho : s.heap.get? a = some o) (hc : o.cls = .type "dict") (hd : o.data = .dict es n) (hu : A.units < cLine) : RcAt A s (.ref a) (.str b u) false := fun prog w E Q h => by
  obtain ⟨cls, dd, data, sl⟩ := o
  simp only at hc hd
  subst hc hd
  exact rc_eq_decline_or (k := false) ⟨_, ho, rfl⟩ (typeIs_str s b u) (by decide) F.sub_str_dict F.slot_dict_eq F.slot_str_eq_refl
    (fun _ hq => call_meets F.slot_dict_eq ⟨_, ho, rfl⟩ F.entry_dict_eq (F.args_dict_eq_2 _ _) (dict_eq_declines_strX a es n dd sl b u) ⟨ho, hq⟩)
    (fun _ hq => call_meets F.slot_str_eq_refl (typeIs_str s b u) F.entry_str_eq (F.args_str_eq_2 _ _) (str_eq_declines_dictX b u a (.type "dict") es n dd sl) ⟨ho, hq⟩)
    (fun _ hq => wpAny_of_eq (rfl : isSame (.ref a) (.str b u) = pure false) hq) (.inr hu) h
end
end PySem.SeqAt
namespace Sm
open PySem PySem.Spec PyProof.Rows L2
/-- the value is this text -/
def eqStr (v : Vl) (y : Str) : Bool := match v with
  | .str z => decide (z = y)
  | _ => false
def opEqS : O2 := fun a b s => match b with
  | .str y => match a with
    | .tup _ => some (.bl false, s)
    | .ref j => match s[j]? with
      | some (.lst _) => some (.bl false, s)
      | some (.dic _) => some (.bl false, s)
      | _ => none
    | .non => some (.bl false, s)
    | .int _ => some (.bl false, s)
    | .str z => some (.bl (decide (z = y)), s)
    | _ => opEq a b s
  | _ => opEq a b s
section
variable {X : Cx} {T : Tb}
theorem o_eqS (hu : X.A.units + 64 < cLine) (hK : X.K = T.K := by rfl) : OpR X (compareOp .Eq) (rO T opEqS) := fun pins s σ H x y v u Q I rx ry q => by
  obtain ⟨ρ, st, a, b, w, s', r, ha, hb, e, k⟩ := q
  have old : opEq a b st = some (w, s') → wpAny (model X.prog X.w) X.A (compareOp .Eq v u) (EP X pins σ Q) X.xe s := fun e => o_eq hu hK pins s σ H x y v u Q I rx ry ⟨ρ, st, a, b, w, s', r, ha, hb, e, k⟩
  unfold opEqS at e
  split at e
  · rename_i yt
    obtain rfl := hb.strE
    obtain ⟨tk, rfl⟩ := ry
    cases a with
    | tup xs =>
      cases e
      obtain ⟨p, vs, rfl, h1, h2⟩ := ha.tupE
      obtain rfl : v = Value.ref p := rx
      rw [← hK] at h1
      obtain ⟨its, rv, q1, _⟩ := I.tuple h1
      exact SeqAt.RcAt.tuple_str (A := X.A) yt tk q1 (by omega) X.prog X.w X.xe _ ⟨.bl false, H, I, rfl, k.here r (.bl _)⟩
    | ref j =>
      obtain ⟨p, rfl, hp⟩ := ha.refE
      obtain rfl : v = Value.ref p := rx
      simp only at e
      split at e
      · rename_i xs hx
        cases e
        obtain ⟨vs, h1, h2⟩ := r.lst hx hp
        obtain ⟨its, rv, q1, _⟩ := I.list (SqL.of h1)
        exact SeqAt.RcAt.list_str (A := X.A) yt tk q1.isList (by omega) X.prog X.w X.xe _ ⟨.bl false, H, I, rfl, k.here r (.bl _)⟩
      · rename_i kvs hx
        cases e
        obtain ⟨vs, h1, h2⟩ := r.dic hx hp
        obtain ⟨_, _, us, rel, dd⟩ := dk_of I.hok h1
        obtain ⟨o, es, ep, eo, exd, hdat, _⟩ := dd
        exact SeqAt.RcAt.dict_strX (A := X.A) yt tk eo exd.1 hdat (by omega) X.prog X.w X.xe _ ⟨.bl false, H, I, rfl, k.here r (.bl _)⟩
      · cases e
    | non => exact old (by simpa [opEq, eqM, eqS] using e)
    | int i => exact old (by simpa [opEq, eqM, eqS] using e)
    | str z => exact old (by
        cases e
        simp only [opEq, eqM, eqS]
        by_cases q : z = yt <;> simp [q])
    | bl i => exact old e
    | scr i => exact old e
    | ty i => exact old e
    | fn i => exact old e
  · exact old e
end
end Sm

/-! S180: x == () and x == [], x != () and x != [], whatever the items are -/
namespace Sm
open PySem PySem.Spec PyProof.Rows L2
def emptyM (a b : Vl) (s : Sto) : Option Bool := match a, b with
  | .tup xs, .tup [] => some xs.isEmpty
  | .ref i, .ref j => match s[i]?, s[j]? with
    | some (.lst xs), some (.lst []) => some xs.isEmpty
    | _, _ => none
  | _, _ => none
def opEqE : O2 := fun a b s => match emptyM a b s with
  | some k => some (.bl k, s)
  | none => opEq a b s
def opNeE : O2 := fun a b s => match emptyM a b s with
  | some k => some (.bl (!k), s)
  | none => opNe a b s
section
variable {X : Cx} {T : Tb}
theorem empty_dec {a b : Vl} {st : Sto} {k : Bool} (h : emptyM a b st = some k) : (∃ xs, a = .tup xs ∧ b = .tup [] ∧ k = xs.isEmpty) ∨ ∃ i j xs, a = .ref i ∧ b = .ref j ∧ st[i]? = some (.lst xs) ∧ st[j]? = some (.lst []) ∧ k = xs.isEmpty := by
  unfold emptyM at h
  split at h
  · cases h; exact .inl ⟨_, rfl, rfl, rfl⟩
  · split at h
    · rename_i h1 h2
      cases h
      exact .inr ⟨_, _, _, rfl, rfl, h1, h2, rfl⟩
    · cases h
  · cases h
theorem o_eqE (hu : X.A.units + 64 < cLine) (hK : X.K = T.K := by rfl) : OpR X (compareOp .Eq) (rO T opEqE) := fun pins s σ H x y v u Q I rx ry q => by
  obtain ⟨ρ, st, a, b, w, s', r, ha, hb, e, k⟩ := q
  unfold opEqE at e
  split at e
  · rename_i c hc
    cases e
    rcases empty_dec hc with ⟨xs, rfl, rfl, rfl⟩ | ⟨i, j, xs, rfl, rfl, hi, hj, rfl⟩
    · obtain ⟨p, vs, rfl, h1, h2⟩ := ha.tupE
      obtain ⟨p', vs', rfl, h1', h2'⟩ := hb.tupE
      cases h2'
      obtain rfl : v = Value.ref p := rx
      obtain rfl : u = Value.ref p' := ry
      rw [← hK] at h1 h1'
      obtain ⟨its, rv, q1, _⟩ := I.tuple h1
      obtain ⟨its', rv', q2, _⟩ := I.tuple h1'
      cases rv'
      have e0 : xs.isEmpty = its.isEmpty := by
        have := h2.length.trans rv.length
        cases xs <;> cases its <;> simp_all
      have := SeqAt.RcAt.tuples (A := X.A) (e := fun _ => true) q1 q2 (by omega) (fun j h1 h2 => absurd h2 (Nat.not_lt_zero _))
      refine this X.prog X.w X.xe _ ⟨.bl xs.isEmpty, H, I, ?_, k.here r (.bl _)⟩
      rw [e0]
      cases its <;> rfl
    · obtain ⟨p, rfl, hp⟩ := ha.refE
      obtain ⟨p', rfl, hp'⟩ := hb.refE
      obtain rfl : v = Value.ref p := rx
      obtain rfl : u = Value.ref p' := ry
      obtain ⟨vs, h1, h2⟩ := r.lst hi hp
      obtain ⟨vs', h1', h2'⟩ := r.lst hj hp'
      cases h2'
      obtain ⟨its, rv, q1, _⟩ := I.list (SqL.of h1)
      obtain ⟨its', rv', q2, _⟩ := I.list (SqL.of h1')
      cases rv'
      have e0 : xs.isEmpty = its.isEmpty := by
        have := h2.length.trans rv.length
        cases xs <;> cases its <;> simp_all
      cases its with
      | nil =>
        have := SeqAt.RcAt.lists (A := X.A) (e := fun _ => true) q1.isList q2.isList rfl (by omega) (fun j h1 h2 => absurd h2 (Nat.not_lt_zero _))
        refine this X.prog X.w X.xe _ ⟨.bl xs.isEmpty, H, I, ?_, k.here r (.bl _)⟩
        rw [e0]
        rfl
      | cons z zs =>
        have := SeqAt.RcAt.lists_lengths (A := X.A) q1.isList q2.isList (by simp) (by omega)
        refine this X.prog X.w X.xe _ ⟨.bl xs.isEmpty, H, I, ?_, k.here r (.bl _)⟩
        rw [e0]
        rfl
  · exact o_eq hu hK pins s σ H x y v u Q I rx ry ⟨ρ, st, a, b, w, s', r, ha, hb, e, k⟩
theorem o_neE (hu : X.A.units + 64 < cLine) (hK : X.K = T.K := by rfl) : OpR X (compareOp .NotEq) (rO T opNeE) := fun pins s σ H x y v u Q I rx ry q => by
  obtain ⟨ρ, st, a, b, w, s', r, ha, hb, e, k⟩ := q
  unfold opNeE at e
  split at e
  · rename_i c hc
    cases e
    rcases empty_dec hc with ⟨xs, rfl, rfl, rfl⟩ | ⟨i, j, xs, rfl, rfl, hi, hj, rfl⟩
    · obtain ⟨p, vs, rfl, h1, h2⟩ := ha.tupE
      obtain ⟨p', vs', rfl, h1', h2'⟩ := hb.tupE
      cases h2'
      obtain rfl : v = Value.ref p := rx
      obtain rfl : u = Value.ref p' := ry
      rw [← hK] at h1 h1'
      obtain ⟨its, rv, q1, _⟩ := I.tuple h1
      obtain ⟨its', rv', q2, _⟩ := I.tuple h1'
      cases rv'
      have e0 : xs.isEmpty = its.isEmpty := by
        have := h2.length.trans rv.length
        cases xs <;> cases its <;> simp_all
      have := SeqAt.RcNeAt.tuples (A := X.A) (e := fun _ => true) q1 q2 (by omega) (fun j h1 h2 => absurd h2 (Nat.not_lt_zero _))
      refine this X.prog X.w X.xe _ ⟨.bl (!xs.isEmpty), H, I, ?_, k.here r (.bl _)⟩
      rw [e0]
      cases its <;> rfl
    · obtain ⟨p, rfl, hp⟩ := ha.refE
      obtain ⟨p', rfl, hp'⟩ := hb.refE
      obtain rfl : v = Value.ref p := rx
      obtain rfl : u = Value.ref p' := ry
      obtain ⟨vs, h1, h2⟩ := r.lst hi hp
      obtain ⟨vs', h1', h2'⟩ := r.lst hj hp'
      cases h2'
      obtain ⟨its, rv, q1, _⟩ := I.list (SqL.of h1)
      obtain ⟨its', rv', q2, _⟩ := I.list (SqL.of h1')
      cases rv'
      have e0 : xs.isEmpty = its.isEmpty := by
        have := h2.length.trans rv.length
        cases xs <;> cases its <;> simp_all
      cases its with
      | nil =>
        have := SeqAt.RcNeAt.lists (A := X.A) (e := fun _ => true) q1.isList q2.isList rfl (by omega) (fun j h1 h2 => absurd h2 (Nat.not_lt_zero _))
        refine this X.prog X.w X.xe _ ⟨.bl (!xs.isEmpty), H, I, ?_, k.here r (.bl _)⟩
        rw [e0]
        rfl
      | cons z zs =>
        have := SeqAt.RcNeAt.lists_lengths (A := X.A) q1.isList q2.isList (by simp) (by omega)
        refine this X.prog X.w X.xe _ ⟨.bl (!xs.isEmpty), H, I, ?_, k.here r (.bl _)⟩
        rw [e0]
        rfl
  · exact o_ne hu hK pins s σ H x y v u Q I rx ry ⟨ρ, st, a, b, w, s', r, ha, hb, e, k⟩
end
theorem opEqE_tup {xs : List Vl} {s : Sto} : opEqE (.tup xs) (.tup []) s = some (.bl xs.isEmpty, s) := rfl
theorem opNeE_tup {xs : List Vl} {s : Sto} : opNeE (.tup xs) (.tup []) s = some (.bl (!xs.isEmpty), s) := rfl
theorem opEqE_lst {xs : List Vl} {s : Sto} {i j : Nat} (h1 : s[i]? = some (.lst xs)) (h2 : s[j]? = some (.lst [])) : opEqE (.ref i) (.ref j) s = some (.bl xs.isEmpty, s) := by simp only [opEqE, emptyM, h1, h2]
end Sm

/-! S185: x[::-1], x a tuple or a list -/
namespace RvS
open PySem PySem.Spec PyProof.Rows HT L2
theorem fm_congr {α β : Type} {f g : α → Option β} : ∀ {l : List α}, (∀ a ∈ l, f a = g a) → l.filterMap f = l.filterMap g
  | [], _ => rfl
  | a :: l, h => by
    have ih := fm_congr (l := l) fun b hb => h b (List.mem_cons_of_mem _ hb)
    rw [List.filterMap_cons, List.filterMap_cons, h a (List.mem_cons_self ..), ih]
theorem rev_pick (xs : Array Value) : ((List.range xs.size).filterMap fun (k : Nat) => xs[((xs.size : Int) - 1 + (k : Int) * (-1)).toNat]?) = xs.toList.reverse := by
  have h := PySem.pick_run xs.toList.reverse.toArray 0 xs.size
  rw [List.filterMap_map, List.drop_zero, List.take_of_length_le (by simp)] at h
  refine Eq.trans (fm_congr fun k hk => ?_) h
  have hk := List.mem_range.mp hk
  have e1 : ((xs.size : Int) - 1 + (k : Int) * (-1)).toNat = xs.size - 1 - k := by omega
  have e2 : xs.toList.reverse[k]? = xs.toList[xs.toList.length - 1 - k]? := List.getElem?_reverse (by rw [Array.length_toList]; exact hk)
  rw [e1]
  show _ = xs.toList.reverse.toArray[0 + k]?
  have e3 : xs.toList.reverse.toArray[0 + k]? = xs.toList.reverse[k]? := by simp
  rw [e3, e2, Array.length_toList, Array.getElem?_toList]
theorem rev_adjust (n : Nat) : Builtin.Slice.sliceAdjust none none (-1) (n : Int) = ((n : Int) - 1, -1) := by
  unfold Builtin.Slice.sliceAdjust
  simp
theorem rev_places (n : Nat) : Builtin.Slice.slicePlaces ((n : Int) - 1) (-1) (-1) = n := by
  unfold Builtin.Slice.slicePlaces
  rw [if_neg (by decide)]
  by_cases h : (n : Int) - 1 > -1
  · rw [if_pos h]
    have : ((n : Int) - 1 - -1 - 1) / (- -1) = (n : Int) - 1 := by
      rw [show - (-1 : Int) = 1 from rfl, Int.ediv_one]; omega
    rw [this]; omega
  · rw [if_neg h]; omega
section
variable {prog : Program} {w : World} {A : Around} {E : Value → Shared → Prop} {s : Shared}
theorem sliceApplied_rev {sl : Addr} {n : Nat} {tk : Tok} {Q : Int × Int × Nat → Shared → Prop} (hs : s.heap.IsSliceOf sl .none .none (.int (-1) tk))
    (h : Q ((n : Int) - 1, -1, n) s) : wpAny (model prog w) A (Builtin.Slice.sliceApplied (.ref sl) (pure (n : Int))) Q E s := by
  obtain ⟨os, hos, hcs, hds⟩ := id hs
  unfold Builtin.Slice.sliceApplied Builtin.Slice.sliceFields
  refine wpAny_bind (wpAny_bind (wpAny_field hos hds (x := .none) rfl (wpAny_bind (wpAny_field hos hds (x := .none) rfl (wpAny_bind (wpAny_field hos hds (x := .int (-1) tk) rfl (wpAny_pure ?_)))))))
  refine wpAny_bind (slicePart_ (.int (-1) tk) ?_)
  show wpAny _ _ (if ((-1 : Int) == 0) = true then _ else _) _ _ s
  rw [if_neg (by decide)]
  refine wpAny_bind (slicePart_none (wpAny_bind (slicePart_none (wpAny_bind (wpAny_pure ?_)))))
  show wpAny _ _ (match Builtin.Slice.sliceAdjust none none (-1) (n : Int) with | (lo, hi) => pure (lo, (-1 : Int), Builtin.Slice.slicePlaces lo hi (-1))) _ _ s
  rw [rev_adjust]
  show wpAny _ _ (pure ((n : Int) - 1, (-1 : Int), Builtin.Slice.slicePlaces ((n : Int) - 1) (-1) (-1))) _ _ s
  rw [rev_places]
  exact wpAny_pure h
theorem getItem_tuple_rev {t sl : Addr} {items : Array Value} {tk : Tok} {Q : Value → Shared → Prop} (ht : IsTup s.heap t items) (hs : s.heap.IsSliceOf sl .none .none (.int (-1) tk))
    (h : Q (.ref s.heap.objs.size) { s with heap := s.heap.push { cls := .type "tuple", data := .seq items.toList.reverse.toArray } })
    (hsz : items.size ≤ sizeLine) : wpAny (model prog w) A (getItem (.ref t) (.ref sl)) Q E s := by
  have htake : sizeOk (.seq items.toList.reverse.toArray) := by
    show items.toList.reverse.toArray.size ≤ sizeLine
    rw [List.size_toArray, List.length_reverse, Array.length_toList]
    exact hsz
  obtain ⟨os, hos, hcs, hds⟩ := id hs
  have hTs : s.TypeIs (.ref sl) "slice" := ⟨os, hos, hcs⟩
  unfold getItem
  try with_reducible refine wpAny_holding ?_
  first | refine wpAny_bind (wpAny_pure ?_) | skip
  refine wpAny_bind (wpAny_sequenceKey ht.typeIs (by decide) ?_)
  refine wpAny_bind (wpAny_callSpecial?_slot (name := Str.ofString "__getitem__") ht.typeIs PyProof.Rows.slot_tuple_getitem
    (wpAny_call_entry PyProof.Rows.slot_tuple_getitem ht.typeIs entry_tuple_getitem ?_ (args_tuple_getitem _ _)))
  show wpAny _ _ (Builtin.Tuple.tupleItemsOf (.ref t) >>= _) _ _ s
  refine wpAny_bind (tupleItemsOf_ ht ?_)
  refine wpAny_bind (wpAny_typeOf hTs ?_)
  rw [if_pos (by decide)]
  refine wpAny_bind (sliceApplied_rev hs ?_)
  have hno : ¬ (((items.size : Int) - 1 == 0 && (-1 : Int) == 1 && items.size == items.size) = true) := by
    intro q
    rw [Bool.and_eq_true, Bool.and_eq_true] at q
    exact absurd q.1.2 (by decide)
  show wpAny _ _ (if ((items.size : Int) - 1 == 0 && (-1 : Int) == 1 && items.size == items.size) = true then _ else _) _ _ s
  rw [if_neg hno, rev_pick]
  first
    | exact wpAny_bind (m := Builtin.Tuple.tupleExact _) (wpAny_newObj_type (wpAny_pure ⟨_, rfl, wpAny_pure h⟩) htake)
    | exact wpAny_bind (m := Builtin.Tuple.tupleExact _) (wpAny_newObj_type (wpAny_bind (wpAny_pure (wpAny_pure ⟨_, rfl, wpAny_pure h⟩))) htake)
    | exact wpAny_bind (wpAny_bind (m := Builtin.Tuple.tupleExact _) (wpAny_newObj_type (wpAny_pure (wpAny_pure ⟨_, rfl, wpAny_pure h⟩)) htake))
    | exact wpAny_bind (wpAny_bind (m := Builtin.Tuple.tupleExact _) (wpAny_newObj_type (wpAny_pure ⟨_, rfl, wpAny_pure h⟩) htake))
end
/-! ### a list -/
theorem pick_rev (xs : Array Value) : slicePick xs none none (some (-1)) = xs.toList.reverse.toArray := by
  unfold slicePick
  have e1 : sliceBounds none none (some (-1)) xs.size = ((xs.size : Int) - 1, -1, -1) := rfl
  rw [e1]
  have e2 : sliceRange ((xs.size : Int) - 1) (-1) (-1) = (List.range xs.size).map fun (k : Nat) => ((xs.size : Int) - 1 + (k : Int) * (-1)).toNat := by
    unfold sliceRange
    rw [if_neg (by decide)]
    have e3 : (if (xs.size : Int) - 1 > -1 then ((xs.size : Int) - 1 - -1 - -1 - 1) / (- -1) else 0) = (xs.size : Int) := by
      by_cases h : (xs.size : Int) - 1 > -1
      · rw [if_pos h, show - (-1 : Int) = 1 from rfl, Int.ediv_one]; omega
      · rw [if_neg h]; omega
    simp only [e3, Int.toNat_natCast]
    refine List.map_congr_left fun k _ => ?_
    congr 1
    omega
  rw [e2, List.filterMap_map]
  exact congrArg List.toArray (rev_pick xs)
section
variable {X : Cx} {te ts : TE} {e st : Expr} {p2 pos : Pos}
def tRv (K : PySem.W.Frag) (te ts : TE) : TE := fun σ H Q => te σ H fun x H1 => ts σ H1 fun y H2 => y = .int (-1) ∧ ∃ a xs, x = .ref a ∧
  ((SqT K H2 a xs ∧ ∀ p, H2 p = none → Q (.ref p) (upd H2 p (.tup xs.reverse))) ∨ (SqL K H2 a xs ∧ ∀ p, H2 p = none → Q (.ref p) (upd H2 p (.lst xs.reverse))))
theorem vals_reverse : ∀ {xs : List V} {us : List Value}, Vals xs us → Vals xs.reverse us.reverse
  | _, _, .nil => .nil
  | _, _, .cons a b => by
    rw [List.reverse_cons, List.reverse_cons]
    exact (vals_reverse b).append (.cons a .nil)
theorem pe_rv (he : PE X e te) (hs : PE X st ts) : PE X (.Subscript e (.Slice none none (some st) p2) pos) (tRv X.K te ts) := by
  refine ⟨fun pins s σ H Q I h => ?_⟩
  refine Subscript_ (thn (he.run pins s σ H _ I h) fun v s1 ⟨x, H1, I1, r1, q1⟩ => ?_)
  refine wpAny_Slice ?_
  rw [evalPart_none]
  refine wpAny_pure (wpAny_pure ?_)
  rw [evalPart_some]
  refine thn (hs.run pins s1 σ H1 _ I1 q1) fun vs s3 ⟨y, H3, I3, ry, ey, a, xs, ex, q3⟩ => ?_
  subst ey ex
  obtain ⟨tk, rfl⟩ := ry
  obtain rfl : v = Value.ref a := r1
  have I4 : Inv X pins σ H3 { s3 with heap := s3.heap.push { cls := .type "slice", data := .fields #[.none, .none, .int (-1) tk] } } := I3.kept (t' := s3.toks) fun b ob q => Heap.get?_push_of_some _ q
  have hsl : ({ s3 with heap := s3.heap.push { cls := .type "slice", data := .fields #[.none, .none, .int (-1) tk] } } : Shared).heap.IsSliceOf s3.heap.objs.size .none .none (.int (-1) tk) := Heap.IsSliceOf.new ..
  generalize ({ s3 with heap := s3.heap.push { cls := .type "slice", data := .fields #[.none, .none, .int (-1) tk] } } : Shared) = s4 at I4 hsl
  rcases q3 with ⟨hx, q⟩ | ⟨hx, q⟩
  · obtain ⟨its, r, ht, hz⟩ := I4.tuple hx
    refine tail_any (ops := [.ref a, .ref s3.heap.objs.size]) ht.typeIs PyProof.Rows.slot_tuple_getitem.lookup ?_ (by with_unfolding_all rfl)
    refine getItem_tuple_rev ht hsl ?_ (by rw [List.size_toArray, ← r.length]; exact hz)
    exact ⟨.ref s4.heap.objs.size, _, I4.laid (t' := s4.toks) (o := .tup xs.reverse) (fun b ob q => Heap.get?_push_of_some _ q) (Nat.le_refl _) ⟨by rw [List.length_reverse]; exact hz, _, vals_reverse r, IsTup.new _ _⟩, rfl, q _ (I4.hok.fresh (Nat.le_refl _))⟩
  · obtain ⟨its, r, ht, hz⟩ := I4.list hx
    refine tail_any (ops := [.ref a, .ref s3.heap.objs.size]) ht.isList.typeIs list_getitem_lookup ?_ (by with_unfolding_all rfl)
    refine wpAny_getItem_list_slice ht.isList hsl .none .none (.int (-1) tk) (by decide) ?_ (by rw [List.size_toArray, ← r.length]; exact hz)
    rw [pick_rev]
    exact ⟨.ref s4.heap.objs.size, _, I4.laid (t' := s4.toks) (o := .lst xs.reverse) (fun b ob q => Heap.get?_push_of_some _ q) (Nat.le_refl _) ⟨by rw [List.length_reverse]; exact hz, _, 0, vals_reverse r, Heap.get?_push_size _ rfl⟩, rfl, q _ (I4.hok.fresh (Nat.le_refl _))⟩
end
end RvS
namespace Sm
open PySem PySem.Spec PyProof.Rows L2
/-- x[::-1] -/
def eRev (me ms : EM) : EM := fun lo => bnd (me lo) fun x => bnd (ms lo) fun y s => match y with
  | .int (-1) => match x with
    | .tup xs => .ok (.tup xs.reverse) s
    | .ref j => match s[j]? with
      | some (.lst xs) => .ok (.ref s.length) (s ++ [.lst xs.reverse])
      | _ => .fail
    | _ => .fail
  | _ => .fail
section
variable {X : Cx} {T : Tb} {W : WX} {me ms : EM} {e st : Expr} {p2 pos : Pos}
theorem rvs_reverse {ρ : List Addr} {H : Hp} : ∀ {xs : List Vl} {vs : List V}, RVs T ρ H xs vs → RVs T ρ H xs.reverse vs.reverse
  | _, _, .nil => .nil
  | _, _, .cons a b => by
    rw [List.reverse_cons, List.reverse_cons]
    exact (rvs_reverse b).append (.cons a .nil)
theorem ce_rev (he : PE X e (tE T W me)) (hs : PE X st (tE T W ms)) (hK : X.K = T.K := by rfl) : PE X (.Subscript e (.Slice none none (some st) p2) pos) (tE T W (eRev me ms)) :=
  pe_mono (RvS.pe_rv he hs) fun σ H Q q => tG_bnd (R := RV T) q fun ρ s lo x z H1 r rl hx p =>
    po_bnd (R := RV T) (m := ms) r rl p fun ρ1 s1 y y' H2 ext1 r1 rl1 hy p1 => by
      have hx1 := hx.mono ext1
      simp only at p1
      split at p1
      · refine ⟨hy.intE, ?_⟩
        split at p1
        · rename_i xs
          obtain ⟨a, vs, rfl, h1, h2⟩ := hx1.tupE
          refine ⟨a, vs, rfl, .inl ⟨by rw [hK]; exact h1, fun q hq => ?_⟩⟩
          exact p1 ρ1 _ (.ref q) (ext_upd hq) (r1.laid hq) (.tup (SqT.of upd_same) ((rvs_reverse h2).mono (ext_upd hq)))
        · rename_i j
          split at p1
          · rename_i xs hj
            obtain ⟨a, rfl, ha⟩ := hx1.refE
            obtain ⟨vs, h1, h2⟩ := r1.lst hj ha
            refine ⟨a, vs, rfl, .inr ⟨SqL.of h1, fun q hq => ?_⟩⟩
            have := (Aft.lst (xs := xs.reverse) (fun ρ2 H2 z e2 r2 hz => p1 ρ2 H2 z e2 r2 hz) r1 (rvs_reverse h2) hq)
            exact this
          · exact p1.elim
        · exact p1.elim
      · exact p1.elim
end
end Sm

/-! S13: how pure programs are computed: weakest preconditions -/
namespace Sm
open PySem L2
/-- a mark that keeps simp from what it speaks of -/
inductive Tg {α : Type} (x : α) : Type where
  | a | b
/-- behind an expression: the value and the store (Q), or an exception (E) -/
def WE0 {α : Type} (m : M α) (s : Sto) (Q : α → Sto → Prop) (E : Ex → Sto → Prop) : Prop := match m s with
  | .ok a s' => Q a s'
  | .exc e s' => E e s'
  | .fail => False
structure WE {α : Type} (m : M α) (s : Sto) (Q : α → Sto → Prop) (E : Ex → Sto → Prop) (_ : Tg (Q, E) := .a) : Prop where
  h : WE0 m s Q E
theorem WE_eq {α : Type} {m : M α} {s : Sto} {Q : α → Sto → Prop} {E : Ex → Sto → Prop} : WE m s Q E = WE0 m s Q E := propext ⟨fun x => x.h, fun x => ⟨x⟩⟩
/-- behind a statement -/
structure RK where
  nx : Lo → Sto → Prop
  rt : Vl → Sto → Prop
  bk : Lo → Sto → Prop
  ct : Lo → Sto → Prop
  ex : Ex → Lo → Sto → Prop
def WS0 (b : SM) (lo : Lo) (s : Sto) (K : RK) : Prop := match b lo s with
  | .nx lo s => K.nx lo s
  | .rt v s => K.rt v s
  | .bk lo s => K.bk lo s
  | .ct lo s => K.ct lo s
  | .exc e lo s => K.ex e lo s
  | .fail => False
structure WS (b : SM) (lo : Lo) (s : Sto) (K : RK) (_ : Tg K := .a) : Prop where
  h : WS0 b lo s K
theorem WS_eq {b : SM} {lo : Lo} {s : Sto} {K : RK} : WS b lo s K = WS0 b lo s K := propext ⟨fun x => x.h, fun x => ⟨x⟩⟩
def WO0 {α : Type} (o : Option (α × Sto)) (Q : α → Sto → Prop) : Prop := match o with
  | some (a, s) => Q a s
  | none => False
structure WO {α : Type} (o : Option (α × Sto)) (Q : α → Sto → Prop) (_ : Tg Q := .a) : Prop where
  h : WO0 o Q
theorem WO_eq {α : Type} {o : Option (α × Sto)} {Q : α → Sto → Prop} : WO o Q = WO0 o Q := propext ⟨fun x => x.h, fun x => ⟨x⟩⟩
theorem WE_ext {α : Type} {m : M α} {s : Sto} {Q Q' : α → Sto → Prop} {E : Ex → Sto → Prop} (h : ∀ a s, Q a s = Q' a s) : WE m s Q E = WE m s Q' E := by
  have : Q = Q' := funext fun a => funext fun s => h a s
  subst this
  rfl
abbrev NoX : Ex → Sto → Prop := fun _ _ => False
theorem WE.mono {α : Type} {m : M α} {s : Sto} {Q Q' : α → Sto → Prop} {E E' : Ex → Sto → Prop} (h : WE m s Q E) (k : ∀ a s', Q a s' → Q' a s') (kx : ∀ e s', E e s' → E' e s') : WE m s Q' E' := by
  simp only [WE_eq] at h ⊢
  unfold WE0 at h ⊢
  cases e : m s with
  | ok a s' => rw [e] at h; exact k a s' h
  | exc x s' => rw [e] at h; exact kx x s' h
  | fail => rw [e] at h; exact h
/-- what is known of a call, used -/
theorem WE.use {α : Type} {m : M α} {s : Sto} {Q Q' : α → Sto → Prop} {E' : Ex → Sto → Prop} (h : WE m s Q NoX) (k : ∀ a s', Q a s' → Q' a s') : WE m s Q' E' := h.mono k fun _ _ z => z.elim
theorem WE.ok {α : Type} {m : M α} {s s' : Sto} {a : α} {Q : α → Sto → Prop} {E : Ex → Sto → Prop} (h : m s = .ok a s') (k : Q a s') : WE m s Q E := by
  simp only [WE_eq]
  unfold WE0; rw [h]; exact k
theorem WE.get {α : Type} {m : M α} {s : Sto} {Q : α → Sto → Prop} (h : WE m s Q NoX) : ∃ a s', m s = .ok a s' ∧ Q a s' := by
  simp only [WE_eq] at h
  unfold WE0 at h
  cases e : m s with
  | ok a s' => rw [e] at h; exact ⟨a, s', rfl, h⟩
  | exc x s' => rw [e] at h; exact h.elim
  | fail => rw [e] at h; exact h.elim
theorem WS.mono {b : SM} {lo : Lo} {s : Sto} {K K' : RK} (h : WS b lo s K) (k1 : ∀ lo s, K.nx lo s → K'.nx lo s) (k2 : ∀ v s, K.rt v s → K'.rt v s) (k3 : ∀ lo s, K.bk lo s → K'.bk lo s) (k4 : ∀ lo s, K.ct lo s → K'.ct lo s) (k5 : ∀ e lo s, K.ex e lo s → K'.ex e lo s) : WS b lo s K' := by
  simp only [WS_eq] at h ⊢
  unfold WS0 at h ⊢
  cases e : b lo s with
  | nx lo s => rw [e] at h; exact k1 lo s h
  | rt v s => rw [e] at h; exact k2 v s h
  | bk lo s => rw [e] at h; exact k3 lo s h
  | ct lo s => rw [e] at h; exact k4 lo s h
  | exc x lo s => rw [e] at h; exact k5 x lo s h
  | fail => rw [e] at h; exact h
section
variable {α β : Type} {m : M α} {s : Sto} {lo : Lo} {Q : α → Sto → Prop} {QV : Vl → Sto → Prop} {QB : Bool → Sto → Prop} {QA : List Vl → Sto → Prop} {Q' : β → Sto → Prop} {E : Ex → Sto → Prop} {K : RK}
@[simp ↓] theorem WO_some {a : α} : WO (some (a, s)) Q = Q a s := by simp only [WO_eq]; rfl
@[simp ↓] theorem WO_none : WO (none : Option (α × Sto)) Q = False := by simp only [WO_eq]; rfl
@[simp ↓] theorem WE_bnd {f : α → M β} : WE (bnd m f) s Q' E = WE m s (fun a s => WE (f a) s Q' E) E := by
  simp only [WE_eq]
  unfold WE0 bnd
  cases m s <;> rfl
@[simp ↓] theorem WE_ret {a : α} : WE (ret a) s Q E = Q a s := by simp only [WE_eq]; rfl
@[simp ↓] theorem WE_fail : WE (failM : M α) s Q E = False := by simp only [WE_eq]; rfl
@[simp ↓] theorem WE_lift {f : Sto → Option (α × Sto)} : WE (lift f) s Q E = WO (f s) Q := by
  simp only [WE_eq, WO_eq]
  unfold WE0 lift WO0
  cases f s with
  | none => rfl
  | some p => obtain ⟨a, s'⟩ := p; rfl
@[simp ↓] theorem WE_eVar' {i : Nat} : WE (eVar i lo) s QV E = (match lo[i]? with | some (some v) => QV v s | _ => False) := by
  simp only [WE_eq]
  unfold WE0 eVar
  cases lo[i]? with
  | none => rfl
  | some o => cases o <;> rfl
@[simp ↓] theorem WE_eC {v : Vl} : WE (eC v lo) s QV E = QV v s := by simp only [WE_eq]; rfl
@[simp ↓] theorem WE_eOp1 {f : O1} {a : EM} : WE (eOp1 f a lo) s QV E = WE (a lo) s (fun x s => WO (f x s) QV) E := by
  unfold eOp1
  rw [WE_bnd]
  exact WE_ext fun x s => WE_lift
@[simp ↓] theorem WE_eOp {f : O2} {a b : EM} : WE (eOp f a b lo) s QV E = WE (a lo) s (fun x s => WE (b lo) s (fun y s => WO (f x y s) QV) E) E := by
  unfold eOp
  rw [WE_bnd]
  refine WE_ext fun x s => ?_
  rw [WE_bnd]
  exact WE_ext fun y s => WE_lift
@[simp ↓] theorem WE_aNil : WE (aNil lo) s QA E = QA [] s := by simp only [WE_eq]; rfl
@[simp ↓] theorem WE_aCons {a : EM} {r : AM} : WE (aCons a r lo) s QA E = WE (a lo) s (fun x s => WE (r lo) s (fun xs s => QA (x :: xs) s) E) E := by
  unfold aCons
  rw [WE_bnd]
  refine WE_ext fun x s => ?_
  rw [WE_bnd]
  exact WE_ext fun xs s => WE_ret
@[simp ↓] theorem WE_eCB {f : OC} {a : AM} : WE (eCB f a lo) s QV E = WE (a lo) s (fun xs s => WO (f xs s) QV) E := by
  unfold eCB
  rw [WE_bnd]
  exact WE_ext fun x s => WE_lift
@[simp ↓] theorem WE_eCall {mf : List Vl → M Vl} {a : AM} : WE (eCall mf a lo) s QV E = WE (a lo) s (fun as s => WE (mf as) s QV E) E := by unfold eCall; rw [WE_bnd]
@[simp ↓] theorem WE_arg {n : Nat} {mf : List Vl → M Vl} {as : List Vl} : WE (arg n mf as) s QV E = (if as.length = n then WE (mf as) s QV E else False) := by
  by_cases h : as.length = n <;> simp [WE_eq, WE0, arg, h]
@[simp ↓] theorem WE_argI {n : Nat} {mf : List Vl → M Vl} {as : List Vl} : WE (argI n mf as) s QV E = (if as.length = n + 1 then WE (mf as) s QV E else False) := by
  by_cases h : as.length = n + 1 <;> simp [WE_eq, WE0, argI, h]
@[simp ↓] theorem WE_tVal {a : EM} : WE (tVal a lo) s QB E = WE (a lo) s (fun x s => match x with | .bl b => QB b s | _ => False) E := by
  unfold tVal
  rw [WE_bnd]
  refine WE_ext fun x s => ?_
  cases x <;> (simp only [WE_eq]; rfl)
@[simp ↓] theorem WE_tAndM {a b : TM} : WE (tAndM a b lo) s QB E = WE (a lo) s (fun x s => if x = true then WE (b lo) s QB E else QB false s) E := by
  unfold tAndM
  rw [WE_bnd]
  refine WE_ext fun x s => ?_
  cases x <;> simp
@[simp ↓] theorem WE_tOrM {a b : TM} : WE (tOrM a b lo) s QB E = WE (a lo) s (fun x s => if x = true then QB true s else WE (b lo) s QB E) E := by
  unfold tOrM
  rw [WE_bnd]
  refine WE_ext fun x s => ?_
  cases x <;> simp
@[simp ↓] theorem WE_tNotM {a : TM} : WE (tNotM a lo) s QB E = WE (a lo) s (fun x s => QB (!x) s) E := by unfold tNotM; rw [WE_bnd]; exact WE_ext fun x s => WE_ret
@[simp ↓] theorem WE_eAndM {a b : EM} : WE (eAndM a b lo) s QV E = WE (a lo) s (fun x s => match x with | .bl true => WE (b lo) s QV E | .bl false => QV (.bl false) s | _ => False) E := by
  unfold eAndM
  rw [WE_bnd]
  refine WE_ext fun x s => ?_
  cases x <;> try (simp only [WE_eq]; rfl)
  rename_i k
  cases k <;> simp only [WE_eq] <;> rfl
@[simp ↓] theorem WE_eOrM {a b : EM} : WE (eOrM a b lo) s QV E = WE (a lo) s (fun x s => match x with | .bl false => WE (b lo) s QV E | .bl true => QV (.bl true) s | _ => False) E := by
  unfold eOrM
  rw [WE_bnd]
  refine WE_ext fun x s => ?_
  cases x <;> try (simp only [WE_eq]; rfl)
  rename_i k
  cases k <;> simp only [WE_eq] <;> rfl
@[simp ↓] theorem WE_eNotM {a : EM} : WE (eNotM a lo) s QV E = WE (a lo) s (fun x s => match x with | .bl b => QV (.bl (!b)) s | _ => False) E := by
  unfold eNotM
  rw [WE_bnd]
  refine WE_ext fun x s => ?_
  cases x <;> (simp only [WE_eq]; rfl)
@[simp ↓] theorem WE_eIfM {t : TM} {a b : EM} : WE (eIfM t a b lo) s QV E = WE (t lo) s (fun x s => if x = true then WE (a lo) s QV E else WE (b lo) s QV E) E := by
  unfold eIfM
  rw [WE_bnd]
  refine WE_ext fun x s => ?_
  cases x <;> simp
@[simp ↓] theorem WE_eBm {t : Kd} {f : OMt} {o : EM} {a : AM} : WE (eBm t f o a lo) s QV E = WE (o lo) s (fun x s => if kd t x s = true then WE (a lo) s (fun xs s => WO (f x xs s) QV) E else False) E := by
  unfold eBm
  rw [WE_bnd]
  refine WE_ext fun x s => ?_
  show WE (fun s => match kd t x s with | true => bnd (a lo) (fun xs => lift (f x xs)) s | false => .fail) s QV E = _
  cases h : kd t x s with
  | true =>
    rw [if_pos rfl]
    have : WE (bnd (a lo) (fun xs => lift (f x xs))) s QV E = WE (a lo) s (fun xs s => WO (f x xs s) QV) E := by
      rw [WE_bnd]
      exact WE_ext fun xs s => WE_lift
    rw [← this]
    simp only [WE_eq]
    unfold WE0
    simp only [h]
  | false =>
    rw [if_neg (by decide)]
    simp only [WE_eq]
    unfold WE0
    simp only [h]
@[simp ↓] theorem WE_eBm0 {t : Kd} {f : OMt} {o : EM} : WE (eBm0 t f o lo) s QV E = WE (o lo) s (fun x s => if kd t x s = true then WO (f x [] s) QV else False) E := by
  unfold eBm0
  rw [WE_bnd]
  refine WE_ext fun x s => ?_
  show WE (fun s => match kd t x s with | true => lift (f x []) s | false => .fail) s QV E = _
  cases h : kd t x s with
  | true =>
    rw [if_pos rfl, ← WE_lift (E := E)]
    simp only [WE_eq]
    unfold WE0
    simp only [h]
  | false =>
    rw [if_neg (by decide)]
    simp only [WE_eq]
    unfold WE0
    simp only [h]
def fldW (cs : List Nat) (f : Str) (x : Vl) (s : Sto) (QV : Vl → Sto → Prop) : Prop := match x with
  | .ref j => match s[j]? with
    | some (.ins c fs) => c ∈ cs ∧ match getS fs f with
        | some v => QV v s
        | none => False
    | _ => False
  | _ => False
@[simp ↓] theorem WE_eFld {cs : List Nat} {f : Str} {o : EM} : WE (eFld cs f o lo) s QV E = WE (o lo) s (fun x s => fldW cs f x s QV) E := by
  unfold eFld
  rw [WE_bnd]
  refine WE_ext fun x s => ?_
  simp only [WE_eq]
  unfold WE0 fldW
  cases x <;> try rfl
  rename_i j
  simp only
  cases h : s[j]? with
  | none => simp only [h]
  | some o =>
    cases o <;> simp only [h]
    rename_i c fs
    by_cases hc : c ∈ cs
    · simp only [hc, if_true, true_and]
      cases getS fs f <;> rfl
    · simp [hc]
@[simp ↓] theorem WE_fnM {n : Nat} {b : SM} {as : List Vl} : WE (fnM n b as) s QV E = WS b (as.map some ++ List.replicate (n - as.length) none) s ⟨fun _ s => QV .non s, QV, fun _ _ => False, fun _ _ => False, fun e _ s => E e s⟩ := by
  simp only [WE_eq, WS_eq]
  unfold WE0 WS0 fnM
  cases b (as.map some ++ List.replicate (n - as.length) none) s <;> rfl
@[simp ↓] theorem WE_eSl {f : OSl} {a : EM} {l h : Option EM} : WE (eSl f a l h lo) s QV E = WE (a lo) s (fun x s => WE (oPart l lo) s (fun i s => WE (oPart h lo) s (fun j s => WO (f x i j s) QV) E) E) E := by
  unfold eSl
  rw [WE_bnd]
  refine WE_ext fun x s => ?_
  rw [WE_bnd]
  refine WE_ext fun i s => ?_
  rw [WE_bnd]
  exact WE_ext fun j s => WE_lift
@[simp ↓] theorem WE_oPartN {QO : Option Int → Sto → Prop} : WE (oPart none lo) s QO E = QO none s := by simp only [WE_eq]; rfl
@[simp ↓] theorem WE_oPartS {QO : Option Int → Sto → Prop} {a : EM} : WE (oPart (some a) lo) s QO E = WE (a lo) s (fun x s => match x with | .int i => QO (some i) s | _ => False) E := by
  show WE (bnd (a lo) _) s QO E = _
  rw [WE_bnd]
  refine WE_ext fun x s => ?_
  cases x <;> (simp only [WE_eq]; rfl)
@[simp ↓] theorem WE_eDict0 : WE (eDict0 lo) s QV E = QV (.ref s.length) (s ++ [.dic []]) := by simp only [WE_eq]; rfl
/-! statements -/
@[simp ↓] theorem WS_sNil : WS sNil lo s K = K.nx lo s := by simp only [WS_eq]; rfl
@[simp ↓] theorem WS_sBreak : WS sBreak lo s K = K.bk lo s := by simp only [WS_eq]; rfl
@[simp ↓] theorem WS_sCont : WS sCont lo s K = K.ct lo s := by simp only [WS_eq]; rfl
@[simp ↓] theorem WS_sRetN : WS sRetN lo s K = K.rt .non s := by simp only [WS_eq]; rfl
@[simp ↓] theorem WS_sSeq {a b : SM} : WS (sSeq a b) lo s K = WS a lo s ⟨fun lo s => WS b lo s K, K.rt, K.bk, K.ct, K.ex⟩ := by
  simp only [WS_eq]
  unfold WS0 sSeq
  cases a lo s <;> rfl
theorem WS_bndS {m : Lo → M α} {f : Lo → α → Sto → RS} : WS (bndS m f) lo s K = WE (m lo) s (fun a s => match f lo a s with | .nx lo s => K.nx lo s | .rt v s => K.rt v s | .bk lo s => K.bk lo s | .ct lo s => K.ct lo s | .exc e lo s => K.ex e lo s | .fail => False) (fun e s => K.ex e lo s) := by
  simp only [WS_eq, WE_eq]
  unfold WS0 WE0 bndS
  cases m lo s <;> rfl
@[simp ↓] theorem WS_sExpr {e : EM} : WS (sExpr e) lo s K = WE (e lo) s (fun _ s => K.nx lo s) (fun x s => K.ex x lo s) := by unfold sExpr; rw [WS_bndS]
@[simp ↓] theorem WS_sRet {e : EM} : WS (sRet e) lo s K = WE (e lo) s K.rt (fun x s => K.ex x lo s) := by unfold sRet; rw [WS_bndS]
@[simp ↓] theorem WS_sSet {i : Nat} {e : EM} : WS (sSet i e) lo s K = WE (e lo) s (fun v s => K.nx (lo.set i (some v)) s) (fun x s => K.ex x lo s) := by unfold sSet; rw [WS_bndS]
@[simp ↓] theorem WS_sIf {t : TM} {a b : SM} : WS (sIf t a b) lo s K = WE (t lo) s (fun c s => if c = true then WS a lo s K else WS b lo s K) (fun x s => K.ex x lo s) := by
  unfold sIf
  rw [WS_bndS]
  refine WE_ext fun c s => ?_
  cases c <;> simp [WS_eq, WS0]
@[simp ↓] theorem WS_sPar {i j : Nat} {a : AM} : WS (sPar i j a) lo s K = WE (a lo) s (fun vs s => match vs with | [v, w] => K.nx ((lo.set i (some v)).set j (some w)) s | _ => False) (fun x s => K.ex x lo s) := by
  unfold sPar
  rw [WS_bndS]
  refine WE_ext fun vs s => ?_
  match vs with
  | [] => rfl
  | [_] => rfl
  | [_, _] => rfl
  | _ :: _ :: _ :: _ => rfl
@[simp ↓] theorem WS_sPar3 {i j l : Nat} {a : AM} : WS (sPar3 i j l a) lo s K = WE (a lo) s (fun vs s => match vs with | [v, w, x] => K.nx (((lo.set i (some v)).set j (some w)).set l (some x)) s | _ => False) (fun x s => K.ex x lo s) := by
  unfold sPar3
  rw [WS_bndS]
  refine WE_ext fun vs s => ?_
  match vs with
  | [] => rfl
  | [_] => rfl
  | [_, _] => rfl
  | [_, _, _] => rfl
  | _ :: _ :: _ :: _ :: _ => rfl
/-- targets -/
structure WG (g : GM) (v : Vl) (lo : Lo) (s : Sto) (N : Lo → Sto → Prop) (E : Ex → Sto → Prop) (_ : Tg (N, E) := .a) : Prop where
  h : WE (g v lo) s N E
theorem WG_eq {g : GM} {v : Vl} {lo : Lo} {s : Sto} {N : Lo → Sto → Prop} {E : Ex → Sto → Prop} : WG g v lo s N E = WE (g v lo) s N E := propext ⟨fun x => x.h, fun x => ⟨x⟩⟩
@[simp ↓] theorem WG_gNm {i : Nat} {v : Vl} {N : Lo → Sto → Prop} : WG (gNm i) v lo s N E = N (lo.set i (some v)) s := by simp only [WG_eq, WE_eq]; rfl
@[simp ↓] theorem WG_gTp {js : List Nat} {xs : List Vl} {N : Lo → Sto → Prop} : WG (gTp js) (.tup xs) lo s N E = (match gNms js xs lo with | some lo' => N lo' s | none => False) := by
  simp only [WG_eq, WE_eq]
  unfold WE0 gTp
  simp only
  cases gNms js xs lo <;> rfl
@[simp] theorem gNms_nil {lo : Lo} : gNms [] [] lo = some lo := rfl
@[simp] theorem gNms_cons {j : Nat} {js : List Nat} {v : Vl} {vs : List Vl} {lo : Lo} : gNms (j :: js) (v :: vs) lo = gNms js vs (lo.set j (some v)) := rfl
@[simp ↓] theorem WG_gSb {f : OSet} {o i : EM} {v : Vl} {N : Lo → Sto → Prop} : WG (gSb f o i) v lo s N E = WE (o lo) s (fun x s => WE (i lo) s (fun y s => match f x y v s with | some s' => N lo s' | none => False) E) E := by
  simp only [WG_eq]
  unfold gSb
  rw [WE_bnd]
  refine WE_ext fun x s => ?_
  rw [WE_bnd]
  refine WE_ext fun y s => ?_
  simp only [WE_eq]
  unfold WE0 liftU
  cases f x y v s <;> rfl
@[simp ↓] theorem WS_sAsg {g : GM} {e : EM} : WS (sAsg g e) lo s K = WE (e lo) s (fun v s => WG g v lo s K.nx (fun x s => K.ex x lo s)) (fun x s => K.ex x lo s) := by
  unfold sAsg
  rw [WS_bndS]
  refine WE_ext fun v s => ?_
  simp only [WG_eq, WE_eq]
  unfold WE0
  cases g v lo s <;> rfl
@[simp ↓] theorem WS_sFldM {cs : List Nat} {f : Str} {o e : EM} : WS (sFldM cs f o e) lo s K = WE (e lo) s (fun v s => WE (o lo) s (fun x s => match setFld cs f x v s with | some s' => K.nx lo s' | none => False) (fun x s => K.ex x lo s)) (fun x s => K.ex x lo s) := by
  unfold sFldM
  rw [WS_bndS]
  refine WE_ext fun v s => ?_
  refine Eq.trans (b := WS (bndS o fun lo x s => match setFld cs f x v s with | some s' => .nx lo s' | none => .fail) lo s K) (by simp only [WS_eq]; rfl) ?_
  rw [WS_bndS]
  refine WE_ext fun x s => ?_
  cases setFld cs f x v s <;> rfl
/-! methods, making -/
def methW (m : Str) (tab : MTab) (x : Vl) (s : Sto) (P : (List Vl → M Vl) → Prop) : Prop := match x with
  | .ref j => match s[j]? with
    | some (.ins c fs) => match tab c, getS fs m with
      | some mf, none => P mf
      | _, _ => False
    | _ => False
  | _ => False
theorem WE_eMeth {m : Str} {tab : MTab} {o : EM} {a : AM} : WE (eMeth m tab o a lo) s QV E = WE (o lo) s (fun x s => methW m tab x s fun mf => WE (a lo) s (fun as s => WE (mf (x :: as)) s QV E) E) E := by
  unfold eMeth
  rw [WE_bnd]
  refine WE_ext fun x s => ?_
  cases x <;> try (simp only [WE_eq]; rfl)
  rename_i j
  unfold methW
  show WE (fun s => match s[j]? with | some (.ins c fs) => (match tab c, getS fs m with | some mf, none => bnd (a lo) (fun as => mf (.ref j :: as)) s | _, _ => .fail) | _ => .fail) s QV E = _
  have key : ∀ mf : List Vl → M Vl, WE (a lo) s (fun as s => WE (mf (.ref j :: as)) s QV E) E = WE (bnd (a lo) (fun as => mf (.ref j :: as))) s QV E := fun mf => by rw [WE_bnd]
  simp only [key]
  simp only [WE_eq]
  unfold WE0
  simp only
  cases h : s[j]? with
  | none => rfl
  | some o =>
    cases o <;> try rfl
    rename_i c fs
    simp only
    cases h1 : tab c with
    | none => rfl
    | some mf => cases h2 : getS fs m <;> rfl
theorem WE_eMake {c : Nat} {mi : List Vl → M Vl} {a : AM} : WE (eMake c mi a lo) s QV E = WE (a lo) s (fun as s => WE (mi (.ref s.length :: as)) (s ++ [.ins c []]) (fun v s' => match v with | .non => QV (.ref s.length) s' | _ => False) E) E := by
  unfold eMake
  rw [WE_bnd]
  refine WE_ext fun as s => ?_
  simp only [WE_eq]
  unfold WE0
  simp only
  cases h : mi (.ref s.length :: as) (s ++ [.ins c []]) with
  | ok v s' => cases v <;> rfl
  | exc e s' => rfl
  | fail => rfl
end
end Sm

/-! S14: loops and comprehensions of pure programs -/
namespace Sm
open PySem L2
section
variable {α : Type} {s : Sto} {lo : Lo} {QV : Vl → Sto → Prop} {QA : List Vl → Sto → Prop} {QN : NX → Sto → Prop} {E : Ex → Sto → Prop} {K : RK}
@[simp ↓] theorem WE_aTup {e : EM} : WE (aTup e lo) s QA E = WE (e lo) s (fun x s => match x with | .tup xs => QA xs s | _ => False) E := by
  unfold aTup
  rw [WE_bnd]
  refine WE_ext fun x s => ?_
  cases x <;> simp only [WE_eq] <;> rfl
def rngW (xs : List Vl) (s : Sto) (QA : List Vl → Sto → Prop) : Prop := match xs with
  | [.int n] => (-(2 ^ 62) ≤ n ∧ n < 2 ^ 62) ∧ QA (rng 0 n.toNat) s
  | _ => False
theorem rngW_one {n : Int} : rngW [.int n] s QA = ((-(2 ^ 62) ≤ n ∧ n < 2 ^ 62) ∧ QA (rng 0 n.toNat) s) := rfl
@[simp ↓] theorem WE_aRng {a : AM} : WE (aRng a lo) s QA E = WE (a lo) s (fun xs s => rngW xs s QA) E := by
  unfold aRng
  rw [WE_bnd]
  refine WE_ext fun xs s => ?_
  match xs with
  | [] => simp only [WE_eq]; rfl
  | [.int n] =>
    simp only [rngW]
    by_cases h : -(2 ^ 62) ≤ n ∧ n < 2 ^ 62
    · rw [if_pos h]; simp only [h, and_self, true_and, WE_ret]
    · rw [if_neg h, WE_fail]
      exact (propext ⟨fun z => z.elim, fun z => absurd z.1 h⟩)
  | .non :: _ => simp only [WE_eq]; rfl
  | .bl _ :: _ => simp only [WE_eq]; rfl
  | .str _ :: _ => simp only [WE_eq]; rfl
  | .tup _ :: _ => simp only [WE_eq]; rfl
  | .ref _ :: _ => simp only [WE_eq]; rfl
  | .scr _ :: _ => simp only [WE_eq]; rfl
  | .ty _ :: _ => simp only [WE_eq]; rfl
  | .fn _ :: _ => simp only [WE_eq]; rfl
  | .int _ :: _ :: _ => simp only [WE_eq]; rfl
def lstW (x : Vl) (s : Sto) (P : Nat → List Vl → Prop) : Prop := match x with
  | .ref j => match s[j]? with
    | some (.lst xs) => P j xs
    | _ => False
  | _ => False
@[simp] theorem lstW_ref {j : Nat} {P : Nat → List Vl → Prop} : lstW (.ref j) s P = (match s[j]? with | some (.lst xs) => P j xs | _ => False) := rfl
@[simp ↓] theorem WE_iLst {e : EM} : WE (iLst e lo) s QN E = WE (e lo) s (fun x s => lstW x s fun j _ => QN (nxLst j) s) E := by
  unfold iLst
  rw [WE_bnd]
  refine WE_ext fun x s => ?_
  cases x <;> try (simp only [WE_eq]; rfl)
  rename_i j
  simp only [WE_eq]
  unfold WE0 lstW
  simp only
  cases h : s[j]? with
  | none => rfl
  | some o => cases o <;> rfl
def lst1W (xs : List Vl) (s : Sto) (P : Nat → List Vl → Prop) : Prop := match xs with
  | [x] => lstW x s P
  | _ => False
@[simp] theorem lst1W_one {x : Vl} {P : Nat → List Vl → Prop} : lst1W [x] s P = lstW x s P := rfl
@[simp ↓] theorem WE_iEnm {a : AM} : WE (iEnm a lo) s QN E = WE (a lo) s (fun xs s => lst1W xs s fun j _ => QN (nxEnum j) s) E := by
  unfold iEnm
  rw [WE_bnd]
  refine WE_ext fun xs s => ?_
  match xs with
  | [] => simp only [WE_eq]; rfl
  | [.ref j] =>
    simp only [WE_eq]
    unfold WE0 lst1W lstW
    simp only
    cases h : s[j]? with
    | none => rfl
    | some o => cases o <;> rfl
  | .non :: _ => cases ‹List Vl› <;> simp only [WE_eq] <;> rfl
  | .bl _ :: _ => cases ‹List Vl› <;> simp only [WE_eq] <;> rfl
  | .int _ :: _ => cases ‹List Vl› <;> simp only [WE_eq] <;> rfl
  | .str _ :: _ => cases ‹List Vl› <;> simp only [WE_eq] <;> rfl
  | .tup _ :: _ => cases ‹List Vl› <;> simp only [WE_eq] <;> rfl
  | .scr _ :: _ => cases ‹List Vl› <;> simp only [WE_eq] <;> rfl
  | .ty _ :: _ => cases ‹List Vl› <;> simp only [WE_eq] <;> rfl
  | .fn _ :: _ => cases ‹List Vl› <;> simp only [WE_eq] <;> rfl
  | .ref _ :: _ :: _ => simp only [WE_eq]; rfl
@[simp ↓] theorem WS_sForX {ma : AM} {g : GM} {b : SM} : WS (sForX ma g b) lo s K = WE (ma lo) s (fun xs s => WS (loopX g b xs) lo s K) (fun e s => K.ex e lo s) := by
  unfold sForX
  rw [WS_bndS]
  refine WE_ext fun xs s => ?_
  simp only [WS_eq]
  rfl
@[simp ↓] theorem WS_sFor {n : Nat} {m : IM} {g : GM} {b : SM} : WS (sFor n m g b) lo s K = WE (m lo) s (fun nx s => WS (loopN nx g b n 0) lo s K) (fun e s => K.ex e lo s) := by
  unfold sFor
  rw [WS_bndS]
  refine WE_ext fun xs s => ?_
  simp only [WS_eq]
  rfl
/-- a for by its invariant -/
theorem loopX_inv {g : GM} {b : SM} {xs : List Vl} (I : Nat → Lo → Sto → Prop) (h0 : I 0 lo s)
    (hs : ∀ i v lo s, xs[i]? = some v → I i lo s → WG g v lo s (fun lo s => WS b lo s ⟨I (i + 1), K.rt, K.nx, I (i + 1), K.ex⟩) (fun e s => K.ex e lo s)) (hd : ∀ lo s, I xs.length lo s → K.nx lo s) : WS (loopX g b xs) lo s K := by
  have key : ∀ (ys : List Vl) (i : Nat) (lo : Lo) (s : Sto), xs.drop i = ys → i ≤ xs.length → I i lo s → WS (loopX g b ys) lo s K := by
    intro ys
    induction ys with
    | nil =>
      intro i lo s e hi h
      have : i = xs.length := Nat.le_antisymm hi (List.drop_eq_nil_iff.mp e)
      subst this
      exact ⟨hd lo s h⟩
    | cons y ys ih =>
      intro i lo s e hi h
      have hi' : i < xs.length := by
        rcases Nat.lt_or_ge i xs.length with q | q
        · exact q
        · rw [List.drop_eq_nil_of_le q] at e; cases e
      rw [List.drop_eq_getElem_cons hi'] at e
      obtain ⟨e1, e2⟩ := List.cons.inj e
      have st := hs i y lo s (by rw [List.getElem?_eq_getElem hi', e1]) h
      simp only [WS_eq]
      unfold WS0 loopX
      simp only [WG_eq, WE_eq] at st
      unfold WE0 at st
      cases q : g y lo s with
      | fail => simp only [q] at st
      | exc z s' => simp only [q] at st ⊢; exact st
      | ok lo' s' =>
        simp only [q] at st ⊢
        simp only [WS_eq] at st
        unfold WS0 at st
        cases q2 : b lo' s' with
        | nx lo2 s2 => simp only [q2] at st ⊢; exact (ih (i + 1) lo2 s2 e2 hi' st).h
        | ct lo2 s2 => simp only [q2] at st ⊢; exact (ih (i + 1) lo2 s2 e2 hi' st).h
        | bk lo2 s2 => simp only [q2] at st ⊢; exact st
        | rt v s2 => simp only [q2] at st ⊢; exact st
        | exc z lo2 s2 => simp only [q2] at st ⊢; exact st
        | fail => simp only [q2] at st
  exact key xs 0 lo s (by simp) (Nat.zero_le _) h0
/-- while, by an invariant with a number that falls -/
theorem loopW_inv {t : TM} {b : SM} {n : Nat} (I : Nat → Lo → Sto → Prop) (m0 : Nat) (hm : m0 < n) (h0 : I m0 lo s)
    (hs : ∀ m lo s, I m lo s → WE (t lo) s (fun c s' => if c = true then WS b lo s' ⟨fun lo s => ∃ m', m' < m ∧ I m' lo s, K.rt, K.nx, fun lo s => ∃ m', m' < m ∧ I m' lo s, K.ex⟩ else K.nx lo s') (fun e s => K.ex e lo s)) : WS (loopW t b n) lo s K := by
  have key : ∀ (k m : Nat) (lo : Lo) (s : Sto), m < k → I m lo s → WS (loopW t b k) lo s K := by
    intro k
    induction k with
    | zero => intro m lo s h; omega
    | succ k ih =>
      intro m lo s hk h
      have st := hs m lo s h
      simp only [WS_eq]
      unfold WS0 loopW
      simp only [WE_eq] at st
      unfold WE0 at st
      cases q : t lo s with
      | fail => simp only [q] at st
      | exc z s' => simp only [q] at st ⊢; exact st
      | ok c s' =>
        cases c with
        | false => simp only [q] at st ⊢; exact (by simpa using st)
        | true =>
          simp only [q, if_true] at st ⊢
          simp only [WS_eq] at st
          unfold WS0 at st
          cases q2 : b lo s' with
          | nx lo2 s2 => simp only [q2] at st ⊢; obtain ⟨m', h1, h2⟩ := st; exact (ih m' lo2 s2 (by omega) h2).h
          | ct lo2 s2 => simp only [q2] at st ⊢; obtain ⟨m', h1, h2⟩ := st; exact (ih m' lo2 s2 (by omega) h2).h
          | bk lo2 s2 => simp only [q2] at st ⊢; exact st
          | rt v s2 => simp only [q2] at st ⊢; exact st
          | exc z lo2 s2 => simp only [q2] at st ⊢; exact st
          | fail => simp only [q2] at st
  exact key n m0 lo s hm h0
/-! ### comprehensions -/
def WL0 (o : Option Sto) (Q : Sto → Prop) : Prop := match o with
  | some s => Q s
  | none => False
structure WL (o : Option Sto) (Q : Sto → Prop) (_ : Tg Q := .a) : Prop where
  h : WL0 o Q
theorem WL_eq {o : Option Sto} {Q : Sto → Prop} : WL o Q = WL0 o Q := propext ⟨fun x => x.h, fun x => ⟨x⟩⟩
@[simp ↓] theorem WE_eLc {n : Nat} {m : IM} {g : GL} {t : TM} {e : EM} {vs : List Nat} : WE (eLc n m g t e vs lo) s QV E = WE (m lo) s (fun nx s => WL (lcN nx g t e s.length (wipeL lo vs) n 0 (s ++ [.lst []])) fun s' => QV (.ref s.length) s') E := by
  unfold eLc
  rw [WE_bnd]
  refine WE_ext fun nx s => ?_
  simp only [WE_eq, WL_eq]
  unfold WE0 WL0
  simp only
  cases lcN nx g t e s.length (wipeL lo vs) n 0 (s ++ [.lst []]) <;> rfl
@[simp ↓] theorem WE_eLcX {m : AM} {g : GL} {t : TM} {e : EM} {vs : List Nat} : WE (eLcX m g t e vs lo) s QV E = WE (m lo) s (fun xs s => WL (lcX g t e s.length (wipeL lo vs) xs (s ++ [.lst []])) fun s' => QV (.ref s.length) s') E := by
  unfold eLcX
  rw [WE_bnd]
  refine WE_ext fun xs s => ?_
  simp only [WE_eq, WL_eq]
  unfold WE0 WL0
  simp only
  cases lcX g t e s.length (wipeL lo vs) xs (s ++ [.lst []]) <;> rfl
/-- one turn -/
def LcT (t : TM) (e : EM) (d : Nat) (lo : Lo) (s : Sto) (Q : Sto → Prop) : Prop :=
  WE (t lo) s (fun c s => if c = true then WE (e lo) s (fun y s => match s[d]? with | some (.lst acc) => acc.length < LIM ∧ Q (s.set d (.lst (acc ++ [y]))) | _ => False) NoX else Q s) NoX
theorem lcStep_of {t : TM} {e : EM} {d : Nat} {lo : Lo} {s : Sto} {Q : Sto → Prop} (h : LcT t e d lo s Q) : ∃ s', lcStep t e d lo s = some s' ∧ Q s' := by
  unfold LcT at h
  simp only [WE_eq] at h
  unfold WE0 at h
  unfold lcStep
  cases q : t lo s with
  | fail => simp only [q] at h
  | exc z s1 => simp only [q] at h; exact h.elim
  | ok c s1 =>
    cases c with
    | false => simp only [q] at h ⊢; exact ⟨s1, rfl, by simpa using h⟩
    | true =>
      simp only [q, if_true] at h ⊢
      cases q2 : e lo s1 with
      | fail => simp only [q2] at h
      | exc z s2 => simp only [q2] at h; exact h.elim
      | ok y s2 =>
        simp only [q2] at h ⊢
        split at h
        · rename_i acc hacc
          simp only [hacc, if_pos h.1]
          exact ⟨_, rfl, h.2⟩
        · exact h.elim
theorem lcX_inv {g : GL} {t : TM} {e : EM} {d : Nat} {xs : List Vl} {s : Sto} {Q : Sto → Prop} (I : Nat → Sto → Prop) (h0 : I 0 s) (hs : ∀ i v s, xs[i]? = some v → I i s → ∃ lo', g v lo = some lo' ∧ LcT t e d lo' s (I (i + 1))) (hd : ∀ s, I xs.length s → Q s) :
    WL (lcX g t e d lo xs s) Q := by
  have key : ∀ (ys : List Vl) (i : Nat) (s : Sto), xs.drop i = ys → i ≤ xs.length → I i s → WL (lcX g t e d lo ys s) Q := by
    intro ys
    induction ys with
    | nil =>
      intro i s e hi h
      have : i = xs.length := Nat.le_antisymm hi (List.drop_eq_nil_iff.mp e)
      subst this
      exact ⟨hd s h⟩
    | cons y ys ih =>
      intro i s e hi h
      have hi' : i < xs.length := by
        rcases Nat.lt_or_ge i xs.length with q | q
        · exact q
        · rw [List.drop_eq_nil_of_le q] at e; cases e
      rw [List.drop_eq_getElem_cons hi'] at e
      obtain ⟨e1, e2⟩ := List.cons.inj e
      obtain ⟨lo', g1, g2⟩ := hs i y s (by rw [List.getElem?_eq_getElem hi', e1]) h
      obtain ⟨s', k1, k2⟩ := lcStep_of g2
      unfold lcX
      simp only [g1, k1]
      exact ih (i + 1) s' e2 hi' k2
  exact key xs 0 s (by simp) (Nat.zero_le _) h0
theorem lcN_inv {nx : NX} {g : GL} {t : TM} {e : EM} {d n fuel : Nat} {s : Sto} {Q : Sto → Prop} (I : Nat → Sto → Prop) (f : Nat → Vl) (hf : n < fuel) (h0 : I 0 s) (hn : ∀ i s, i < n → I i s → nx i s = some (some (f i))) (he : ∀ s, I n s → nx n s = some none)
    (hs : ∀ i s, i < n → I i s → ∃ lo', g (f i) lo = some lo' ∧ LcT t e d lo' s (I (i + 1))) (hd : ∀ s, I n s → Q s) : WL (lcN nx g t e d lo fuel 0 s) Q := by
  have key : ∀ (k i : Nat) (s : Sto), n - i < k → i ≤ n → I i s → WL (lcN nx g t e d lo k i s) Q := by
    intro k
    induction k with
    | zero => intro i s h; omega
    | succ k ih =>
      intro i s hk hi h
      unfold lcN
      rcases Nat.lt_or_ge i n with q | q
      · simp only [hn i s q h]
        obtain ⟨lo', g1, g2⟩ := hs i s q h
        obtain ⟨s', k1, k2⟩ := lcStep_of g2
        simp only [g1, k1]
        exact ih (i + 1) s' (by omega) q k2
      · have : i = n := Nat.le_antisymm hi q
        subst this
        simp only [he s h]
        exact ⟨hd s h⟩
  exact key fuel 0 s (by omega) (Nat.zero_le _) h0
theorem lcL_inv {j : Nat} {xs : List Vl} {g : GL} {t : TM} {e : EM} {d fuel : Nat} {s : Sto} {Q : Sto → Prop} (I : Nat → Sto → Prop) (hf : xs.length < fuel) (h0 : I 0 s) (hl : ∀ i s, I i s → s[j]? = some (.lst xs))
    (hs : ∀ i v s, xs[i]? = some v → I i s → ∃ lo', g v lo = some lo' ∧ LcT t e d lo' s (I (i + 1))) (hd : ∀ s, I xs.length s → Q s) : WL (lcN (nxLst j) g t e d lo fuel 0 s) Q :=
  lcN_inv I (fun i => (xs[i]?).getD .non) hf h0 (fun i s hi h => by simp only [nxLst, hl i s h, List.getElem?_eq_getElem hi, Option.getD]) (fun s h => by simp only [nxLst, hl _ s h]; rw [List.getElem?_eq_none (Nat.le_refl _)])
    (fun i s hi h => by
      have := hs i xs[i] s (List.getElem?_eq_getElem hi) h
      simpa only [List.getElem?_eq_getElem hi, Option.getD] using this) hd
/-- where neither test nor element changes the store: kept items by f -/
def LcP (g : GL) (t : TM) (e : EM) (lo : Lo) (s : Sto) (x : Vl) (r : Option Vl) : Prop := ∀ acc, ∃ lo', g x lo = some lo' ∧ WE (t lo') (s ++ [.lst acc]) (fun c s' => s' = s ++ [.lst acc] ∧ if c = true then WE (e lo') s' (fun y s'' => s'' = s ++ [.lst acc] ∧ r = some y) NoX else r = none) NoX
theorem LcP.turn {g : GL} {t : TM} {e : EM} {s : Sto} {x : Vl} {r : Option Vl} {acc : List Vl} (h : LcP g t e lo s x r) (hl : acc.length < LIM) : ∃ lo', g x lo = some lo' ∧ LcT t e s.length lo' (s ++ [.lst acc]) fun s' => s' = s ++ [.lst (acc ++ r.toList)] := by
  obtain ⟨lo', h1, h2⟩ := h acc
  refine ⟨lo', h1, WE.mono h2 (fun c s' hc => ?_) fun _ _ z => z⟩
  obtain ⟨rfl, h3⟩ := hc
  cases c with
  | false =>
    simp only [if_false, Bool.false_eq_true] at h3 ⊢
    subst h3
    simp
  | true =>
    simp only [if_true] at h3 ⊢
    refine WE.mono h3 (fun y s'' hy => ?_) fun _ _ z => z
    obtain ⟨rfl, rfl⟩ := hy
    simp [hl]
theorem lcL_pure {j fuel : Nat} {g : GL} {t : TM} {e : EM} {xs : List Vl} {s : Sto} {Q : Sto → Prop} (f : Vl → Option Vl) (hj : s[j]? = some (.lst xs)) (hl : xs.length < LIM) (hf : xs.length < fuel) (hx : ∀ x ∈ xs, LcP g t e lo s x (f x)) (hd : Q (s ++ [.lst (xs.filterMap f)])) :
    WL (lcN (nxLst j) g t e s.length lo fuel 0 (s ++ [.lst []])) Q := by
  have hjl : j < s.length := (List.getElem?_eq_some_iff.mp hj).1
  refine lcL_inv (xs := xs) (fun i s' => s' = s ++ [.lst ((xs.take i).filterMap f)]) hf (by simp) (fun i s' e => by rw [e, List.getElem?_append_left hjl]; exact hj) (fun i v s' hv e => ?_) (fun s' e => by rw [e, List.take_length]; exact hd)
  subst e
  have hlen : ((xs.take i).filterMap f).length < LIM := Nat.lt_of_le_of_lt (Nat.le_trans (List.length_filterMap_le ..) (by rw [List.length_take]; exact Nat.min_le_right ..)) hl
  obtain ⟨lo', h1, h2⟩ := (hx v (List.mem_of_getElem? hv)).turn hlen
  refine ⟨lo', h1, ?_⟩
  have : (xs.take (i + 1)).filterMap f = (xs.take i).filterMap f ++ (f v).toList := by
    rw [List.take_add_one, hv, Option.toList, List.filterMap_append]
    cases h : f v <;> simp [List.filterMap_cons, h]
  rw [this]
  exact h2
end
end Sm

/-! S15: frames of stores; locked dicts; decks of numbers -/
namespace Sm
open PySem L2
/-- all that stood in s stands in s' but for the numbers X -/
structure Fr (X : List Nat) (s s' : Sto) : Prop where
  le : s.length ≤ s'.length
  get : ∀ i, i < s.length → i ∉ X → s'[i]? = s[i]?
section
variable {X Y : List Nat} {s s1 s2 : Sto}
theorem Fr.refl : Fr X s s := ⟨Nat.le_refl _, fun _ _ _ => rfl⟩
theorem Fr.trans (a : Fr X s s1) (b : Fr X s1 s2) : Fr X s s2 := ⟨Nat.le_trans a.le b.le, fun i hi hx => (b.get i (Nat.lt_of_lt_of_le hi a.le) hx).trans (a.get i hi hx)⟩
theorem Fr.mono (a : Fr X s s1) (h : ∀ i ∈ X, i ∈ Y) : Fr Y s s1 := ⟨a.le, fun i hi hx => a.get i hi fun z => hx (h i z)⟩
/-- what is changed in s1 may be new since s -/
theorem Fr.trans' (a : Fr X s s1) (b : Fr Y s1 s2) (h : ∀ i ∈ Y, i ∈ X ∨ s.length ≤ i) : Fr X s s2 := ⟨Nat.le_trans a.le b.le, fun i hi hx => (b.get i (Nat.lt_of_lt_of_le hi a.le) fun z => (h i z).elim hx fun q => absurd hi (Nat.not_lt.mpr q)).trans (a.get i hi hx)⟩
theorem Fr.at (a : Fr X s s1) {i : Nat} {o : Ob} (h : s[i]? = some o) (hx : i ∉ X) : s1[i]? = some o := (a.get i (List.getElem?_eq_some_iff.mp h).1 hx).trans h
theorem Fr.push (a : Fr X s s1) (o : Ob) : Fr X s (s1 ++ [o]) := ⟨by rw [List.length_append]; exact Nat.le_trans a.le (Nat.le_add_right ..), fun i hi hx => by rw [List.getElem?_append_left (Nat.lt_of_lt_of_le hi a.le)]; exact a.get i hi hx⟩
theorem Fr.app (a : Fr X s s1) (t : Sto) : Fr X s (s1 ++ t) := ⟨by rw [List.length_append]; exact Nat.le_trans a.le (Nat.le_add_right ..), fun i hi hx => by rw [List.getElem?_append_left (Nat.lt_of_lt_of_le hi a.le)]; exact a.get i hi hx⟩
theorem Fr.set (a : Fr X s s1) {i : Nat} {o : Ob} (h : i ∈ X ∨ s.length ≤ i) : Fr X s (s1.set i o) := ⟨by rw [List.length_set]; exact a.le, fun j hj hx => by
  rw [List.getElem?_set_ne (fun z => by subst z; exact h.elim hx fun q => absurd hj (Nat.not_lt.mpr q))]
  exact a.get j hj hx⟩
end
@[simp] theorem get_set_self {s : Sto} {i : Nat} {o o' : Ob} (h : s[i]? = some o) : (s.set i o')[i]? = some o' := List.getElem?_set_self (List.getElem?_eq_some_iff.mp h).1
theorem get_set_ne {s : Sto} {i j : Nat} {o' : Ob} (h : i ≠ j) : (s.set i o')[j]? = s[j]? := List.getElem?_set_ne h
theorem get_push {s : Sto} {i : Nat} {o o' : Ob} (h : s[i]? = some o) : (s ++ [o'])[i]? = some o := by rw [List.getElem?_append_left (List.getElem?_eq_some_iff.mp h).1]; exact h
@[simp] theorem get_last {s : Sto} {o : Ob} : (s ++ [o])[s.length]? = some o := by simp
theorem lt_of_get {s : Sto} {i : Nat} {o : Ob} (h : s[i]? = some o) : i < s.length := (List.getElem?_eq_some_iff.mp h).1
section
variable {s : Sto} {lo : Lo} {QV : Vl → Sto → Prop} {E : Ex → Sto → Prop}
@[simp ↓] theorem WE_iVal {e : EM} {QN : NX → Sto → Prop} : WE (iVal e lo) s QN E = WE (e lo) s (fun x s => match x with | .ref j => (match s[j]? with | some (.fdic _) => QN (nxVals j) s | _ => False) | _ => False) E := by
  unfold iVal
  rw [WE_bnd]
  refine WE_ext fun x s => ?_
  cases x <;> try (simp only [WE_eq]; rfl)
  rename_i j
  simp only [WE_eq]
  unfold WE0
  simp only
  cases h : s[j]? with
  | none => rfl
  | some o => cases o <;> rfl
@[simp ↓] theorem WE_eListVals {e : EM} : WE (eListVals e lo) s QV E = WE (e lo) s (fun x s => match x with | .ref j => (match s[j]? with | some (.dic kvs) => QV (.ref s.length) (s ++ [.lst (kvs.map (·.2))]) | _ => False) | _ => False) E := by
  unfold eListVals
  rw [WE_bnd]
  refine WE_ext fun x s => ?_
  cases x <;> try (simp only [WE_eq]; rfl)
  rename_i j
  simp only [WE_eq]
  unfold WE0
  simp only
  cases h : s[j]? with
  | none => rfl
  | some o => cases o <;> rfl
end
/-- a deck: the cells at l and the count c, at d -/
structure Deck (s : Sto) (d l c : Nat) (cells : List Int) : Prop where
  top : s[d]? = some (.lst [.ref l, .int c])
  cel : s[l]? = some (.lst (cells.map Vl.int))
  nn : ∀ x ∈ cells, 0 ≤ x
  ne : l ≠ d
theorem Deck.fr {X : List Nat} {s s' : Sto} {d l c : Nat} {cells : List Int} (D : Deck s d l c cells) (f : Fr X s s') (h1 : d ∉ X) (h2 : l ∉ X) : Deck s' d l c cells := ⟨f.at D.top h1, f.at D.cel h2, D.nn, D.ne⟩
/-- some deck with at most c draws -/
def DeckLe (s : Sto) (d l c : Nat) : Prop := ∃ k cells, k ≤ c ∧ Deck s d l k cells
end Sm

/-! S16: operations on values that are known, as rewriting rules -/
namespace Sm
open PySem L2
section
variable {α : Type} {s : Sto} {lo : Lo} {i j : Int} {a b : Nat} {xs ys : List Vl} {x y : Str} {v w : Vl} {kvs : List (Key × Vl)} {k : Bool}
@[simp] theorem opAdd_int : opAdd (.int i) (.int j) s = some (.int (i + j), s) := rfl
@[simp] theorem opSub_int : opSub (.int i) (.int j) s = some (.int (i - j), s) := rfl
@[simp] theorem opNeg_int : opNeg (.int i) s = some (.int (-i), s) := rfl
@[simp] theorem opAdd_tup (h : xs.length + ys.length ≤ LIM) : opAdd (.tup xs) (.tup ys) s = some (.tup (xs ++ ys), s) := by simp only [opAdd, if_pos h]
@[simp] theorem opAdd_str (h : x.length + y.length ≤ LIM) : opAdd (.str x) (.str y) s = some (.str (x ++ y), s) := by simp only [opAdd, if_pos h]
@[simp] theorem opAdd_lst (h1 : s[a]? = some (.lst xs)) (h2 : s[b]? = some (.lst ys)) (h : xs.length + ys.length ≤ LIM) : opAdd (.ref a) (.ref b) s = some (.ref s.length, s ++ [.lst (xs ++ ys)]) := by simp only [opAdd, h1, h2, if_pos h]
@[simp] theorem opMul_int (h : (-(2 ^ 64) < i ∧ i < 2 ^ 64) ∨ (-(2 ^ 64) < j ∧ j < 2 ^ 64)) : opMul (.int i) (.int j) s = some (.int (i * j), s) := by simp only [opMul, if_pos h]
@[simp] theorem opMul_lst (h1 : s[a]? = some (.lst xs)) (h : 0 ≤ i ∧ i < 2 ^ 60 ∧ xs.length * i.toNat ≤ LIM) : opMul (.ref a) (.int i) s = some (.ref s.length, s ++ [.lst (List.replicate i.toNat xs).flatten]) := by simp only [opMul, h1, if_pos h]
@[simp] theorem opFdiv_int (h : 0 < j ∧ j < 1073741824) : opFdiv (.int i) (.int j) s = some (.int (i / j), s) := by
  have h2 : 0 < j ∧ j < 1267650600228229401496703205376 := ⟨h.1, by omega⟩
  simp only [opFdiv, if_pos h2]
@[simp] theorem opFdiv_intW (h : 0 < j ∧ j < 1267650600228229401496703205376) : opFdiv (.int i) (.int j) s = some (.int (i / j), s) := by simp only [opFdiv, if_pos h]
@[simp] theorem opMod_int (h : 0 < j) : opMod (.int i) (.int j) s = some (.int (i % j), s) := by simp only [opMod, if_pos h]
@[simp] theorem opPow_int (h : 0 ≤ j ∧ j ≤ 1000000 ∧ i.natAbs < 2 ^ 64) : opPow (.int i) (.int j) s = some (.int (i ^ j.toNat), s) := by simp only [opPow, if_pos h]
@[simp] theorem opLt_int : opLt (.int i) (.int j) s = some (.bl (decide (i < j)), s) := rfl
@[simp] theorem opLe_int : opLe (.int i) (.int j) s = some (.bl (decide (i ≤ j)), s) := rfl
@[simp] theorem opGt_int : opGt (.int i) (.int j) s = some (.bl (decide (j < i)), s) := rfl
@[simp] theorem opGe_int : opGe (.int i) (.int j) s = some (.bl (decide (j ≤ i)), s) := rfl
@[simp] theorem opIsN_non : opIsN v .non s = some (.bl (isNon v), s) := by cases v <;> rfl
@[simp] theorem opNotN_non : opNotN v .non s = some (.bl (!isNon v), s) := by cases v <;> rfl
@[simp] theorem isNon_non : isNon .non = true := rfl
@[simp] theorem isNon_int : isNon (.int i) = false := rfl
@[simp] theorem isNon_str : isNon (.str x) = false := rfl
@[simp] theorem isNon_tup : isNon (.tup xs) = false := rfl
@[simp] theorem isNon_ref : isNon (.ref a) = false := rfl
@[simp] theorem isNon_bl : isNon (.bl k) = false := rfl
@[simp] theorem opEq_int : opEq (.int i) (.int j) s = some (.bl (i == j), s) := rfl
@[simp] theorem opNe_int : opNe (.int i) (.int j) s = some (.bl (!(i == j)), s) := rfl
@[simp] theorem opEq_str : opEq (.str x) (.str y) s = some (.bl (x == y), s) := rfl
@[simp] theorem opNe_str : opNe (.str x) (.str y) s = some (.bl (!(x == y)), s) := rfl
@[simp] theorem opIx_tup : opIx (.tup xs) (.int i) s = (atI xs i).map fun v => (v, s) := rfl
@[simp] theorem opIx_lst (h : s[a]? = some (.lst xs)) : opIx (.ref a) (.int i) s = (atI xs i).map fun v => (v, s) := by simp only [opIx, h]
@[simp] theorem opIx_dicI (h : s[a]? = some (.dic kvs)) : opIx (.ref a) (.int i) s = (look kvs (.inl i)).map fun v => (v, s) := by simp only [opIx, h, keyOf]
@[simp] theorem opIx_dicS (h : s[a]? = some (.dic kvs)) : opIx (.ref a) (.str x) s = (look kvs (.inr x)).map fun v => (v, s) := by simp only [opIx, h, keyOf]
@[simp] theorem opSet_lst (h : s[a]? = some (.lst xs)) : opSet (.ref a) (.int i) v s = (ixN xs.length i).map fun n => s.set a (.lst (xs.set n v)) := by
  simp only [opSet, h]
  cases ixN xs.length i <;> rfl
@[simp] theorem opSet_dicI (h : s[a]? = some (.dic kvs)) (hl : kvs.length < LIM) : opSet (.ref a) (.int i) v s = some (s.set a (.dic (put kvs (.inl i) v))) := by simp only [opSet, h, keyOf, if_pos hl]
@[simp] theorem opSet_dicS (h : s[a]? = some (.dic kvs)) (hl : kvs.length < LIM) : opSet (.ref a) (.str x) v s = some (s.set a (.dic (put kvs (.inr x) v))) := by simp only [opSet, h, keyOf, if_pos hl]
@[simp] theorem oLen_lst (h : s[a]? = some (.lst xs)) : oLen [.ref a] s = some (.int xs.length, s) := by simp [oLen, lenM, h]
@[simp] theorem oLen_dic (h : s[a]? = some (.dic kvs)) : oLen [.ref a] s = some (.int kvs.length, s) := by simp [oLen, lenM, h]
@[simp] theorem oLen_tup : oLen [.tup xs] s = some (.int xs.length, s) := rfl
@[simp] theorem oAbs_int : oAbs [.int i] s = some (.int (if i < 0 then -i else i), s) := rfl
@[simp] theorem oInt_int : oInt [.int i] s = some (.int i, s) := rfl
@[simp] theorem oInt_bl : oInt [.bl k] s = some (.int (if k then 1 else 0), s) := rfl
@[simp] theorem oMax_int : oMax [.int i, .int j] s = some (.int (if j > i then j else i), s) := rfl
@[simp] theorem oMin_int : oMin [.int i, .int j] s = some (.int (if j < i then j else i), s) := rfl
@[simp] theorem oTup_ok (h : xs.length ≤ LIM) : oTup xs s = some (.tup xs, s) := by simp only [oTup, if_pos h]
@[simp] theorem oLst_ok (h : xs.length ≤ LIM) : oLst xs s = some (.ref s.length, s ++ [.lst xs]) := by simp only [oLst, if_pos h]
@[simp] theorem oTuple_lst (h : s[a]? = some (.lst xs)) : oTuple [.ref a] s = some (.tup xs, s) := by simp only [oTuple, h]
@[simp] theorem oTuple_tup : oTuple [.tup xs] s = some (.tup xs, s) := rfl
@[simp] theorem oList_lst (h : s[a]? = some (.lst xs)) : oList [.ref a] s = some (.ref s.length, s ++ [.lst xs]) := by simp only [oList, h]
@[simp] theorem oList_tup : oList [.tup xs] s = some (.ref s.length, s ++ [.lst xs]) := rfl
@[simp] theorem oList_dic (h : s[a]? = some (.dic kvs)) : oList [.ref a] s = some (.ref s.length, s ++ [.lst (kvs.map fun kv => keyVl kv.1)]) := by simp only [oList, h]
@[simp] theorem oAppend_lst (h : s[a]? = some (.lst xs)) (hl : xs.length < LIM) : oAppend (.ref a) [v] s = some (.non, s.set a (.lst (xs ++ [v]))) := by simp only [oAppend, h, if_pos hl]
@[simp] theorem oExtend_lst (h : s[a]? = some (.lst xs)) (h2 : s[b]? = some (.lst ys)) (hl : xs.length + ys.length ≤ LIM) : oExtend (.ref a) [.ref b] s = some (.non, s.set a (.lst (xs ++ ys))) := by simp only [oExtend, h, h2, if_pos hl]
@[simp] theorem oExtend_tup (h : s[a]? = some (.lst xs)) (hl : xs.length + ys.length ≤ LIM) : oExtend (.ref a) [.tup ys] s = some (.non, s.set a (.lst (xs ++ ys))) := by simp only [oExtend, h, if_pos hl]
@[simp] theorem oPop_lst (h : s[a]? = some (.lst (xs ++ [v]))) : oPop (.ref a) [] s = some (v, s.set a (.lst xs)) := by
  simp only [oPop, h]
  simp
@[simp] theorem kd_lst (h : s[a]? = some (.lst xs)) : kd .list (.ref a) s = true := by simp only [kd, h]
@[simp] theorem kd_dic (h : s[a]? = some (.dic kvs)) : kd .dict (.ref a) s = true := by simp only [kd, h]
@[simp] theorem kd_str : kd .str (.str x) s = true := rfl
@[simp] theorem opSl_tup {lo hi : Option Int} : opSl (.tup xs) lo hi s = some (.tup (cutL xs lo hi), s) := rfl
@[simp] theorem opSl_lst {lo hi : Option Int} (h : s[a]? = some (.lst xs)) : opSl (.ref a) lo hi s = some (.ref s.length, s ++ [.lst (cutL xs lo hi)]) := by simp only [opSl, h]
@[simp] theorem opSl_scr {lo hi : Option Int} {ns : List Int} : opSl (.scr ns) lo hi s = some (.ref s.length, s ++ [.lst ((cutL ns lo hi).map Vl.int)]) := rfl
@[simp] theorem opIn_lst (h : s[a]? = some (.lst xs)) (hf : flat v = true) (ha : xs.all flat = true) : opIn v (.ref a) s = some (.bl (inF v xs), s) := by simp only [opIn, inM, h, hf, ha, Bool.and_self, if_true]
@[simp] theorem opNotIn_lst (h : s[a]? = some (.lst xs)) (hf : flat v = true) (ha : xs.all flat = true) : opNotIn v (.ref a) s = some (.bl (!inF v xs), s) := by simp only [opNotIn, inM, h, hf, ha, Bool.and_self, if_true]
@[simp] theorem opIn_tup (hf : flat v = true) (ha : xs.all flat = true) : opIn v (.tup xs) s = some (.bl (inF v xs), s) := by simp only [opIn, inM, hf, ha, Bool.and_self, if_true]
@[simp] theorem opNotIn_tup (hf : flat v = true) (ha : xs.all flat = true) : opNotIn v (.tup xs) s = some (.bl (!inF v xs), s) := by simp only [opNotIn, inM, hf, ha, Bool.and_self, if_true]
@[simp] theorem opIn_dicI (h : s[a]? = some (.dic kvs)) : opIn (.int i) (.ref a) s = some (.bl (hasK kvs (.inl i)), s) := by simp only [opIn, inM, h, keyOf]
@[simp] theorem opNotIn_dicI (h : s[a]? = some (.dic kvs)) : opNotIn (.int i) (.ref a) s = some (.bl (!hasK kvs (.inl i)), s) := by simp only [opNotIn, inM, h, keyOf]
@[simp] theorem opIn_dicS (h : s[a]? = some (.dic kvs)) : opIn (.str x) (.ref a) s = some (.bl (hasK kvs (.inr x)), s) := by simp only [opIn, inM, h, keyOf]
@[simp] theorem opNotIn_dicS (h : s[a]? = some (.dic kvs)) : opNotIn (.str x) (.ref a) s = some (.bl (!hasK kvs (.inr x)), s) := by simp only [opNotIn, inM, h, keyOf]
@[simp] theorem flat_int : flat (.int i) = true := rfl
@[simp] theorem flat_str : flat (.str x) = true := rfl
@[simp] theorem flat_bl : flat (.bl k) = true := rfl
@[simp] theorem flat_non : flat .non = true := rfl
@[simp] theorem oSortS_ints {ns : List Int} (h : s[a]? = some (.lst (ns.map Vl.int))) : oSortS [.ref a] s = some (.ref s.length, s ++ [.lst ((srt ns).map Vl.int)]) := by simp [oSortS, h, mapO_ints]
@[simp] theorem oSortS_set {ns : List Int} (h : s[a]? = some (.set ns)) (hl : ns.length < 64) : oSortS [.ref a] s = some (.ref s.length, s ++ [.lst ((srt ns).map Vl.int)]) := by simp [oSortS, h, hl]
@[simp] theorem oSet_ints {ns : List Int} (h : s[a]? = some (.lst (ns.map Vl.int))) (hl : ns.length < 4000) : oSet [.ref a] s = some (.ref s.length, s ++ [.set (ddup ns)]) := by simp [oSet, lstOf, h, mapO_ints, hl]
@[simp] theorem oAll_bls {bs : List Bool} (h : s[a]? = some (.lst (bs.map Vl.bl))) : oAll [.ref a] s = some (.bl (bs.all id), s) := by simp [oAll, lstOf, h, mapO_bls]
@[simp] theorem oAny_bls {bs : List Bool} (h : s[a]? = some (.lst (bs.map Vl.bl))) : oAny [.ref a] s = some (.bl (bs.any id), s) := by simp [oAny, lstOf, h, mapO_bls]
@[simp] theorem oSum_ints {ns : List Int} (h : s[a]? = some (.lst (ns.map Vl.int))) : oSum [.ref a] s = some (.int ns.sum, s) := by simp [oSum, lstOf, h, mapO_ints]
@[simp] theorem lim0 : (0 ≤ LIM) = True := eq_true (by decide)
@[simp] theorem lim1 : (1 ≤ LIM) = True := eq_true (by decide)
@[simp] theorem lim2 : (2 ≤ LIM) = True := eq_true (by decide)
@[simp] theorem lim3 : (3 ≤ LIM) = True := eq_true (by decide)
@[simp] theorem lim4 : (4 ≤ LIM) = True := eq_true (by decide)
@[simp] theorem lim5 : (5 ≤ LIM) = True := eq_true (by decide)
@[simp] theorem lim6 : (6 ≤ LIM) = True := eq_true (by decide)
@[simp] theorem limz : (0 < LIM) = True := eq_true (by decide)
theorem limB {n : Nat} (h : n ≤ 1000000) : n ≤ LIM := Nat.le_trans h (by decide)
theorem limC {n : Nat} (h : n < 1000000) : n < LIM := Nat.lt_of_lt_of_le h (by decide)
end
theorem ixN_nat {n m : Nat} (h : n < m) : ixN m (n : Int) = some n := by
  simp [ixN, h]
theorem atN {α : Type} {xs : List α} {n : Nat} : atI xs (n : Int) = xs[n]? := by
  by_cases h : n < xs.length
  · simp [atI, ixN_nat h]
  · simp [atI, ixN, h, List.getElem?_eq_none (Nat.le_of_not_lt h)]
@[simp] theorem atI_0 {α : Type} {xs : List α} : atI xs 0 = xs[0]? := atN (n := 0)
@[simp] theorem atI_1 {α : Type} {xs : List α} : atI xs 1 = xs[1]? := atN (n := 1)
@[simp] theorem atI_2 {α : Type} {xs : List α} : atI xs 2 = xs[2]? := atN (n := 2)
@[simp] theorem atI_3 {α : Type} {xs : List α} : atI xs 3 = xs[3]? := atN (n := 3)
@[simp] theorem atLast {α : Type} {xs : List α} {v : α} : atI (xs ++ [v]) (-1) = some v := by
  have : ixN (xs ++ [v]).length (-1) = some xs.length := by
    simp [ixN]
    omega
  unfold atI
  rw [this]
  simp
@[simp] theorem cutL_nat {α : Type} {xs : List α} {n : Nat} : cutL xs none (some (n : Int)) = xs.take n := by
  unfold cutL
  rw [HT.sIx_none, HT.sIx_nat]
  simp [List.take_eq_take_iff]
theorem lcL_p {j : Nat} {g : GL} {t : TM} {e : EM} {lo : Lo} {d : Nat} {xs : List Vl} {s0 : Sto} {Q : Sto → Prop} (s : Sto) (f : Vl → Option Vl) (h1 : d = s.length) (h2 : s0 = s ++ [.lst []]) (hj : s[j]? = some (.lst xs)) (hf : xs.length < 100000) (hx : ∀ x ∈ xs, LcP g t e lo s x (f x)) (hd : Q (s ++ [.lst (xs.filterMap f)])) :
    WL (lcN (nxLst j) g t e d lo 100000 0 s0) Q := by
  subst h1 h2
  exact lcL_pure f hj (limC (by omega)) hf hx hd
end Sm

/-! S17: texts of plain values; == with an empty list -/
namespace Sm
open PySem L2
/-- a plain value, at most n deep, at most w wide -/
def Pn (n w : Nat) (v : Vl) : Prop := ∃ d : PyData, (∀ s m, n ≤ m → toD m s v = some d) ∧ d.leavesShort 13 = true ∧ d.showable = true ∧ d.weight ≤ w
theorem Pn.mono {n m w z : Nat} {v : Vl} (h : Pn n w v) (h1 : n ≤ m) (h2 : w ≤ z) : Pn m z v := by
  obtain ⟨d, a, b, c, e⟩ := h
  exact ⟨d, fun s k hk => a s k (Nat.le_trans h1 hk), b, c, Nat.le_trans e h2⟩
theorem Pn.non : Pn 1 64 .non := by
  refine ⟨.none, fun s m hm => ?_, rfl, rfl, by simp [PyData.weight]⟩
  obtain ⟨m, rfl⟩ : ∃ k, m = k + 1 := ⟨m - 1, by omega⟩
  rfl
theorem Pn.int {i : Int} (h : i.natAbs < 10 ^ 12) : Pn 1 64 (.int i) := by
  refine ⟨.int i, fun s m hm => ?_, ?_, ?_, ?_⟩
  · obtain ⟨m, rfl⟩ : ∃ k, m = k + 1 := ⟨m - 1, by omega⟩
    rfl
  · have := int_text_length_le10 (a := i) (k := 12) (by omega) h
    simp only [PyData.leavesShort, PyData.shown]
    refine decide_eq_true ?_
    have e : (Str.ofString (toString i)).length = (toString i).length := ofString_length _
    omega
  · simp only [PyData.showable, decide_eq_true_eq]
    rcases Nat.eq_zero_or_pos i.natAbs with z | z
    · rw [z]; decide
    · have : i.natAbs.log2 < 40 := by
        rw [Nat.log2_lt (by omega)]
        exact Nat.lt_of_lt_of_le h (by decide)
      omega
  · simp only [PyData.weight]
    split
    · omega
    · rename_i z
      have z : i.natAbs ≠ 0 := by simp at z; omega
      have : i.natAbs.log2 < 40 := by
        rw [Nat.log2_lt z]
        exact Nat.lt_of_lt_of_le h (by decide)
      omega
theorem Pn.str {x : Str} (h : (x.cps.toList.all fun c => decide (c < 16 ^ 8)) = true) (hl : x.length ≤ 64) : Pn 1 64 (.str x) := by
  refine ⟨.str x, fun s m hm => ?_, ?_, rfl, ?_⟩
  · obtain ⟨m, rfl⟩ : ∃ k, m = k + 1 := ⟨m - 1, by omega⟩
    rfl
  · exact h
  · exact hl
theorem Pn.all {n w : Nat} : ∀ {xs : List Vl}, (∀ x ∈ xs, Pn n w x) → ∃ ds : List PyData, (∀ s m, n ≤ m → mapO (toD m s) xs = some ds) ∧ PyData.leavesShortAll 13 ds = true ∧ PyData.showableAll ds = true ∧ PyData.weightAll ds ≤ xs.length * (w + 1)
  | [], _ => ⟨[], fun _ _ _ => rfl, rfl, rfl, by simp [PyData.weightAll]⟩
  | x :: xs, h => by
    obtain ⟨d, a, b, c, e⟩ := h x (List.mem_cons_self ..)
    obtain ⟨ds, a', b', c', e'⟩ := Pn.all fun y hy => h y (List.mem_cons_of_mem _ hy)
    refine ⟨d :: ds, fun s m hm => ?_, ?_, ?_, ?_⟩
    · simp only [mapO, a s m hm, a' s m hm]
    · simp only [PyData.leavesShortAll, b, b', Bool.and_self]
    · simp only [PyData.showableAll, c, c', Bool.and_self]
    · simp only [PyData.weightAll, List.length_cons, Nat.add_mul, Nat.one_mul]
      omega
theorem Pn.tup {n w : Nat} {xs : List Vl} (h : ∀ x ∈ xs, Pn n w x) : Pn (n + 1) (xs.length * (w + 1)) (.tup xs) := by
  obtain ⟨ds, a, b, c, e⟩ := Pn.all h
  refine ⟨.tuple ds, fun s m hm => ?_, ?_, ?_, ?_⟩
  · obtain ⟨m, rfl⟩ : ∃ k, m = k + 1 := ⟨m - 1, by omega⟩
    simp only [toD, a s m (by omega), Option.map]
  · simpa only [PyData.leavesShort] using b
  · simpa only [PyData.showable] using c
  · simpa only [PyData.weight] using e
theorem Pn.repr {n w : Nat} {v : Vl} (h : Pn n w v) (hn : n ≤ 40) (hw : w ≤ 2 ^ 20) : ∃ x, ∀ s, oRepr [v] s = some (.str x, s) := by
  obtain ⟨d, a, b, c, e⟩ := h
  refine ⟨d.shown, fun s => ?_⟩
  have : d.shown.length ≤ LIM := by
    rw [← lim_eq]
    exact PyData.shown_fits (by omega) (by omega) b (by omega)
  simp only [oRepr, a s 40 hn, c, this, decide_true, Bool.and_self, if_true]
theorem canLay_ints : ∀ ns : List Int, PyData.canLayAll0 (ns.map PyData.int) = true
  | [] => rfl
  | n :: ns => by simp only [List.map_cons, PyData.canLayAll0, PyData.canLay0, canLay_ints ns, Bool.and_self]
theorem toD_ints {s : Sto} {m : Nat} : ∀ ns : List Int, mapO (toD (m + 1) s) (ns.map Vl.int) = some (ns.map PyData.int)
  | [] => rfl
  | n :: ns => by
    have e : toD (m + 1) s (.int n) = some (.int n) := rfl
    simp only [List.map_cons, mapO, e, toD_ints ns]
section
variable {mf : List Vl → M Vl} {s : Sto} {QV : Vl → Sto → Prop} {E : Ex → Sto → Prop} {x y z : Vl}
end
@[simp] theorem rngW_nat {n : Nat} {s : Sto} {QA : List Vl → Sto → Prop} (h : n < 1000000) : rngW [.int (n : Int)] s QA = QA (rng 0 n) s := by
  rw [rngW_one]
  have h1 : -(2 ^ 62) ≤ (n : Int) := by omega
  have h2 : (n : Int) < 2 ^ 62 := by omega
  have e : (n : Int).toNat = n := Int.toNat_natCast n
  rw [e]
  exact propext ⟨fun z => z.2, fun z => ⟨⟨h1, h2⟩, z⟩⟩
theorem rng_get {n i : Nat} {v : Vl} (h : (rng 0 n)[i]? = some v) : i < n ∧ v = .int (i : Nat) := by
  have h1 := (List.getElem?_eq_some_iff.mp h).1
  have h2 : i < n := by simpa [rng] using h1
  refine ⟨h2, ?_⟩
  simp [rng, h2] at h
  exact h.symm
@[simp] theorem rng_len {n : Nat} : (rng 0 n).length = n := by simp [rng]
end Sm

/-! S23: dicts, lists of ints, new rules of the pure programs; plain lemmas -/
namespace Sm
open PySem L2
section
variable {s : Sto} {lo : Lo} {QV : Vl → Sto → Prop} {E : Ex → Sto → Prop}
@[simp ↓] theorem WE_eMakeB {c : Nat} : WE (eMakeB c lo) s QV E = QV (.ref s.length) (s ++ [.ins c []]) := by simp only [WE_eq]; rfl
@[simp ↓] theorem WE_starM {n : Nat} {mf : List Vl → M Vl} {as : List Vl} : WE (starM n mf as) s QV E = (if n ≤ as.length ∧ as.length ≤ LIM then WE (mf (as.take n ++ [.tup (as.drop n)])) s QV E else False) := by
  by_cases h : n ≤ as.length ∧ as.length ≤ LIM
  · simp only [WE_eq, WE0, starM, if_pos h]
  · simp only [WE_eq, WE0, starM, if_neg h]
def callW (tab : MTab) (j : Nat) (s : Sto) (P : (List Vl → M Vl) → Prop) : Prop := match s[j]? with
  | some (.ins c _) => match tab c with
    | some mf => P mf
    | none => False
  | _ => False
theorem WE_eCallO {tab : MTab} {o : EM} {a : AM} : WE (eCallO tab o a lo) s QV E = WE (o lo) s (fun x s => match x with | .ref j => WE (a lo) s (fun as s => callW tab j s fun mf => WE (mf (.ref j :: as)) s QV E) E | _ => False) E := by
  unfold eCallO
  rw [WE_bnd]
  refine WE_ext fun x s => ?_
  cases x <;> try (simp only [WE_eq]; rfl)
  rename_i j
  show WE (bnd (a lo) _) s QV E = _
  rw [WE_bnd]
  refine WE_ext fun as s => ?_
  simp only [WE_eq]
  unfold WE0 callW
  simp only
  cases h : s[j]? with
  | none => rfl
  | some o =>
    cases o <;> try rfl
    rename_i c fs
    simp only
    cases h1 : tab c with
    | none => rfl
    | some mf => simp only [WE_eq] <;> rfl
end
@[simp] theorem look_put_self {κ : Type} [DecidableEq κ] {kvs : List (κ × Vl)} {k : κ} {v : Vl} : look (put kvs k v) k = some v := by
  induction kvs with
  | nil => simp [put, look]
  | cons p r ih =>
    unfold put
    split
    · simp [look]
    · rename_i h
      simp [look, h, ih]
theorem put_new {y : Int} {v : Vl} : ∀ {kvs : List (Key × Vl)} {K : List Int}, kvs.map (·.1) = K.map Sum.inl → y ∉ K → (put kvs (.inl y) v).map (·.1) = (K ++ [y]).map Sum.inl
  | [], [], _, _ => rfl
  | [], _ :: _, h, _ => by simp at h
  | _ :: _, [], h, _ => by simp at h
  | p :: r, k :: K, h, hy => by
    simp only [List.map_cons, List.cons.injEq] at h
    simp only [List.mem_cons, not_or] at hy
    unfold put
    have q : p.1 ≠ .inl y := fun e => hy.1 (by rw [h.1] at e; cases e; rfl)
    rw [if_neg q]
    simp only [List.map_cons, List.cons_append, put_new h.2 hy.2, h.1]
abbrev Inc (A : List Int) : Prop := A.Pairwise (· < ·)
@[simp] theorem inF_ints {c : Int} : ∀ C : List Int, inF (.int c) (C.map Vl.int) = decide (c ∈ C)
  | [] => by simp [inF]
  | x :: C => by
    have := inF_ints (c := c) C
    have e : eqF (.int x) (.int c) = decide (c = x) := by
      simp [eqF]
      by_cases q : x = c
      · simp [q]
      · simp [q, Ne.symm q]
    simp [inF, e] at this ⊢
    rw [this]
@[simp] theorem flat_ints {xs : List Int} : (xs.map Vl.int).all flat = true := by simp [List.all_map]
end Sm

/-! S24: texts that are written out; small rules -/
namespace Sm
open PySem L2
theorem toNat_map_inj : ∀ {a b : List Char}, a.map Char.toNat = b.map Char.toNat → a = b
  | [], [], _ => rfl
  | [], _ :: _, h => by simp at h
  | _ :: _, [], h => by simp at h
  | x :: a, y :: b, h => by
    simp only [List.map_cons, List.cons.injEq] at h
    rw [toNat_map_inj h.2, Char.toNat_inj.mp h.1]
theorem ofString_inj {a b : String} (h : Str.ofString a = Str.ofString b) : a = b := by
  rw [Str.ofString_eq_toList, Str.ofString_eq_toList] at h
  have h1 := congrArg (fun z => z.cps.toList) h
  simp only at h1
  exact String.toList_inj.mp (toNat_map_inj h1)
@[simp] theorem ofString_eq_iff {a b : String} : (Str.ofString a = Str.ofString b) = (a = b) := propext ⟨ofString_inj, fun h => by rw [h]⟩
@[simp] theorem ofString_beq {a b : String} : (Str.ofString a == Str.ofString b) = (a == b) := by
  by_cases h : a = b
  · subst h; simp
  · rw [beq_eq_false_iff_ne.mpr h, beq_eq_false_iff_ne.mpr fun z => h (ofString_inj z)]
@[simp] theorem eqF_str {a b : Str} : eqF (.str a) (.str b) = (a == b) := rfl
@[simp] theorem eqF_int {a b : Int} : eqF (.int a) (.int b) = (a == b) := rfl
@[simp] theorem inF_nil {x : Vl} : inF x [] = false := rfl
@[simp] theorem inF_cons {x y : Vl} {ys : List Vl} : inF x (y :: ys) = (eqF y x || inF x ys) := rfl
section
variable {s : Sto} {x : Str} {i : Int} {xs : List Vl} {a : Nat}
@[simp] theorem opIn_tupS : opIn (.str x) (.tup xs) s = if xs.all flat = true then some (.bl (inF (.str x) xs), s) else none := by
  by_cases h : xs.all flat = true
  · rw [if_pos h, opIn_tup rfl h]
  · have h' : xs.all flat = false := by simpa using h
    rw [if_neg h]; simp only [opIn, inM, h', Bool.and_false]; rfl
@[simp] theorem opNotIn_tupS : opNotIn (.str x) (.tup xs) s = if xs.all flat = true then some (.bl (!inF (.str x) xs), s) else none := by
  by_cases h : xs.all flat = true
  · rw [if_pos h, opNotIn_tup rfl h]
  · have h' : xs.all flat = false := by simpa using h
    rw [if_neg h]; simp only [opNotIn, inM, h', Bool.and_false]; rfl
@[simp] theorem opIn_tupI : opIn (.int i) (.tup xs) s = if xs.all flat = true then some (.bl (inF (.int i) xs), s) else none := by
  by_cases h : xs.all flat = true
  · rw [if_pos h, opIn_tup rfl h]
  · have h' : xs.all flat = false := by simpa using h
    rw [if_neg h]; simp only [opIn, inM, h', Bool.and_false]; rfl
@[simp] theorem opNotIn_tupI : opNotIn (.int i) (.tup xs) s = if xs.all flat = true then some (.bl (!inF (.int i) xs), s) else none := by
  by_cases h : xs.all flat = true
  · rw [if_pos h, opNotIn_tup rfl h]
  · have h' : xs.all flat = false := by simpa using h
    rw [if_neg h]; simp only [opNotIn, inM, h', Bool.and_false]; rfl
@[simp] theorem opIn_lstS (h1 : s[a]? = some (.lst xs)) : opIn (.str x) (.ref a) s = if xs.all flat = true then some (.bl (inF (.str x) xs), s) else none := by
  by_cases h : xs.all flat = true
  · rw [if_pos h, opIn_lst h1 rfl h]
  · have h' : xs.all flat = false := by simpa using h
    rw [if_neg h]; simp only [opIn, inM, h1, h', Bool.and_false]; rfl
@[simp] theorem opNotIn_lstS (h1 : s[a]? = some (.lst xs)) : opNotIn (.str x) (.ref a) s = if xs.all flat = true then some (.bl (!inF (.str x) xs), s) else none := by
  by_cases h : xs.all flat = true
  · rw [if_pos h, opNotIn_lst h1 rfl h]
  · have h' : xs.all flat = false := by simpa using h
    rw [if_neg h]; simp only [opNotIn, inM, h1, h', Bool.and_false]; rfl
@[simp] theorem opIn_lstI (h1 : s[a]? = some (.lst xs)) : opIn (.int i) (.ref a) s = if xs.all flat = true then some (.bl (inF (.int i) xs), s) else none := by
  by_cases h : xs.all flat = true
  · rw [if_pos h, opIn_lst h1 rfl h]
  · have h' : xs.all flat = false := by simpa using h
    rw [if_neg h]; simp only [opIn, inM, h1, h', Bool.and_false]; rfl
@[simp] theorem opNotIn_lstI (h1 : s[a]? = some (.lst xs)) : opNotIn (.int i) (.ref a) s = if xs.all flat = true then some (.bl (!inF (.int i) xs), s) else none := by
  by_cases h : xs.all flat = true
  · rw [if_pos h, opNotIn_lst h1 rfl h]
  · have h' : xs.all flat = false := by simpa using h
    rw [if_neg h]; simp only [opNotIn, inM, h1, h', Bool.and_false]; rfl
end
@[simp] theorem lim7 : (7 ≤ LIM) = True := eq_true (by decide)
@[simp] theorem lim8 : (8 ≤ LIM) = True := eq_true (by decide)
@[simp] theorem lim9 : (9 ≤ LIM) = True := eq_true (by decide)
@[simp] theorem lim10 : (10 ≤ LIM) = True := eq_true (by decide)
@[simp] theorem lim11 : (11 ≤ LIM) = True := eq_true (by decide)
@[simp] theorem lim12 : (12 ≤ LIM) = True := eq_true (by decide)
@[simp] theorem lim13 : (13 ≤ LIM) = True := eq_true (by decide)
@[simp] theorem lim14 : (14 ≤ LIM) = True := eq_true (by decide)
@[simp] theorem lim15 : (15 ≤ LIM) = True := eq_true (by decide)
@[simp] theorem lim16 : (16 ≤ LIM) = True := eq_true (by decide)
@[simp] theorem lim17 : (17 ≤ LIM) = True := eq_true (by decide)
@[simp] theorem lim18 : (18 ≤ LIM) = True := eq_true (by decide)
@[simp] theorem lim19 : (19 ≤ LIM) = True := eq_true (by decide)
@[simp] theorem lim20 : (20 ≤ LIM) = True := eq_true (by decide)
@[simp] theorem lim21 : (21 ≤ LIM) = True := eq_true (by decide)
@[simp] theorem lim22 : (22 ≤ LIM) = True := eq_true (by decide)
@[simp] theorem lim23 : (23 ≤ LIM) = True := eq_true (by decide)
@[simp] theorem lim24 : (24 ≤ LIM) = True := eq_true (by decide)
@[simp] theorem lim25 : (25 ≤ LIM) = True := eq_true (by decide)
@[simp] theorem lim26 : (26 ≤ LIM) = True := eq_true (by decide)
@[simp] theorem lim27 : (27 ≤ LIM) = True := eq_true (by decide)
@[simp] theorem lim28 : (28 ≤ LIM) = True := eq_true (by decide)
@[simp] theorem lim29 : (29 ≤ LIM) = True := eq_true (by decide)
@[simp] theorem lim30 : (30 ≤ LIM) = True := eq_true (by decide)
@[simp] theorem lim31 : (31 ≤ LIM) = True := eq_true (by decide)
@[simp] theorem lim32 : (32 ≤ LIM) = True := eq_true (by decide)
@[simp] theorem lim33 : (33 ≤ LIM) = True := eq_true (by decide)
@[simp] theorem lim34 : (34 ≤ LIM) = True := eq_true (by decide)
@[simp] theorem lim35 : (35 ≤ LIM) = True := eq_true (by decide)
@[simp] theorem lim36 : (36 ≤ LIM) = True := eq_true (by decide)
@[simp] theorem lim37 : (37 ≤ LIM) = True := eq_true (by decide)
@[simp] theorem lim38 : (38 ≤ LIM) = True := eq_true (by decide)
@[simp] theorem lim39 : (39 ≤ LIM) = True := eq_true (by decide)
@[simp] theorem lim40 : (40 ≤ LIM) = True := eq_true (by decide)
theorem Pn.bl {b : Bool} : Pn 1 64 (.bl b) := by
  refine ⟨.bool b, fun s m hm => ?_, by cases b <;> decide, rfl, by simp [PyData.weight]⟩
  obtain ⟨m, rfl⟩ : ∃ k, m = k + 1 := ⟨m - 1, by omega⟩
  rfl
theorem Pn.ints {ns : List Int} {n : Nat} (h : ∀ x ∈ ns, x.natAbs < 10 ^ 12) (hn : ns.length ≤ n) : Pn 2 (n * 65) (.tup (ns.map Vl.int)) :=
  (Pn.tup (n := 1) (w := 64) fun x hx => by
    obtain ⟨i, hi, rfl⟩ := List.mem_map.mp hx
    exact Pn.int (h i hi)).mono (Nat.le_refl _) (by simp; omega)
/-- an item of a mapped list -/
theorem get_map {α β : Type} {f : α → β} {xs : List α} {i : Nat} {v : β} (h : (xs.map f)[i]? = some v) : ∃ x, xs[i]? = some x ∧ v = f x := by
  rw [List.getElem?_map] at h
  cases q : xs[i]? with
  | none => rw [q] at h; cases h
  | some e => rw [q] at h; exact ⟨e, rfl, by simpa using h.symm⟩
theorem take_succ_get {α : Type} {xs : List α} {i : Nat} {x : α} (h : xs[i]? = some x) : xs.take (i + 1) = xs.take i ++ [x] := by
  rw [List.take_add_one, h]; rfl
end Sm

/-! S29: how the newer parts of pure programs are computed -/
namespace Sm
open PySem L2
section
variable {s : Sto} {lo : Lo} {QV : Vl → Sto → Prop} {QA : List Vl → Sto → Prop} {E : Ex → Sto → Prop} {K : RK} {N : Lo → Sto → Prop}
def WGs0 (gs : List GM) (vs : List Vl) (lo : Lo) (s : Sto) (N : Lo → Sto → Prop) : Prop := match gAll gs vs lo s with
  | some (lo', s') => N lo' s'
  | none => False
structure WGs (gs : List GM) (vs : List Vl) (lo : Lo) (s : Sto) (N : Lo → Sto → Prop) (_ : Tg N := .a) : Prop where
  h : WGs0 gs vs lo s N
theorem WGs_eq {gs : List GM} {vs : List Vl} : WGs gs vs lo s N = WGs0 gs vs lo s N := propext ⟨fun x => x.h, fun x => ⟨x⟩⟩
@[simp ↓] theorem WG_gTs {gs : List GM} {xs : List Vl} : WG (gTs gs) (.tup xs) lo s N E = WGs gs xs lo s N := by
  simp only [WG_eq, WE_eq, WGs_eq]
  unfold WE0 gTs WGs0
  simp only
  cases gAll gs xs lo s with
  | none => rfl
  | some p => obtain ⟨a, b⟩ := p; rfl
@[simp ↓] theorem WGs_nil : WGs [] [] lo s N = N lo s := by simp only [WGs_eq]; rfl
@[simp ↓] theorem WGs_cons {g : GM} {gs : List GM} {v : Vl} {vs : List Vl} : WGs (g :: gs) (v :: vs) lo s N = WG g v lo s (fun lo s => WGs gs vs lo s N) NoX := by
  simp only [WG_eq, WE_eq, WGs_eq]
  unfold WE0 WGs0
  have e : gAll (g :: gs) (v :: vs) lo s = match g v lo s with | .ok lo' s' => gAll gs vs lo' s' | _ => none := rfl
  rw [e]
  cases g v lo s with
  | ok a b => simp only [WGs_eq] <;> rfl
  | exc a b => rfl
  | fail => rfl
def ulW (x : Vl) (s : Sto) (P : List Vl → Prop) : Prop := match x with
  | .ref j => match s[j]? with
    | some (.lst xs) => P xs
    | _ => False
  | _ => False
@[simp] theorem ulW_ref {j : Nat} {P : List Vl → Prop} {xs : List Vl} (h : s[j]? = some (.lst xs)) : ulW (.ref j) s P = P xs := by simp [ulW, h]
@[simp ↓] theorem WG_gUl {gs : List GM} {x : Vl} : WG (gUl gs) x lo s N E = ulW x s fun xs => WGs gs xs lo s N := by
  simp only [WG_eq, WE_eq, WGs_eq]
  unfold WE0 gUl ulW WGs0
  cases x <;> try rfl
  rename_i j
  dsimp only
  cases s[j]? with
  | none => rfl
  | some o =>
    cases o <;> try rfl
    rename_i xs
    dsimp only
    cases gAll gs xs lo s with
    | none => rfl
    | some p => obtain ⟨a, b⟩ := p; rfl
def atW (lo : Lo) (i : Nat) (P : Vl → Prop) : Prop := match lo[i]? with
  | some (some x) => P x
  | _ => False
@[simp ↓] theorem WS_sAug {i : Nat} {f : O2} {e : EM} : WS (sAug i f e) lo s K = (match lo[i]? with | some (some x) => WE (e lo) s (fun v s => WO (f x v s) fun z s => K.nx (lo.set i (some z)) s) (fun x s => K.ex x lo s) | _ => False) := by
  simp only [WS_eq]
  unfold WS0 sAug
  cases h : lo[i]? with
  | none => simp only [h]
  | some o =>
    cases o with
    | none => simp only [h]
    | some x =>
      simp only [h]
      have := WS_bndS (m := e) (lo := lo) (s := s) (K := K) (f := fun lo v s => match f x v s with | some (z, s') => .nx (lo.set i (some z)) s' | none => .fail)
      refine Eq.trans (b := WS (bndS e fun lo v s => match f x v s with | some (z, s') => .nx (lo.set i (some z)) s' | none => .fail) lo s K) (by simp only [WS_eq]; rfl) (this.trans ?_)
      refine WE_ext fun v s => ?_
      simp only [WO_eq]
      unfold WO0
      cases f x v s with
      | none => rfl
      | some p => obtain ⟨a, b⟩ := p; rfl
@[simp] theorem opIAdd_int {i j : Int} : opIAdd (.int i) (.int j) s = some (.int (i + j), s) := rfl
@[simp] theorem opISub_int {i j : Int} : opISub (.int i) (.int j) s = some (.int (i - j), s) := rfl
@[simp] theorem opIAdd_str {x y : Str} (h : x.length + y.length ≤ LIM) : opIAdd (.str x) (.str y) s = some (.str (x ++ y), s) := by simp only [opIAdd, if_pos h]
@[simp ↓] theorem WE_eChain {f f' : O2} {a b c : EM} : WE (eChain f f' a b c lo) s QV E = WE (a lo) s (fun x s => WE (b lo) s (fun y s => WO (f x y s) fun z s => match z with | .bl true => WE (c lo) s (fun w s => WO (f' y w s) QV) E | .bl false => QV (.bl false) s | _ => False) E) E := by
  unfold eChain
  rw [WE_bnd]
  refine WE_ext fun x s => ?_
  rw [WE_bnd]
  refine WE_ext fun y s => ?_
  rw [WE_bnd, WE_lift]
  have : ∀ (o : Option (Vl × Sto)) (P P' : Vl → Sto → Prop), (∀ a s, P a s = P' a s) → WO o P = WO o P' := fun o P P' h => by
    have : P = P' := funext fun a => funext fun s => h a s
    subst this; rfl
  refine this _ _ _ fun z s => ?_
  cases z <;> try (simp only [WE_eq]; rfl)
  rename_i k
  cases k with
  | false => simp only [WE_eq]; rfl
  | true =>
    simp only
    rw [WE_bnd]
    exact WE_ext fun w s => WE_lift
def dicW (x : Vl) (s : Sto) (P : Nat → Prop) : Prop := match x with
  | .ref j => isDic j s = true ∧ P j
  | _ => False
@[simp] theorem dicW_ref {j : Nat} {P : Nat → Prop} {kvs : List (Key × Vl)} (h : s[j]? = some (.dic kvs)) : dicW (.ref j) s P = P j := by simp [dicW, isDic, h]
def getW (j : Nat) (y : Vl) (s : Sto) (P : List (Key × Vl) → Key → Prop) : Prop := match s[j]?, keyOf y with
  | some (.dic kvs), some key => P kvs key
  | _, _ => False
@[simp] theorem getW_str {j : Nat} {x : Str} {kvs : List (Key × Vl)} {P : List (Key × Vl) → Key → Prop} (h : s[j]? = some (.dic kvs)) : getW j (.str x) s P = P kvs (.inr x) := by simp [getW, h, keyOf]
@[simp] theorem getW_int {j : Nat} {x : Int} {kvs : List (Key × Vl)} {P : List (Key × Vl) → Key → Prop} (h : s[j]? = some (.dic kvs)) : getW j (.int x) s P = P kvs (.inl x) := by simp [getW, h, keyOf]
@[simp ↓] theorem WE_eDGet1 {d k : EM} : WE (eDGet1 d k lo) s QV E = WE (d lo) s (fun x s => dicW x s fun j => WE (k lo) s (fun y s => getW j y s fun kvs key => QV ((look kvs key).getD .non) s) E) E := by
  unfold eDGet1
  rw [WE_bnd]
  refine WE_ext fun x s => ?_
  cases x <;> try (simp only [WE_eq]; rfl)
  rename_i j
  unfold dicW
  by_cases h : isDic j s = true
  · simp only [h, true_and]
    refine Eq.trans (b := WE (bnd (k lo) fun y s => match s[j]?, keyOf y with | some (.dic kvs), some key => .ok ((look kvs key).getD .non) s | _, _ => .fail) s QV E) ?_ ?_
    · simp only [WE_eq]; unfold WE0; simp only [h, if_true] <;> rfl
    · rw [WE_bnd]
      refine WE_ext fun y s => ?_
      simp only [WE_eq]
      unfold WE0 getW
      dsimp only
      cases s[j]? with
      | none => rfl
      | some o => cases o <;> cases keyOf y <;> rfl
  · simp only [h, false_and, Bool.false_eq_true]
    simp only [WE_eq]; unfold WE0; simp only [h, if_false, Bool.false_eq_true]
@[simp ↓] theorem WE_eDGet2 {d k v : EM} : WE (eDGet2 d k v lo) s QV E = WE (d lo) s (fun x s => dicW x s fun j => WE (k lo) s (fun y s => WE (v lo) s (fun z s => getW j y s fun kvs key => QV ((look kvs key).getD z) s) E) E) E := by
  unfold eDGet2
  rw [WE_bnd]
  refine WE_ext fun x s => ?_
  cases x <;> try (simp only [WE_eq]; rfl)
  rename_i j
  unfold dicW
  by_cases h : isDic j s = true
  · simp only [h, true_and]
    refine Eq.trans (b := WE (bnd (k lo) fun y => bnd (v lo) fun z s => match s[j]?, keyOf y with | some (.dic kvs), some key => .ok ((look kvs key).getD z) s | _, _ => .fail) s QV E) ?_ ?_
    · simp only [WE_eq]; unfold WE0; simp only [h, if_true] <;> rfl
    · rw [WE_bnd]
      refine WE_ext fun y s => ?_
      rw [WE_bnd]
      refine WE_ext fun z s => ?_
      simp only [WE_eq]
      unfold WE0 getW
      dsimp only
      cases s[j]? with
      | none => rfl
      | some o => cases o <;> cases keyOf y <;> rfl
  · simp only [h, false_and, Bool.false_eq_true]
    simp only [WE_eq]; unfold WE0; simp only [h, if_false, Bool.false_eq_true]
@[simp ↓] theorem WE_aEnm {e : AM} : WE (aEnm e lo) s QA E = WE (e lo) s (fun as s => match as with | [.tup xs] => QA (enmL xs) s | _ => False) E := by
  unfold aEnm
  rw [WE_bnd]
  refine WE_ext fun as s => ?_
  match as with
  | [] => simp only [WE_eq]; rfl
  | [.tup xs] => simp only [WE_eq]; rfl
  | .non :: _ => cases ‹List Vl› <;> simp only [WE_eq] <;> rfl
  | .bl _ :: _ => cases ‹List Vl› <;> simp only [WE_eq] <;> rfl
  | .int _ :: _ => cases ‹List Vl› <;> simp only [WE_eq] <;> rfl
  | .str _ :: _ => cases ‹List Vl› <;> simp only [WE_eq] <;> rfl
  | .ref _ :: _ => cases ‹List Vl› <;> simp only [WE_eq] <;> rfl
  | .scr _ :: _ => cases ‹List Vl› <;> simp only [WE_eq] <;> rfl
  | .ty _ :: _ => cases ‹List Vl› <;> simp only [WE_eq] <;> rfl
  | .fn _ :: _ => cases ‹List Vl› <;> simp only [WE_eq] <;> rfl
  | .tup _ :: _ :: _ => simp only [WE_eq]; rfl
@[simp ↓] theorem WE_dflM {n : Nat} {das as : List Vl} {mf : List Vl → M Vl} : WE (dflM n das mf as) s QV E = (if as.length + das.length = n then WE (mf (as ++ das)) s QV E else False) := by
  by_cases h : as.length + das.length = n
  · simp only [WE_eq, WE0, dflM, if_pos h]
  · simp only [WE_eq, WE0, dflM, if_neg h]
end
section
variable {s : Sto} {a : Nat} {x : Str} {xs : List Vl} {kvs : List (Key × Vl)}
theorem oJoin_strs {ys : List Str} (h : s[a]? = some (.lst (ys.map Vl.str))) (hl : (ys.map (·.length)).sum + ys.length * x.length ≤ LIM) : oJoin (.str x) [.ref a] s = some (.str (Txt.join x ys), s) := by simp [oJoin, lstOf, h, mapO_strs, hl]
@[simp] theorem oDict_dic (h : s[a]? = some (.dic kvs)) : oDict [.ref a] s = some (.ref s.length, s ++ [.dic kvs]) := by simp only [oDict, h]
theorem strKeys_eq : ∀ {kvs : List (Key × Vl)} {ks : List Str}, kvs.map (·.1) = ks.map Sum.inr → strKeys kvs = some ks
  | [], [], _ => rfl
  | [], _ :: _, h => by simp at h
  | _ :: _, [], h => by simp at h
  | p :: r, k :: ks, h => by
    simp only [List.map_cons, List.cons.injEq] at h
    obtain ⟨⟨k1, v⟩, r⟩ : ∃ q : Key × Vl, q = p := ⟨p, rfl⟩
    have ih := strKeys_eq h.2
    cases p with
    | mk q v =>
      obtain ⟨h1, h2⟩ := h
      simp only at h1
      subst h1
      simp [strKeys, ih]
@[simp] theorem kd_join : kd .str (.str x) s = true := rfl
@[simp] theorem oLen_str (h : x.length ≤ LIM) : oLen [.str x] s = some (.int x.length, s) := by simp [oLen, lenM, h]
@[simp] theorem opIx_str {i : Int} (h : x.length ≤ LIM) : opIx (.str x) (.int i) s = (atI x.cps.toList i).map fun c => (.str ⟨#[c]⟩, s) := by simp only [opIx, if_pos h]
@[simp] theorem oStr_int {i : Int} (h : i.natAbs.log2 < 1920) : oStr [.int i] s = some (.str (toString i), s) := by simp only [oStr, if_pos h]
end
theorem str_len {x : Str} : x.length = x.cps.toList.length := by simp [Str.length]
theorem str_append {x y : Str} : (x ++ y).cps.toList = x.cps.toList ++ y.cps.toList := by
  show (x.cps ++ y.cps).toList = _
  simp
theorem toD_strs {s : Sto} {m : Nat} : ∀ ns : List Str, mapO (toD (m + 1) s) (ns.map Vl.str) = some (ns.map PyData.str)
  | [] => rfl
  | n :: ns => by
    have e : toD (m + 1) s (.str n) = some (.str n) := rfl
    simp only [List.map_cons, mapO, e, toD_strs ns]
theorem canLay_strs : ∀ {ns : List Str}, (∀ z ∈ ns, PyData.strOk z = true) → PyData.canLayAll0 (ns.map PyData.str) = true
  | [], _ => rfl
  | n :: ns, h => by
    have h1 := h n (List.mem_cons_self ..)
    have h2 := canLay_strs (ns := ns) fun z hz => h z (List.mem_cons_of_mem _ hz)
    simp only [List.map_cons, PyData.canLayAll0, PyData.canLay0, h1, h2, Bool.and_self]
/-- plain values, each with its own weight -/
theorem Pn.tupS {n : Nat} : ∀ {xs : List Vl} {ws : List Nat}, ws.length = xs.length → (∀ (i : Nat) (x : Vl) (w : Nat), xs[i]? = some x → ws[i]? = some w → Pn n w x) → Pn (n + 1) ((ws.map (· + 1)).sum) (.tup xs) := by
  intro xs ws hl h
  have key : ∃ ds : List PyData, (∀ s m, n ≤ m → mapO (toD m s) xs = some ds) ∧ PyData.leavesShortAll 13 ds = true ∧ PyData.showableAll ds = true ∧ PyData.weightAll ds ≤ (ws.map (· + 1)).sum := by
    induction xs generalizing ws with
    | nil =>
      cases ws with
      | nil => exact ⟨[], fun _ _ _ => rfl, rfl, rfl, by simp [PyData.weightAll]⟩
      | cons w ws => simp at hl
    | cons x xs ih =>
      cases ws with
      | nil => simp at hl
      | cons w ws =>
        obtain ⟨d, a, b, c, e⟩ := h 0 x w rfl rfl
        obtain ⟨ds, a', b', c', e'⟩ := ih (by simpa using hl) fun i y v h1 h2 => h (i + 1) y v (by simpa using h1) (by simpa using h2)
        refine ⟨d :: ds, fun s m hm => ?_, ?_, ?_, ?_⟩
        · simp only [mapO, a s m hm, a' s m hm]
        · simp only [PyData.leavesShortAll, b, b', Bool.and_self]
        · simp only [PyData.showableAll, c, c', Bool.and_self]
        · simp only [PyData.weightAll, List.map_cons, List.sum_cons]
          omega
  obtain ⟨ds, a, b, c, e⟩ := key
  refine ⟨.tuple ds, fun s m hm => ?_, ?_, ?_, ?_⟩
  · obtain ⟨m, rfl⟩ : ∃ k, m = k + 1 := ⟨m - 1, by omega⟩
    simp only [toD, a s m (by omega), Option.map]
  · simpa only [PyData.leavesShort] using b
  · simpa only [PyData.showable] using c
  · simpa only [PyData.weight] using e
end Sm

/-! S30: programs of cells: tests, statements, blocks -/
namespace Sm
open PySem L2
/-- a short text of plain signs -/
structure Nice (x : Str) : Prop where
  len : x.length ≤ 20
  sgn : ∀ c ∈ x.cps.toList, c < 128
theorem Nice.pn {x : Str} (h : Nice x) : Pn 1 64 (.str x) := Pn.str (by
  rw [List.all_eq_true]
  intro c hc
  have := h.sgn c hc
  exact decide_eq_true (by omega)) (by have := h.len; omega)
theorem Nice.strOk {x : Str} (h : Nice x) : PyData.strOk x = true := by
  unfold PyData.strOk
  rw [← Array.all_toList, List.all_eq_true]
  intro c hc
  have := h.sgn c hc
  exact decide_eq_true (by omega)
inductive Tst where
  | given (i : Nat) | set (x : Str) | same (x y : Str) | full (x f : Str) | wished (w : Str) | not (t : Tst)
def Tst.vl : Tst → Vl
  | .given i => .tup [.str "given", .int (i : Nat)]
  | .set x => .tup [.str "set", .str x]
  | .same x y => .tup [.str "same", .str x, .str y]
  | .full x f => .tup [.str "full", .str x, .str f]
  | .wished w => .tup [.str "wished", .str w]
  | .not t => .tup [.str "not", t.vl]
/-- a right test, at most n "not" in one another, g givens -/
def Tst.ok (g : Nat) : Nat → Tst → Prop
  | _, .given i => i < g
  | _, .set x => Nice x
  | _, .same x y => Nice x ∧ Nice y
  | _, .full x f => Nice x ∧ Nice f
  | _, .wished w => Nice w
  | n + 1, .not t => Tst.ok g n t
  | 0, .not _ => False
theorem Tst.ok.mono {g : Nat} : ∀ {n m : Nat} {t : Tst}, t.ok g n → n ≤ m → t.ok g m
  | n, m, .given i, h, _ => by cases n <;> cases m <;> exact h
  | n, m, .set x, h, _ => by cases n <;> cases m <;> exact h
  | n, m, .same x y, h, _ => by cases n <;> cases m <;> exact h
  | n, m, .full x y, h, _ => by cases n <;> cases m <;> exact h
  | n, m, .wished x, h, _ => by cases n <;> cases m <;> exact h
  | n + 1, 0, .not t, h, e => by omega
  | n + 1, m + 1, .not t, h, e => Tst.ok.mono (t := t) (n := n) (m := m) h (by omega)
  | 0, _, .not t, h, _ => h.elim
inductive Stm where
  | make (x : Str) | wish (x w : Str) | keep (x : Str) | name (x y : Str) | drop (x : Str)
  | hold (x f y : Str) | weak (x f y : Str) | cut (x f : Str) | take (z x f : Str) | say (w : Str) | ask (t : Tst)
  | ife (t : Tst) (yes no : List Stm) | rep (k : Nat) (b : List Stm)
mutual
def Stm.vl : Stm → Vl
  | .make x => .tup [.str "make", .str x]
  | .wish x w => .tup [.str "wish", .str x, .str w]
  | .keep x => .tup [.str "keep", .str x]
  | .name x y => .tup [.str "name", .str x, .str y]
  | .drop x => .tup [.str "drop", .str x]
  | .hold x f y => .tup [.str "hold", .str x, .str f, .str y]
  | .weak x f y => .tup [.str "weak", .str x, .str f, .str y]
  | .cut x f => .tup [.str "cut", .str x, .str f]
  | .take z x f => .tup [.str "take", .str z, .str x, .str f]
  | .say w => .tup [.str "say", .str w]
  | .ask t => .tup [.str "ask", t.vl]
  | .ife t a b => .tup [.str "if", t.vl, .tup (Stm.vls a), .tup (Stm.vls b)]
  | .rep k b => .tup [.str "repeat", .int (k : Nat), .tup (Stm.vls b)]
def Stm.vls : List Stm → List Vl
  | [] => []
  | x :: xs => x.vl :: Stm.vls xs
end
mutual
/-- how many statements -/
def Stm.cnt : Stm → Nat
  | .ife _ a b => 1 + Stm.cnts a + Stm.cnts b
  | .rep _ b => 1 + Stm.cnts b
  | _ => 1
def Stm.cnts : List Stm → Nat
  | [] => 0
  | x :: xs => x.cnt + Stm.cnts xs
end
mutual
def Stm.wgt : Stm → Nat
  | .ife _ a b => 1 + Stm.wgts a + Stm.wgts b
  | .rep k b => 1 + k * Stm.wgts b
  | _ => 1
def Stm.wgts : List Stm → Nat
  | [] => 0
  | x :: xs => x.wgt + Stm.wgts xs
end
mutual
/-- a right statement: g givens, at most n blocks in one another -/
def Stm.ok (g : Nat) : Nat → Stm → Prop
  | _, .make x => Nice x
  | _, .wish x w => Nice x ∧ Nice w
  | _, .keep x => Nice x
  | _, .name x y => Nice x ∧ Nice y
  | _, .drop x => Nice x
  | _, .hold x f y => Nice x ∧ Nice f ∧ Nice y
  | _, .weak x f y => Nice x ∧ Nice f ∧ Nice y
  | _, .cut x f => Nice x ∧ Nice f
  | _, .take z x f => Nice z ∧ Nice x ∧ Nice f
  | _, .say w => Nice w
  | _, .ask t => t.ok g 3
  | n, .ife t a b => 0 < n ∧ t.ok g 3 ∧ Stm.oks g (n - 1) a ∧ Stm.oks g (n - 1) b
  | n, .rep k b => 0 < n ∧ k ≤ 12 ∧ Stm.oks g (n - 1) b
def Stm.oks (g : Nat) : Nat → List Stm → Prop
  | _, [] => True
  | n, x :: xs => x.ok g n ∧ Stm.oks g n xs
end
mutual
/-- the statements in the order of their places, with their depth -/
def Stm.flat (d : Nat) : Stm → List (Nat × Stm)
  | .ife t a b => (d, .ife t a b) :: (Stm.flats (d + 1) a ++ Stm.flats (d + 1) b)
  | .rep k b => (d, .rep k b) :: Stm.flats (d + 1) b
  | x => [(d, x)]
def Stm.flats (d : Nat) : List Stm → List (Nat × Stm)
  | [] => []
  | x :: xs => x.flat d ++ Stm.flats d xs
end
theorem Stm.vls_map : ∀ xs : List Stm, Stm.vls xs = xs.map Stm.vl
  | [] => rfl
  | x :: xs => by rw [Stm.vls, Stm.vls_map xs]; rfl
theorem Stm.cnts_app : ∀ xs ys : List Stm, Stm.cnts (xs ++ ys) = Stm.cnts xs + Stm.cnts ys
  | [], ys => by simp [Stm.cnts]
  | x :: xs, ys => by simp only [List.cons_append, Stm.cnts, Stm.cnts_app xs ys]; omega
theorem Stm.wgts_app : ∀ xs ys : List Stm, Stm.wgts (xs ++ ys) = Stm.wgts xs + Stm.wgts ys
  | [], ys => by simp [Stm.wgts]
  | x :: xs, ys => by simp only [List.cons_append, Stm.wgts, Stm.wgts_app xs ys]; omega
theorem Stm.oks_mem {g n : Nat} : ∀ {xs : List Stm}, Stm.oks g n xs → ∀ x ∈ xs, x.ok g n
  | [], _, x, h => by simp at h
  | y :: xs, h, x, hx => by
    rcases List.mem_cons.mp hx with rfl | hx
    · exact h.1
    · exact Stm.oks_mem h.2 x hx
theorem Stm.flats_app {d : Nat} : ∀ xs ys : List Stm, Stm.flats d (xs ++ ys) = Stm.flats d xs ++ Stm.flats d ys
  | [], ys => by simp [Stm.flats]
  | x :: xs, ys => by simp only [List.cons_append, Stm.flats, Stm.flats_app xs ys, List.append_assoc]
mutual
theorem Stm.ok.mono {g : Nat} : ∀ {n m : Nat} {x : Stm}, x.ok g n → n ≤ m → x.ok g m
  | n, m, .make x, h, _ => by unfold Stm.ok at h ⊢; exact h
  | n, m, .wish x w, h, _ => by unfold Stm.ok at h ⊢; exact h
  | n, m, .keep x, h, _ => by unfold Stm.ok at h ⊢; exact h
  | n, m, .name x y, h, _ => by unfold Stm.ok at h ⊢; exact h
  | n, m, .drop x, h, _ => by unfold Stm.ok at h ⊢; exact h
  | n, m, .hold x f y, h, _ => by unfold Stm.ok at h ⊢; exact h
  | n, m, .weak x f y, h, _ => by unfold Stm.ok at h ⊢; exact h
  | n, m, .cut x f, h, _ => by unfold Stm.ok at h ⊢; exact h
  | n, m, .take z x f, h, _ => by unfold Stm.ok at h ⊢; exact h
  | n, m, .say w, h, _ => by unfold Stm.ok at h ⊢; exact h
  | n, m, .ask t, h, _ => by unfold Stm.ok at h ⊢; exact h
  | n, m, .ife t a b, h, e => by
    unfold Stm.ok at h ⊢
    exact ⟨by omega, h.2.1, Stm.oks.mono h.2.2.1 (by omega), Stm.oks.mono h.2.2.2 (by omega)⟩
  | n, m, .rep k b, h, e => by
    unfold Stm.ok at h ⊢
    exact ⟨by omega, h.2.1, Stm.oks.mono h.2.2 (by omega)⟩
theorem Stm.oks.mono {g : Nat} : ∀ {n m : Nat} {xs : List Stm}, Stm.oks g n xs → n ≤ m → Stm.oks g m xs
  | _, _, [], _, _ => trivial
  | _, _, x :: xs, h, e => ⟨Stm.ok.mono h.1 e, Stm.oks.mono h.2 e⟩
end
/-! ### they are plain values -/
theorem Pn.tup2 {n u v : Nat} {a b : Vl} (ha : Pn n u a) (hb : Pn n v b) : Pn (n + 1) (u + v + 2) (.tup [a, b]) :=
  (Pn.tupS (ws := [u, v]) rfl fun i x w h1 h2 => by
    match i with
    | 0 => simp at h1 h2; subst h1 h2; exact ha
    | 1 => simp at h1 h2; subst h1 h2; exact hb
    | i + 2 => simp at h1).mono (Nat.le_refl _) (by simp; omega)
theorem Pn.tup3 {n u v w : Nat} {a b c : Vl} (ha : Pn n u a) (hb : Pn n v b) (hc : Pn n w c) : Pn (n + 1) (u + v + w + 3) (.tup [a, b, c]) :=
  (Pn.tupS (ws := [u, v, w]) rfl fun i x w h1 h2 => by
    match i with
    | 0 => simp at h1 h2; subst h1 h2; exact ha
    | 1 => simp at h1 h2; subst h1 h2; exact hb
    | 2 => simp at h1 h2; subst h1 h2; exact hc
    | i + 3 => simp at h1).mono (Nat.le_refl _) (by simp; omega)
theorem Pn.tup4 {n u v w z : Nat} {a b c d : Vl} (ha : Pn n u a) (hb : Pn n v b) (hc : Pn n w c) (hd : Pn n z d) : Pn (n + 1) (u + v + w + z + 4) (.tup [a, b, c, d]) :=
  (Pn.tupS (ws := [u, v, w, z]) rfl fun i x w h1 h2 => by
    match i with
    | 0 => simp at h1 h2; subst h1 h2; exact ha
    | 1 => simp at h1 h2; subst h1 h2; exact hb
    | 2 => simp at h1 h2; subst h1 h2; exact hc
    | 3 => simp at h1 h2; subst h1 h2; exact hd
    | i + 4 => simp at h1).mono (Nat.le_refl _) (by simp; omega)
theorem Pn.lit {x : Str} (h : (x.cps.toList.all fun c => decide (c < 16 ^ 8)) = true := by decide) (hl : x.length ≤ 64 := by decide) : Pn 1 64 (.str x) := Pn.str h hl
theorem Tst.pn {g : Nat} (hg : g ≤ 100) : ∀ {n : Nat} {t : Tst}, t.ok g n → Pn (2 + n) (195 + 66 * n) t.vl
  | n, .given i, h => by
    have h : i < g := by cases n <;> exact h
    exact (Pn.tup2 Pn.lit (Pn.int (by omega))).mono (by omega) (by omega)
  | n, .set x, h => by
    have h : Nice x := by cases n <;> exact h
    exact (Pn.tup2 Pn.lit h.pn).mono (by omega) (by omega)
  | n, .same x y, h => by
    have h : Nice x ∧ Nice y := by cases n <;> exact h
    exact (Pn.tup3 Pn.lit h.1.pn h.2.pn).mono (by omega) (by omega)
  | n, .full x y, h => by
    have h : Nice x ∧ Nice y := by cases n <;> exact h
    exact (Pn.tup3 Pn.lit h.1.pn h.2.pn).mono (by omega) (by omega)
  | n, .wished x, h => by
    have h : Nice x := by cases n <;> exact h
    exact (Pn.tup2 Pn.lit h.pn).mono (by omega) (by omega)
  | n + 1, .not t, h => by
    have ih := Tst.pn hg (n := n) (t := t) h
    exact (Pn.tup2 (Pn.mono Pn.lit (by omega) (Nat.le_refl _)) ih).mono (by omega) (by omega)
  | 0, .not t, h => h.elim
theorem Pn.listS {n : Nat} : ∀ {xs : List Vl} {w : Nat}, (∃ ws : List Nat, ws.length = xs.length ∧ (∀ (i : Nat) (x : Vl) (v : Nat), xs[i]? = some x → ws[i]? = some v → Pn n v x) ∧ (ws.map (· + 1)).sum ≤ w) → Pn (n + 1) w (.tup xs) := by
  rintro xs w ⟨ws, h1, h2, h3⟩
  exact (Pn.tupS h1 h2).mono (Nat.le_refl _) h3
mutual
theorem Stm.pn {g : Nat} (hg : g ≤ 100) : ∀ {n : Nat} {x : Stm}, x.ok g n → Pn (6 + 2 * n) (2000 * x.cnt - 1000) x.vl
  | n, .make x, h => by unfold Stm.ok at h; unfold Stm.vl Stm.cnt; exact (Pn.tup2 Pn.lit h.pn).mono (by omega) (by omega)
  | n, .wish x w, h => by unfold Stm.ok at h; unfold Stm.vl Stm.cnt; exact (Pn.tup3 Pn.lit h.1.pn h.2.pn).mono (by omega) (by omega)
  | n, .keep x, h => by unfold Stm.ok at h; unfold Stm.vl Stm.cnt; exact (Pn.tup2 Pn.lit h.pn).mono (by omega) (by omega)
  | n, .name x y, h => by unfold Stm.ok at h; unfold Stm.vl Stm.cnt; exact (Pn.tup3 Pn.lit h.1.pn h.2.pn).mono (by omega) (by omega)
  | n, .drop x, h => by unfold Stm.ok at h; unfold Stm.vl Stm.cnt; exact (Pn.tup2 Pn.lit h.pn).mono (by omega) (by omega)
  | n, .hold x f y, h => by unfold Stm.ok at h; unfold Stm.vl Stm.cnt; exact (Pn.tup4 Pn.lit h.1.pn h.2.1.pn h.2.2.pn).mono (by omega) (by omega)
  | n, .weak x f y, h => by unfold Stm.ok at h; unfold Stm.vl Stm.cnt; exact (Pn.tup4 Pn.lit h.1.pn h.2.1.pn h.2.2.pn).mono (by omega) (by omega)
  | n, .cut x f, h => by unfold Stm.ok at h; unfold Stm.vl Stm.cnt; exact (Pn.tup3 Pn.lit h.1.pn h.2.pn).mono (by omega) (by omega)
  | n, .take z x f, h => by unfold Stm.ok at h; unfold Stm.vl Stm.cnt; exact (Pn.tup4 Pn.lit h.1.pn h.2.1.pn h.2.2.pn).mono (by omega) (by omega)
  | n, .say w, h => by unfold Stm.ok at h; unfold Stm.vl Stm.cnt; exact (Pn.tup2 Pn.lit h.pn).mono (by omega) (by omega)
  | n, .ask t, h => by
    unfold Stm.ok at h; unfold Stm.vl Stm.cnt
    exact (Pn.tup2 (Pn.mono Pn.lit (show 1 ≤ 5 by omega) (Nat.le_refl _)) (Tst.pn hg h)).mono (by omega) (by omega)
  | n, .ife t a b, h => by
    unfold Stm.ok at h; unfold Stm.vl Stm.cnt
    have h1 := Stm.pns hg h.2.2.1
    have h2 := Stm.pns hg h.2.2.2
    have h3 := Tst.pn hg h.2.1
    have e : 6 + 2 * (n - 1) + 1 = 5 + 2 * n := by omega
    rw [e] at h1 h2
    exact (Pn.tup4 (Pn.mono Pn.lit (show 1 ≤ 5 + 2 * n by omega) (Nat.le_refl _)) (h3.mono (by omega) (Nat.le_refl _)) h1 h2).mono (by omega) (by omega)
  | n, .rep k b, h => by
    unfold Stm.ok at h; unfold Stm.vl Stm.cnt
    have h1 := Stm.pns hg h.2.2
    have e : 6 + 2 * (n - 1) + 1 = 5 + 2 * n := by omega
    rw [e] at h1
    exact (Pn.tup3 (Pn.mono Pn.lit (show 1 ≤ 5 + 2 * n by omega) (Nat.le_refl _)) ((Pn.int (by have := h.2.1; omega)).mono (show 1 ≤ 5 + 2 * n by omega) (Nat.le_refl _)) h1).mono (by omega) (by omega)
theorem Stm.pns {g : Nat} (hg : g ≤ 100) : ∀ {n : Nat} {xs : List Stm}, Stm.oks g n xs → Pn (6 + 2 * n + 1) (2000 * Stm.cnts xs) (.tup (Stm.vls xs))
  | n, xs, h => Pn.listS (Stm.pnw hg h)
theorem Stm.pnw {g : Nat} (hg : g ≤ 100) : ∀ {n : Nat} {xs : List Stm}, Stm.oks g n xs → ∃ ws : List Nat, ws.length = (Stm.vls xs).length ∧ (∀ (i : Nat) (x : Vl) (v : Nat), (Stm.vls xs)[i]? = some x → ws[i]? = some v → Pn (6 + 2 * n) v x) ∧ (ws.map (· + 1)).sum ≤ 2000 * Stm.cnts xs
  | n, [], _ => ⟨[], rfl, fun i x v h => by simp [Stm.vls] at h, by simp⟩
  | n, x :: xs, h => by
    have h1 := Stm.pn hg h.1
    obtain ⟨ws, a, b, c⟩ := Stm.pnw hg h.2
    have hc : 1 ≤ x.cnt := by cases x <;> unfold Stm.cnt <;> omega
    refine ⟨(2000 * x.cnt - 1000) :: ws, by simp [Stm.vls, a], fun i y v e1 e2 => ?_, ?_⟩
    · cases i with
      | zero => simp [Stm.vls] at e1 e2; subst e1 e2; exact h1
      | succ i => simp [Stm.vls] at e1 e2; exact b i y v e1 e2
    · simp only [List.map_cons, List.sum_cons, Stm.cnts]
      omega
end
end Sm

/-! S32: slices of lists -/
namespace Sm
open PySem L2
theorem cutL_from {α : Type} {xs : List α} {n : Nat} : cutL xs (some (n : Int)) none = xs.drop n := by
  unfold cutL
  rw [HT.sIx_none, HT.sIx_nat]
  by_cases h : n ≤ xs.length
  · rw [Nat.min_eq_left h, List.take_of_length_le (by simp)]
  · rw [Nat.min_eq_right (by omega), Nat.sub_self, List.take_zero, List.drop_eq_nil_of_le (by omega)]
end Sm

/-! S33: programs of cells: words, inner blocks, rows -/
namespace Sm
open PySem L2
def Stm.word : Stm → Str
  | .make _ => "make"
  | .wish _ _ => "wish"
  | .keep _ => "keep"
  | .name _ _ => "name"
  | .drop _ => "drop"
  | .hold _ _ _ => "hold"
  | .weak _ _ _ => "weak"
  | .cut _ _ => "cut"
  | .take _ _ _ => "take"
  | .say _ => "say"
  | .ask _ => "ask"
  | .ife _ _ _ => "if"
  | .rep _ _ => "repeat"
def blk (b : List Stm) : Vl := .tup (Stm.vls b)
def Stm.args : Stm → List Vl
  | .make x => [.str x]
  | .wish x w => [.str x, .str w]
  | .keep x => [.str x]
  | .name x y => [.str x, .str y]
  | .drop x => [.str x]
  | .hold x f y => [.str x, .str f, .str y]
  | .weak x f y => [.str x, .str f, .str y]
  | .cut x f => [.str x, .str f]
  | .take z x f => [.str z, .str x, .str f]
  | .say w => [.str w]
  | .ask t => [t.vl]
  | .ife t a b => [t.vl, blk a, blk b]
  | .rep k b => [.int (k : Nat), blk b]
/-- the blocks within a statement -/
def Stm.ins : Stm → List (List Stm)
  | .ife _ a b => [a, b]
  | .rep _ b => [b]
  | _ => []
theorem Stm.vl_eq (x : Stm) : x.vl = .tup (.str x.word :: x.args) := by
  cases x <;> simp [Stm.vl, Stm.word, Stm.args, blk]
theorem Stm.flat_eq (d : Nat) (x : Stm) : x.flat d = (d, x) :: x.ins.flatMap (Stm.flats (d + 1)) := by
  cases x <;> simp [Stm.flat, Stm.ins]
theorem Stm.ins_len (x : Stm) : x.ins.length ≤ 2 := by
  cases x <;> simp [Stm.ins]
theorem Stm.ok_ins {g n : Nat} {x : Stm} (h : x.ok g n) : ∀ b ∈ x.ins, 0 < n ∧ Stm.oks g (n - 1) b := by
  intro b hb
  cases x <;> simp [Stm.ins] at hb
  · unfold Stm.ok at h
    rcases hb with rfl | rfl
    · exact ⟨h.1, h.2.2.1⟩
    · exact ⟨h.1, h.2.2.2⟩
  · unfold Stm.ok at h
    subst hb
    exact ⟨h.1, h.2.2⟩
theorem Stm.cnt_ins (x : Stm) : x.cnt = 1 + (x.ins.map Stm.cnts).sum := by
  cases x <;> simp [Stm.ins, Stm.cnt] <;> omega
theorem Stm.cnt_in {x : Stm} : ∀ b ∈ x.ins, Stm.cnts b < x.cnt := by
  intro b hb
  cases x <;> simp [Stm.ins] at hb
  · rcases hb with rfl | rfl <;> simp [Stm.cnt] <;> omega
  · subst hb
    simp [Stm.cnt]
theorem Stm.cnts_mem {b : List Stm} : ∀ x ∈ b, x.cnt ≤ Stm.cnts b := by
  induction b with
  | nil => intro x hx; simp at hx
  | cons y b ih =>
    intro x hx
    simp only [Stm.cnts]
    rcases List.mem_cons.mp hx with rfl | hx
    · omega
    · have := ih x hx; omega
theorem Stm.cnts_take {b : List Stm} {i : Nat} : Stm.cnts (b.take i) ≤ Stm.cnts b := by
  have := Stm.cnts_app (b.take i) (b.drop i)
  rw [List.take_append_drop] at this
  omega
mutual
theorem Stm.flat_len : ∀ (d : Nat) (x : Stm), (x.flat d).length = x.cnt
  | d, .make x => rfl
  | d, .wish x w => rfl
  | d, .keep x => rfl
  | d, .name x y => rfl
  | d, .drop x => rfl
  | d, .hold x f y => rfl
  | d, .weak x f y => rfl
  | d, .cut x f => rfl
  | d, .take z x f => rfl
  | d, .say w => rfl
  | d, .ask t => rfl
  | d, .ife t a b => by
    have h1 := Stm.flats_len (d + 1) a
    have h2 := Stm.flats_len (d + 1) b
    simp only [Stm.flat, Stm.cnt, List.length_cons, List.length_append, h1, h2]
    omega
  | d, .rep k b => by
    have h1 := Stm.flats_len (d + 1) b
    simp only [Stm.flat, Stm.cnt, List.length_cons, h1]
    omega
theorem Stm.flats_len : ∀ (d : Nat) (b : List Stm), (Stm.flats d b).length = Stm.cnts b
  | d, [] => rfl
  | d, x :: b => by
    have h1 := Stm.flat_len d x
    have h2 := Stm.flats_len d b
    simp only [Stm.flats, Stm.cnts, List.length_append, h1, h2]
end
mutual
theorem Stm.flat_ok {g : Nat} : ∀ {n : Nat} (d : Nat) {x : Stm}, x.ok g n → ∀ q ∈ x.flat d, q.2.ok g n ∧ q.2.cnt ≤ x.cnt
  | n, d, .make x, h, q, hq => by simp only [Stm.flat, List.mem_singleton] at hq; subst hq; exact ⟨h, Nat.le_refl _⟩
  | n, d, .wish x w, h, q, hq => by simp only [Stm.flat, List.mem_singleton] at hq; subst hq; exact ⟨h, Nat.le_refl _⟩
  | n, d, .keep x, h, q, hq => by simp only [Stm.flat, List.mem_singleton] at hq; subst hq; exact ⟨h, Nat.le_refl _⟩
  | n, d, .name x w, h, q, hq => by simp only [Stm.flat, List.mem_singleton] at hq; subst hq; exact ⟨h, Nat.le_refl _⟩
  | n, d, .drop x, h, q, hq => by simp only [Stm.flat, List.mem_singleton] at hq; subst hq; exact ⟨h, Nat.le_refl _⟩
  | n, d, .hold x f y, h, q, hq => by simp only [Stm.flat, List.mem_singleton] at hq; subst hq; exact ⟨h, Nat.le_refl _⟩
  | n, d, .weak x f y, h, q, hq => by simp only [Stm.flat, List.mem_singleton] at hq; subst hq; exact ⟨h, Nat.le_refl _⟩
  | n, d, .cut x f, h, q, hq => by simp only [Stm.flat, List.mem_singleton] at hq; subst hq; exact ⟨h, Nat.le_refl _⟩
  | n, d, .take z x f, h, q, hq => by simp only [Stm.flat, List.mem_singleton] at hq; subst hq; exact ⟨h, Nat.le_refl _⟩
  | n, d, .say w, h, q, hq => by simp only [Stm.flat, List.mem_singleton] at hq; subst hq; exact ⟨h, Nat.le_refl _⟩
  | n, d, .ask t, h, q, hq => by simp only [Stm.flat, List.mem_singleton] at hq; subst hq; exact ⟨h, Nat.le_refl _⟩
  | n, d, .ife t a b, h, q, hq => by
    have h0 := h
    unfold Stm.ok at h0
    simp only [Stm.flat, List.mem_cons, List.mem_append] at hq
    simp only [Stm.cnt]
    rcases hq with rfl | hq | hq
    · exact ⟨h, by simp [Stm.cnt]⟩
    · have := Stm.flats_ok (d + 1) h0.2.2.1 q hq
      exact ⟨this.1.mono (by omega), by omega⟩
    · have := Stm.flats_ok (d + 1) h0.2.2.2 q hq
      exact ⟨this.1.mono (by omega), by omega⟩
  | n, d, .rep k b, h, q, hq => by
    have h0 := h
    unfold Stm.ok at h0
    simp only [Stm.flat, List.mem_cons] at hq
    simp only [Stm.cnt]
    rcases hq with rfl | hq
    · exact ⟨h, by simp [Stm.cnt]⟩
    · have := Stm.flats_ok (d + 1) h0.2.2 q hq
      exact ⟨this.1.mono (by omega), by omega⟩
theorem Stm.flats_ok {g : Nat} : ∀ {n : Nat} (d : Nat) {b : List Stm}, Stm.oks g n b → ∀ q ∈ Stm.flats d b, q.2.ok g n ∧ q.2.cnt ≤ Stm.cnts b
  | n, d, [], h, q, hq => by simp [Stm.flats] at hq
  | n, d, x :: b, h, q, hq => by
    simp only [Stm.flats, List.mem_append] at hq
    simp only [Stm.cnts]
    rcases hq with hq | hq
    · have := Stm.flat_ok d h.1 q hq
      exact ⟨this.1, by omega⟩
    · have := Stm.flats_ok d h.2 q hq
      exact ⟨this.1, by omega⟩
end
def rowD (q : Nat × Stm) : Vl := .tup [.int (q.1 : Nat), q.2.vl]
def rowS (q : Nat × Stm) : Vl := q.2.vl
theorem vls_get {b : List Stm} {i : Nat} {v : Vl} (h : (Stm.vls b)[i]? = some v) : ∃ x, b[i]? = some x ∧ v = x.vl := by
  rw [Stm.vls_map] at h
  exact get_map h
theorem vls_len {b : List Stm} : (Stm.vls b).length = b.length := by rw [Stm.vls_map, List.length_map]
end Sm

/-! S35: pure rules of S34 -/
namespace Sm
open PySem L2
section
variable {lo : Lo} {s : Sto} {QV : Vl → Sto → Prop} {E : Ex → Sto → Prop}
def fmtW (x : Vl) (P : Str → Prop) : Prop := match x with
  | .str y => y.length ≤ LIM ∧ P y
  | .int i => i.natAbs.log2 < 1920 ∧ P (Str.ofString (toString i))
  | _ => False
@[simp] theorem fmtW_str {y : Str} {P : Str → Prop} (h : y.length ≤ LIM) : fmtW (.str y) P = P y := by simp [fmtW, h]
@[simp] theorem fmtW_int {i : Int} {P : Str → Prop} (h : i.natAbs.log2 < 1920) : fmtW (.int i) P = P (Str.ofString (toString i)) := by simp [fmtW, h]
@[simp ↓] theorem WE_eFmt {m : EM} : WE (eFmt m lo) s QV E = WE (m lo) s (fun x s => fmtW x fun y => QV (.str y) s) E := by
  unfold eFmt
  rw [WE_bnd]
  refine WE_ext fun x s => ?_
  unfold fmtM
  cases x <;> try (simp only [WE_eq]; rfl)
  · rename_i i
    by_cases h : i.natAbs.log2 < 1920
    · simp only [WE_eq, if_pos h, fmtW, h, true_and]; rfl
    · simp only [WE_eq, if_neg h, fmtW, h, false_and]; rfl
  · rename_i y
    by_cases h : y.length ≤ LIM
    · simp only [WE_eq, if_pos h, fmtW, h, true_and]; rfl
    · simp only [WE_eq, if_neg h, fmtW, h, false_and]; rfl
def strW (x : Vl) (P : Str → Prop) : Prop := match x with
  | .str y => P y
  | _ => False
@[simp] theorem strW_str {y : Str} {P : Str → Prop} : strW (.str y) P = P y := rfl
theorem WE_eJnd {ms : List EM} : WE (eJnd ms lo) s QV E = WE (jnd ms Str.empty lo) s QV E := rfl
@[simp ↓] theorem WE_eOrL {a b : EM} : WE (eOrL a b lo) s QV E = WE (a lo) s (fun x s => match lstOf x s with | some xs => if xs.isEmpty = true then WE (b lo) s QV E else QV x s | none => False) E := by
  unfold eOrL
  rw [WE_bnd]
  refine WE_ext fun x s => ?_
  simp only [WE_eq]
  unfold WE0
  cases h : lstOf x s with
  | none => simp only [h]
  | some xs =>
    by_cases q : xs.isEmpty = true
    · simp only [h, q, if_true]
    · simp only [h, q, if_false, Bool.false_eq_true]
@[simp] theorem lstOf_ref {j : Nat} {xs : List Vl} (h : s[j]? = some (.lst xs)) : lstOf (.ref j) s = some xs := by simp only [lstOf, h]
@[simp] theorem oSplit0_str {a : Str} (h : a.length + 2 ≤ LIM) : oSplit0 (.str a) [] s = some (.ref s.length, s ++ [.lst ((Txt.words a).map Vl.str)]) := by simp only [oSplit0, if_pos h]
@[simp] theorem oStrD_str {y : Str} : oStrD [.str y] s = some (.str y, s) := rfl
@[simp] theorem oStrD_int {i : Int} (h : i.natAbs.log2 < 1920) : oStrD [.int i] s = some (.str (Str.ofString (toString i)), s) := by simp only [oStrD, if_pos h]
end
end Sm

/-! S36: programs of cells whose names and words are of a kind -/
namespace Sm
open PySem L2
section
variable (N W : Str → Prop)
def Tst.sat : Tst → Prop
  | .given _ => True
  | .set x => N x
  | .same x y => N x ∧ N y
  | .full x f => N x ∧ N f
  | .wished w => W w
  | .not t => t.sat
mutual
def Stm.sat : Stm → Prop
  | .make x => N x
  | .wish x w => N x ∧ W w
  | .keep x => N x
  | .name x y => N x ∧ N y
  | .drop x => N x
  | .hold x f y => N x ∧ N f ∧ N y
  | .weak x f y => N x ∧ N f ∧ N y
  | .cut x f => N x ∧ N f
  | .take z x f => N z ∧ N x ∧ N f
  | .say w => W w
  | .ask t => t.sat N W
  | .ife t a b => t.sat N W ∧ Stm.sats a ∧ Stm.sats b
  | .rep _ b => Stm.sats b
def Stm.sats : List Stm → Prop
  | [] => True
  | x :: xs => x.sat ∧ Stm.sats xs
end
end
end Sm

/-! S175: what a program is, over values -/
namespace Sm
open PySem L2
mutual
/-- lies in less than n levels -/
def Stm.fit : Nat → Stm → Prop
  | n, .ife _ a b => 0 < n ∧ Stm.fits (n - 1) a ∧ Stm.fits (n - 1) b
  | n, .rep _ b => 0 < n ∧ Stm.fits (n - 1) b
  | n, _ => 0 < n
def Stm.fits : Nat → List Stm → Prop
  | _, [] => True
  | n, x :: xs => x.fit n ∧ Stm.fits n xs
end
theorem Stm.fit_flat {g n : Nat} {x : Stm} (h : x.ok g 0) (hn : 0 < n) : x.fit n := by
  cases x <;> unfold Stm.ok at h <;> first | (unfold Stm.fit; exact hn) | (exact absurd h.1 (by omega))
theorem Stm.fit_pos {n : Nat} {x : Stm} (h : x.fit n) : 0 < n := by
  cases x <;> unfold Stm.fit at h <;> first | exact h | exact h.1
theorem Stm.fit_ins {n : Nat} {x : Stm} (h : x.fit n) : ∀ b ∈ x.ins, Stm.fits (n - 1) b := by
  intro b hb
  cases x <;> simp [Stm.ins] at hb
  · unfold Stm.fit at h
    rcases hb with rfl | rfl
    · exact h.2.1
    · exact h.2.2
  · unfold Stm.fit at h
    subst hb
    exact h.2
mutual
theorem Stm.fit_mono {n m : Nat} (h : n ≤ m) : ∀ x : Stm, x.fit n → x.fit m
  | .ife t a b, p => by unfold Stm.fit at p ⊢; exact ⟨by omega, Stm.fits_mono (by omega) a p.2.1, Stm.fits_mono (by omega) b p.2.2⟩
  | .rep k b, p => by unfold Stm.fit at p ⊢; exact ⟨by omega, Stm.fits_mono (by omega) b p.2⟩
  | .make x, p => by unfold Stm.fit at p ⊢; omega
  | .wish x w, p => by unfold Stm.fit at p ⊢; omega
  | .keep x, p => by unfold Stm.fit at p ⊢; omega
  | .name x y, p => by unfold Stm.fit at p ⊢; omega
  | .drop x, p => by unfold Stm.fit at p ⊢; omega
  | .hold x f y, p => by unfold Stm.fit at p ⊢; omega
  | .weak x f y, p => by unfold Stm.fit at p ⊢; omega
  | .cut x f, p => by unfold Stm.fit at p ⊢; omega
  | .take z x f, p => by unfold Stm.fit at p ⊢; omega
  | .say w, p => by unfold Stm.fit at p ⊢; omega
  | .ask t, p => by unfold Stm.fit at p ⊢; omega
theorem Stm.fits_mono {n m : Nat} (h : n ≤ m) : ∀ xs : List Stm, Stm.fits n xs → Stm.fits m xs
  | [], _ => trivial
  | x :: xs, p => ⟨Stm.fit_mono h x p.1, Stm.fits_mono h xs p.2⟩
end
/-! ### words and names -/
def smallT : Str := "abcdefghijklmnopqrstuvwxyz"
def digT : Str := "0123456789"
def sgB (c : Nat) : Bool := decide (c ∈ smallT.cps.toList) || decide (c ∈ digT.cps.toList)
def wdB (x : Str) : Bool := decide (1 ≤ x.length) && decide (x.length ≤ 8) && x.cps.toList.all sgB
def noNm : List Str := ["as", "ask", "cut", "drop", "else", "full", "given", "hold", "if", "keep", "make", "not", "pass", "repeat", "same", "say", "set", "take", "weak", "wish", "wished"]
def fstB (x : Str) : Bool := match x.cps.toList with
  | c :: _ => decide (c ∈ smallT.cps.toList)
  | [] => false
def nmB (x : Str) : Bool := wdB x && fstB x && !decide (x ∈ noNm)
def wdV : Vl → Bool
  | .str x => wdB x
  | _ => false
def nmV : Vl → Bool
  | .str x => nmB x
  | _ => false
def numV (lo hi : Int) : Vl → Bool
  | .int i => decide (lo ≤ i) && decide (i ≤ hi)
  | _ => false
def isTup : Vl → Bool
  | .tup _ => true
  | _ => false
/-! ### tests and statements: tables of the sorts of their items -/
def tTab : List (Str × Vl) := [("given", .str "g"), ("set", .str "n"), ("same", .str "nn"), ("full", .str "nn"), ("wished", .str "w")]
def sTab : List (Str × Vl) := [("make", .str "n"), ("keep", .str "n"), ("drop", .str "n"), ("wish", .str "nw"), ("name", .str "nn"), ("hold", .str "nnn"), ("weak", .str "nnn"), ("cut", .str "nn"), ("take", .str "nnn"), ("say", .str "w"), ("ask", .str "t"), ("if", .str "tbb"), ("repeat", .str "kb")]
def partB (tf : Vl → Bool) (g : Int) (c : Nat) (v : Vl) : Bool :=
  if c = 110 then nmV v else if c = 119 then wdV v else if c = 103 then numV 0 (g - 1) v else if c = 107 then numV 0 12 v else if c = 116 then tf v else isTup v
def formB (tab : List (Str × Vl)) (tf : Vl → Bool) (g : Int) : Vl → Bool
  | .tup (.str h :: xs) => match getS tab h with
    | some (.str f) => decide (xs.length = f.length) && (f.cps.toList.zip xs).all fun p => partB tf g p.1 p.2
    | _ => false
  | _ => false
def unNot : Nat → Vl → Vl
  | 0, v => v
  | n + 1, .tup [.str h, b] => if h = "not" then unNot n b else .tup [.str h, b]
  | _ + 1, v => v
def tstIn (g : Int) : Vl → Bool := formB tTab (fun _ => false) g
def tstV (g : Int) (v : Vl) : Bool := tstIn g (unNot 3 v)
def stmV (g : Int) : Vl → Bool := formB sTab (tstV g) g
/-- the blocks of a statement -/
def insV : Vl → List Vl
  | .tup (.str h :: xs) => if h = "if" then xs.drop 1 else if h = "repeat" then xs.drop 1 else []
  | _ => []
def itemsV : Vl → List Vl
  | .tup xs => xs
  | _ => []
/-- the first error of a block, c statements ahead: how many are found, and what is wrong -/
def errB (g : Int) : Nat → Nat → Nat → List Vl → Nat × Option Str
  | 0, _, c, _ => (c, none)
  | _ + 1, _, c, [] => (c, none)
  | n + 1, d, c, x :: xs =>
    if 4 < d then (c, some "nest") else if stmV g x = false then (c, some "statement") else
      match (insV x).foldl (fun r b => match r with
        | (c, none) => errB g n (d + 1) c (itemsV b)
        | r => r) (c + 1, none) with
      | (c, none) => errB g (n + 1) d c xs
      | r => r
termination_by n _ _ xs => (n, xs.length)
end Sm

/-! S178: the first error of a block: right blocks have none -/
namespace Sm
open PySem L2
theorem errB_nil {g : Int} {n d c : Nat} : errB g n d c [] = (c, none) := by
  cases n <;> simp [errB]
/-- behind a statement's blocks -/
def insB (g : Int) (n d : Nat) (r : Nat × Option Str) (bs : List Vl) : Nat × Option Str := bs.foldl (fun r b => match r with
  | (c, none) => errB g n d c (itemsV b)
  | r => r) r
theorem errB_cons {g : Int} {n d c : Nat} {x : Vl} {xs : List Vl} : errB g (n + 1) d c (x :: xs) = if 4 < d then (c, some ("nest" : Str)) else if stmV g x = false then (c, some ("statement" : Str)) else
      match insB g n (d + 1) (c + 1, none) (insV x) with
      | (c, none) => errB g (n + 1) d c xs
      | r => r := by
  rw [errB.eq_def]
  rfl
theorem errB_nest {g : Int} {n d c : Nat} {x : Vl} {xs : List Vl} (h : 4 < d) : errB g (n + 1) d c (x :: xs) = (c, some ("nest" : Str)) := by rw [errB_cons, if_pos h]
theorem errB_wrong {g : Int} {n d c : Nat} {x : Vl} {xs : List Vl} (h : d ≤ 4) (hx : stmV g x = false) : errB g (n + 1) d c (x :: xs) = (c, some ("statement" : Str)) := by rw [errB_cons, if_neg (by omega), if_pos hx]
theorem errB_ok {g : Int} {n d c : Nat} {x : Vl} {xs : List Vl} (h : d ≤ 4) (hx : stmV g x = true) : errB g (n + 1) d c (x :: xs) = match insB g n (d + 1) (c + 1, none) (insV x) with
      | (c, none) => errB g (n + 1) d c xs
      | r => r := by rw [errB_cons, if_neg (by omega), if_neg (by simp [hx])]
theorem insB_nil {g : Int} {n d : Nat} {r : Nat × Option Str} : insB g n d r [] = r := rfl
theorem insB_cons {g : Int} {n d c : Nat} {b : Vl} {bs : List Vl} : insB g n d (c, none) (b :: bs) = insB g n d (errB g n d c (itemsV b)) bs := rfl
theorem insB_err {g : Int} {n d c : Nat} {w : Str} : ∀ {bs : List Vl}, insB g n d (c, some w) bs = (c, some w)
  | [] => rfl
  | b :: bs => by
    show insB g n d (c, some w) bs = _
    exact insB_err
/-- what is counted grows -/
theorem errB_ge (g : Int) : ∀ (n d : Nat) (xs : List Vl) (c : Nat), c ≤ (errB g n d c xs).1
  | 0, d, xs, c => by simp [errB]
  | n + 1, d, [], c => by rw [errB_nil]; exact Nat.le_refl _
  | n + 1, d, x :: xs, c => by
    rw [errB_cons]
    split
    · exact Nat.le_refl _
    · split
      · exact Nat.le_refl _
      · have key : ∀ (bs : List Vl) (r : Nat × Option Str), r.1 ≤ (insB g n (d + 1) r bs).1 := by
          intro bs
          induction bs with
          | nil => intro r; exact Nat.le_refl _
          | cons b bs ih =>
            rintro ⟨c, _ | w⟩
            · rw [insB_cons]
              exact Nat.le_trans (errB_ge g n (d + 1) _ c) (ih _)
            · rw [insB_err]; exact Nat.le_refl _
        have h := key (insV x) (c + 1, none)
        rcases e : insB g n (d + 1) (c + 1, none) (insV x) with ⟨c', _ | w⟩
        · rw [e] at h
          simp only at h ⊢
          exact Nat.le_trans (by omega) (errB_ge g (n + 1) d xs c')
        · rw [e] at h
          simp only at h ⊢
          omega
theorem insB_ge (g : Int) (n d : Nat) : ∀ (bs : List Vl) (r : Nat × Option Str), r.1 ≤ (insB g n d r bs).1
  | [], r => Nat.le_refl _
  | b :: bs, (c, none) => by
    rw [insB_cons]
    exact Nat.le_trans (errB_ge g n d _ c) (insB_ge g n d bs _)
  | b :: bs, (c, some w) => by rw [insB_err]; exact Nat.le_refl _
/-! ### right ones -/
theorem formB_of {tab : List (Str × Vl)} {tf : Vl → Bool} {g : Int} {h : Str} {xs : List Vl} {f : Str} (cs : List Nat) (e : getS tab h = some (.str f)) (hc : f.cps.toList = cs) (hl : xs.length = cs.length) (ha : (cs.zip xs).all (fun p => partB tf g p.1 p.2) = true) : formB tab tf g (.tup (.str h :: xs)) = true := by
  have hl' : xs.length = f.length := by rw [hl, ← hc, str_len]
  simp only [formB, e, hl', hc, ha, decide_true, Bool.and_self]
abbrev NmB (x : Str) : Prop := nmB x = true
abbrev WdB (x : Str) : Prop := wdB x = true
theorem Tst.v {g : Nat} : ∀ {n : Nat} {t : Tst}, t.ok g n → t.sat NmB WdB → ∀ m, n ≤ m → tstIn g (unNot m t.vl) = true
  | n, .given i, h, hs, m, hm => by
    have h : i < g := by cases n <;> exact h
    have e : unNot m (Tst.given i).vl = (Tst.given i).vl := by cases m <;> simp [unNot, Tst.vl]
    rw [e]
    exact formB_of [103] (by simp [tTab, getS]; rfl) rfl rfl (by simp [partB, numV]; omega)
  | n, .set x, h, hs, m, hm => by
    have e : unNot m (Tst.set x).vl = (Tst.set x).vl := by cases m <;> simp [unNot, Tst.vl]
    rw [e]
    have hs : nmB x = true := hs
    exact formB_of [110] (by simp [tTab, getS]; rfl) rfl rfl (by simp [partB, nmV, hs])
  | n, .same x y, h, hs, m, hm => by
    have e : unNot m (Tst.same x y).vl = (Tst.same x y).vl := by cases m <;> simp [unNot, Tst.vl]
    rw [e]
    have h1 : nmB x = true := hs.1
    have h2 : nmB y = true := hs.2
    exact formB_of [110, 110] (by simp [tTab, getS]; rfl) rfl rfl (by simp [partB, nmV, h1, h2])
  | n, .full x y, h, hs, m, hm => by
    have e : unNot m (Tst.full x y).vl = (Tst.full x y).vl := by cases m <;> simp [unNot, Tst.vl]
    rw [e]
    have h1 : nmB x = true := hs.1
    have h2 : nmB y = true := hs.2
    exact formB_of [110, 110] (by simp [tTab, getS]; rfl) rfl rfl (by simp [partB, nmV, h1, h2])
  | n, .wished x, h, hs, m, hm => by
    have e : unNot m (Tst.wished x).vl = (Tst.wished x).vl := by cases m <;> simp [unNot, Tst.vl]
    rw [e]
    have h1 : wdB x = true := hs
    exact formB_of [119] (by simp [tTab, getS]; rfl) rfl rfl (by simp [partB, wdV, h1])
  | n + 1, .not t, h, hs, m, hm => by
    obtain ⟨m, rfl⟩ : ∃ k, m = k + 1 := ⟨m - 1, by omega⟩
    have e : unNot (m + 1) (Tst.not t).vl = unNot m t.vl := by simp [unNot, Tst.vl]
    rw [e]
    exact Tst.v (n := n) (t := t) h hs m (by omega)
  | 0, .not t, h, hs, m, hm => h.elim
theorem Tst.tv {g : Nat} {t : Tst} (h : t.ok g 3) (hs : t.sat NmB WdB) : tstV g t.vl = true := Tst.v h hs 3 (Nat.le_refl _)
theorem Stm.v {g n : Nat} {x : Stm} (h : x.ok g n) (hs : x.sat NmB WdB) : stmV g x.vl = true := by
  unfold stmV
  cases x <;> unfold Stm.ok at h <;> unfold Stm.sat at hs <;> unfold Stm.vl
  · exact formB_of [110] (by simp [sTab, getS]; rfl) rfl rfl (by simp [partB, nmV, show nmB _ = true from hs])
  · exact formB_of [110, 119] (by simp [sTab, getS]; rfl) rfl rfl (by simp [partB, nmV, wdV, show nmB _ = true from hs.1, show wdB _ = true from hs.2])
  · exact formB_of [110] (by simp [sTab, getS]; rfl) rfl rfl (by simp [partB, nmV, show nmB _ = true from hs])
  · exact formB_of [110, 110] (by simp [sTab, getS]; rfl) rfl rfl (by simp [partB, nmV, show nmB _ = true from hs.1, show nmB _ = true from hs.2])
  · exact formB_of [110] (by simp [sTab, getS]; rfl) rfl rfl (by simp [partB, nmV, show nmB _ = true from hs])
  · exact formB_of [110, 110, 110] (by simp [sTab, getS]; rfl) rfl rfl (by simp [partB, nmV, show nmB _ = true from hs.1, show nmB _ = true from hs.2.1, show nmB _ = true from hs.2.2])
  · exact formB_of [110, 110, 110] (by simp [sTab, getS]; rfl) rfl rfl (by simp [partB, nmV, show nmB _ = true from hs.1, show nmB _ = true from hs.2.1, show nmB _ = true from hs.2.2])
  · exact formB_of [110, 110] (by simp [sTab, getS]; rfl) rfl rfl (by simp [partB, nmV, show nmB _ = true from hs.1, show nmB _ = true from hs.2])
  · exact formB_of [110, 110, 110] (by simp [sTab, getS]; rfl) rfl rfl (by simp [partB, nmV, show nmB _ = true from hs.1, show nmB _ = true from hs.2.1, show nmB _ = true from hs.2.2])
  · exact formB_of [119] (by simp [sTab, getS]; rfl) rfl rfl (by simp [partB, wdV, show wdB _ = true from hs])
  · exact formB_of [116] (by simp [sTab, getS]; rfl) rfl rfl (by simp [partB, Tst.tv h hs])
  · exact formB_of [116, 98, 98] (by simp [sTab, getS]; rfl) rfl rfl (by simp [partB, Tst.tv h.2.1 hs.1, isTup])
  · exact formB_of [107, 98] (by simp [sTab, getS]; rfl) rfl rfl (by have := h.2.1; simp [partB, numV, isTup]; omega)
theorem Stm.insV_vl (x : Stm) : insV x.vl = x.ins.map blk := by
  cases x <;> simp [Stm.vl, insV, Stm.ins, blk]
theorem Stm.sat_ins {N W : Str → Prop} {x : Stm} (h : x.sat N W) : ∀ b ∈ x.ins, Stm.sats N W b := by
  intro b hb
  cases x <;> simp [Stm.ins] at hb
  · unfold Stm.sat at h
    rcases hb with rfl | rfl
    · exact h.2.1
    · exact h.2.2
  · unfold Stm.sat at h
    subst hb
    exact h
theorem insB_typed {g : Int} {n d : Nat} (k : ∀ c b, b ∈ bs → errB g n d c (itemsV (blk b)) = (c + Stm.cnts b, none)) : ∀ c, insB g n d (c, none) ((bs : List (List Stm)).map blk) = (c + (bs.map Stm.cnts).sum, none) := by
  induction bs with
  | nil => intro c; simp [insB_nil]
  | cons b bs ih =>
    intro c
    rw [List.map_cons, insB_cons, k c b (by simp), ih fun c b hb => k c b (by simp [hb])]
    simp
    omega
theorem err_typed {g : Nat} : ∀ (m : Nat) (b : List Stm) (n d M c : Nat), m + d = 5 → m + 1 ≤ M → Stm.oks g n b → Stm.sats NmB WdB b → Stm.fits m b → errB g M d c (Stm.vls b) = (c + Stm.cnts b, none)
  | m, [], n, d, M, c, h1, h2, ho, hs, hf => by simp [Stm.vls, errB_nil, Stm.cnts]
  | m, x :: xs, n, d, M, c, h1, h2, ho, hs, hf => by
    obtain ⟨M, rfl⟩ : ∃ k, M = k + 1 := ⟨M - 1, by omega⟩
    have hp := Stm.fit_pos hf.1
    rw [Stm.vls, errB_ok (by omega) (Stm.v ho.1 hs.1), Stm.insV_vl]
    have q : insB g M (d + 1) (c + 1, none) (x.ins.map blk) = (c + 1 + (x.ins.map Stm.cnts).sum, none) := insB_typed (fun c b hb => by
      have hk := Stm.ok_ins ho.1 b hb
      exact err_typed (m - 1) b (n - 1) (d + 1) M c (by omega) (by omega) hk.2 (Stm.sat_ins hs.1 b hb) (Stm.fit_ins hf.1 b hb)) (c + 1)
    rw [q]
    simp only
    rw [err_typed m xs n d (M + 1) _ h1 (by omega) ho.2 hs.2 hf.2]
    rw [show Stm.cnts (x :: xs) = x.cnt + Stm.cnts xs from by simp [Stm.cnts], Stm.cnt_ins x]
    congr 1
    omega
termination_by m b => (m, b.length)
end Sm

/-! S176: pure rules: signs of a text, zip, D.get, sorted({..}); comprehensions by a function -/
namespace Sm
open PySem L2
section
variable {s : Sto} {lo : Lo} {QV : Vl → Sto → Prop} {QA : List Vl → Sto → Prop} {E : Ex → Sto → Prop}
@[simp ↓] theorem WE_aStr {e : EM} : WE (aStr e lo) s QA E = WE (e lo) s (fun x s => match x with | .str x => QA (Sm.signs x) s | _ => False) E := by
  unfold aStr
  rw [WE_bnd]
  refine WE_ext fun x s => ?_
  cases x <;> simp only [WE_eq] <;> rfl
def zipW (xs : List Vl) (s : Sto) (QA : List Vl → Sto → Prop) : Prop := match xs with
  | [.str x, .tup ys] => QA (zipL x ys) s
  | _ => False
theorem zipW_two {x : Str} {ys : List Vl} : zipW [.str x, .tup ys] s QA = QA (zipL x ys) s := rfl
@[simp ↓] theorem WE_aZipS {a : AM} : WE (aZipS a lo) s QA E = WE (a lo) s (fun xs s => zipW xs s QA) E := by
  unfold aZipS
  rw [WE_bnd]
  refine WE_ext fun xs s => ?_
  unfold zipW
  split
  · rw [WE_ret]
  · simp only [WE_eq]; rfl
@[simp ↓] theorem WE_eKGet {tbl : List (Str × Vl)} {e : EM} : WE (eKGet tbl e lo) s QV E = WE (e lo) s (fun v s => match v with | .str z => QV ((getS tbl z).getD .non) s | _ => False) E := by
  unfold eKGet
  rw [WE_bnd]
  refine WE_ext fun v s => ?_
  cases v <;> simp only [WE_eq] <;> rfl
def sscW (i : Nat) (w : Str) (k : Nat) (lo : Lo) (v : Vl) (s : Sto) (QV : Vl → Sto → Prop) : Prop := match v with
  | .ref j => match s[j]? with
    | some (.lst xs) => (xs.length < 64 ∧ i < lo.length) ∧ match pickW w k xs with
      | some zs => QV (.ref s.length) (s ++ [.lst ((sdT zs).map .str)])
      | none => False
    | _ => False
  | _ => False
theorem sscW_lst {i : Nat} {w : Str} {k j : Nat} {xs : List Vl} {zs : List Str} (hj : s[j]? = some (.lst xs)) (h1 : xs.length < 64) (h2 : i < lo.length) (hz : pickW w k xs = some zs) : sscW i w k lo (.ref j) s QV = QV (.ref s.length) (s ++ [.lst ((sdT zs).map .str)]) := by
  unfold sscW
  simp only [hj, hz, h1, h2, and_self, true_and]
@[simp ↓] theorem WE_eSsc {i : Nat} {w : Str} {k : Nat} {m : EM} : WE (eSsc i w k m lo) s QV E = WE (m lo) s (fun v s => sscW i w k lo v s QV) E := by
  unfold eSsc
  rw [WE_bnd]
  refine WE_ext fun v s => ?_
  cases v <;> try (simp only [WE_eq]; rfl)
  rename_i j
  unfold sscW
  simp only [WE_eq]
  unfold WE0
  simp only
  cases s[j]? with
  | none => rfl
  | some o =>
    cases o <;> try rfl
    rename_i xs
    simp only
    by_cases h : xs.length < 64 ∧ i < lo.length
    · simp only [h, if_true, and_self, true_and]
      cases pickW w k xs <;> rfl
    · rw [if_neg h]
      exact propext ⟨fun z => z.elim, fun z => absurd z.1 h⟩
end
theorem opIn_sg {c : Nat} {y : Str} {s : Sto} : opIn (.str ⟨#[c]⟩) (.str y) s = some (.bl (decide (c ∈ y.cps.toList)), s) := rfl
theorem opEq0_tup {xs : List Vl} {s : Sto} : opEq0 (.tup xs) (.tup []) s = some (.bl xs.isEmpty, s) := rfl
/-- elements by a function; the store may grow -/
theorem lcX_map {g : GL} {e : EM} {lo : Lo} {d : Nat} {xs : List Vl} {s0 : Sto} {Q : Sto → Prop} (s : Sto) (f : Vl → Vl) (h1 : d = s.length) (h2 : s0 = s ++ [.lst []]) (hl : xs.length < 1000000)
    (hx : ∀ x ∈ xs, ∃ lo', g x lo = some lo' ∧ ∀ s', Fr [] s s' → WE (e lo') s' (fun v s'' => v = f x ∧ Fr [] s' s'') NoX) (hd : ∀ s', s'[s.length]? = some (.lst (xs.map f)) → Fr [] s s' → Q s') :
    WL (lcX g tTrue e d lo xs s0) Q := by
  subst h1 h2
  refine lcX_inv (fun i s' => s'[s.length]? = some (.lst ((xs.take i).map f)) ∧ Fr [] s s') ⟨by simp, Fr.refl.push _⟩ ?_ ?_
  · rintro i v s1 hv ⟨e1, f1⟩
    obtain ⟨lo', q1, q2⟩ := hx v (List.mem_of_getElem? hv)
    refine ⟨lo', q1, ?_⟩
    unfold LcT
    have q := q2 s1 f1
    show WE (tTrue lo') s1 _ NoX
    have ht : ∀ Q, Q true s1 → WE (tTrue lo') s1 Q NoX := fun Q hq => WE.ok (s' := s1) (a := true) rfl hq
    refine ht _ ?_
    rw [if_pos rfl]
    refine WE.mono q ?_ fun _ _ z => z
    rintro y s2 ⟨rfl, f2⟩
    have e2 := f2.at e1 (by simp)
    simp only [e2]
    refine ⟨limC (by rw [List.length_map, List.length_take]; omega), ?_, (f1.trans f2).set (Or.inr (Nat.le_refl _))⟩
    rw [get_set_self e2]
    have hi := (List.getElem?_eq_some_iff.mp hv).1
    rw [List.take_add_one, hv]
    simp
  · rintro s1 ⟨e1, f1⟩
    rw [List.take_length] at e1
    exact hd s1 e1 f1
/-! ### values whose numbers are lists or dicts -/
def LsD (s : Sto) (i : Nat) : Prop := match s[i]? with
  | some (.lst _) => True
  | some (.dic _) => True
  | _ => False
mutual
def VOk (s : Sto) : Vl → Prop
  | .tup xs => VOks s xs
  | .ref i => LsD s i
  | .str x => x.length ≤ 1000000
  | .scr _ => False
  | .ty _ => False
  | .fn _ => False
  | _ => True
def VOks (s : Sto) : List Vl → Prop
  | [] => True
  | x :: xs => VOk s x ∧ VOks s xs
end
theorem VOks.mem {s : Sto} : ∀ {xs : List Vl}, VOks s xs → ∀ x ∈ xs, VOk s x
  | [], _, x, h => by simp at h
  | y :: ys, h, x, hx => by
    unfold VOks at h
    rcases List.mem_cons.mp hx with rfl | hx
    · exact h.1
    · exact VOks.mem h.2 x hx
theorem VOks.of {s : Sto} : ∀ {xs : List Vl}, (∀ x ∈ xs, VOk s x) → VOks s xs
  | [], _ => by unfold VOks; trivial
  | y :: ys, h => by unfold VOks; exact ⟨h y (by simp), VOks.of fun x hx => h x (by simp [hx])⟩
mutual
theorem VOk.mono {s s' : Sto} (h : ∀ i, LsD s i → LsD s' i) : ∀ v, VOk s v → VOk s' v
  | .tup xs, p => by unfold VOk at p ⊢; exact VOks.mono h xs p
  | .ref i, p => by unfold VOk at p ⊢; exact h i p
  | .non, p => by unfold VOk; trivial
  | .bl b, p => by unfold VOk; trivial
  | .int b, p => by unfold VOk; trivial
  | .str b, p => by unfold VOk at p ⊢; exact p
  | .scr _, p => by unfold VOk at p; exact p.elim
  | .ty _, p => by unfold VOk at p; exact p.elim
  | .fn _, p => by unfold VOk at p; exact p.elim
theorem VOks.mono {s s' : Sto} (h : ∀ i, LsD s i → LsD s' i) : ∀ xs, VOks s xs → VOks s' xs
  | [], _ => by unfold VOks; trivial
  | x :: xs, p => by unfold VOks at p ⊢; exact ⟨VOk.mono h x p.1, VOks.mono h xs p.2⟩
end
theorem Fr.ld {s s' : Sto} (f : Fr [] s s') (i : Nat) (h : LsD s i) : LsD s' i := by
  unfold LsD at h ⊢
  cases e : s[i]? with
  | none => rw [e] at h; exact h.elim
  | some o => rw [f.at e (by simp)]; rw [e] at h; exact h
theorem Fr.ldX {X : List Nat} {s s' : Sto} (f : Fr X s s') (hX : ∀ i ∈ X, LsD s' i) (i : Nat) (h : LsD s i) : LsD s' i := by
  by_cases hi : i ∈ X
  · exact hX i hi
  unfold LsD at h ⊢
  cases e : s[i]? with
  | none => rw [e] at h; exact h.elim
  | some o => rw [f.at e hi]; rw [e] at h; exact h
theorem VOk.fr {s s' : Sto} {v : Vl} (h : VOk s v) (f : Fr [] s s') : VOk s' v := h.mono f.ld
theorem ld_lst {s : Sto} {i : Nat} {xs : List Vl} (h : s[i]? = some (.lst xs)) : LsD s i := by unfold LsD; rw [h]; trivial
theorem VOk.ty {s : Sto} {v : Vl} (h : VOk s v) : ∃ t, tyN v s = some t ∧ (t = "tuple" ↔ isTup v = true) ∧ (t = "str" ↔ ∃ x, v = .str x) ∧ (t = "int" ↔ ∃ i, v = .int i) ∧ (t = "bool" ↔ ∃ b, v = .bl b) := by
  cases v <;> unfold VOk at h <;> first | exact h.elim | skip
  all_goals try (refine ⟨_, rfl, ?_, ?_, ?_, ?_⟩ <;> simp [isTup]; done)
  rename_i i
  unfold LsD at h
  unfold tyN
  simp only
  split at h
  · rename_i xs e
    rw [e]
    refine ⟨_, rfl, ?_, ?_, ?_, ?_⟩ <;> simp [isTup]
  · rename_i xs e
    rw [e]
    refine ⟨_, rfl, ?_, ?_, ?_, ?_⟩ <;> simp [isTup]
  · exact h.elim
theorem oIsi_tuple {s : Sto} {v : Vl} (h : VOk s v) : oIsi [v, .ty "tuple"] s = some (.bl (isTup v), s) := by
  obtain ⟨t, e, h1, h2, h3, h4⟩ := h.ty
  unfold oIsi
  simp only [e, isB]
  by_cases q : t = "tuple"
  · simp [q, h1.mp q]
  · have : isTup v = false := by
      cases w : isTup v
      · rfl
      · exact absurd (h1.mpr w) q
    simp [q, this]
def isStr : Vl → Bool
  | .str _ => true
  | _ => false
def isInt : Vl → Bool
  | .int _ => true
  | _ => false
def isBl : Vl → Bool
  | .bl _ => true
  | _ => false
theorem oIsi_str {s : Sto} {v : Vl} (h : VOk s v) : oIsi [v, .ty "str"] s = some (.bl (isStr v), s) := by
  obtain ⟨t, e, h1, h2, h3, h4⟩ := h.ty
  unfold oIsi
  simp only [e, isB]
  by_cases q : t = "str"
  · obtain ⟨x, rfl⟩ := h2.mp q
    simp [q, isStr]
  · have : isStr v = false := by
      cases v <;> first | rfl | exact absurd (h2.mpr ⟨_, rfl⟩) q
    simp [q, this]
theorem oIsi_int {s : Sto} {v : Vl} (h : VOk s v) : oIsi [v, .ty "int"] s = some (.bl (isInt v || isBl v), s) := by
  obtain ⟨t, e, h1, h2, h3, h4⟩ := h.ty
  unfold oIsi
  simp only [e, isB]
  by_cases q : t = "int"
  · obtain ⟨x, rfl⟩ := h3.mp q
    simp [q, isInt]
  · by_cases q2 : t = "bool"
    · obtain ⟨x, rfl⟩ := h4.mp q2
      simp [q2, isInt, isBl]
    · have : (isInt v || isBl v) = false := by
        cases v <;> first | rfl | exact absurd (h3.mpr ⟨_, rfl⟩) q | exact absurd (h4.mpr ⟨_, rfl⟩) q2
      simp [q, q2, this]
theorem oIsi_bool {s : Sto} {v : Vl} (h : VOk s v) : oIsi [v, .ty "bool"] s = some (.bl (isBl v), s) := by
  obtain ⟨t, e, h1, h2, h3, h4⟩ := h.ty
  unfold oIsi
  simp only [e, isB]
  by_cases q : t = "bool"
  · obtain ⟨x, rfl⟩ := h4.mp q
    simp [q, isBl]
  · have : isBl v = false := by
      cases v <;> first | rfl | exact absurd (h4.mpr ⟨_, rfl⟩) q
    simp [q, this]
end Sm

/-! S179: comprehensions by rows; words of wishes; the error of a program -/
namespace Sm
open PySem L2
theorem lcX_idx {g : GL} {e : EM} {lo : Lo} {d : Nat} {xs ys : List Vl} {s0 : Sto} {Q : Sto → Prop} (s : Sto) (h1 : d = s.length) (h2 : s0 = s ++ [.lst []]) (hl : xs.length < 1000000) (hy : ys.length = xs.length)
    (hx : ∀ (i : Nat) (x y : Vl), xs[i]? = some x → ys[i]? = some y → ∃ lo', g x lo = some lo' ∧ ∀ s', Fr [] s s' → WE (e lo') s' (fun v s'' => v = y ∧ Fr [] s' s'') NoX) (hd : ∀ s', s'[s.length]? = some (.lst ys) → Fr [] s s' → Q s') :
    WL (lcX g tTrue e d lo xs s0) Q := by
  subst h1 h2
  refine lcX_inv (fun i s' => s'[s.length]? = some (.lst (ys.take i)) ∧ Fr [] s s') ⟨by simp, Fr.refl.push _⟩ ?_ ?_
  · rintro i v s1 hv ⟨e1, f1⟩
    have hi := (List.getElem?_eq_some_iff.mp hv).1
    obtain ⟨y, hyi⟩ : ∃ y, ys[i]? = some y := ⟨_, List.getElem?_eq_getElem (by omega)⟩
    obtain ⟨lo', q1, q2⟩ := hx i v y hv hyi
    refine ⟨lo', q1, ?_⟩
    unfold LcT
    have q := q2 s1 f1
    have ht : ∀ Q, Q true s1 → WE (tTrue lo') s1 Q NoX := fun Q hq => WE.ok (s' := s1) (a := true) rfl hq
    refine ht _ ?_
    rw [if_pos rfl]
    refine WE.mono q ?_ fun _ _ z => z
    rintro y' s2 ⟨rfl, f2⟩
    have e2 := f2.at e1 (by simp)
    simp only [e2]
    refine ⟨limC (by rw [List.length_take]; omega), ?_, (f1.trans f2).set (Or.inr (Nat.le_refl _))⟩
    rw [get_set_self e2, List.take_add_one, hyi]
    rfl
  · rintro s1 ⟨e1, f1⟩
    rw [← hy, List.take_length] at e1
    exact hd s1 e1 f1
/-- the words of wishes -/
def wshW : Stm → List Str
  | .wish _ w => [w]
  | _ => []
def wshL (l : List (Nat × Stm)) : List Str := l.flatMap fun q => wshW q.2
theorem pickW_wsh : ∀ l : List (Nat × Stm), pickW "wish" 1 (l.map fun q => q.2.vl) = some (wshL l)
  | [] => rfl
  | (d, x) :: l => by
    have ih := pickW_wsh l
    rw [List.map_cons, Stm.vl_eq]
    cases x <;> simp [pickW, Stm.word, Stm.args, wshL, wshW, ih] <;> exact ih
def errP (b : List Stm) : Vl :=
  if 30 < Stm.cnts b then .tup [.non, .str "places"] else if 200 < Stm.wgts b then .tup [.non, .str "weight"] else if 4 < (ddT (wshL (Stm.flats 0 b))).length then .tup [.non, .str "wishes"] else .non
theorem sdT_len (zs : List Str) : (sdT zs).length = (ddT zs).length := by unfold sdT; exact (srtT_perm _).length_eq
end Sm

/-! S181: statements within statements; words of right blocks -/
namespace Sm
open PySem L2
section
variable {N N' W W' : Str → Prop}
theorem Tst.sat_mono (hN : ∀ x, N x → N' x) (hW : ∀ x, W x → W' x) : ∀ {t : Tst}, t.sat N W → t.sat N' W'
  | .given _, _ => trivial
  | .set x, h => hN x h
  | .same x y, h => ⟨hN x h.1, hN y h.2⟩
  | .full x y, h => ⟨hN x h.1, hN y h.2⟩
  | .wished x, h => hW x h
  | .not t, h => Tst.sat_mono (t := t) hN hW h
mutual
theorem Stm.sat_mono (hN : ∀ x, N x → N' x) (hW : ∀ x, W x → W' x) : ∀ x : Stm, x.sat N W → x.sat N' W'
  | .make x, h => by unfold Stm.sat at h ⊢; exact hN x h
  | .wish x w, h => by unfold Stm.sat at h ⊢; exact ⟨hN x h.1, hW w h.2⟩
  | .keep x, h => by unfold Stm.sat at h ⊢; exact hN x h
  | .name x y, h => by unfold Stm.sat at h ⊢; exact ⟨hN x h.1, hN y h.2⟩
  | .drop x, h => by unfold Stm.sat at h ⊢; exact hN x h
  | .hold x f y, h => by unfold Stm.sat at h ⊢; exact ⟨hN x h.1, hN f h.2.1, hN y h.2.2⟩
  | .weak x f y, h => by unfold Stm.sat at h ⊢; exact ⟨hN x h.1, hN f h.2.1, hN y h.2.2⟩
  | .cut x f, h => by unfold Stm.sat at h ⊢; exact ⟨hN x h.1, hN f h.2⟩
  | .take z x f, h => by unfold Stm.sat at h ⊢; exact ⟨hN z h.1, hN x h.2.1, hN f h.2.2⟩
  | .say w, h => by unfold Stm.sat at h ⊢; exact hW w h
  | .ask t, h => by unfold Stm.sat at h ⊢; exact Tst.sat_mono hN hW h
  | .ife t a b, h => by unfold Stm.sat at h ⊢; exact ⟨Tst.sat_mono hN hW h.1, Stm.sats_mono hN hW a h.2.1, Stm.sats_mono hN hW b h.2.2⟩
  | .rep k b, h => by unfold Stm.sat at h ⊢; exact Stm.sats_mono hN hW b h
theorem Stm.sats_mono (hN : ∀ x, N x → N' x) (hW : ∀ x, W x → W' x) : ∀ xs : List Stm, Stm.sats N W xs → Stm.sats N' W' xs
  | [], _ => trivial
  | x :: xs, h => ⟨Stm.sat_mono hN hW x h.1, Stm.sats_mono hN hW xs h.2⟩
end
mutual
theorem Stm.wsh_sat : ∀ (d : Nat) (x : Stm), x.sat N W → ∀ w ∈ wshL (x.flat d), W w
  | d, .make x, h, w, hw => by simp [Stm.flat, wshL, wshW] at hw
  | d, .wish x w', h, w, hw => by simp [Stm.flat, wshL, wshW] at hw; unfold Stm.sat at h; subst hw; exact h.2
  | d, .keep x, h, w, hw => by simp [Stm.flat, wshL, wshW] at hw
  | d, .name x y, h, w, hw => by simp [Stm.flat, wshL, wshW] at hw
  | d, .drop x, h, w, hw => by simp [Stm.flat, wshL, wshW] at hw
  | d, .hold x f y, h, w, hw => by simp [Stm.flat, wshL, wshW] at hw
  | d, .weak x f y, h, w, hw => by simp [Stm.flat, wshL, wshW] at hw
  | d, .cut x f, h, w, hw => by simp [Stm.flat, wshL, wshW] at hw
  | d, .take z x f, h, w, hw => by simp [Stm.flat, wshL, wshW] at hw
  | d, .say w', h, w, hw => by simp [Stm.flat, wshL, wshW] at hw
  | d, .ask t, h, w, hw => by simp [Stm.flat, wshL, wshW] at hw
  | d, .ife t a b, h, w, hw => by
    unfold Stm.sat at h
    simp only [Stm.flat, wshL, List.flatMap_cons, List.flatMap_append, wshW, List.nil_append, List.mem_append] at hw
    rcases hw with hw | hw
    · exact Stm.wshs_sat (d + 1) a h.2.1 w hw
    · exact Stm.wshs_sat (d + 1) b h.2.2 w hw
  | d, .rep k b, h, w, hw => by
    unfold Stm.sat at h
    simp only [Stm.flat, wshL, List.flatMap_cons, wshW, List.nil_append] at hw
    exact Stm.wshs_sat (d + 1) b h w hw
theorem Stm.wshs_sat : ∀ (d : Nat) (xs : List Stm), Stm.sats N W xs → ∀ w ∈ wshL (Stm.flats d xs), W w
  | d, [], h, w, hw => by simp [Stm.flats, wshL] at hw
  | d, x :: xs, h, w, hw => by
    simp only [Stm.flats, wshL, List.flatMap_append, List.mem_append] at hw
    rcases hw with hw | hw
    · exact Stm.wsh_sat d x h.1 w hw
    · exact Stm.wshs_sat d xs h.2 w hw
end
end
theorem ddT_le {zs W : List Str} (h : ∀ w ∈ zs, w ∈ W) : (ddT zs).length ≤ W.length := List.Nodup.length_le_of_subset (ddT_nd zs) fun w hw => h w (mem_ddT.mp hw)
/-! ### they are values without numbers -/
theorem vok_str {s : Sto} {x : Str} (h : Nice x) : VOk s (.str x) := by unfold VOk; have := h.len; omega
theorem vok_lit {s : Sto} {x : Str} (h : x.length ≤ 1000000 := by decide) : VOk s (.str x) := by unfold VOk; exact h
theorem vok_int {s : Sto} {i : Int} : VOk s (.int i) := by unfold VOk; trivial
theorem vok_tup {s : Sto} {xs : List Vl} (h : VOks s xs) : VOk s (.tup xs) := by unfold VOk; exact h
theorem voks_nil {s : Sto} : VOks s [] := by unfold VOks; trivial
theorem voks_cons {s : Sto} {x : Vl} {xs : List Vl} (h : VOk s x) (h' : VOks s xs) : VOks s (x :: xs) := by unfold VOks; exact ⟨h, h'⟩
theorem voks_app {s : Sto} : ∀ {xs ys : List Vl}, VOks s xs → VOks s ys → VOks s (xs ++ ys)
  | [], _, _, h => h
  | x :: xs, ys, h, h' => by
    unfold VOks at h
    exact voks_cons h.1 (voks_app h.2 h')
theorem Tst.vok {s : Sto} {g : Nat} : ∀ {n : Nat} {t : Tst}, t.ok g n → VOk s t.vl
  | n, .given i, h => vok_tup (voks_cons vok_lit (voks_cons vok_int voks_nil))
  | n, .set x, h => by
    have h : Nice x := by cases n <;> exact h
    exact vok_tup (voks_cons vok_lit (voks_cons (vok_str h) voks_nil))
  | n, .same x y, h => by
    have h : Nice x ∧ Nice y := by cases n <;> exact h
    exact vok_tup (voks_cons vok_lit (voks_cons (vok_str h.1) (voks_cons (vok_str h.2) voks_nil)))
  | n, .full x y, h => by
    have h : Nice x ∧ Nice y := by cases n <;> exact h
    exact vok_tup (voks_cons vok_lit (voks_cons (vok_str h.1) (voks_cons (vok_str h.2) voks_nil)))
  | n, .wished x, h => by
    have h : Nice x := by cases n <;> exact h
    exact vok_tup (voks_cons vok_lit (voks_cons (vok_str h) voks_nil))
  | n + 1, .not t, h => vok_tup (voks_cons vok_lit (voks_cons (Tst.vok (n := n) (t := t) h) voks_nil))
  | 0, .not t, h => h.elim
mutual
theorem Stm.vok {s : Sto} {g : Nat} : ∀ (n : Nat) (x : Stm), x.ok g n → VOk s x.vl
  | n, .make x, h => by unfold Stm.ok at h; unfold Stm.vl; exact vok_tup (voks_cons vok_lit (voks_cons (vok_str h) voks_nil))
  | n, .wish x w, h => by unfold Stm.ok at h; unfold Stm.vl; exact vok_tup (voks_cons vok_lit (voks_cons (vok_str h.1) (voks_cons (vok_str h.2) voks_nil)))
  | n, .keep x, h => by unfold Stm.ok at h; unfold Stm.vl; exact vok_tup (voks_cons vok_lit (voks_cons (vok_str h) voks_nil))
  | n, .name x y, h => by unfold Stm.ok at h; unfold Stm.vl; exact vok_tup (voks_cons vok_lit (voks_cons (vok_str h.1) (voks_cons (vok_str h.2) voks_nil)))
  | n, .drop x, h => by unfold Stm.ok at h; unfold Stm.vl; exact vok_tup (voks_cons vok_lit (voks_cons (vok_str h) voks_nil))
  | n, .hold x f y, h => by unfold Stm.ok at h; unfold Stm.vl; exact vok_tup (voks_cons vok_lit (voks_cons (vok_str h.1) (voks_cons (vok_str h.2.1) (voks_cons (vok_str h.2.2) voks_nil))))
  | n, .weak x f y, h => by unfold Stm.ok at h; unfold Stm.vl; exact vok_tup (voks_cons vok_lit (voks_cons (vok_str h.1) (voks_cons (vok_str h.2.1) (voks_cons (vok_str h.2.2) voks_nil))))
  | n, .cut x f, h => by unfold Stm.ok at h; unfold Stm.vl; exact vok_tup (voks_cons vok_lit (voks_cons (vok_str h.1) (voks_cons (vok_str h.2) voks_nil)))
  | n, .take z x f, h => by unfold Stm.ok at h; unfold Stm.vl; exact vok_tup (voks_cons vok_lit (voks_cons (vok_str h.1) (voks_cons (vok_str h.2.1) (voks_cons (vok_str h.2.2) voks_nil))))
  | n, .say w, h => by unfold Stm.ok at h; unfold Stm.vl; exact vok_tup (voks_cons vok_lit (voks_cons (vok_str h) voks_nil))
  | n, .ask t, h => by unfold Stm.ok at h; unfold Stm.vl; exact vok_tup (voks_cons vok_lit (voks_cons (Tst.vok h) voks_nil))
  | n, .ife t a b, h => by
    unfold Stm.ok at h; unfold Stm.vl
    exact vok_tup (voks_cons vok_lit (voks_cons (Tst.vok h.2.1) (voks_cons (vok_tup (Stm.voks _ a h.2.2.1)) (voks_cons (vok_tup (Stm.voks _ b h.2.2.2)) voks_nil))))
  | n, .rep k b, h => by
    unfold Stm.ok at h; unfold Stm.vl
    exact vok_tup (voks_cons vok_lit (voks_cons vok_int (voks_cons (vok_tup (Stm.voks _ b h.2.2)) voks_nil)))
theorem Stm.voks {s : Sto} {g : Nat} : ∀ (n : Nat) (xs : List Stm), Stm.oks g n xs → VOks s (Stm.vls xs)
  | n, [], h => voks_nil
  | n, x :: xs, h => voks_cons (Stm.vok n x h.1) (Stm.voks n xs h.2)
end
/-! ### towers -/
def FlatOk (g : Nat) (N W : Str → Prop) (x : Stm) : Prop := x.ok g 0 ∧ x.cnt = 1 ∧ x.wgt = 1 ∧ x.sat N W
theorem flats_cnt {g : Nat} {N W : Str → Prop} : ∀ {m : List Stm}, (∀ x ∈ m, FlatOk g N W x) → Stm.cnts m = m.length ∧ Stm.wgts m = m.length ∧ Stm.oks g 0 m ∧ Stm.sats N W m
  | [], _ => ⟨rfl, rfl, trivial, trivial⟩
  | x :: m, h => by
    obtain ⟨a, b, c, d⟩ := h x (by simp)
    obtain ⟨p, q, r, t⟩ := flats_cnt (m := m) fun y hy => h y (List.mem_cons_of_mem _ hy)
    exact ⟨by simp only [Stm.cnts, b, p, List.length_cons]; omega, by simp only [Stm.wgts, c, q, List.length_cons]; omega, ⟨a, r⟩, ⟨d, t⟩⟩
structure LayR (g : Nat) (N W : Str → Prop) (R R' : List Vl) (a : Nat) : Prop where
  ex : ∃ (m : List Stm) (w : Vl), R' = Stm.vls m ++ [w] ∧ a = m.length + 1 ∧ m.length ≤ 1 ∧ (∀ x ∈ m, FlatOk g N W x) ∧
    ((∃ k : Nat, k ≤ 1 ∧ w = .tup [.str "repeat", .int k, .tup R]) ∨ ∃ t : Tst, t.ok g 3 ∧ t.sat N W ∧ (w = .tup [.str "if", t.vl, .tup R, .tup []] ∨ w = .tup [.str "if", t.vl, .tup [], .tup R]))
inductive TowR (g : Nat) (N W : Str → Prop) : Nat → List Vl → List Vl → Nat → Prop
  | z {R : List Vl} : TowR g N W 0 R R 0
  | s {h a a' : Nat} {R R' R'' : List Vl} : TowR g N W h R R' a → LayR g N W R' R'' a' → TowR g N W (h + 1) R R'' (a + a')
theorem LayR.vok {g a : Nat} {N W : Str → Prop} {R R' : List Vl} {s : Sto} (L : LayR g N W R R' a) (h : VOks s R) : VOks s R' ∧ R' ≠ [] := by
  obtain ⟨m, w, rfl, _, _, hm, hw⟩ := L.ex
  refine ⟨voks_app (Stm.voks 0 m (flats_cnt hm).2.2.1) (voks_cons ?_ voks_nil), by simp⟩
  rcases hw with ⟨k, hk, rfl⟩ | ⟨t, ht, hs', rfl | rfl⟩
  · exact vok_tup (voks_cons vok_lit (voks_cons vok_int (voks_cons (vok_tup h) voks_nil)))
  · exact vok_tup (voks_cons vok_lit (voks_cons (Tst.vok ht) (voks_cons (vok_tup h) (voks_cons (vok_tup voks_nil) voks_nil))))
  · exact vok_tup (voks_cons vok_lit (voks_cons (Tst.vok ht) (voks_cons (vok_tup voks_nil) (voks_cons (vok_tup h) voks_nil))))
theorem TowR.vok {g h a : Nat} {N W : Str → Prop} {R R' : List Vl} {s : Sto} (T : TowR g N W h R R' a) : VOks s R → R ≠ [] → VOks s R' ∧ R' ≠ [] := by
  induction T with
  | z => intro hv hn; exact ⟨hv, hn⟩
  | s T L ih => intro hv hn; exact L.vok (ih hv hn).1
theorem LayR.mono {g a : Nat} {N W N' W' : Str → Prop} {R R' : List Vl} (L : LayR g N W R R' a) (hN : ∀ x, N x → N' x) (hW : ∀ x, W x → W' x) : LayR g N' W' R R' a := by
  obtain ⟨m, w, e1, e2, e3, hm, hw⟩ := L.ex
  refine ⟨m, w, e1, e2, e3, fun x hx => ?_, ?_⟩
  · obtain ⟨a, b, c, d⟩ := hm x hx
    exact ⟨a, b, c, Stm.sat_mono hN hW x d⟩
  · rcases hw with h | ⟨t, h1, h2, h3⟩
    · exact .inl h
    · exact .inr ⟨t, h1, Tst.sat_mono hN hW h2, h3⟩
theorem TowR.mono {g h a : Nat} {N W N' W' : Str → Prop} {R R' : List Vl} (T : TowR g N W h R R' a) (hN : ∀ x, N x → N' x) (hW : ∀ x, W x → W' x) : TowR g N' W' h R R' a := by
  induction T with
  | z => exact .z
  | s T L ih => exact .s ih (L.mono hN hW)
end Sm

/-! S186: any value != a text; a text times a number; the pure rule of x[::-1] -/
namespace PySem.SeqAt
open PySem
theorem dict_ne_declines_strX (a : Addr) (es : Array DictEntry) (n : Nat) (dd : Option Addr) (sl : Array (Option Value)) (b : Str) (u : Tok) :
    Meets (Builtin.«dict.__ne__» ⟨[.ref a, .str b u], []⟩) (fun _ R s => s.heap.get? a = some { cls := .type "dict", dict := dd, data := .dict es n, slots := sl } ∧ R (.ok (.ret .notImplemented)) s) :=
  .of_wp fun prog w A R s h => by
    obtain ⟨hp, g, d, tk, os⟩ := s
    obtain ⟨hl, h⟩ := h
    have f1 := F.sub_str_dict
    wp_walk using wpAny_loadPart' hl
    exact ⟨_, rfl, h⟩
theorem str_ne_declines_dictX (b : Str) (u : Tok) (l : Addr) (c : Value) (es : Array DictEntry) (n : Nat) (dd : Option Addr) (sl : Array (Option Value)) :
    Meets (Builtin.«str.__ne__» ⟨[.str b u, .ref l], []⟩) (fun _ R s => s.heap.get? l = some { cls := c, dict := dd, data := .dict es n, slots := sl } ∧ R (.ok (.ret .notImplemented)) s) :=
  .of_wp fun prog w A R s h => by obtain ⟨hp, g, d, tk, os⟩ := s; obtain ⟨hl, h⟩ := h; wp_walk using wpAny_loadPart' hl, wpAny_load hl; exact ⟨_, rfl, h⟩
section
variable {A : Around} {s : Shared}
theorem RcNeAt.dict_strX {a : Addr} {o : Obj} {es : Array DictEntry} {n : Nat} (b : Str) (u : Tok) (ho : s.heap.get? a = some o) (hc : o.cls = .type "dict") (hd : o.data = .dict es n) (hu : A.units < cLine) : RcNeAt A s (.ref a) (.str b u) true := fun prog w E Q h => by
  obtain ⟨cls, dd, data, sl⟩ := o
  simp only at hc hd
  subst hc hd
  exact rc_ne_decline_or (k := false) ⟨_, ho, rfl⟩ (typeIs_str s b u) (by decide) F.sub_str_dict F.slot_dict_ne F.slot_str_ne_refl
    (fun _ hq => call_meets F.slot_dict_ne ⟨_, ho, rfl⟩ F.entry_dict_ne (F.args_dict_ne_2 _ _) (dict_ne_declines_strX a es n dd sl b u) ⟨ho, hq⟩)
    (fun _ hq => call_meets F.slot_str_ne_refl (typeIs_str s b u) F.entry_str_ne (F.args_str_ne_2 _ _) (str_ne_declines_dictX b u a (.type "dict") es n dd sl) ⟨ho, hq⟩)
    (fun _ hq => wpAny_of_eq (rfl : isSame (.ref a) (.str b u) = pure false) hq) (.inr hu) h
end
end PySem.SeqAt
namespace Sm
open PySem PySem.Spec PyProof.Rows L2
def opNeS : O2 := fun a b s => match b with
  | .str y => match a with
    | .tup _ => some (.bl true, s)
    | .ref j => match s[j]? with
      | some (.lst _) => some (.bl true, s)
      | some (.dic _) => some (.bl true, s)
      | _ => none
    | .non => some (.bl true, s)
    | .int _ => some (.bl true, s)
    | .str z => some (.bl (!decide (z = y)), s)
    | _ => opNe a b s
  | _ => opNe a b s
/-- a text, so many times -/
def repS : Nat → Str → Str
  | 0, _ => Str.empty
  | n + 1, x => x ++ repS n x
def opMulS : O2
  | .str x, .int k, s => if 2 ≤ k ∧ k ≤ 1000 ∧ 0 < x.length ∧ x.length ≤ 1000 then some (.str (repS k.toNat x), s) else none
  | a, b, s => opMul a b s
section
variable {X : Cx} {T : Tb}
theorem o_neS (hu : X.A.units + 64 < cLine) (hK : X.K = T.K := by rfl) : OpR X (compareOp .NotEq) (rO T opNeS) := fun pins s σ H x y v u Q I rx ry q => by
  obtain ⟨ρ, st, a, b, w, s', r, ha, hb, e, k⟩ := q
  have old : opNe a b st = some (w, s') → wpAny (model X.prog X.w) X.A (compareOp .NotEq v u) (EP X pins σ Q) X.xe s := fun e => o_ne hu hK pins s σ H x y v u Q I rx ry ⟨ρ, st, a, b, w, s', r, ha, hb, e, k⟩
  unfold opNeS at e
  split at e
  · rename_i yt
    obtain rfl := hb.strE
    obtain ⟨tk, rfl⟩ := ry
    cases a with
    | tup xs =>
      cases e
      obtain ⟨p, vs, rfl, h1, h2⟩ := ha.tupE
      obtain rfl : v = Value.ref p := rx
      rw [← hK] at h1
      obtain ⟨its, rv, q1, _⟩ := I.tuple h1
      exact SeqAt.RcNeAt.tuple_str (A := X.A) yt tk q1 (by omega) X.prog X.w X.xe _ ⟨.bl true, H, I, rfl, k.here r (.bl _)⟩
    | ref j =>
      obtain ⟨p, rfl, hp⟩ := ha.refE
      obtain rfl : v = Value.ref p := rx
      simp only at e
      split at e
      · rename_i xs hx
        cases e
        obtain ⟨vs, h1, h2⟩ := r.lst hx hp
        obtain ⟨its, rv, q1, _⟩ := I.list (SqL.of h1)
        exact SeqAt.RcNeAt.list_str (A := X.A) yt tk q1.isList (by omega) X.prog X.w X.xe _ ⟨.bl true, H, I, rfl, k.here r (.bl _)⟩
      · rename_i kvs hx
        cases e
        obtain ⟨vs, h1, h2⟩ := r.dic hx hp
        obtain ⟨_, _, us, rel, dd⟩ := dk_of I.hok h1
        obtain ⟨o, es, ep, eo, exd, hdat, _⟩ := dd
        exact SeqAt.RcNeAt.dict_strX (A := X.A) yt tk eo exd.1 hdat (by omega) X.prog X.w X.xe _ ⟨.bl true, H, I, rfl, k.here r (.bl _)⟩
      · cases e
    | non => exact old (by simpa [opNe, eqM, eqS] using e)
    | int i => exact old (by simpa [opNe, eqM, eqS] using e)
    | str z => exact old (by
        cases e
        simp only [opNe, eqM, eqS]
        by_cases q : z = yt <;> simp [q])
    | bl i => exact old e
    | scr i => exact old e
    | ty i => exact old e
    | fn i => exact old e
  · exact old e
theorem repS_eq : ∀ (n : Nat) (x : Str) (acc : Array Nat), (List.replicate n x.cps).foldl (· ++ ·) acc = acc ++ (repS n x).cps
  | 0, x, acc => by
    show acc = acc ++ #[]
    simp
  | n + 1, x, acc => by
    rw [List.replicate_succ, List.foldl_cons, repS_eq n x]
    show acc ++ x.cps ++ (repS n x).cps = acc ++ (x.cps ++ (repS n x).cps)
    rw [Array.append_assoc]
theorem repS_len : ∀ (n : Nat) (x : Str), (repS n x).length = n * x.length
  | 0, x => by simp [repS]; rfl
  | n + 1, x => by
    have ih := repS_len n x
    show (x.cps ++ (repS n x).cps).size = _
    rw [Array.size_append]
    have a1 : (repS n x).cps.size = (repS n x).length := rfl
    have a2 : x.cps.size = x.length := rfl
    rw [a1, a2, ih, Nat.succ_mul, Nat.add_comm]
theorem o_mulS : OpR X (binaryOp .Mult) (rO T opMulS) := fun pins s σ H x y v u Q I rx ry q => by
  obtain ⟨ρ, st, a, b, w, s', r, ha, hb, e, k⟩ := q
  unfold opMulS at e
  split at e
  · rename_i s0 z i
    split at e
    · rename_i h
      cases e
      obtain rfl := ha.strE
      obtain rfl := hb.intE
      obtain ⟨tk, rfl⟩ := rx
      obtain ⟨tk', rfl⟩ := ry
      obtain ⟨h1, h2, h3, h4⟩ := h
      have m1 : z.length * i.toNat ≤ 1000 * 1000 := Nat.mul_le_mul h4 (by omega)
      have c1 : ¬ i < 1 := by omega
      have c2 : ¬ (i == 1 || z.length == 0) = true := by
        rw [Bool.or_eq_true, beq_iff_eq, beq_iff_eq]; omega
      refine P.mul_str ?_ (fun _ _ => ?_) (fun _ _ => ?_) ?_
      · rw [decide_eq_false (by omega), decide_eq_false (by omega)]; rfl
      · intro hlt
        have : (1000 : Int) ≤ (2 ^ 63 - 1) / i := (Int.le_ediv_iff_mul_le (by omega)).mpr (by omega)
        omega
      · unfold PySem.Builtin.Str.tooLong
        exact decide_eq_false (Nat.not_lt.mpr (Nat.le_trans m1 (by decide)))
      · rw [if_neg c1, if_neg c2, repS_eq]
        have e1 : (⟨#[] ++ (repS i.toNat z).cps⟩ : Str) = repS i.toNat z := by rw [Array.empty_append]
        rw [e1]
        refine ⟨?_, .str (repS i.toNat z), H, I.tok _, ⟨_, rfl⟩, k.here r (.str _)⟩
        rw [repS_len, Nat.mul_comm]
        exact Nat.le_trans m1 (by decide)
    · cases e
  · exact o_mul pins s σ H x y v u Q I rx ry ⟨ρ, st, _, _, w, s', r, ha, hb, e, k⟩
end
section
variable {s : Sto} {lo : Lo} {QV : Vl → Sto → Prop} {E : Ex → Sto → Prop}
def revW (x : Vl) (s : Sto) (QV : Vl → Sto → Prop) : Prop := match x with
  | .tup xs => QV (.tup xs.reverse) s
  | .ref j => match s[j]? with
    | some (.lst xs) => QV (.ref s.length) (s ++ [.lst xs.reverse])
    | _ => False
  | _ => False
@[simp] theorem revW_tup {xs : List Vl} : revW (.tup xs) s QV = QV (.tup xs.reverse) s := rfl
@[simp ↓] theorem WE_eRev {a st : EM} : WE (eRev a st lo) s QV E = WE (a lo) s (fun x s => WE (st lo) s (fun y s => match y with | .int (-1) => revW x s QV | _ => False) E) E := by
  unfold eRev
  rw [WE_bnd]
  refine WE_ext fun x s => ?_
  rw [WE_bnd]
  refine WE_ext fun y s => ?_
  simp only [WE_eq]
  unfold WE0
  have hne : ∀ (f g : Prop), f = False → g = False → f = g := fun f g a b => a.trans b.symm
  cases y <;> try rfl
  rename_i i
  rcases i with n | n
  · rfl
  · rcases n with _ | n
    · unfold revW
      cases x <;> try rfl
      rename_i j
      simp only
      cases h : s[j]? with
      | none => rfl
      | some o => cases o <;> rfl
    · rfl
end
end Sm

namespace K00
-- classes: 
open PySem PySem.Spec PyProof.Rows L2 Sm
def top (i : Nat) : Stmt := PySem.Challenge.pw_maybegone_k00_single_statements.main.body.getD i (.Pass ⟨0, 0, 0, 0⟩)
abbrev st_is_number : Stmt := top 15
abbrev st_is_word : Stmt := top 16
abbrev st_is_name : Stmt := top 17
abbrev st_has_form : Stmt := top 18
abbrev st_is_part : Stmt := top 19
abbrev st_is_test : Stmt := top 20
abbrev st_inner_blocks : Stmt := top 21
abbrev st_listed : Stmt := top 22
abbrev st_first_error : Stmt := top 23
abbrev st_weight_of : Stmt := top 24
abbrev st_statements_of : Stmt := top 26
abbrev st_wishes_of : Stmt := top 27
abbrev st_program_error : Stmt := top 25
abbrev st__law_deck : Stmt := top 29
abbrev st__law_draw : Stmt := top 30
abbrev st__law_one : Stmt := top 31
abbrev st__law_kept : Stmt := top 32
abbrev st__law_name : Stmt := top 33
abbrev st__law_word : Stmt := top 34
abbrev st__law_pool : Stmt := top 35
abbrev st__law_any_test : Stmt := top 36
abbrev st__law_row : Stmt := top 37
abbrev st__law_is_name : Stmt := top 38
abbrev st__law_is_word : Stmt := top 39
abbrev st__law_is_number : Stmt := top 40
abbrev st__law_is_test : Stmt := top 41
abbrev st__law_is_row : Stmt := top 42
abbrev st__law_odd : Stmt := top 43
abbrev st__law_bent : Stmt := top 44
abbrev st_law : Stmt := top 45
/-! the pure functions -/
def ktl_TEST_FORMS : List (Str × Vl) := [("given", .str "g"), ("set", .str "n"), ("same", .str "nn"), ("full", .str "nn"), ("wished", .str "w")]
def ktl_FORMS : List (Str × Vl) := [("make", .str "n"), ("keep", .str "n"), ("drop", .str "n"), ("wish", .str "nw"), ("name", .str "nn"), ("hold", .str "nnn"), ("weak", .str "nnn"), ("cut", .str "nn"), ("take", .str "nnn"), ("say", .str "w"), ("ask", .str "t"), ("if", .str "tbb"), ("repeat", .str "kb")]
def tl_NO_NAMES : List Str := ["as", "ask", "cut", "drop", "else", "full", "given", "hold", "if", "keep", "make", "not", "pass", "repeat", "same", "say", "set", "take", "weak", "wish", "wished"]
def b_is_number : SM := (sRet (eAndM (eCB oIsi (aCons (eVar 0) (aCons (eC (.ty "int")) aNil))) (eAndM (eNotM (eCB oIsi (aCons (eVar 0) (aCons (eC (.ty "bool")) aNil)))) (eChain opLe opLe (eVar 1) (eVar 0) (eVar 2)))))
def m_is_number : List Vl → M Vl := fnM 3 b_is_number
def b_is_word : SM := (sSeq (sIf (tOrM (tNotM (tVal (eCB oIsi (aCons (eVar 0) (aCons (eC (.ty "str")) aNil))))) (tNotM (tVal (eChain opLe opLe (eC (.int 1)) (eCB oLen (aCons (eVar 0) aNil)) (eC (.int 8)))))) (sRet (eC (.bl false))) sNil)
  (sRet (eCB oAll (aCons (eLcX (aStr (eVar 0)) (glN 1) tTrue (eOrM (eOp opIn (eVar 1) (eC (.str "abcdefghijklmnopqrstuvwxyz"))) (eOp opIn (eVar 1) (eC (.str "0123456789")))) [1]) aNil))))
def m_is_word : List Vl → M Vl := fnM 2 b_is_word
def b_is_name : SM := (sRet (eAndM (eCall (arg 1 m_is_word) (aCons (eVar 0) aNil)) (eAndM (eOp opLe (eCB oLen (aCons (eVar 0) aNil)) (eC (.int 8))) (eAndM (eOp opIn (eOp opIx (eVar 0) (eC (.int 0))) (eC (.str "abcdefghijklmnopqrstuvwxyz"))) (eOp opNotIn (eVar 0) (eC (.tup (List.map Vl.str tl_NO_NAMES))))))))
def m_is_name : List Vl → M Vl := fnM 1 b_is_name
def b_has_form (R : Nat → List Vl → M Vl) : SM := (sSeq (sIf (tOrM (tNotM (tVal (eCB oIsi (aCons (eVar 0) (aCons (eC (.ty "tuple")) aNil))))) (tOrM (tVal (eOp opEq0 (eVar 0) (eCB oTup aNil))) (tNotM (tVal (eCB oIsi (aCons (eOp opIx (eVar 0) (eC (.int 0))) (aCons (eC (.ty "str")) aNil))))))) (sRet (eC (.bl false))) sNil)
  (sSeq (sSet 3 (eIfM (tVal (eVar 2)) (eKGet ktl_TEST_FORMS (eOp opIx (eVar 0) (eC (.int 0)))) (eKGet ktl_FORMS (eOp opIx (eVar 0) (eC (.int 0))))))
  (sSeq (sIf (tOrM (tVal (eOp opIsN (eVar 3) (eC .non))) (tVal (eOp opNe (eCB oLen (aCons (eVar 0) aNil)) (eOp opAdd (eC (.int 1)) (eCB oLen (aCons (eVar 3) aNil)))))) (sRet (eC (.bl false))) sNil)
  (sRet (eCB oAll (aCons (eLcX (aZipS (aCons (eVar 3) (aCons (eSl opSl (eVar 0) (some (eC (.int 1))) none) aNil))) (glT [4, 5]) tTrue (eCall (arg 3 (R 1)) (aCons (eVar 4) (aCons (eVar 5) (aCons (eVar 1) aNil)))) [4, 5]) aNil))))))
def b_is_part (R : Nat → List Vl → M Vl) : SM := (sSeq (sIf (tVal (eOp opEq (eVar 0) (eC (.str "n")))) (sRet (eCall (arg 1 m_is_name) (aCons (eVar 1) aNil))) sNil)
  (sSeq (sIf (tVal (eOp opEq (eVar 0) (eC (.str "w")))) (sRet (eCall (arg 1 m_is_word) (aCons (eVar 1) aNil))) sNil)
  (sSeq (sIf (tVal (eOp opEq (eVar 0) (eC (.str "g")))) (sRet (eCall (arg 3 m_is_number) (aCons (eVar 1) (aCons (eC (.int 0)) (aCons (eOp opSub (eVar 2) (eC (.int 1))) aNil))))) sNil)
  (sSeq (sIf (tVal (eOp opEq (eVar 0) (eC (.str "k")))) (sRet (eCall (arg 3 m_is_number) (aCons (eVar 1) (aCons (eC (.int 0)) (aCons (eC (.int 12)) aNil))))) sNil)
  (sSeq (sIf (tVal (eOp opEq (eVar 0) (eC (.str "t")))) (sRet (eCall (arg 2 (R 2)) (aCons (eVar 1) (aCons (eVar 2) aNil)))) sNil)
  (sRet (eCB oIsi (aCons (eVar 1) (aCons (eC (.ty "tuple")) aNil)))))))))
def b_is_test (R : Nat → List Vl → M Vl) : SM := (sSeq (sForX (aRng (aCons (eC (.int 3)) aNil)) (gNm 2)
  (sIf (tAndM (tVal (eCB oIsi (aCons (eVar 0) (aCons (eC (.ty "tuple")) aNil)))) (tAndM (tVal (eOp opEq (eCB oLen (aCons (eVar 0) aNil)) (eC (.int 2)))) (tVal (eOp opEqS (eOp opIx (eVar 0) (eC (.int 0))) (eC (.str "not")))))) (sSet 0 (eOp opIx (eVar 0) (eC (.int 1)))) sNil))
  (sRet (eCall (arg 3 (R 0)) (aCons (eVar 0) (aCons (eVar 1) (aCons (eC (.bl true)) aNil))))))
def R0 : Nat → Nat → List Vl → M Vl
  | 0, _ => mFail
  | n + 1, 0 => fnM 6 (b_has_form (R0 n))
  | n + 1, 1 => fnM 3 (b_is_part (R0 n))
  | n + 1, 2 => fnM 3 (b_is_test (R0 n))
  | _ + 1, _ => mFail
def m_has_form : List Vl → M Vl := R0 12 0
def m_is_part : List Vl → M Vl := R0 12 1
def m_is_test : List Vl → M Vl := R0 12 2
def b_inner_blocks : SM := (sSeq (sIf (tVal (eOp opEq (eOp opIx (eVar 0) (eC (.int 0))) (eC (.str "if")))) (sRet (eSl opSl (eVar 0) (some (eC (.int 2))) none)) sNil)
  (sRet (eIfM (tVal (eOp opEq (eOp opIx (eVar 0) (eC (.int 0))) (eC (.str "repeat")))) (eSl opSl (eVar 0) (some (eC (.int 2))) none) (eCB oTup aNil))))
def m_inner_blocks : List Vl → M Vl := fnM 1 b_inner_blocks
def b_listed (R : Nat → List Vl → M Vl) : SM := (sSeq (sSet 2 (eCB oLst aNil))
  (sSeq (sForX (aTup (eVar 0)) (gNm 3)
  (sSeq (sExpr (eBm .list oAppend (eVar 2) (aCons (eCB oTup (aCons (eVar 1) (aCons (eVar 3) aNil))) aNil)))
  (sForX (aTup (eCall (arg 1 m_inner_blocks) (aCons (eVar 3) aNil))) (gNm 4)
  (sExpr (eBm .list oExtend (eVar 2) (aCons (eCall (arg 2 (R 0)) (aCons (eVar 4) (aCons (eOp opAdd (eVar 1) (eC (.int 1))) aNil))) aNil))))))
  (sRet (eVar 2))))
def R1 : Nat → Nat → List Vl → M Vl
  | 0, _ => mFail
  | n + 1, 0 => fnM 5 (b_listed (R1 n))
  | _ + 1, _ => mFail
def m_listed : List Vl → M Vl := R1 12 0
def b_first_error (R : Nat → List Vl → M Vl) : SM := (sSeq (sForX (aTup (eVar 0)) (gNm 4)
  (sSeq (sIf (tVal (eOp opGt (eVar 3) (eC (.int 4)))) (sRet (eCB oTup (aCons (eCB oLen (aCons (eVar 2) aNil)) (aCons (eC (.str "nest")) aNil)))) sNil)
  (sSeq (sIf (tNotM (tVal (eCall (arg 3 m_has_form) (aCons (eVar 4) (aCons (eVar 1) (aCons (eC (.bl false)) aNil)))))) (sRet (eCB oTup (aCons (eCB oLen (aCons (eVar 2) aNil)) (aCons (eC (.str "statement")) aNil)))) sNil)
  (sSeq (sExpr (eBm .list oAppend (eVar 2) (aCons (eVar 4) aNil)))
  (sForX (aTup (eCall (arg 1 m_inner_blocks) (aCons (eVar 4) aNil))) (gNm 5)
  (sSeq (sSet 6 (eCall (arg 4 (R 0)) (aCons (eVar 5) (aCons (eVar 1) (aCons (eVar 2) (aCons (eOp opAdd (eVar 3) (eC (.int 1))) aNil))))))
  (sIf (tVal (eOp opNotN (eVar 6) (eC .non))) (sRet (eVar 6)) sNil)))))))
  (sRet (eC .non)))
def R2 : Nat → Nat → List Vl → M Vl
  | 0, _ => mFail
  | n + 1, 0 => fnM 7 (b_first_error (R2 n))
  | _ + 1, _ => mFail
def m_first_error : List Vl → M Vl := R2 12 0
def b_weight_of (R : Nat → List Vl → M Vl) : SM := (sSeq (sSet 1 (eC (.int 0)))
  (sSeq (sForX (aTup (eVar 0)) (gNm 2)
  (sSeq (sSet 3 (eCB oSum (aCons (eLcX (aTup (eCall (arg 1 m_inner_blocks) (aCons (eVar 2) aNil))) (glN 4) tTrue (eCall (arg 1 (R 0)) (aCons (eVar 4) aNil)) [4]) aNil)))
  (sAug 1 opIAdd (eOp opAdd (eC (.int 1)) (eIfM (tVal (eOp opEq (eOp opIx (eVar 2) (eC (.int 0))) (eC (.str "repeat")))) (eOp opMul (eOp opIx (eVar 2) (eC (.int 1))) (eVar 3)) (eVar 3))))))
  (sRet (eVar 1))))
def R3 : Nat → Nat → List Vl → M Vl
  | 0, _ => mFail
  | n + 1, 0 => fnM 5 (b_weight_of (R3 n))
  | _ + 1, _ => mFail
def m_weight_of : List Vl → M Vl := R3 12 0
def b_statements_of : SM := (sRet (eLc 100000 (iLst (eCall (arg 2 m_listed) (aCons (eOp opIx (eVar 0) (eC (.int 1))) (aCons (eC (.int 0)) aNil)))) (glT [1, 2]) tTrue (eVar 2) [1, 2]))
def m_statements_of : List Vl → M Vl := fnM 3 b_statements_of
def b_wishes_of : SM := (sRet (eCB oTuple (aCons (eSsc 1 "wish" 1 (eCall (arg 1 m_statements_of) (aCons (eVar 0) aNil))) aNil)))
def m_wishes_of : List Vl → M Vl := fnM 2 b_wishes_of
def b_program_error : SM := (sSeq (sIf (tOrM (tNotM (tVal (eCB oIsi (aCons (eVar 0) (aCons (eC (.ty "tuple")) aNil))))) (tOrM (tVal (eOp opNe (eCB oLen (aCons (eVar 0) aNil)) (eC (.int 2)))) (tNotM (tVal (eCall (arg 3 m_is_number) (aCons (eOp opIx (eVar 0) (eC (.int 0))) (aCons (eC (.int 0)) (aCons (eC (.int 3)) aNil)))))))) (sRet (eCB oTup (aCons (eC .non) (aCons (eC (.str "program")) aNil)))) sNil)
  (sSeq (sIf (tNotM (tVal (eCB oIsi (aCons (eOp opIx (eVar 0) (eC (.int 1))) (aCons (eC (.ty "tuple")) aNil))))) (sRet (eCB oTup (aCons (eC .non) (aCons (eC (.str "program")) aNil)))) sNil)
  (sSeq (sSet 1 (eCB oLst aNil))
  (sSeq (sSet 2 (eCall (arg 4 m_first_error) (aCons (eOp opIx (eVar 0) (eC (.int 1))) (aCons (eOp opIx (eVar 0) (eC (.int 0))) (aCons (eVar 1) (aCons (eC (.int 0)) aNil))))))
  (sSeq (sIf (tVal (eOp opNotN (eVar 2) (eC .non))) (sRet (eVar 2)) sNil)
  (sSeq (sIf (tVal (eOp opGt (eCB oLen (aCons (eVar 1) aNil)) (eC (.int 30)))) (sRet (eCB oTup (aCons (eC .non) (aCons (eC (.str "places")) aNil)))) sNil)
  (sSeq (sIf (tVal (eOp opGt (eCall (arg 1 m_weight_of) (aCons (eOp opIx (eVar 0) (eC (.int 1))) aNil)) (eC (.int 200)))) (sRet (eCB oTup (aCons (eC .non) (aCons (eC (.str "weight")) aNil)))) sNil)
  (sRet (eIfM (tVal (eOp opGt (eCB oLen (aCons (eCall (arg 1 m_wishes_of) (aCons (eVar 0) aNil)) aNil)) (eC (.int 4)))) (eCB oTup (aCons (eC .non) (aCons (eC (.str "wishes")) aNil))) (eC .non))))))))))
def m_program_error : List Vl → M Vl := fnM 3 b_program_error
def b__law_deck : SM := (sRet (eCB oLst (aCons (eLc 100000 (iLst (eSl opSl (eVar 0) none (some (eC (.int 63))))) (glN 1) tTrue (eCB oAbs (aCons (eVar 1) aNil)) [1]) (aCons (eC (.int 0)) aNil))))
def m__law_deck : List Vl → M Vl := fnM 2 b__law_deck
def b__law_draw : SM := (sSeq (sAsg (gSb opSet (eVar 0) (eC (.int 1))) (eOp opAdd (eOp opIx (eVar 0) (eC (.int 1))) (eC (.int 1))))
  (sSeq (sAsg (gTp [3, 4]) (eCB oTup (aCons (eC (.int 0)) (aCons (eOp1 opNeg (eC (.int 1))) aNil))))
  (sSeq (sIf (tVal (eOp opGt (eCB oLen (aCons (eOp opIx (eVar 0) (eC (.int 0))) aNil)) (eC (.int 0)))) (sSeq (sSet 4 (eOp opMod (eCB oInt (aCons (eOp opIx (eVar 0) (eC (.int 1))) aNil)) (eCB oLen (aCons (eOp opIx (eVar 0) (eC (.int 0))) aNil))))
  (sSet 3 (eOp opIx (eOp opIx (eVar 0) (eC (.int 0))) (eVar 4)))) sNil)
  (sSeq (sIf (tVal (eOp opGe (eVar 3) (eOp opPow (eC (.int 10)) (eC (.int 18))))) (sSeq (sAsg (gSb opSet (eOp opIx (eVar 0) (eC (.int 0))) (eVar 4)) (eOp opFdiv (eCB oInt (aCons (eVar 3) aNil)) (eVar 1)))
  (sRet (eOp opMod (eCB oInt (aCons (eVar 3) aNil)) (eVar 1)))) sNil)
  (sSeq (sSet 2 (eOp opAdd (eOp opAdd (eOp opMod (eCB oInt (aCons (eVar 3) aNil)) (eC (.int 2147483563))) (eOp opMul (eC (.int 8117)) (eOp opIx (eVar 0) (eC (.int 1))))) (eC (.int 3))))
  (sRet (eOp opMod (eCB oInt (aCons (eOp opMod (eCB oInt (aCons (eOp opPow (eVar 2) (eC (.int 5))) aNil)) (eC (.int 2147483629))) aNil)) (eVar 1))))))))
def m__law_draw : List Vl → M Vl := fnM 5 b__law_draw
def b__law_one : SM := (sRet (eOp opIx (eVar 1) (eCall (arg 2 m__law_draw) (aCons (eVar 0) (aCons (eCB oLen (aCons (eVar 1) aNil)) aNil)))))
def m__law_one : List Vl → M Vl := fnM 2 b__law_one
def b__law_kept : SM := (sSeq (sSet 0 (eC (.str "as ask cut drop else full given hold if keep make not pass repeat same say set take weak wish wished")))
  (sRet (eBm0 .str oSplit0 (eVar 0))))
def m__law_kept : List Vl → M Vl := fnM 1 b__law_kept
def b__law_name : SM := (sSeq (sSet 1 (eC (.str "abcdefghijklmnopqrstuvwxyz")))
  (sSeq (sSet 2 (eCall (arg 2 m__law_one) (aCons (eVar 0) (aCons (eVar 1) aNil))))
  (sSeq (sForX (aRng (aCons (eCall (arg 2 m__law_one) (aCons (eVar 0) (aCons (eCB oLst (aCons (eC (.int 0)) (aCons (eC (.int 1)) (aCons (eC (.int 7)) (aCons (eCall (arg 2 m__law_draw) (aCons (eVar 0) (aCons (eC (.int 8)) aNil))) aNil))))) aNil))) aNil)) (gNm 3)
  (sSet 2 (eOp opAdd (eVar 2) (eCall (arg 2 m__law_one) (aCons (eVar 0) (aCons (eOp opAdd (eVar 1) (eC (.str "0123456789"))) aNil))))))
  (sRet (eIfM (tVal (eOp opNotIn (eVar 2) (eCall m__law_kept aNil))) (eVar 2) (eOp opAdd (eSl opSl (eVar 2) none (some (eC (.int 7)))) (eC (.str "0"))))))))
def m__law_name : List Vl → M Vl := fnM 4 b__law_name
def b__law_word : SM := (sSeq (sSet 1 (eC (.str "0123456789abcdefghijklmnopqrstuvwxyz")))
  (sRet (eBm .str oJoin (eC (.str "")) (aCons (eLcX (aRng (aCons (eCall (arg 2 m__law_one) (aCons (eVar 0) (aCons (eCB oLst (aCons (eC (.int 1)) (aCons (eC (.int 2)) (aCons (eC (.int 8)) (aCons (eOp opAdd (eC (.int 1)) (eCall (arg 2 m__law_draw) (aCons (eVar 0) (aCons (eC (.int 8)) aNil)))) aNil))))) aNil))) aNil)) (glN 2) tTrue (eCall (arg 2 m__law_one) (aCons (eVar 0) (aCons (eVar 1) aNil))) [2]) aNil))))
def m__law_word : List Vl → M Vl := fnM 3 b__law_word
def b__law_pool : SM := (sSeq (sSet 1 (eLcX (aRng (aCons (eOp opAdd (eC (.int 1)) (eCall (arg 2 m__law_draw) (aCons (eVar 0) (aCons (eC (.int 5)) aNil)))) aNil)) (glN 2) tTrue (eCall (arg 1 m__law_name) (aCons (eVar 0) aNil)) [2]))
  (sRet (eCB oLst (aCons (eVar 1) (aCons (eLcX (aRng (aCons (eOp opAdd (eC (.int 1)) (eCall (arg 2 m__law_draw) (aCons (eVar 0) (aCons (eC (.int 4)) aNil)))) aNil)) (glN 2) tTrue (eCall (arg 1 m__law_word) (aCons (eVar 0) aNil)) [2]) (aCons (eCall (arg 2 m__law_draw) (aCons (eVar 0) (aCons (eC (.int 4)) aNil))) aNil))))))
def m__law_pool : List Vl → M Vl := fnM 3 b__law_pool
def b__law_any_test : SM := (sSeq (sPar3 5 6 7 (aCons (eCall (arg 2 m__law_one) (aCons (eVar 0) (aCons (eOp opIx (eVar 1) (eC (.int 0))) aNil))) (aCons (eCall (arg 2 m__law_one) (aCons (eVar 0) (aCons (eOp opIx (eVar 1) (eC (.int 0))) aNil))) (aCons (eCall (arg 2 m__law_one) (aCons (eVar 0) (aCons (eOp opIx (eVar 1) (eC (.int 1))) aNil))) aNil))))
  (sSeq (sSet 2 (eCB oLst (aCons (eCB oTup (aCons (eC (.str "set")) (aCons (eVar 5) aNil))) (aCons (eCB oTup (aCons (eC (.str "same")) (aCons (eVar 5) (aCons (eVar 6) aNil)))) (aCons (eCB oTup (aCons (eC (.str "full")) (aCons (eVar 5) (aCons (eVar 6) aNil)))) (aCons (eCB oTup (aCons (eC (.str "wished")) (aCons (eVar 7) aNil))) aNil))))))
  (sSeq (sIf (tVal (eOp opGt (eOp opIx (eVar 1) (eC (.int 2))) (eC (.int 0)))) (sExpr (eBm .list oAppend (eVar 2) (aCons (eCB oTup (aCons (eC (.str "given")) (aCons (eCall (arg 2 m__law_draw) (aCons (eVar 0) (aCons (eOp opIx (eVar 1) (eC (.int 2))) aNil))) aNil))) aNil))) sNil)
  (sSeq (sSet 3 (eCall (arg 2 m__law_one) (aCons (eVar 0) (aCons (eVar 2) aNil))))
  (sSeq (sForX (aRng (aCons (eCall (arg 2 m__law_one) (aCons (eVar 0) (aCons (eCB oLst (aCons (eC (.int 0)) (aCons (eC (.int 0)) (aCons (eC (.int 1)) (aCons (eC (.int 2)) (aCons (eC (.int 3)) aNil)))))) aNil))) aNil)) (gNm 4)
  (sSet 3 (eCB oTup (aCons (eC (.str "not")) (aCons (eVar 3) aNil)))))
  (sRet (eVar 3)))))))
def m__law_any_test : List Vl → M Vl := fnM 8 b__law_any_test
def b__law_row : SM := (sSeq (sPar3 3 4 5 (aCons (eCall (arg 2 m__law_one) (aCons (eVar 0) (aCons (eOp opIx (eVar 1) (eC (.int 0))) aNil))) (aCons (eCall (arg 2 m__law_one) (aCons (eVar 0) (aCons (eOp opIx (eVar 1) (eC (.int 0))) aNil))) (aCons (eCall (arg 2 m__law_one) (aCons (eVar 0) (aCons (eOp opIx (eVar 1) (eC (.int 0))) aNil))) aNil))))
  (sSeq (sPar 6 7 (aCons (eCall (arg 2 m__law_one) (aCons (eVar 0) (aCons (eOp opIx (eVar 1) (eC (.int 0))) aNil))) (aCons (eCall (arg 2 m__law_one) (aCons (eVar 0) (aCons (eOp opIx (eVar 1) (eC (.int 1))) aNil))) aNil)))
  (sSeq (sSet 2 (eCB oLst (aCons (eCB oTup (aCons (eC (.str "make")) (aCons (eVar 3) aNil))) (aCons (eCB oTup (aCons (eC (.str "keep")) (aCons (eVar 3) aNil))) (aCons (eCB oTup (aCons (eC (.str "drop")) (aCons (eVar 3) aNil))) (aCons (eCB oTup (aCons (eC (.str "wish")) (aCons (eVar 3) (aCons (eVar 7) aNil)))) (aCons (eCB oTup (aCons (eC (.str "name")) (aCons (eVar 3) (aCons (eVar 4) aNil)))) (aCons (eCB oTup (aCons (eC (.str "hold")) (aCons (eVar 3) (aCons (eVar 6) (aCons (eVar 4) aNil))))) aNil))))))))
  (sSeq (sSet 2 (eOp opAdd (eVar 2) (eCB oLst (aCons (eCB oTup (aCons (eC (.str "weak")) (aCons (eVar 3) (aCons (eVar 6) (aCons (eVar 4) aNil))))) (aCons (eCB oTup (aCons (eC (.str "cut")) (aCons (eVar 3) (aCons (eVar 6) aNil)))) (aCons (eCB oTup (aCons (eC (.str "take")) (aCons (eVar 5) (aCons (eVar 3) (aCons (eVar 6) aNil))))) (aCons (eCB oTup (aCons (eC (.str "say")) (aCons (eVar 7) aNil))) aNil)))))))
  (sRet (eCall (arg 2 m__law_one) (aCons (eVar 0) (aCons (eOp opAdd (eVar 2) (eCB oLst (aCons (eCB oTup (aCons (eC (.str "ask")) (aCons (eCall (arg 2 m__law_any_test) (aCons (eVar 0) (aCons (eVar 1) aNil))) aNil))) aNil))) aNil))))))))
def m__law_row : List Vl → M Vl := fnM 8 b__law_row
def b__law_is_name : SM := (sSeq (sSet 1 (eC (.str "abcdefghijklmnopqrstuvwxyz")))
  (sSeq (sIf (tOrM (tNotM (tVal (eCB oIsi (aCons (eVar 0) (aCons (eC (.ty "str")) aNil))))) (tOrM (tNotM (tVal (eChain opLe opLe (eC (.int 1)) (eCB oLen (aCons (eVar 0) aNil)) (eC (.int 8))))) (tVal (eOp opIn (eVar 0) (eCall m__law_kept aNil))))) (sRet (eC (.bl false))) sNil)
  (sRet (eAndM (eOp opIn (eOp opIx (eVar 0) (eC (.int 0))) (eVar 1)) (eOp opEqE (eLcX (aStr (eVar 0)) (glN 2) (tVal (eOp opNotIn (eVar 2) (eOp opAdd (eVar 1) (eC (.str "0123456789"))))) (eVar 2) [2]) (eCB oLst aNil))))))
def m__law_is_name : List Vl → M Vl := fnM 3 b__law_is_name
def b__law_is_word : SM := (sSeq (sSet 1 (eC (.str "0123456789abcdefghijklmnopqrstuvwxyz")))
  (sRet (eAndM (eCB oIsi (aCons (eVar 0) (aCons (eC (.ty "str")) aNil))) (eAndM (eChain opLe opLe (eC (.int 1)) (eCB oLen (aCons (eVar 0) aNil)) (eC (.int 8))) (eOp opEqE (eLcX (aStr (eVar 0)) (glN 2) (tVal (eOp opNotIn (eVar 2) (eVar 1))) (eVar 2) [2]) (eCB oLst aNil))))))
def m__law_is_word : List Vl → M Vl := fnM 3 b__law_is_word
def b__law_is_number : SM := (sRet (eAndM (eCB oIsi (aCons (eVar 0) (aCons (eC (.ty "int")) aNil))) (eAndM (eNotM (eCB oIsi (aCons (eVar 0) (aCons (eC (.ty "bool")) aNil)))) (eChain opLe opLe (eVar 1) (eVar 0) (eVar 2)))))
def m__law_is_number : List Vl → M Vl := fnM 3 b__law_is_number
def b__law_is_test : SM := (sSeq (sSet 2 (eC (.int 0)))
  (sSeq (loopW (tAndM (tVal (eOp opLt (eVar 2) (eC (.int 3)))) (tAndM (tVal (eCB oIsi (aCons (eVar 0) (aCons (eC (.ty "tuple")) aNil)))) (tAndM (tVal (eOp opEq (eCB oLen (aCons (eVar 0) aNil)) (eC (.int 2)))) (tVal (eOp opEqS (eOp opIx (eVar 0) (eC (.int 0))) (eC (.str "not"))))))) (sPar 0 2 (aCons (eOp opIx (eVar 0) (eC (.int 1))) (aCons (eOp opAdd (eVar 2) (eC (.int 1))) aNil))) 100000)
  (sSeq (sIf (tOrM (tNotM (tVal (eCB oIsi (aCons (eVar 0) (aCons (eC (.ty "tuple")) aNil))))) (tVal (eOp opLt (eCB oLen (aCons (eVar 0) aNil)) (eC (.int 2))))) (sRet (eC (.bl false))) sNil)
  (sSeq (sPar 3 4 (aCons (eOp opIx (eVar 0) (eC (.int 0))) (aCons (eSl opSl (eVar 0) (some (eC (.int 1))) none) aNil)))
  (sSeq (sIf (tVal (eOp opEqS (eVar 3) (eC (.str "given")))) (sRet (eAndM (eOp opEq (eCB oLen (aCons (eVar 4) aNil)) (eC (.int 1))) (eCall (arg 3 m__law_is_number) (aCons (eOp opIx (eVar 4) (eC (.int 0))) (aCons (eC (.int 0)) (aCons (eOp opSub (eVar 1) (eC (.int 1))) aNil)))))) sNil)
  (sSeq (sIf (tVal (eOp opEqS (eVar 3) (eC (.str "wished")))) (sRet (eAndM (eOp opEq (eCB oLen (aCons (eVar 4) aNil)) (eC (.int 1))) (eCall (arg 1 m__law_is_word) (aCons (eOp opIx (eVar 4) (eC (.int 0))) aNil)))) sNil)
  (sSeq (sIf (tAndM (tVal (eOp opNeS (eVar 3) (eC (.str "set")))) (tAndM (tVal (eOp opNeS (eVar 3) (eC (.str "same")))) (tVal (eOp opNeS (eVar 3) (eC (.str "full")))))) (sRet (eC (.bl false))) sNil)
  (sRet (eAndM (eOp opEq (eCB oLen (aCons (eVar 4) aNil)) (eIfM (tVal (eOp opEqS (eVar 3) (eC (.str "set")))) (eC (.int 1)) (eC (.int 2)))) (eOp opEqE (eLcX (aTup (eVar 4)) (glN 5) (tNotM (tVal (eCall (arg 1 m__law_is_name) (aCons (eVar 5) aNil)))) (eVar 5) [5]) (eCB oLst aNil)))))))))))
def m__law_is_test : List Vl → M Vl := fnM 6 b__law_is_test
def b__law_is_row : SM := (sSeq (sIf (tOrM (tNotM (tVal (eCB oIsi (aCons (eVar 0) (aCons (eC (.ty "tuple")) aNil))))) (tOrM (tVal (eOp opLt (eCB oLen (aCons (eVar 0) aNil)) (eC (.int 2)))) (tNotM (tVal (eCB oIsi (aCons (eOp opIx (eVar 0) (eC (.int 0))) (aCons (eC (.ty "str")) aNil))))))) (sRet (eC (.bl false))) sNil)
  (sSeq (sPar 3 4 (aCons (eOp opIx (eVar 0) (eC (.int 0))) (aCons (eSl opSl (eVar 0) (some (eC (.int 1))) none) aNil)))
  (sSeq (sIf (tVal (eOp opEqS (eVar 3) (eC (.str "ask")))) (sRet (eAndM (eOp opEq (eCB oLen (aCons (eVar 4) aNil)) (eC (.int 1))) (eCall (arg 2 m__law_is_test) (aCons (eOp opIx (eVar 4) (eC (.int 0))) (aCons (eVar 1) aNil))))) sNil)
  (sSeq (sIf (tVal (eOp opEqS (eVar 3) (eC (.str "if")))) (sSeq (sSet 5 (eLcX (aTup (eSl opSl (eVar 4) (some (eC (.int 1))) none)) (glN 6) (tVal (eCB oIsi (aCons (eVar 6) (aCons (eC (.ty "tuple")) aNil)))) (eVar 6) [6]))
  (sRet (eAndM (eOp opEq (eCB oLen (aCons (eVar 4) aNil)) (eC (.int 3))) (eAndM (eCall (arg 2 m__law_is_test) (aCons (eOp opIx (eVar 4) (eC (.int 0))) (aCons (eVar 1) aNil))) (eOp opEq (eCB oLen (aCons (eVar 5) aNil)) (eC (.int 2))))))) sNil)
  (sSeq (sIf (tVal (eOp opEqS (eVar 3) (eC (.str "repeat")))) (sRet (eAndM (eOp opEq (eCB oLen (aCons (eVar 4) aNil)) (eC (.int 2))) (eAndM (eCall (arg 3 m__law_is_number) (aCons (eOp opIx (eVar 4) (eC (.int 0))) (aCons (eC (.int 0)) (aCons (eC (.int 12)) aNil)))) (eCB oIsi (aCons (eOp opIx (eVar 4) (eC (.int 1))) (aCons (eC (.ty "tuple")) aNil)))))) sNil)
  (sSeq (sIf (tVal (eOp opEqS (eVar 3) (eC (.str "say")))) (sRet (eAndM (eOp opEq (eCB oLen (aCons (eVar 4) aNil)) (eC (.int 1))) (eCall (arg 1 m__law_is_word) (aCons (eOp opIx (eVar 4) (eC (.int 0))) aNil)))) sNil)
  (sSeq (sIf (tVal (eOp opEqS (eVar 3) (eC (.str "wish")))) (sRet (eAndM (eOp opEq (eCB oLen (aCons (eVar 4) aNil)) (eC (.int 2))) (eAndM (eCall (arg 1 m__law_is_name) (aCons (eOp opIx (eVar 4) (eC (.int 0))) aNil)) (eCall (arg 1 m__law_is_word) (aCons (eOp opIx (eVar 4) (eC (.int 1))) aNil))))) sNil)
  (sSeq (sSet 2 (eDict [((eC (.str "make")), (eC (.int 1))), ((eC (.str "keep")), (eC (.int 1))), ((eC (.str "drop")), (eC (.int 1))), ((eC (.str "name")), (eC (.int 2))), ((eC (.str "hold")), (eC (.int 3))), ((eC (.str "weak")), (eC (.int 3))), ((eC (.str "cut")), (eC (.int 2))), ((eC (.str "take")), (eC (.int 3)))]))
  (sRet (eAndM (eOp opEq (eCB oLen (aCons (eVar 4) aNil)) (eDGet2 (eVar 2) (eVar 3) (eC (.int 0)))) (eOp opEqE (eLcX (aTup (eVar 4)) (glN 6) (tNotM (tVal (eCall (arg 1 m__law_is_name) (aCons (eVar 6) aNil)))) (eVar 6) [6]) (eCB oLst aNil))))))))))))
def m__law_is_row : List Vl → M Vl := fnM 7 b__law_is_row
def b__law_odd : SM := (sSeq (sPar 5 6 (aCons (eCall (arg 2 m__law_one) (aCons (eVar 0) (aCons (eOp opIx (eVar 1) (eC (.int 0))) aNil))) (aCons (eCall (arg 2 m__law_one) (aCons (eVar 0) (aCons (eOp opIx (eVar 1) (eC (.int 1))) aNil))) aNil)))
  (sSeq (sSet 2 (eCall (arg 2 m__law_one) (aCons (eVar 0) (aCons (eC (.str " !#$&'()*+,-./:;<=>?@ABZ[]^_`{|}~\n0a")) aNil))))
  (sSeq (sSet 3 (eCall (arg 2 m__law_draw) (aCons (eVar 0) (aCons (eOp opAdd (eCB oLen (aCons (eVar 5) aNil)) (eC (.int 1))) aNil))))
  (sSeq (sSet 4 (eCB oLst (aCons (eC .non) (aCons (eC (.bl true)) (aCons (eC (.bl false)) (aCons (eC (.int 0)) (aCons (eC (.int 1)) (aCons (eC (.int 3)) (aCons (eC (.int 12)) (aCons (eC (.int 13)) (aCons (eOp1 opNeg (eC (.int 1))) (aCons (eOp opPow (eC (.int 10)) (eC (.int 30))) (aCons (eC (.str "")) (aCons (eVar 5) (aCons (eVar 6) (aCons (eCall (arg 2 m__law_one) (aCons (eVar 0) (aCons (eCall m__law_kept aNil) aNil))) aNil))))))))))))))))
  (sSeq (sSet 4 (eOp opAdd (eVar 4) (eCB oLst (aCons (eOp opAdd (eOp opAdd (eSl opSl (eVar 5) none (some (eVar 3))) (eVar 2)) (eSl opSl (eVar 5) (some (eVar 3)) none)) (aCons (eOp opAdd (eVar 5) (eVar 2)) (aCons (eOp opMulS (eVar 5) (eC (.int 9))) (aCons (eOp opAdd (eC (.str "9")) (eVar 5)) (aCons (eCB oLst (aCons (eVar 5) aNil)) (aCons (eCB oTup (aCons (eVar 5) aNil)) (aCons (eCB oTup aNil) (aCons (eCB oTup (aCons (eCB oTup aNil) (aCons (eCB oTup aNil) aNil))) (aCons eDict0 aNil))))))))))))
  (sSeq (sSet 4 (eOp opAdd (eVar 4) (eCB oLst (aCons (eCB oLst aNil) (aCons (eCB oTup (aCons (eC (.str "set")) (aCons (eVar 5) aNil))) (aCons (eCB oTup (aCons (eC (.str "not")) (aCons (eCB oTup (aCons (eC (.str "set")) (aCons (eVar 5) aNil))) aNil))) (aCons (eCB oLst (aCons (eC (.str "set")) (aCons (eVar 5) aNil))) (aCons (eCB oTup (aCons (eC (.str "given")) (aCons (eOp opIx (eVar 1) (eC (.int 2))) aNil))) (aCons (eCB oTup (aCons (eC (.str "given")) (aCons (eC (.bl true)) aNil))) aNil)))))))))
  (sRet (eCall (arg 2 m__law_one) (aCons (eVar 0) (aCons (eOp opAdd (eVar 4) (eCB oLst (aCons (eC (.str "make")) (aCons (eCB oTup (aCons (eC (.str "set")) (aCons (eC (.str "set")) aNil))) aNil)))) aNil))))))))))
def m__law_odd : List Vl → M Vl := fnM 7 b__law_odd
def b__law_bent (R : Nat → List Vl → M Vl) : SM := (sSeq (sPar 6 7 (aCons (eCall (arg 2 m__law_draw) (aCons (eVar 0) (aCons (eCB oLen (aCons (eVar 2) aNil)) aNil))) (aCons (eCall (arg 2 m__law_draw) (aCons (eVar 0) (aCons (eC (.int 8)) aNil))) aNil)))
  (sSeq (sSet 4 (eOp opIx (eVar 2) (eVar 6)))
  (sSeq (sIf (tAndM (tVal (eOp opLt (eVar 7) (eC (.int 4)))) (tAndM (tVal (eOp opGt (eVar 3) (eC (.int 0)))) (tAndM (tVal (eCB oIsi (aCons (eVar 4) (aCons (eC (.ty "tuple")) aNil)))) (tVal (eOp opNeE (eVar 4) (eCB oTup aNil)))))) (sRet (eOp opAdd (eOp opAdd (eSl opSl (eVar 2) none (some (eVar 6))) (eCB oTup (aCons (eCall (arg 4 (R 0)) (aCons (eVar 0) (aCons (eVar 1) (aCons (eVar 4) (aCons (eOp opSub (eVar 3) (eC (.int 1))) aNil))))) aNil))) (eSl opSl (eVar 2) (some (eOp opAdd (eVar 6) (eC (.int 1)))) none))) sNil)
  (sSeq (sIf (tVal (eOp opLt (eVar 7) (eC (.int 5)))) (sRet (eOp opAdd (eOp opAdd (eSl opSl (eVar 2) none (some (eVar 6))) (eCB oTup (aCons (eCall (arg 2 m__law_odd) (aCons (eVar 0) (aCons (eVar 1) aNil))) aNil))) (eSl opSl (eVar 2) (some (eOp opAdd (eVar 6) (eC (.int 1)))) none))) sNil)
  (sSeq (sIf (tVal (eOp opEq (eVar 7) (eC (.int 5)))) (sRet (eOp opAdd (eSl opSl (eVar 2) none (some (eVar 6))) (eSl opSl (eVar 2) (some (eOp opAdd (eVar 6) (eC (.int 1)))) none))) sNil)
  (sSeq (sIf (tVal (eOp opEq (eVar 7) (eC (.int 6)))) (sRet (eOp opAdd (eOp opAdd (eSl opSl (eVar 2) none (some (eVar 6))) (eCB oTup (aCons (eCall (arg 2 m__law_odd) (aCons (eVar 0) (aCons (eVar 1) aNil))) aNil))) (eSl opSl (eVar 2) (some (eVar 6)) none))) sNil)
  (sSeq (sSet 5 (eCB oLst (aCons (eCB oList (aCons (eVar 2) aNil)) (aCons (eOp opAdd (eVar 2) (eSl opSl (eVar 2) (some (eOp1 opNeg (eC (.int 1)))) none)) (aCons (eRev (eVar 2) (eOp1 opNeg (eC (.int 1)))) (aCons (eCall (arg 2 m__law_odd) (aCons (eVar 0) (aCons (eVar 1) aNil))) (aCons (eCB oTup (aCons (eC (.str "not")) (aCons (eVar 2) aNil))) (aCons (eOp opAdd (eSl opSl (eVar 2) none (some (eC (.int 1)))) (eCB oTup (aCons (eCB oTup aNil) aNil))) aNil))))))))
  (sRet (eCall (arg 2 m__law_one) (aCons (eVar 0) (aCons (eVar 5) aNil)))))))))))
def R4 : Nat → Nat → List Vl → M Vl
  | 0, _ => mFail
  | n + 1, 0 => fnM 8 (b__law_bent (R4 n))
  | _ + 1, _ => mFail
def m__law_bent : List Vl → M Vl := R4 12 0
def b_law : SM := (sSeq (sSet 1 (eCall (arg 1 m__law_deck) (aCons (eVar 0) aNil)))
  (sSeq (sForX (aRng (aCons (eC (.int 12)) aNil)) (gNm 2)
  (sSeq (sSet 3 (eCall (arg 1 m__law_pool) (aCons (eVar 1) aNil)))
  (sSeq (sSet 4 (eCall (arg 2 m__law_row) (aCons (eVar 1) (aCons (eVar 3) aNil))))
  (sSeq (sIf (tVal (eOp opEq (eCall (arg 2 m__law_draw) (aCons (eVar 1) (aCons (eC (.int 3)) aNil))) (eC (.int 0)))) (sSeq (sSet 7 (eCall (arg 2 m__law_any_test) (aCons (eVar 1) (aCons (eVar 3) aNil))))
  (sSet 4 (eCall (arg 2 m__law_one) (aCons (eVar 1) (aCons (eCB oLst (aCons (eCB oTup (aCons (eC (.str "if")) (aCons (eVar 7) (aCons (eCB oTup aNil) (aCons (eCB oTup aNil) aNil))))) (aCons (eCB oTup (aCons (eC (.str "repeat")) (aCons (eCall (arg 2 m__law_draw) (aCons (eVar 1) (aCons (eC (.int 13)) aNil))) (aCons (eCB oTup aNil) aNil)))) (aCons (eCB oTup (aCons (eC (.str "ask")) (aCons (eVar 7) aNil))) aNil)))) aNil))))) sNil)
  (sSeq (sForX (aRng (aCons (eCall (arg 2 m__law_draw) (aCons (eVar 1) (aCons (eC (.int 3)) aNil))) aNil)) (gNm 5)
  (sSet 4 (eIfM (tAndM (tVal (eCB oIsi (aCons (eVar 4) (aCons (eC (.ty "tuple")) aNil)))) (tVal (eOp opNeE (eVar 4) (eCB oTup aNil)))) (eCall (arg 4 m__law_bent) (aCons (eVar 1) (aCons (eVar 3) (aCons (eVar 4) (aCons (eC (.int 5)) aNil))))) (eCall (arg 2 m__law_odd) (aCons (eVar 1) (aCons (eVar 3) aNil))))))
  (sSeq (sIf (tAndM (tVal (eCB oIsi (aCons (eVar 4) (aCons (eC (.ty "tuple")) aNil)))) (tAndM (tVal (eOp opGt (eCB oLen (aCons (eVar 4) aNil)) (eC (.int 2)))) (tOrM (tVal (eOp opEqS (eOp opIx (eVar 4) (eC (.int 0))) (eC (.str "if")))) (tVal (eOp opEqS (eOp opIx (eVar 4) (eC (.int 0))) (eC (.str "repeat"))))))) (sSet 4 (eOp opAdd (eSl opSl (eVar 4) none (some (eC (.int 2)))) (eCB oTuple (aCons (eLcX (aTup (eSl opSl (eVar 4) (some (eC (.int 2))) none)) (glN 8) tTrue (eIfM (tVal (eCB oIsi (aCons (eVar 8) (aCons (eC (.ty "tuple")) aNil)))) (eCB oTup aNil) (eVar 8)) [8]) aNil)))) sNil)
  (sSeq (sSet 6 (eIfM (tVal (eCall (arg 2 m__law_is_row) (aCons (eVar 4) (aCons (eOp opIx (eVar 3) (eC (.int 2))) aNil)))) (eC .non) (eCB oTup (aCons (eC (.int 0)) (aCons (eC (.str "statement")) aNil)))))
  (sIf (tVal (eOp opNe (eCB oRepr (aCons (eCall (arg 1 m_program_error) (aCons (eCB oTup (aCons (eOp opIx (eVar 3) (eC (.int 2))) (aCons (eCB oTup (aCons (eVar 4) aNil)) aNil))) aNil)) aNil)) (eCB oRepr (aCons (eVar 6) aNil)))) (sRet (eC (.bl false))) sNil))))))))
  (sRet (eC (.bl true)))))
def m_law : List Vl → M Vl := fnM 9 b_law
/-! what the top has left -/
structure TX (K : PySem.W.Frag) (mg : Str → Option Value) where
  f_is_number : Addr
  d_is_number : FuncData
  F_is_number : Fun K "is_number" "is_number" st_is_number f_is_number d_is_number
  b_is_number : Binds K d_is_number ["value", "low", "high"] []
  g_is_number : mg "is_number" = some (.ref f_is_number)
  f_is_word : Addr
  d_is_word : FuncData
  F_is_word : Fun K "is_word" "is_word" st_is_word f_is_word d_is_word
  b_is_word : Binds K d_is_word ["value"] []
  g_is_word : mg "is_word" = some (.ref f_is_word)
  f_is_name : Addr
  d_is_name : FuncData
  F_is_name : Fun K "is_name" "is_name" st_is_name f_is_name d_is_name
  b_is_name : Binds K d_is_name ["value"] []
  g_is_name : mg "is_name" = some (.ref f_is_name)
  f_has_form : Addr
  d_has_form : FuncData
  F_has_form : Fun K "has_form" "has_form" st_has_form f_has_form d_has_form
  b_has_form : Binds K d_has_form ["value", "givens", "is_inner"] []
  g_has_form : mg "has_form" = some (.ref f_has_form)
  f_is_part : Addr
  d_is_part : FuncData
  F_is_part : Fun K "is_part" "is_part" st_is_part f_is_part d_is_part
  b_is_part : Binds K d_is_part ["sort", "item", "givens"] []
  g_is_part : mg "is_part" = some (.ref f_is_part)
  f_is_test : Addr
  d_is_test : FuncData
  F_is_test : Fun K "is_test" "is_test" st_is_test f_is_test d_is_test
  b_is_test : Binds K d_is_test ["value", "givens"] []
  g_is_test : mg "is_test" = some (.ref f_is_test)
  f_inner_blocks : Addr
  d_inner_blocks : FuncData
  F_inner_blocks : Fun K "inner_blocks" "inner_blocks" st_inner_blocks f_inner_blocks d_inner_blocks
  b_inner_blocks : Binds K d_inner_blocks ["statement"] []
  g_inner_blocks : mg "inner_blocks" = some (.ref f_inner_blocks)
  f_listed : Addr
  d_listed : FuncData
  F_listed : Fun K "listed" "listed" st_listed f_listed d_listed
  b_listed : Binds K d_listed ["block", "depth"] []
  g_listed : mg "listed" = some (.ref f_listed)
  f_first_error : Addr
  d_first_error : FuncData
  F_first_error : Fun K "first_error" "first_error" st_first_error f_first_error d_first_error
  b_first_error : Binds K d_first_error ["block", "givens", "found", "depth"] []
  g_first_error : mg "first_error" = some (.ref f_first_error)
  f_weight_of : Addr
  d_weight_of : FuncData
  F_weight_of : Fun K "weight_of" "weight_of" st_weight_of f_weight_of d_weight_of
  b_weight_of : Binds K d_weight_of ["block"] []
  g_weight_of : mg "weight_of" = some (.ref f_weight_of)
  f_statements_of : Addr
  d_statements_of : FuncData
  F_statements_of : Fun K "statements_of" "statements_of" st_statements_of f_statements_of d_statements_of
  b_statements_of : Binds K d_statements_of ["program"] []
  g_statements_of : mg "statements_of" = some (.ref f_statements_of)
  f_wishes_of : Addr
  d_wishes_of : FuncData
  F_wishes_of : Fun K "wishes_of" "wishes_of" st_wishes_of f_wishes_of d_wishes_of
  b_wishes_of : Binds K d_wishes_of ["program"] []
  g_wishes_of : mg "wishes_of" = some (.ref f_wishes_of)
  f_program_error : Addr
  d_program_error : FuncData
  F_program_error : Fun K "program_error" "program_error" st_program_error f_program_error d_program_error
  b_program_error : Binds K d_program_error ["value"] []
  g_program_error : mg "program_error" = some (.ref f_program_error)
  f__law_deck : Addr
  d__law_deck : FuncData
  F__law_deck : Fun K "_law_deck" "_law_deck" st__law_deck f__law_deck d__law_deck
  b__law_deck : Binds K d__law_deck ["_law_script"] []
  g__law_deck : mg "_law_deck" = some (.ref f__law_deck)
  f__law_draw : Addr
  d__law_draw : FuncData
  F__law_draw : Fun K "_law_draw" "_law_draw" st__law_draw f__law_draw d__law_draw
  b__law_draw : Binds K d__law_draw ["_law_deck_here", "_law_many"] []
  g__law_draw : mg "_law_draw" = some (.ref f__law_draw)
  f__law_one : Addr
  d__law_one : FuncData
  F__law_one : Fun K "_law_one" "_law_one" st__law_one f__law_one d__law_one
  b__law_one : Binds K d__law_one ["_law_deck_here", "_law_items"] []
  g__law_one : mg "_law_one" = some (.ref f__law_one)
  f__law_kept : Addr
  d__law_kept : FuncData
  F__law_kept : Fun K "_law_kept" "_law_kept" st__law_kept f__law_kept d__law_kept
  b__law_kept : Binds K d__law_kept [] []
  g__law_kept : mg "_law_kept" = some (.ref f__law_kept)
  f__law_name : Addr
  d__law_name : FuncData
  F__law_name : Fun K "_law_name" "_law_name" st__law_name f__law_name d__law_name
  b__law_name : Binds K d__law_name ["_law_deck_here"] []
  g__law_name : mg "_law_name" = some (.ref f__law_name)
  f__law_word : Addr
  d__law_word : FuncData
  F__law_word : Fun K "_law_word" "_law_word" st__law_word f__law_word d__law_word
  b__law_word : Binds K d__law_word ["_law_deck_here"] []
  g__law_word : mg "_law_word" = some (.ref f__law_word)
  f__law_pool : Addr
  d__law_pool : FuncData
  F__law_pool : Fun K "_law_pool" "_law_pool" st__law_pool f__law_pool d__law_pool
  b__law_pool : Binds K d__law_pool ["_law_deck_here"] []
  g__law_pool : mg "_law_pool" = some (.ref f__law_pool)
  f__law_any_test : Addr
  d__law_any_test : FuncData
  F__law_any_test : Fun K "_law_any_test" "_law_any_test" st__law_any_test f__law_any_test d__law_any_test
  b__law_any_test : Binds K d__law_any_test ["_law_deck_here", "_law_pool_here"] []
  g__law_any_test : mg "_law_any_test" = some (.ref f__law_any_test)
  f__law_row : Addr
  d__law_row : FuncData
  F__law_row : Fun K "_law_row" "_law_row" st__law_row f__law_row d__law_row
  b__law_row : Binds K d__law_row ["_law_deck_here", "_law_pool_here"] []
  g__law_row : mg "_law_row" = some (.ref f__law_row)
  f__law_is_name : Addr
  d__law_is_name : FuncData
  F__law_is_name : Fun K "_law_is_name" "_law_is_name" st__law_is_name f__law_is_name d__law_is_name
  b__law_is_name : Binds K d__law_is_name ["_law_value"] []
  g__law_is_name : mg "_law_is_name" = some (.ref f__law_is_name)
  f__law_is_word : Addr
  d__law_is_word : FuncData
  F__law_is_word : Fun K "_law_is_word" "_law_is_word" st__law_is_word f__law_is_word d__law_is_word
  b__law_is_word : Binds K d__law_is_word ["_law_value"] []
  g__law_is_word : mg "_law_is_word" = some (.ref f__law_is_word)
  f__law_is_number : Addr
  d__law_is_number : FuncData
  F__law_is_number : Fun K "_law_is_number" "_law_is_number" st__law_is_number f__law_is_number d__law_is_number
  b__law_is_number : Binds K d__law_is_number ["_law_value", "_law_low", "_law_high"] []
  g__law_is_number : mg "_law_is_number" = some (.ref f__law_is_number)
  f__law_is_test : Addr
  d__law_is_test : FuncData
  F__law_is_test : Fun K "_law_is_test" "_law_is_test" st__law_is_test f__law_is_test d__law_is_test
  b__law_is_test : Binds K d__law_is_test ["_law_value", "_law_givens"] []
  g__law_is_test : mg "_law_is_test" = some (.ref f__law_is_test)
  f__law_is_row : Addr
  d__law_is_row : FuncData
  F__law_is_row : Fun K "_law_is_row" "_law_is_row" st__law_is_row f__law_is_row d__law_is_row
  b__law_is_row : Binds K d__law_is_row ["_law_value", "_law_givens"] []
  g__law_is_row : mg "_law_is_row" = some (.ref f__law_is_row)
  f__law_odd : Addr
  d__law_odd : FuncData
  F__law_odd : Fun K "_law_odd" "_law_odd" st__law_odd f__law_odd d__law_odd
  b__law_odd : Binds K d__law_odd ["_law_deck_here", "_law_pool_here"] []
  g__law_odd : mg "_law_odd" = some (.ref f__law_odd)
  f__law_bent : Addr
  d__law_bent : FuncData
  F__law_bent : Fun K "_law_bent" "_law_bent" st__law_bent f__law_bent d__law_bent
  b__law_bent : Binds K d__law_bent ["_law_deck_here", "_law_pool_here", "_law_value", "_law_deep"] []
  g__law_bent : mg "_law_bent" = some (.ref f__law_bent)
  f_law : Addr
  d_law : FuncData
  F_law : Fun K "law" "law" st_law f_law d_law
  b_law : Binds K d_law ["_law_script"] []
  g_law : mg "law" = some (.ref f_law)
  t_DIGITS : Tok
  g_DIGITS : mg "DIGITS" = some (.str "0123456789" t_DIGITS)
  t_MAX_GIVENS : Tok
  g_MAX_GIVENS : mg "MAX_GIVENS" = some (.int 3 t_MAX_GIVENS)
  t_MAX_NAME : Tok
  g_MAX_NAME : mg "MAX_NAME" = some (.int 8 t_MAX_NAME)
  t_MAX_NEST : Tok
  g_MAX_NEST : mg "MAX_NEST" = some (.int 4 t_MAX_NEST)
  t_MAX_PLACES : Tok
  g_MAX_PLACES : mg "MAX_PLACES" = some (.int 30 t_MAX_PLACES)
  t_MAX_TIMES : Tok
  g_MAX_TIMES : mg "MAX_TIMES" = some (.int 12 t_MAX_TIMES)
  t_MAX_WEIGHT : Tok
  g_MAX_WEIGHT : mg "MAX_WEIGHT" = some (.int 200 t_MAX_WEIGHT)
  t_MAX_WISHES : Tok
  g_MAX_WISHES : mg "MAX_WISHES" = some (.int 4 t_MAX_WISHES)
  t_MAX_WORD : Tok
  g_MAX_WORD : mg "MAX_WORD" = some (.int 8 t_MAX_WORD)
  t_MOST_NOTS : Tok
  g_MOST_NOTS : mg "MOST_NOTS" = some (.int 3 t_MOST_NOTS)
  t_SMALL : Tok
  g_SMALL : mg "SMALL" = some (.str "abcdefghijklmnopqrstuvwxyz" t_SMALL)
  n_abs : mg "abs" = none
  n_all : mg "all" = none
  n_bool : mg "bool" = none
  n_int : mg "int" = none
  n_isinstance : mg "isinstance" = none
  n_len : mg "len" = none
  n_list : mg "list" = none
  n_range : mg "range" = none
  n_repr : mg "repr" = none
  n_sorted : mg "sorted" = none
  n_str : mg "str" = none
  n_sum : mg "sum" = none
  n_tuple : mg "tuple" = none
  n_zip : mg "zip" = none
  t_TEST_FORMS : Addr
  es_TEST_FORMS : Array DictEntry
  n_TEST_FORMS : Nat
  g_TEST_FORMS : mg "TEST_FORMS" = some (.ref t_TEST_FORMS)
  lD_TEST_FORMS : K.lookup t_TEST_FORMS = some ⟨.type "dict", none, .dict es_TEST_FORMS n_TEST_FORMS, #[]⟩
  kz_TEST_FORMS : es_TEST_FORMS.toList.map keyT = ktl_TEST_FORMS.map fun p => some p.1
  km_TEST_FORMS : (t_TEST_FORMS == sysModules) = false
  tv_TEST_FORMS_0 : Tok
  kn_TEST_FORMS_0 : PySem.W.nsIn K t_TEST_FORMS "given" = some (some (.str "g" tv_TEST_FORMS_0))
  tv_TEST_FORMS_1 : Tok
  kn_TEST_FORMS_1 : PySem.W.nsIn K t_TEST_FORMS "set" = some (some (.str "n" tv_TEST_FORMS_1))
  tv_TEST_FORMS_2 : Tok
  kn_TEST_FORMS_2 : PySem.W.nsIn K t_TEST_FORMS "same" = some (some (.str "nn" tv_TEST_FORMS_2))
  tv_TEST_FORMS_3 : Tok
  kn_TEST_FORMS_3 : PySem.W.nsIn K t_TEST_FORMS "full" = some (some (.str "nn" tv_TEST_FORMS_3))
  tv_TEST_FORMS_4 : Tok
  kn_TEST_FORMS_4 : PySem.W.nsIn K t_TEST_FORMS "wished" = some (some (.str "w" tv_TEST_FORMS_4))
  t_FORMS : Addr
  es_FORMS : Array DictEntry
  n_FORMS : Nat
  g_FORMS : mg "FORMS" = some (.ref t_FORMS)
  lD_FORMS : K.lookup t_FORMS = some ⟨.type "dict", none, .dict es_FORMS n_FORMS, #[]⟩
  kz_FORMS : es_FORMS.toList.map keyT = ktl_FORMS.map fun p => some p.1
  km_FORMS : (t_FORMS == sysModules) = false
  tv_FORMS_0 : Tok
  kn_FORMS_0 : PySem.W.nsIn K t_FORMS "make" = some (some (.str "n" tv_FORMS_0))
  tv_FORMS_1 : Tok
  kn_FORMS_1 : PySem.W.nsIn K t_FORMS "keep" = some (some (.str "n" tv_FORMS_1))
  tv_FORMS_2 : Tok
  kn_FORMS_2 : PySem.W.nsIn K t_FORMS "drop" = some (some (.str "n" tv_FORMS_2))
  tv_FORMS_3 : Tok
  kn_FORMS_3 : PySem.W.nsIn K t_FORMS "wish" = some (some (.str "nw" tv_FORMS_3))
  tv_FORMS_4 : Tok
  kn_FORMS_4 : PySem.W.nsIn K t_FORMS "name" = some (some (.str "nn" tv_FORMS_4))
  tv_FORMS_5 : Tok
  kn_FORMS_5 : PySem.W.nsIn K t_FORMS "hold" = some (some (.str "nnn" tv_FORMS_5))
  tv_FORMS_6 : Tok
  kn_FORMS_6 : PySem.W.nsIn K t_FORMS "weak" = some (some (.str "nnn" tv_FORMS_6))
  tv_FORMS_7 : Tok
  kn_FORMS_7 : PySem.W.nsIn K t_FORMS "cut" = some (some (.str "nn" tv_FORMS_7))
  tv_FORMS_8 : Tok
  kn_FORMS_8 : PySem.W.nsIn K t_FORMS "take" = some (some (.str "nnn" tv_FORMS_8))
  tv_FORMS_9 : Tok
  kn_FORMS_9 : PySem.W.nsIn K t_FORMS "say" = some (some (.str "w" tv_FORMS_9))
  tv_FORMS_10 : Tok
  kn_FORMS_10 : PySem.W.nsIn K t_FORMS "ask" = some (some (.str "t" tv_FORMS_10))
  tv_FORMS_11 : Tok
  kn_FORMS_11 : PySem.W.nsIn K t_FORMS "if" = some (some (.str "tbb" tv_FORMS_11))
  tv_FORMS_12 : Tok
  kn_FORMS_12 : PySem.W.nsIn K t_FORMS "repeat" = some (some (.str "kb" tv_FORMS_12))
  t_NO_NAMES : Addr
  g_NO_NAMES : mg "NO_NAMES" = some (.ref t_NO_NAMES)
  tk_NO_NAMES : TupK K t_NO_NAMES (tl_NO_NAMES.map V.str)
def TX.T {K : PySem.W.Frag} {mg : Str → Option Value} (X : TX K mg) (w : World) : Tb := ⟨K, w, [], [], []⟩
structure TX.PO {K : PySem.W.Frag} {mg : Str → Option Value} (X : TX K mg) (P : Program) (w : World) : Prop where
  kl_TEST_FORMS : PySem.W.KeysLit w.params X.es_TEST_FORMS.toList
  kl_FORMS : PySem.W.KeysLit w.params X.es_FORMS.toList
theorem TX.tu_NO_NAMES {K : PySem.W.Frag} {mg : Str → Option Value} (X : TX K mg) (w : World) : ∀ ρ H, RV (X.T w) ρ H (.tup (List.map Vl.str tl_NO_NAMES)) (.ref X.t_NO_NAMES) := X.tk_NO_NAMES.rv (T := X.T w) fun ρ H => rvs_strs _
theorem TX.kt_TEST_FORMS {K : PySem.W.Frag} {mg : Str → Option Value} (X : TX K mg) {P : Program} {w : World} (hP : X.PO P w) : KTab K w (X.T w) X.t_TEST_FORMS ktl_TEST_FORMS := by
  refine KTab.mk' X.lD_TEST_FORMS hP.kl_TEST_FORMS X.km_TEST_FORMS X.kz_TEST_FORMS fun z u h => ?_
  have m := getS_mem h
  simp only [ktl_TEST_FORMS, List.mem_cons, List.not_mem_nil, or_false, Prod.mk.injEq] at m
  rcases m with ⟨rfl, rfl⟩ | ⟨rfl, rfl⟩ | ⟨rfl, rfl⟩ | ⟨rfl, rfl⟩ | ⟨rfl, rfl⟩
  · exact ⟨V.str "g", _, X.kn_TEST_FORMS_0, ⟨_, rfl⟩, fun ρ H => .str _⟩
  · exact ⟨V.str "n", _, X.kn_TEST_FORMS_1, ⟨_, rfl⟩, fun ρ H => .str _⟩
  · exact ⟨V.str "nn", _, X.kn_TEST_FORMS_2, ⟨_, rfl⟩, fun ρ H => .str _⟩
  · exact ⟨V.str "nn", _, X.kn_TEST_FORMS_3, ⟨_, rfl⟩, fun ρ H => .str _⟩
  · exact ⟨V.str "w", _, X.kn_TEST_FORMS_4, ⟨_, rfl⟩, fun ρ H => .str _⟩
theorem TX.kt_FORMS {K : PySem.W.Frag} {mg : Str → Option Value} (X : TX K mg) {P : Program} {w : World} (hP : X.PO P w) : KTab K w (X.T w) X.t_FORMS ktl_FORMS := by
  refine KTab.mk' X.lD_FORMS hP.kl_FORMS X.km_FORMS X.kz_FORMS fun z u h => ?_
  have m := getS_mem h
  simp only [ktl_FORMS, List.mem_cons, List.not_mem_nil, or_false, Prod.mk.injEq] at m
  rcases m with ⟨rfl, rfl⟩ | ⟨rfl, rfl⟩ | ⟨rfl, rfl⟩ | ⟨rfl, rfl⟩ | ⟨rfl, rfl⟩ | ⟨rfl, rfl⟩ | ⟨rfl, rfl⟩ | ⟨rfl, rfl⟩ | ⟨rfl, rfl⟩ | ⟨rfl, rfl⟩ | ⟨rfl, rfl⟩ | ⟨rfl, rfl⟩ | ⟨rfl, rfl⟩
  · exact ⟨V.str "n", _, X.kn_FORMS_0, ⟨_, rfl⟩, fun ρ H => .str _⟩
  · exact ⟨V.str "n", _, X.kn_FORMS_1, ⟨_, rfl⟩, fun ρ H => .str _⟩
  · exact ⟨V.str "n", _, X.kn_FORMS_2, ⟨_, rfl⟩, fun ρ H => .str _⟩
  · exact ⟨V.str "nw", _, X.kn_FORMS_3, ⟨_, rfl⟩, fun ρ H => .str _⟩
  · exact ⟨V.str "nn", _, X.kn_FORMS_4, ⟨_, rfl⟩, fun ρ H => .str _⟩
  · exact ⟨V.str "nnn", _, X.kn_FORMS_5, ⟨_, rfl⟩, fun ρ H => .str _⟩
  · exact ⟨V.str "nnn", _, X.kn_FORMS_6, ⟨_, rfl⟩, fun ρ H => .str _⟩
  · exact ⟨V.str "nn", _, X.kn_FORMS_7, ⟨_, rfl⟩, fun ρ H => .str _⟩
  · exact ⟨V.str "nnn", _, X.kn_FORMS_8, ⟨_, rfl⟩, fun ρ H => .str _⟩
  · exact ⟨V.str "w", _, X.kn_FORMS_9, ⟨_, rfl⟩, fun ρ H => .str _⟩
  · exact ⟨V.str "t", _, X.kn_FORMS_10, ⟨_, rfl⟩, fun ρ H => .str _⟩
  · exact ⟨V.str "tbb", _, X.kn_FORMS_11, ⟨_, rfl⟩, fun ρ H => .str _⟩
  · exact ⟨V.str "kb", _, X.kn_FORMS_12, ⟨_, rfl⟩, fun ρ H => .str _⟩
/-! each def computes its pure function -/
theorem sc_is_number : FnScope ["value", "low", "high"] ["value", "low", "high"] (defScope st_is_number) := ⟨rfl, rfl, rfl, by decide +kernel, rfl, by decide +kernel, by decide +kernel⟩
theorem sim_is_number {P : Program} {w : World} {K : PySem.W.Frag} {mg : Str → Option Value} {base : Heap} (X : TX K mg) (hP : X.PO P w) : FnG P w K mg base 1 X.f_is_number X.d_is_number ["value", "low", "high"] (SpM (X.T w) 3 m_is_number) := by
  refine fn_sim (k := 0) (N := ["value", "low", "high"]) (T := X.T w) (b := b_is_number) X.F_is_number sc_is_number rfl fun cdv A outer s H E hr hg => ?_
  have tk := L2N.takes_of (X := cxOf (L2N.CX P w) P w K mg base ["value", "low", "high"] "is_number" (defScope st_is_number) X.f_is_number cdv A outer s H E) (E := E) rfl rfl rfl rfl
  unfold b_is_number
  exact (cs_one (cs_ret (ce_and (ce_callB c_isi rfl X.n_isinstance (by decide +kernel) (ca_cons (ce_var 0) (ca_cons (ce_ty rfl X.n_int (by decide +kernel)) ca_nil))) (ce_and (ce_not (ce_callB c_isi rfl X.n_isinstance (by decide +kernel) (ca_cons (ce_var 0) (ca_cons (ce_ty rfl X.n_bool (by decide +kernel)) ca_nil)))) (ce_one (ce_chain o_le o_le (ce_var 1) (ce_var 0) (ce_var 2)))))))
theorem sc_is_word : FnScope ["value", "sign"] ["value"] (defScope st_is_word) := ⟨rfl, rfl, rfl, by decide +kernel, rfl, by decide +kernel, by decide +kernel⟩
theorem sim_is_word {P : Program} {w : World} {K : PySem.W.Frag} {mg : Str → Option Value} {base : Heap} (X : TX K mg) (hP : X.PO P w) : FnG P w K mg base 1 X.f_is_word X.d_is_word ["value"] (SpM (X.T w) 1 m_is_word) := by
  refine fn_sim (k := 0) (N := ["value", "sign"]) (T := X.T w) (b := b_is_word) X.F_is_word sc_is_word rfl fun cdv A outer s H E hr hg => ?_
  have tk := L2N.takes_of (X := cxOf (L2N.CX P w) P w K mg base ["value", "sign"] "is_word" (defScope st_is_word) X.f_is_word cdv A outer s H E) (E := E) rfl rfl rfl rfl
  unfold b_is_word
  exact (cs_cons (cs_if (PW.pt (cw_or (ct_not (ct_val (ce_callB c_isi rfl X.n_isinstance (by decide +kernel) (ca_cons (ce_var 0) (ca_cons (ce_ty rfl X.n_str (by decide +kernel)) ca_nil))))) (cw_or1 (ct_not (ct_chain o_le o_le ce_int (ce_callB (c_len) rfl X.n_len (by decide +kernel) (ca_cons (ce_var 0) ca_nil)) (ce_of (z := .int 8) (pe_glob rfl X.g_MAX_WORD ⟨_, rfl⟩) fun _ _ => .int _)))))) (cs_one (cs_ret ce_bl)) cs_nil)
  (cs_one (cs_ret (ce_callB (c_all) rfl X.n_all (by decide +kernel) (ca_cons (ce_lcX (own := [("sign", 1)]) rfl sc_is_word.nd (ci_str (ce_var 0)) (blkOk_by (by kernel_rfl)) (tg_name (List.mem_cons_self ..)) (fun _ _ _ _ _ => pg_name (i := 1) sc_is_word.nd rfl (by first | exact Or.inl rfl | exact Or.inr rfl)) (fun _ _ _ _ _ => cts_nil) (fun _ _ _ _ _ => (ce_or (ce_cmp (o_in (hu_of hr)) (ce_var 1) (ce_of (z := .str "abcdefghijklmnopqrstuvwxyz") (pe_glob rfl X.g_SMALL ⟨_, rfl⟩) fun _ _ => .str _)) (ce_one (ce_cmp (o_in (hu_of hr)) (ce_var 1) (ce_of (z := .str "0123456789") (pe_glob rfl X.g_DIGITS ⟨_, rfl⟩) fun _ _ => .str _)))))) ca_nil)))))
theorem sc_is_name : FnScope ["value"] ["value"] (defScope st_is_name) := ⟨rfl, rfl, rfl, by decide +kernel, rfl, by decide +kernel, by decide +kernel⟩
theorem sim_is_name {P : Program} {w : World} {K : PySem.W.Frag} {mg : Str → Option Value} {base : Heap} (X : TX K mg) (hP : X.PO P w) : FnG P w K mg base 2 X.f_is_name X.d_is_name ["value"] (SpM (X.T w) 1 m_is_name) := by
  refine fn_sim (k := 1) (N := ["value"]) (T := X.T w) (b := b_is_name) X.F_is_name sc_is_name rfl fun cdv A outer s H E hr hg => ?_
  have tk := L2N.takes_of (X := cxOf (L2N.CX P w) P w K mg base ["value"] "is_name" (defScope st_is_name) X.f_is_name cdv A outer s H E) (E := E) rfl rfl rfl rfl
  unfold b_is_name
  exact (cs_one (cs_ret (ce_and (ce_call (sim_is_word X hP) (hr.mono (by decide)) hg rfl X.g_is_word X.F_is_word.kp X.b_is_word tk (ca_cons (ce_var 0) ca_nil)) (ce_and (ce_cmp o_le (ce_callB (c_len) rfl X.n_len (by decide +kernel) (ca_cons (ce_var 0) ca_nil)) (ce_of (z := .int 8) (pe_glob rfl X.g_MAX_NAME ⟨_, rfl⟩) fun _ _ => .int _)) (ce_and (ce_cmp (o_in (hu_of hr)) (ce_ix (o_ix (hu_of hr)) (ce_var 0) ce_int) (ce_of (z := .str "abcdefghijklmnopqrstuvwxyz") (pe_glob rfl X.g_SMALL ⟨_, rfl⟩) fun _ _ => .str _)) (ce_one (ce_cmp (o_notIn (hu_of hr)) (ce_var 0) (ce_of (z := .ref X.t_NO_NAMES) (pe_glob rfl X.g_NO_NAMES rfl) (X.tu_NO_NAMES w)))))))))
theorem sc_has_form : FnScope ["value", "givens", "is_inner", "form", "sort", "item"] ["value", "givens", "is_inner"] (defScope st_has_form) := ⟨rfl, rfl, rfl, by decide +kernel, rfl, by decide +kernel, by decide +kernel⟩
theorem sc_is_part : FnScope ["sort", "item", "givens"] ["sort", "item", "givens"] (defScope st_is_part) := ⟨rfl, rfl, rfl, by decide +kernel, rfl, by decide +kernel, by decide +kernel⟩
theorem sc_is_test : FnScope ["value", "givens", "k"] ["value", "givens"] (defScope st_is_test) := ⟨rfl, rfl, rfl, by decide +kernel, rfl, by decide +kernel, by decide +kernel⟩
theorem sims0 {P : Program} {w : World} {K : PySem.W.Frag} {mg : Str → Option Value} {base : Heap} (X : TX K mg) (hP : X.PO P w) : ∀ n : Nat, FnG P w K mg base (2 + 1 * n) X.f_has_form X.d_has_form ["value", "givens", "is_inner"] (SpM (X.T w) 3 (R0 n 0)) ∧ FnG P w K mg base (2 + 1 * n) X.f_is_part X.d_is_part ["sort", "item", "givens"] (SpM (X.T w) 3 (R0 n 1)) ∧ FnG P w K mg base (2 + 1 * n) X.f_is_test X.d_is_test ["value", "givens"] (SpM (X.T w) 2 (R0 n 2))
  | 0 => ⟨fnG_fail, fnG_fail, fnG_fail⟩
  | n + 1 => by
    obtain ⟨ih_has_form, ih_is_part, ih_is_test⟩ := sims0 (base := base) X hP n
    refine ⟨?_, ?_, ?_⟩
    · refine fn_sim (k := 2 + 1 * n + 0) (N := ["value", "givens", "is_inner", "form", "sort", "item"]) (T := X.T w) (b := b_has_form (R0 n)) X.F_has_form sc_has_form rfl fun cdv A outer s H E hr hg => ?_
      have tk := L2N.takes_of (X := cxOf (L2N.CX P w) P w K mg base ["value", "givens", "is_inner", "form", "sort", "item"] "has_form" (defScope st_has_form) X.f_has_form cdv A outer s H E) (E := E) rfl rfl rfl rfl
      unfold b_has_form
      exact (cs_cons (cs_if (PW.pt (cw_or (ct_not (ct_val (ce_callB c_isi rfl X.n_isinstance (by decide +kernel) (ca_cons (ce_var 0) (ca_cons (ce_ty rfl X.n_tuple (by decide +kernel)) ca_nil))))) (cw_or (ct_cmp (o_eq0 hr.units) (ce_var 0) (ce_tup ca_nil)) (cw_or1 (ct_not (ct_val (ce_callB c_isi rfl X.n_isinstance (by decide +kernel) (ca_cons (ce_ix (o_ix (hu_of hr)) (ce_var 0) ce_int) (ca_cons (ce_ty rfl X.n_str (by decide +kernel)) ca_nil))))))))) (cs_one (cs_ret ce_bl)) cs_nil)
  (cs_cons (cs_set (i := 3) sc_has_form.nd rfl (by first | exact Or.inl rfl | exact Or.inr rfl) (ce_if (ct_val (ce_var 2)) (ce_kget rfl X.g_TEST_FORMS (X.kt_TEST_FORMS hP) (ce_ix (o_ix (hu_of hr)) (ce_var 0) ce_int) ⟨rfl, rfl, rfl, rfl⟩) (ce_kget rfl X.g_FORMS (X.kt_FORMS hP) (ce_ix (o_ix (hu_of hr)) (ce_var 0) ce_int) ⟨rfl, rfl, rfl, rfl⟩)))
  (cs_cons (cs_if (PW.pt (cw_or (ct_cmp o_isN (ce_var 3) ce_non) (cw_or1 (ct_cmp (o_ne hr.units) (ce_callB (c_len) rfl X.n_len (by decide +kernel) (ca_cons (ce_var 0) ca_nil)) (ce_op o_add ce_int (ce_callB (c_len) rfl X.n_len (by decide +kernel) (ca_cons (ce_var 3) ca_nil))))))) (cs_one (cs_ret ce_bl)) cs_nil)
  (cs_one (cs_ret (ce_callB (c_all) rfl X.n_all (by decide +kernel) (ca_cons (ce_lcX (own := [("sort", 4), ("item", 5)]) rfl sc_has_form.nd (ci_zipS rfl X.n_zip (ca_cons (ce_var 3) (ca_cons (ce_slice o_sl (ce_var 0) (co_some ce_int) co_none) ca_nil))) (blkOk_by (by kernel_rfl)) (tg_tup (js := [4, 5]) (by decide) rfl) (fun _ _ _ _ _ => pg_tup rfl (pgs_cons (pg_name (i := 4) sc_has_form.nd rfl (by first | exact Or.inl rfl | exact Or.inr rfl)) (pgs_cons (pg_name (i := 5) sc_has_form.nd rfl (by first | exact Or.inl rfl | exact Or.inr rfl)) pgs_nil))) (fun _ _ _ _ _ => cts_nil) (fun _ _ _ _ _ => (ce_call ih_is_part (hr.mono (by omega)) hg rfl X.g_is_part X.F_is_part.kp X.b_is_part takesN (ca_cons (ce_var 4) (ca_cons (ce_var 5) (ca_cons (ce_var 1) ca_nil)))))) ca_nil)))))))
    · refine fn_sim (k := 2 + 1 * n + 0) (N := ["sort", "item", "givens"]) (T := X.T w) (b := b_is_part (R0 n)) X.F_is_part sc_is_part rfl fun cdv A outer s H E hr hg => ?_
      have tk := L2N.takes_of (X := cxOf (L2N.CX P w) P w K mg base ["sort", "item", "givens"] "is_part" (defScope st_is_part) X.f_is_part cdv A outer s H E) (E := E) rfl rfl rfl rfl
      unfold b_is_part
      exact (cs_cons (cs_if (ct_cmp (o_eq hr.units) (ce_var 0) ce_str) (cs_one (cs_ret (ce_call (sim_is_name X hP) (hr.mono (by omega)) hg rfl X.g_is_name X.F_is_name.kp X.b_is_name tk (ca_cons (ce_var 1) ca_nil)))) cs_nil)
  (cs_cons (cs_if (ct_cmp (o_eq hr.units) (ce_var 0) ce_str) (cs_one (cs_ret (ce_call (sim_is_word X hP) (hr.mono (by omega)) hg rfl X.g_is_word X.F_is_word.kp X.b_is_word tk (ca_cons (ce_var 1) ca_nil)))) cs_nil)
  (cs_cons (cs_if (ct_cmp (o_eq hr.units) (ce_var 0) ce_str) (cs_one (cs_ret (ce_call (sim_is_number X hP) (hr.mono (by omega)) hg rfl X.g_is_number X.F_is_number.kp X.b_is_number tk (ca_cons (ce_var 1) (ca_cons ce_int (ca_cons (ce_op o_sub (ce_var 2) ce_int) ca_nil)))))) cs_nil)
  (cs_cons (cs_if (ct_cmp (o_eq hr.units) (ce_var 0) ce_str) (cs_one (cs_ret (ce_call (sim_is_number X hP) (hr.mono (by omega)) hg rfl X.g_is_number X.F_is_number.kp X.b_is_number tk (ca_cons (ce_var 1) (ca_cons ce_int (ca_cons (ce_of (z := .int 12) (pe_glob rfl X.g_MAX_TIMES ⟨_, rfl⟩) fun _ _ => .int _) ca_nil)))))) cs_nil)
  (cs_cons (cs_if (ct_cmp (o_eq hr.units) (ce_var 0) ce_str) (cs_one (cs_ret (ce_call ih_is_test (hr.mono (by omega)) hg rfl X.g_is_test X.F_is_test.kp X.b_is_test tk (ca_cons (ce_var 1) (ca_cons (ce_var 2) ca_nil))))) cs_nil)
  (cs_one (cs_ret (ce_callB c_isi rfl X.n_isinstance (by decide +kernel) (ca_cons (ce_var 1) (ca_cons (ce_ty rfl X.n_tuple (by decide +kernel)) ca_nil))))))))))
    · refine fn_sim (k := 2 + 1 * n + 0) (N := ["value", "givens", "k"]) (T := X.T w) (b := b_is_test (R0 n)) X.F_is_test sc_is_test rfl fun cdv A outer s H E hr hg => ?_
      have tk := L2N.takes_of (X := cxOf (L2N.CX P w) P w K mg base ["value", "givens", "k"] "is_test" (defScope st_is_test) X.f_is_test cdv A outer s H E) (E := E) rfl rfl rfl rfl
      unfold b_is_test
      exact (cs_cons (cs_forX (passes_of rfl) rfl (ci_rng1 rfl X.n_range (ca_cons (ce_of (z := .int 3) (pe_glob rfl X.g_MOST_NOTS ⟨_, rfl⟩) fun _ _ => .int _) ca_nil)) (cg_name (n := 2) sc_is_test.nd rfl (by first | exact Or.inl rfl | exact Or.inr rfl))
  (cs_one (cs_if (PW.pt (cw_and (ct_val (ce_callB c_isi rfl X.n_isinstance (by decide +kernel) (ca_cons (ce_var 0) (ca_cons (ce_ty rfl X.n_tuple (by decide +kernel)) ca_nil)))) (cw_and (ct_cmp (o_eq hr.units) (ce_callB (c_len) rfl X.n_len (by decide +kernel) (ca_cons (ce_var 0) ca_nil)) ce_int) (cw_and1 (ct_cmp (o_eqS hr.units) (ce_ix (o_ix (hu_of hr)) (ce_var 0) ce_int) ce_str))))) (cs_one (cs_set (i := 0) sc_is_test.nd rfl (by first | exact Or.inl rfl | exact Or.inr rfl) (ce_ix (o_ix (hu_of hr)) (ce_var 0) ce_int))) cs_nil)))
  (cs_one (cs_ret (ce_call ih_has_form (hr.mono (by omega)) hg rfl X.g_has_form X.F_has_form.kp X.b_has_form tk (ca_cons (ce_var 0) (ca_cons (ce_var 1) (ca_cons ce_bl ca_nil)))))))
theorem sim_has_form {P : Program} {w : World} {K : PySem.W.Frag} {mg : Str → Option Value} {base : Heap} (X : TX K mg) (hP : X.PO P w) : FnG P w K mg base 14 X.f_has_form X.d_has_form ["value", "givens", "is_inner"] (SpM (X.T w) 3 m_has_form) := (sims0 (P := P) (w := w) (base := base) X hP 12).1
theorem sc_inner_blocks : FnScope ["statement"] ["statement"] (defScope st_inner_blocks) := ⟨rfl, rfl, rfl, by decide +kernel, rfl, by decide +kernel, by decide +kernel⟩
theorem sim_inner_blocks {P : Program} {w : World} {K : PySem.W.Frag} {mg : Str → Option Value} {base : Heap} (X : TX K mg) (hP : X.PO P w) : FnG P w K mg base 1 X.f_inner_blocks X.d_inner_blocks ["statement"] (SpM (X.T w) 1 m_inner_blocks) := by
  refine fn_sim (k := 0) (N := ["statement"]) (T := X.T w) (b := b_inner_blocks) X.F_inner_blocks sc_inner_blocks rfl fun cdv A outer s H E hr hg => ?_
  have tk := L2N.takes_of (X := cxOf (L2N.CX P w) P w K mg base ["statement"] "inner_blocks" (defScope st_inner_blocks) X.f_inner_blocks cdv A outer s H E) (E := E) rfl rfl rfl rfl
  unfold b_inner_blocks
  exact (cs_cons (cs_if (ct_cmp (o_eq hr.units) (ce_ix (o_ix (hu_of hr)) (ce_var 0) ce_int) ce_str) (cs_one (cs_ret (ce_slice o_sl (ce_var 0) (co_some ce_int) co_none))) cs_nil)
  (cs_one (cs_ret (ce_if (ct_cmp (o_eq hr.units) (ce_ix (o_ix (hu_of hr)) (ce_var 0) ce_int) ce_str) (ce_slice o_sl (ce_var 0) (co_some ce_int) co_none) (ce_tup ca_nil)))))
theorem sc_listed : FnScope ["block", "depth", "found", "statement", "inner"] ["block", "depth"] (defScope st_listed) := ⟨rfl, rfl, rfl, by decide +kernel, rfl, by decide +kernel, by decide +kernel⟩
theorem sims1 {P : Program} {w : World} {K : PySem.W.Frag} {mg : Str → Option Value} {base : Heap} (X : TX K mg) (hP : X.PO P w) : ∀ n : Nat, FnG P w K mg base (1 + 1 * n) X.f_listed X.d_listed ["block", "depth"] (SpM (X.T w) 2 (R1 n 0))
  | 0 => fnG_fail
  | n + 1 => by
    have ih_listed := sims1 (P := P) (w := w) (base := base) X hP n
    · refine fn_sim (k := 1 + 1 * n + 0) (N := ["block", "depth", "found", "statement", "inner"]) (T := X.T w) (b := b_listed (R1 n)) X.F_listed sc_listed rfl fun cdv A outer s H E hr hg => ?_
      have tk := L2N.takes_of (X := cxOf (L2N.CX P w) P w K mg base ["block", "depth", "found", "statement", "inner"] "listed" (defScope st_listed) X.f_listed cdv A outer s H E) (E := E) rfl rfl rfl rfl
      unfold b_listed
      exact (cs_cons (cs_set (i := 2) sc_listed.nd rfl (by first | exact Or.inl rfl | exact Or.inr rfl) (ce_lst ca_nil))
  (cs_cons (cs_forX (passes_of rfl) rfl (ci_tup (ce_var 0)) (cg_name (n := 3) sc_listed.nd rfl (by first | exact Or.inl rfl | exact Or.inr rfl))
  (cs_cons (cs_expr (ce_bm (t := .list) PySem.F.plainAttrs_list PySem.F.slot_list_append PySem.F.type_list_append m_append (ce_var 2) (ca_cons (ce_tup (ca_cons (ce_var 1) (ca_cons (ce_var 3) ca_nil))) ca_nil)))
  (cs_one (cs_forX (passes_of rfl) rfl (ci_tup (ce_call (sim_inner_blocks X hP) (hr.mono (by omega)) hg rfl X.g_inner_blocks X.F_inner_blocks.kp X.b_inner_blocks tk (ca_cons (ce_var 3) ca_nil))) (cg_name (n := 4) sc_listed.nd rfl (by first | exact Or.inl rfl | exact Or.inr rfl))
  (cs_one (cs_expr (ce_bm (t := .list) PySem.F.plainAttrs_list PySem.F.slot_list_extend PySem.F.type_list_extend m_extend (ce_var 2) (ca_cons (ce_call ih_listed (hr.mono (by omega)) hg rfl X.g_listed X.F_listed.kp X.b_listed tk (ca_cons (ce_var 4) (ca_cons (ce_op o_add (ce_var 1) ce_int) ca_nil))) ca_nil))))))))
  (cs_one (cs_ret (ce_var 2)))))
theorem sim_listed {P : Program} {w : World} {K : PySem.W.Frag} {mg : Str → Option Value} {base : Heap} (X : TX K mg) (hP : X.PO P w) : FnG P w K mg base 13 X.f_listed X.d_listed ["block", "depth"] (SpM (X.T w) 2 m_listed) := (sims1 (P := P) (w := w) (base := base) X hP 12)
theorem sc_first_error : FnScope ["block", "givens", "found", "depth", "statement", "inner", "error"] ["block", "givens", "found", "depth"] (defScope st_first_error) := ⟨rfl, rfl, rfl, by decide +kernel, rfl, by decide +kernel, by decide +kernel⟩
theorem sims2 {P : Program} {w : World} {K : PySem.W.Frag} {mg : Str → Option Value} {base : Heap} (X : TX K mg) (hP : X.PO P w) : ∀ n : Nat, FnG P w K mg base (14 + 1 * n) X.f_first_error X.d_first_error ["block", "givens", "found", "depth"] (SpM (X.T w) 4 (R2 n 0))
  | 0 => fnG_fail
  | n + 1 => by
    have ih_first_error := sims2 (P := P) (w := w) (base := base) X hP n
    · refine fn_sim (k := 14 + 1 * n + 0) (N := ["block", "givens", "found", "depth", "statement", "inner", "error"]) (T := X.T w) (b := b_first_error (R2 n)) X.F_first_error sc_first_error rfl fun cdv A outer s H E hr hg => ?_
      have tk := L2N.takes_of (X := cxOf (L2N.CX P w) P w K mg base ["block", "givens", "found", "depth", "statement", "inner", "error"] "first_error" (defScope st_first_error) X.f_first_error cdv A outer s H E) (E := E) rfl rfl rfl rfl
      unfold b_first_error
      exact (cs_cons (cs_forX (passes_of rfl) rfl (ci_tup (ce_var 0)) (cg_name (n := 4) sc_first_error.nd rfl (by first | exact Or.inl rfl | exact Or.inr rfl))
  (cs_cons (cs_if (ct_cmp o_gt (ce_var 3) (ce_of (z := .int 4) (pe_glob rfl X.g_MAX_NEST ⟨_, rfl⟩) fun _ _ => .int _)) (cs_one (cs_ret (ce_tup (ca_cons (ce_callB (c_len) rfl X.n_len (by decide +kernel) (ca_cons (ce_var 2) ca_nil)) (ca_cons ce_str ca_nil))))) cs_nil)
  (cs_cons (cs_if (ct_not (ct_val (ce_call (sim_has_form X hP) (hr.mono (by omega)) hg rfl X.g_has_form X.F_has_form.kp X.b_has_form tk (ca_cons (ce_var 4) (ca_cons (ce_var 1) (ca_cons ce_bl ca_nil)))))) (cs_one (cs_ret (ce_tup (ca_cons (ce_callB (c_len) rfl X.n_len (by decide +kernel) (ca_cons (ce_var 2) ca_nil)) (ca_cons ce_str ca_nil))))) cs_nil)
  (cs_cons (cs_expr (ce_bm (t := .list) PySem.F.plainAttrs_list PySem.F.slot_list_append PySem.F.type_list_append m_append (ce_var 2) (ca_cons (ce_var 4) ca_nil)))
  (cs_one (cs_forX (passes_of rfl) rfl (ci_tup (ce_call (sim_inner_blocks X hP) (hr.mono (by omega)) hg rfl X.g_inner_blocks X.F_inner_blocks.kp X.b_inner_blocks tk (ca_cons (ce_var 4) ca_nil))) (cg_name (n := 5) sc_first_error.nd rfl (by first | exact Or.inl rfl | exact Or.inr rfl))
  (cs_cons (cs_set (i := 6) sc_first_error.nd rfl (by first | exact Or.inl rfl | exact Or.inr rfl) (ce_call ih_first_error (hr.mono (by omega)) hg rfl X.g_first_error X.F_first_error.kp X.b_first_error tk (ca_cons (ce_var 5) (ca_cons (ce_var 1) (ca_cons (ce_var 2) (ca_cons (ce_op o_add (ce_var 3) ce_int) ca_nil))))))
  (cs_one (cs_if (ct_cmp o_notN (ce_var 6) ce_non) (cs_one (cs_ret (ce_var 6))) cs_nil)))))))))
  (cs_one (cs_ret ce_non)))
theorem sim_first_error {P : Program} {w : World} {K : PySem.W.Frag} {mg : Str → Option Value} {base : Heap} (X : TX K mg) (hP : X.PO P w) : FnG P w K mg base 26 X.f_first_error X.d_first_error ["block", "givens", "found", "depth"] (SpM (X.T w) 4 m_first_error) := (sims2 (P := P) (w := w) (base := base) X hP 12)
theorem sc_weight_of : FnScope ["block", "total", "statement", "inside", "inner"] ["block"] (defScope st_weight_of) := ⟨rfl, rfl, rfl, by decide +kernel, rfl, by decide +kernel, by decide +kernel⟩
theorem sims3 {P : Program} {w : World} {K : PySem.W.Frag} {mg : Str → Option Value} {base : Heap} (X : TX K mg) (hP : X.PO P w) : ∀ n : Nat, FnG P w K mg base (1 + 1 * n) X.f_weight_of X.d_weight_of ["block"] (SpM (X.T w) 1 (R3 n 0))
  | 0 => fnG_fail
  | n + 1 => by
    have ih_weight_of := sims3 (P := P) (w := w) (base := base) X hP n
    · refine fn_sim (k := 1 + 1 * n + 0) (N := ["block", "total", "statement", "inside", "inner"]) (T := X.T w) (b := b_weight_of (R3 n)) X.F_weight_of sc_weight_of rfl fun cdv A outer s H E hr hg => ?_
      have tk := L2N.takes_of (X := cxOf (L2N.CX P w) P w K mg base ["block", "total", "statement", "inside", "inner"] "weight_of" (defScope st_weight_of) X.f_weight_of cdv A outer s H E) (E := E) rfl rfl rfl rfl
      unfold b_weight_of
      exact (cs_cons (cs_set (i := 1) sc_weight_of.nd rfl (by first | exact Or.inl rfl | exact Or.inr rfl) ce_int)
  (cs_cons (cs_forX (passes_of rfl) rfl (ci_tup (ce_var 0)) (cg_name (n := 2) sc_weight_of.nd rfl (by first | exact Or.inl rfl | exact Or.inr rfl))
  (cs_cons (cs_set (i := 3) sc_weight_of.nd rfl (by first | exact Or.inl rfl | exact Or.inr rfl) (ce_callB (c_sum) rfl X.n_sum (by decide +kernel) (ca_cons (ce_lcX (own := [("inner", 4)]) rfl sc_weight_of.nd (ci_tup (ce_call (sim_inner_blocks X hP) (hr.mono (by omega)) hg rfl X.g_inner_blocks X.F_inner_blocks.kp X.b_inner_blocks tk (ca_cons (ce_var 2) ca_nil))) (blkOk_by (by kernel_rfl)) (tg_name (List.mem_cons_self ..)) (fun _ _ _ _ _ => pg_name (i := 4) sc_weight_of.nd rfl (by first | exact Or.inl rfl | exact Or.inr rfl)) (fun _ _ _ _ _ => cts_nil) (fun _ _ _ _ _ => (ce_call ih_weight_of (hr.mono (by omega)) hg rfl X.g_weight_of X.F_weight_of.kp X.b_weight_of takesN (ca_cons (ce_var 4) ca_nil)))) ca_nil)))
  (cs_one (cs_aug (i := 1) sc_weight_of.nd rfl (by first | exact Or.inl rfl | exact Or.inr rfl) io_add (ce_op o_add ce_int (ce_if (ct_cmp (o_eq hr.units) (ce_ix (o_ix (hu_of hr)) (ce_var 2) ce_int) ce_str) (ce_op o_mul (ce_ix (o_ix (hu_of hr)) (ce_var 2) ce_int) (ce_var 3)) (ce_var 3)))))))
  (cs_one (cs_ret (ce_var 1)))))
theorem sim_weight_of {P : Program} {w : World} {K : PySem.W.Frag} {mg : Str → Option Value} {base : Heap} (X : TX K mg) (hP : X.PO P w) : FnG P w K mg base 13 X.f_weight_of X.d_weight_of ["block"] (SpM (X.T w) 1 m_weight_of) := (sims3 (P := P) (w := w) (base := base) X hP 12)
theorem sc_statements_of : FnScope ["program", "depth", "statement"] ["program"] (defScope st_statements_of) := ⟨rfl, rfl, rfl, by decide +kernel, rfl, by decide +kernel, by decide +kernel⟩
theorem sim_statements_of {P : Program} {w : World} {K : PySem.W.Frag} {mg : Str → Option Value} {base : Heap} (X : TX K mg) (hP : X.PO P w) : FnG P w K mg base 14 X.f_statements_of X.d_statements_of ["program"] (SpM (X.T w) 1 m_statements_of) := by
  refine fn_sim (k := 13) (N := ["program", "depth", "statement"]) (T := X.T w) (b := b_statements_of) X.F_statements_of sc_statements_of rfl fun cdv A outer s H E hr hg => ?_
  have tk := L2N.takes_of (X := cxOf (L2N.CX P w) P w K mg base ["program", "depth", "statement"] "statements_of" (defScope st_statements_of) X.f_statements_of cdv A outer s H E) (E := E) rfl rfl rfl rfl
  unfold b_statements_of
  exact (cs_one (cs_ret (ce_lc (own := [("depth", 1), ("statement", 2)]) 100000 rfl sc_statements_of.nd (ci_lst (ce_call (sim_listed X hP) (hr.mono (by decide)) hg rfl X.g_listed X.F_listed.kp X.b_listed tk (ca_cons (ce_ix (o_ix (hu_of hr)) (ce_var 0) ce_int) (ca_cons ce_int ca_nil)))) (blkOk_by (by kernel_rfl)) (tg_tup (js := [1, 2]) (by decide) rfl) (fun _ _ _ _ _ => pg_tup rfl (pgs_cons (pg_name (i := 1) sc_statements_of.nd rfl (by first | exact Or.inl rfl | exact Or.inr rfl)) (pgs_cons (pg_name (i := 2) sc_statements_of.nd rfl (by first | exact Or.inl rfl | exact Or.inr rfl)) pgs_nil))) (fun _ _ _ _ _ => cts_nil) (fun _ _ _ _ _ => (ce_var 2)))))
theorem sc_wishes_of : FnScope ["program", "statement"] ["program"] (defScope st_wishes_of) := ⟨rfl, rfl, rfl, by decide +kernel, rfl, by decide +kernel, by decide +kernel⟩
theorem sim_wishes_of {P : Program} {w : World} {K : PySem.W.Frag} {mg : Str → Option Value} {base : Heap} (X : TX K mg) (hP : X.PO P w) : FnG P w K mg base 15 X.f_wishes_of X.d_wishes_of ["program"] (SpM (X.T w) 1 m_wishes_of) := by
  refine fn_sim (k := 14) (N := ["program", "statement"]) (T := X.T w) (b := b_wishes_of) X.F_wishes_of sc_wishes_of rfl fun cdv A outer s H E hr hg => ?_
  have tk := L2N.takes_of (X := cxOf (L2N.CX P w) P w K mg base ["program", "statement"] "wishes_of" (defScope st_wishes_of) X.f_wishes_of cdv A outer s H E) (E := E) rfl rfl rfl rfl
  unfold b_wishes_of
  exact (cs_one (cs_ret (ce_callTy (c_tuple) rfl X.n_tuple (by decide +kernel) (ca_cons (ce_sortSc (j := 1) (v := "statement") (k := 1) (by rfl) rfl sc_wishes_of.nd rfl X.n_sorted rfl (ce_call (sim_statements_of X hP) (hr.mono (by decide)) hg rfl X.g_statements_of X.F_statements_of.kp X.b_statements_of tk (ca_cons (ce_var 0) ca_nil)) (blkOk_by (by kernel_rfl)) (fun _ _ _ _ _ => pg_name (i := 1) sc_wishes_of.nd rfl (by first | exact Or.inl rfl | exact Or.inr rfl)) (fun _ _ _ _ _ => pe_var rfl (by first | exact Or.inl rfl | exact Or.inr rfl)) (fun _ _ _ _ _ => pe_var rfl (by first | exact Or.inl rfl | exact Or.inr rfl))) ca_nil))))
theorem sc_program_error : FnScope ["value", "found", "error"] ["value"] (defScope st_program_error) := ⟨rfl, rfl, rfl, by decide +kernel, rfl, by decide +kernel, by decide +kernel⟩
theorem sim_program_error {P : Program} {w : World} {K : PySem.W.Frag} {mg : Str → Option Value} {base : Heap} (X : TX K mg) (hP : X.PO P w) : FnG P w K mg base 27 X.f_program_error X.d_program_error ["value"] (SpM (X.T w) 1 m_program_error) := by
  refine fn_sim (k := 26) (N := ["value", "found", "error"]) (T := X.T w) (b := b_program_error) X.F_program_error sc_program_error rfl fun cdv A outer s H E hr hg => ?_
  have tk := L2N.takes_of (X := cxOf (L2N.CX P w) P w K mg base ["value", "found", "error"] "program_error" (defScope st_program_error) X.f_program_error cdv A outer s H E) (E := E) rfl rfl rfl rfl
  unfold b_program_error
  exact (cs_cons (cs_if (PW.pt (cw_or (ct_not (ct_val (ce_callB c_isi rfl X.n_isinstance (by decide +kernel) (ca_cons (ce_var 0) (ca_cons (ce_ty rfl X.n_tuple (by decide +kernel)) ca_nil))))) (cw_or (ct_cmp (o_ne hr.units) (ce_callB (c_len) rfl X.n_len (by decide +kernel) (ca_cons (ce_var 0) ca_nil)) ce_int) (cw_or1 (ct_not (ct_val (ce_call (sim_is_number X hP) (hr.mono (by decide)) hg rfl X.g_is_number X.F_is_number.kp X.b_is_number tk (ca_cons (ce_ix (o_ix (hu_of hr)) (ce_var 0) ce_int) (ca_cons ce_int (ca_cons (ce_of (z := .int 3) (pe_glob rfl X.g_MAX_GIVENS ⟨_, rfl⟩) fun _ _ => .int _) ca_nil)))))))))) (cs_one (cs_ret (ce_tup (ca_cons ce_non (ca_cons ce_str ca_nil))))) cs_nil)
  (cs_cons (cs_if (ct_not (ct_val (ce_callB c_isi rfl X.n_isinstance (by decide +kernel) (ca_cons (ce_ix (o_ix (hu_of hr)) (ce_var 0) ce_int) (ca_cons (ce_ty rfl X.n_tuple (by decide +kernel)) ca_nil))))) (cs_one (cs_ret (ce_tup (ca_cons ce_non (ca_cons ce_str ca_nil))))) cs_nil)
  (cs_cons (cs_set (i := 1) sc_program_error.nd rfl (by first | exact Or.inl rfl | exact Or.inr rfl) (ce_lst ca_nil))
  (cs_cons (cs_set (i := 2) sc_program_error.nd rfl (by first | exact Or.inl rfl | exact Or.inr rfl) (ce_call (sim_first_error X hP) (hr.mono (by decide)) hg rfl X.g_first_error X.F_first_error.kp X.b_first_error tk (ca_cons (ce_ix (o_ix (hu_of hr)) (ce_var 0) ce_int) (ca_cons (ce_ix (o_ix (hu_of hr)) (ce_var 0) ce_int) (ca_cons (ce_var 1) (ca_cons ce_int ca_nil))))))
  (cs_cons (cs_if (ct_cmp o_notN (ce_var 2) ce_non) (cs_one (cs_ret (ce_var 2))) cs_nil)
  (cs_cons (cs_if (ct_cmp o_gt (ce_callB (c_len) rfl X.n_len (by decide +kernel) (ca_cons (ce_var 1) ca_nil)) (ce_of (z := .int 30) (pe_glob rfl X.g_MAX_PLACES ⟨_, rfl⟩) fun _ _ => .int _)) (cs_one (cs_ret (ce_tup (ca_cons ce_non (ca_cons ce_str ca_nil))))) cs_nil)
  (cs_cons (cs_if (ct_cmp o_gt (ce_call (sim_weight_of X hP) (hr.mono (by decide)) hg rfl X.g_weight_of X.F_weight_of.kp X.b_weight_of tk (ca_cons (ce_ix (o_ix (hu_of hr)) (ce_var 0) ce_int) ca_nil)) (ce_of (z := .int 200) (pe_glob rfl X.g_MAX_WEIGHT ⟨_, rfl⟩) fun _ _ => .int _)) (cs_one (cs_ret (ce_tup (ca_cons ce_non (ca_cons ce_str ca_nil))))) cs_nil)
  (cs_one (cs_ret (ce_if (ct_cmp o_gt (ce_callB (c_len) rfl X.n_len (by decide +kernel) (ca_cons (ce_call (sim_wishes_of X hP) (hr.mono (by decide)) hg rfl X.g_wishes_of X.F_wishes_of.kp X.b_wishes_of tk (ca_cons (ce_var 0) ca_nil)) ca_nil)) (ce_of (z := .int 4) (pe_glob rfl X.g_MAX_WISHES ⟨_, rfl⟩) fun _ _ => .int _)) (ce_tup (ca_cons ce_non (ca_cons ce_str ca_nil))) ce_non))))))))))
theorem sc__law_deck : FnScope ["_law_script", "_law_cell"] ["_law_script"] (defScope st__law_deck) := ⟨rfl, rfl, rfl, by decide +kernel, rfl, by decide +kernel, by decide +kernel⟩
theorem sim__law_deck {P : Program} {w : World} {K : PySem.W.Frag} {mg : Str → Option Value} {base : Heap} (X : TX K mg) (hP : X.PO P w) : FnG P w K mg base 1 X.f__law_deck X.d__law_deck ["_law_script"] (SpM (X.T w) 1 m__law_deck) := by
  refine fn_sim (k := 0) (N := ["_law_script", "_law_cell"]) (T := X.T w) (b := b__law_deck) X.F__law_deck sc__law_deck rfl fun cdv A outer s H E hr hg => ?_
  have tk := L2N.takes_of (X := cxOf (L2N.CX P w) P w K mg base ["_law_script", "_law_cell"] "_law_deck" (defScope st__law_deck) X.f__law_deck cdv A outer s H E) (E := E) rfl rfl rfl rfl
  unfold b__law_deck
  exact (cs_one (cs_ret (ce_lst (ca_cons (ce_lc (own := [("_law_cell", 1)]) 100000 rfl sc__law_deck.nd (ci_lst (ce_slice o_sl (ce_var 0) co_none (co_some ce_int))) (blkOk_by (by kernel_rfl)) (tg_name (List.mem_cons_self ..)) (fun _ _ _ _ _ => pg_name (i := 1) sc__law_deck.nd rfl (by first | exact Or.inl rfl | exact Or.inr rfl)) (fun _ _ _ _ _ => cts_nil) (fun _ _ _ _ _ => (ce_callB (c_abs) rfl X.n_abs (by decide +kernel) (ca_cons (ce_var 1) ca_nil)))) (ca_cons ce_int ca_nil)))))
theorem sc__law_draw : FnScope ["_law_deck_here", "_law_many", "_law_mixed", "_law_cell", "_law_at"] ["_law_deck_here", "_law_many"] (defScope st__law_draw) := ⟨rfl, rfl, rfl, by decide +kernel, rfl, by decide +kernel, by decide +kernel⟩
theorem sim__law_draw {P : Program} {w : World} {K : PySem.W.Frag} {mg : Str → Option Value} {base : Heap} (X : TX K mg) (hP : X.PO P w) : FnG P w K mg base 1 X.f__law_draw X.d__law_draw ["_law_deck_here", "_law_many"] (SpM (X.T w) 2 m__law_draw) := by
  refine fn_sim (k := 0) (N := ["_law_deck_here", "_law_many", "_law_mixed", "_law_cell", "_law_at"]) (T := X.T w) (b := b__law_draw) X.F__law_draw sc__law_draw rfl fun cdv A outer s H E hr hg => ?_
  have tk := L2N.takes_of (X := cxOf (L2N.CX P w) P w K mg base ["_law_deck_here", "_law_many", "_law_mixed", "_law_cell", "_law_at"] "_law_draw" (defScope st__law_draw) X.f__law_draw cdv A outer s H E) (E := E) rfl rfl rfl rfl
  unfold b__law_draw
  exact (cs_cons (cs_asg (ce_op o_add (ce_ix (o_ix (hu_of hr)) (ce_var 0) ce_int) ce_int) (cg_sub (ce_var 0) ce_int (p_set (hu_of hr)) (pg_sub (ce_var 0) ce_int (p_set (hu_of hr)))))
  (cs_cons (cs_asg (ce_tup (ca_cons ce_int (ca_cons (ce_un o_neg ce_int) ca_nil))) (cg_tup (js := [3, 4]) (pg_tup rfl (pgs_cons (pg_name (i := 3) sc__law_draw.nd rfl (by first | exact Or.inl rfl | exact Or.inr rfl)) (pgs_cons (pg_name (i := 4) sc__law_draw.nd rfl (by first | exact Or.inl rfl | exact Or.inr rfl)) pgs_nil)))))
  (cs_cons (cs_if (ct_cmp o_gt (ce_callB (c_len) rfl X.n_len (by decide +kernel) (ca_cons (ce_ix (o_ix (hu_of hr)) (ce_var 0) ce_int) ca_nil)) ce_int) (cs_cons (cs_set (i := 4) sc__law_draw.nd rfl (by first | exact Or.inl rfl | exact Or.inr rfl) (ce_op o_mod (ce_callTy (c_int) rfl X.n_int (by decide +kernel) (ca_cons (ce_ix (o_ix (hu_of hr)) (ce_var 0) ce_int) ca_nil)) (ce_callB (c_len) rfl X.n_len (by decide +kernel) (ca_cons (ce_ix (o_ix (hu_of hr)) (ce_var 0) ce_int) ca_nil))))
  (cs_one (cs_set (i := 3) sc__law_draw.nd rfl (by first | exact Or.inl rfl | exact Or.inr rfl) (ce_ix (o_ix (hu_of hr)) (ce_ix (o_ix (hu_of hr)) (ce_var 0) ce_int) (ce_var 4))))) cs_nil)
  (cs_cons (cs_if (ct_cmp o_ge (ce_var 3) (ce_op o_pow ce_int ce_int)) (cs_cons (cs_asg (ce_op o_fdiv (ce_callTy (c_int) rfl X.n_int (by decide +kernel) (ca_cons (ce_var 3) ca_nil)) (ce_var 1)) (cg_sub (ce_ix (o_ix (hu_of hr)) (ce_var 0) ce_int) (ce_var 4) (p_set (hu_of hr)) (pg_sub (ce_ix (o_ix (hu_of hr)) (ce_var 0) ce_int) (ce_var 4) (p_set (hu_of hr)))))
  (cs_one (cs_ret (ce_op o_mod (ce_callTy (c_int) rfl X.n_int (by decide +kernel) (ca_cons (ce_var 3) ca_nil)) (ce_var 1))))) cs_nil)
  (cs_cons (cs_set (i := 2) sc__law_draw.nd rfl (by first | exact Or.inl rfl | exact Or.inr rfl) (ce_op o_add (ce_op o_add (ce_op o_mod (ce_callTy (c_int) rfl X.n_int (by decide +kernel) (ca_cons (ce_var 3) ca_nil)) ce_int) (ce_op o_mul ce_int (ce_ix (o_ix (hu_of hr)) (ce_var 0) ce_int))) ce_int))
  (cs_one (cs_ret (ce_op o_mod (ce_callTy (c_int) rfl X.n_int (by decide +kernel) (ca_cons (ce_op o_mod (ce_callTy (c_int) rfl X.n_int (by decide +kernel) (ca_cons (ce_op o_pow (ce_var 2) ce_int) ca_nil)) ce_int) ca_nil)) (ce_var 1)))))))))
theorem sc__law_one : FnScope ["_law_deck_here", "_law_items"] ["_law_deck_here", "_law_items"] (defScope st__law_one) := ⟨rfl, rfl, rfl, by decide +kernel, rfl, by decide +kernel, by decide +kernel⟩
theorem sim__law_one {P : Program} {w : World} {K : PySem.W.Frag} {mg : Str → Option Value} {base : Heap} (X : TX K mg) (hP : X.PO P w) : FnG P w K mg base 2 X.f__law_one X.d__law_one ["_law_deck_here", "_law_items"] (SpM (X.T w) 2 m__law_one) := by
  refine fn_sim (k := 1) (N := ["_law_deck_here", "_law_items"]) (T := X.T w) (b := b__law_one) X.F__law_one sc__law_one rfl fun cdv A outer s H E hr hg => ?_
  have tk := L2N.takes_of (X := cxOf (L2N.CX P w) P w K mg base ["_law_deck_here", "_law_items"] "_law_one" (defScope st__law_one) X.f__law_one cdv A outer s H E) (E := E) rfl rfl rfl rfl
  unfold b__law_one
  exact (cs_one (cs_ret (ce_ix (o_ix (hu_of hr)) (ce_var 1) (ce_call (sim__law_draw X hP) (hr.mono (by decide)) hg rfl X.g__law_draw X.F__law_draw.kp X.b__law_draw tk (ca_cons (ce_var 0) (ca_cons (ce_callB (c_len) rfl X.n_len (by decide +kernel) (ca_cons (ce_var 1) ca_nil)) ca_nil))))))
theorem sc__law_kept : FnScope ["_law_words"] [] (defScope st__law_kept) := ⟨rfl, rfl, rfl, by decide +kernel, rfl, by decide +kernel, by decide +kernel⟩
theorem sim__law_kept {P : Program} {w : World} {K : PySem.W.Frag} {mg : Str → Option Value} {base : Heap} (X : TX K mg) (hP : X.PO P w) : FnG P w K mg base 1 X.f__law_kept X.d__law_kept [] (SpM (X.T w) 0 m__law_kept) := by
  refine fn_sim (k := 0) (N := ["_law_words"]) (T := X.T w) (b := b__law_kept) X.F__law_kept sc__law_kept rfl fun cdv A outer s H E hr hg => ?_
  have tk := L2N.takes_of (X := cxOf (L2N.CX P w) P w K mg base ["_law_words"] "_law_kept" (defScope st__law_kept) X.f__law_kept cdv A outer s H E) (E := E) rfl rfl rfl rfl
  unfold b__law_kept
  exact (cs_cons (cs_set (i := 0) sc__law_kept.nd rfl (by first | exact Or.inl rfl | exact Or.inr rfl) ce_str)
  (cs_one (cs_ret (ce_bm0 (t := .str) PySem.F.plainAttrs_str PySem.F.slot_str_split PySem.F.type_str_split m_split0 (ce_var 0)))))
theorem sc__law_name : FnScope ["_law_deck_here", "_law_letters", "_law_name_here", "_law_k"] ["_law_deck_here"] (defScope st__law_name) := ⟨rfl, rfl, rfl, by decide +kernel, rfl, by decide +kernel, by decide +kernel⟩
theorem sim__law_name {P : Program} {w : World} {K : PySem.W.Frag} {mg : Str → Option Value} {base : Heap} (X : TX K mg) (hP : X.PO P w) : FnG P w K mg base 3 X.f__law_name X.d__law_name ["_law_deck_here"] (SpM (X.T w) 1 m__law_name) := by
  refine fn_sim (k := 2) (N := ["_law_deck_here", "_law_letters", "_law_name_here", "_law_k"]) (T := X.T w) (b := b__law_name) X.F__law_name sc__law_name rfl fun cdv A outer s H E hr hg => ?_
  have tk := L2N.takes_of (X := cxOf (L2N.CX P w) P w K mg base ["_law_deck_here", "_law_letters", "_law_name_here", "_law_k"] "_law_name" (defScope st__law_name) X.f__law_name cdv A outer s H E) (E := E) rfl rfl rfl rfl
  unfold b__law_name
  exact (cs_cons (cs_set (i := 1) sc__law_name.nd rfl (by first | exact Or.inl rfl | exact Or.inr rfl) ce_str)
  (cs_cons (cs_set (i := 2) sc__law_name.nd rfl (by first | exact Or.inl rfl | exact Or.inr rfl) (ce_call (sim__law_one X hP) (hr.mono (by decide)) hg rfl X.g__law_one X.F__law_one.kp X.b__law_one tk (ca_cons (ce_var 0) (ca_cons (ce_var 1) ca_nil))))
  (cs_cons (cs_forX (passes_of rfl) rfl (ci_rng1 rfl X.n_range (ca_cons (ce_call (sim__law_one X hP) (hr.mono (by decide)) hg rfl X.g__law_one X.F__law_one.kp X.b__law_one tk (ca_cons (ce_var 0) (ca_cons (ce_lst (ca_cons ce_int (ca_cons ce_int (ca_cons ce_int (ca_cons (ce_call (sim__law_draw X hP) (hr.mono (by decide)) hg rfl X.g__law_draw X.F__law_draw.kp X.b__law_draw tk (ca_cons (ce_var 0) (ca_cons ce_int ca_nil))) ca_nil))))) ca_nil))) ca_nil)) (cg_name (n := 3) sc__law_name.nd rfl (by first | exact Or.inl rfl | exact Or.inr rfl))
  (cs_one (cs_set (i := 2) sc__law_name.nd rfl (by first | exact Or.inl rfl | exact Or.inr rfl) (ce_op o_add (ce_var 2) (ce_call (sim__law_one X hP) (hr.mono (by decide)) hg rfl X.g__law_one X.F__law_one.kp X.b__law_one tk (ca_cons (ce_var 0) (ca_cons (ce_op o_add (ce_var 1) ce_str) ca_nil)))))))
  (cs_one (cs_ret (ce_if (ct_cmp (o_notIn (hu_of hr)) (ce_var 2) (ce_call0 (sim__law_kept X hP) (hr.mono (by decide)) hg rfl X.g__law_kept X.F__law_kept.kp X.b__law_kept tk)) (ce_var 2) (ce_op o_add (ce_slice o_sl (ce_var 2) co_none (co_some ce_int)) ce_str)))))))
theorem sc__law_word : FnScope ["_law_deck_here", "_law_signs", "_law_k"] ["_law_deck_here"] (defScope st__law_word) := ⟨rfl, rfl, rfl, by decide +kernel, rfl, by decide +kernel, by decide +kernel⟩
theorem sim__law_word {P : Program} {w : World} {K : PySem.W.Frag} {mg : Str → Option Value} {base : Heap} (X : TX K mg) (hP : X.PO P w) : FnG P w K mg base 3 X.f__law_word X.d__law_word ["_law_deck_here"] (SpM (X.T w) 1 m__law_word) := by
  refine fn_sim (k := 2) (N := ["_law_deck_here", "_law_signs", "_law_k"]) (T := X.T w) (b := b__law_word) X.F__law_word sc__law_word rfl fun cdv A outer s H E hr hg => ?_
  have tk := L2N.takes_of (X := cxOf (L2N.CX P w) P w K mg base ["_law_deck_here", "_law_signs", "_law_k"] "_law_word" (defScope st__law_word) X.f__law_word cdv A outer s H E) (E := E) rfl rfl rfl rfl
  unfold b__law_word
  exact (cs_cons (cs_set (i := 1) sc__law_word.nd rfl (by first | exact Or.inl rfl | exact Or.inr rfl) ce_str)
  (cs_one (cs_ret (ce_bm (t := .str) PySem.F.plainAttrs_str PySem.F.slot_str_join PySem.F.type_str_join m_join ce_str (ca_cons (ce_lcX (own := [("_law_k", 2)]) rfl sc__law_word.nd (ci_rng1 rfl X.n_range (ca_cons (ce_call (sim__law_one X hP) (hr.mono (by decide)) hg rfl X.g__law_one X.F__law_one.kp X.b__law_one tk (ca_cons (ce_var 0) (ca_cons (ce_lst (ca_cons ce_int (ca_cons ce_int (ca_cons ce_int (ca_cons (ce_op o_add ce_int (ce_call (sim__law_draw X hP) (hr.mono (by decide)) hg rfl X.g__law_draw X.F__law_draw.kp X.b__law_draw tk (ca_cons (ce_var 0) (ca_cons ce_int ca_nil)))) ca_nil))))) ca_nil))) ca_nil)) (blkOk_by (by kernel_rfl)) (tg_name (List.mem_cons_self ..)) (fun _ _ _ _ _ => pg_name (i := 2) sc__law_word.nd rfl (by first | exact Or.inl rfl | exact Or.inr rfl)) (fun _ _ _ _ _ => cts_nil) (fun _ _ _ _ _ => (ce_call (sim__law_one X hP) (hr.mono (by decide)) hg rfl X.g__law_one X.F__law_one.kp X.b__law_one takesN (ca_cons (ce_var 0) (ca_cons (ce_var 1) ca_nil))))) ca_nil)))))
theorem sc__law_pool : FnScope ["_law_deck_here", "_law_names", "_law_k"] ["_law_deck_here"] (defScope st__law_pool) := ⟨rfl, rfl, rfl, by decide +kernel, rfl, by decide +kernel, by decide +kernel⟩
theorem sim__law_pool {P : Program} {w : World} {K : PySem.W.Frag} {mg : Str → Option Value} {base : Heap} (X : TX K mg) (hP : X.PO P w) : FnG P w K mg base 4 X.f__law_pool X.d__law_pool ["_law_deck_here"] (SpM (X.T w) 1 m__law_pool) := by
  refine fn_sim (k := 3) (N := ["_law_deck_here", "_law_names", "_law_k"]) (T := X.T w) (b := b__law_pool) X.F__law_pool sc__law_pool rfl fun cdv A outer s H E hr hg => ?_
  have tk := L2N.takes_of (X := cxOf (L2N.CX P w) P w K mg base ["_law_deck_here", "_law_names", "_law_k"] "_law_pool" (defScope st__law_pool) X.f__law_pool cdv A outer s H E) (E := E) rfl rfl rfl rfl
  unfold b__law_pool
  exact (cs_cons (cs_setLcX (i := 1) (own := [("_law_k", 2)]) rfl sc__law_pool.nd rfl rfl (sw_true rfl rfl rfl (by kernel_rfl)) (ci_rng1 rfl X.n_range (ca_cons (ce_op o_add ce_int (ce_call (sim__law_draw X hP) (hr.mono (by decide)) hg rfl X.g__law_draw X.F__law_draw.kp X.b__law_draw tk (ca_cons (ce_var 0) (ca_cons ce_int ca_nil)))) ca_nil)) (blkOk_by (by kernel_rfl)) (tg_name (List.mem_cons_self ..)) (fun _ _ _ _ _ => pg_name (i := 2) sc__law_pool.nd rfl (by first | exact Or.inl rfl | exact Or.inr rfl)) (fun _ _ _ _ _ => cts_nil) (fun _ _ _ _ _ => (ce_call (sim__law_name X hP) (hr.mono (by decide)) hg rfl X.g__law_name X.F__law_name.kp X.b__law_name takesN (ca_cons (ce_var 0) ca_nil))))
  (cs_one (cs_ret (ce_lst (ca_cons (ce_var 1) (ca_cons (ce_lcX (own := [("_law_k", 2)]) rfl sc__law_pool.nd (ci_rng1 rfl X.n_range (ca_cons (ce_op o_add ce_int (ce_call (sim__law_draw X hP) (hr.mono (by decide)) hg rfl X.g__law_draw X.F__law_draw.kp X.b__law_draw tk (ca_cons (ce_var 0) (ca_cons ce_int ca_nil)))) ca_nil)) (blkOk_by (by kernel_rfl)) (tg_name (List.mem_cons_self ..)) (fun _ _ _ _ _ => pg_name (i := 2) sc__law_pool.nd rfl (by first | exact Or.inl rfl | exact Or.inr rfl)) (fun _ _ _ _ _ => cts_nil) (fun _ _ _ _ _ => (ce_call (sim__law_word X hP) (hr.mono (by decide)) hg rfl X.g__law_word X.F__law_word.kp X.b__law_word takesN (ca_cons (ce_var 0) ca_nil)))) (ca_cons (ce_call (sim__law_draw X hP) (hr.mono (by decide)) hg rfl X.g__law_draw X.F__law_draw.kp X.b__law_draw tk (ca_cons (ce_var 0) (ca_cons ce_int ca_nil))) ca_nil)))))))
theorem sc__law_any_test : FnScope ["_law_deck_here", "_law_pool_here", "_law_some", "_law_test", "_law_k", "_law_x", "_law_y", "_law_word_here"] ["_law_deck_here", "_law_pool_here"] (defScope st__law_any_test) := ⟨rfl, rfl, rfl, by decide +kernel, rfl, by decide +kernel, by decide +kernel⟩
theorem sim__law_any_test {P : Program} {w : World} {K : PySem.W.Frag} {mg : Str → Option Value} {base : Heap} (X : TX K mg) (hP : X.PO P w) : FnG P w K mg base 3 X.f__law_any_test X.d__law_any_test ["_law_deck_here", "_law_pool_here"] (SpM (X.T w) 2 m__law_any_test) := by
  refine fn_sim (k := 2) (N := ["_law_deck_here", "_law_pool_here", "_law_some", "_law_test", "_law_k", "_law_x", "_law_y", "_law_word_here"]) (T := X.T w) (b := b__law_any_test) X.F__law_any_test sc__law_any_test rfl fun cdv A outer s H E hr hg => ?_
  have tk := L2N.takes_of (X := cxOf (L2N.CX P w) P w K mg base ["_law_deck_here", "_law_pool_here", "_law_some", "_law_test", "_law_k", "_law_x", "_law_y", "_law_word_here"] "_law_any_test" (defScope st__law_any_test) X.f__law_any_test cdv A outer s H E) (E := E) rfl rfl rfl rfl
  unfold b__law_any_test
  exact (cs_cons (cs_par3 (i := 5) (j := 6) (l := 7) rfl sc__law_any_test.nd rfl rfl rfl (by decide) (by decide) (by decide) rfl rfl rfl (ca_cons (ce_call (sim__law_one X hP) (hr.mono (by decide)) hg rfl X.g__law_one X.F__law_one.kp X.b__law_one tk (ca_cons (ce_var 0) (ca_cons (ce_ix (o_ix (hu_of hr)) (ce_var 1) ce_int) ca_nil))) (ca_cons (ce_call (sim__law_one X hP) (hr.mono (by decide)) hg rfl X.g__law_one X.F__law_one.kp X.b__law_one tk (ca_cons (ce_var 0) (ca_cons (ce_ix (o_ix (hu_of hr)) (ce_var 1) ce_int) ca_nil))) (ca_cons (ce_call (sim__law_one X hP) (hr.mono (by decide)) hg rfl X.g__law_one X.F__law_one.kp X.b__law_one tk (ca_cons (ce_var 0) (ca_cons (ce_ix (o_ix (hu_of hr)) (ce_var 1) ce_int) ca_nil))) ca_nil))) (by rfl))
  (cs_cons (cs_set (i := 2) sc__law_any_test.nd rfl (by first | exact Or.inl rfl | exact Or.inr rfl) (ce_lst (ca_cons (ce_tup (ca_cons ce_str (ca_cons (ce_var 5) ca_nil))) (ca_cons (ce_tup (ca_cons ce_str (ca_cons (ce_var 5) (ca_cons (ce_var 6) ca_nil)))) (ca_cons (ce_tup (ca_cons ce_str (ca_cons (ce_var 5) (ca_cons (ce_var 6) ca_nil)))) (ca_cons (ce_tup (ca_cons ce_str (ca_cons (ce_var 7) ca_nil))) ca_nil))))))
  (cs_cons (cs_if (ct_cmp o_gt (ce_ix (o_ix (hu_of hr)) (ce_var 1) ce_int) ce_int) (cs_one (cs_expr (ce_bm (t := .list) PySem.F.plainAttrs_list PySem.F.slot_list_append PySem.F.type_list_append m_append (ce_var 2) (ca_cons (ce_tup (ca_cons ce_str (ca_cons (ce_call (sim__law_draw X hP) (hr.mono (by decide)) hg rfl X.g__law_draw X.F__law_draw.kp X.b__law_draw tk (ca_cons (ce_var 0) (ca_cons (ce_ix (o_ix (hu_of hr)) (ce_var 1) ce_int) ca_nil))) ca_nil))) ca_nil)))) cs_nil)
  (cs_cons (cs_set (i := 3) sc__law_any_test.nd rfl (by first | exact Or.inl rfl | exact Or.inr rfl) (ce_call (sim__law_one X hP) (hr.mono (by decide)) hg rfl X.g__law_one X.F__law_one.kp X.b__law_one tk (ca_cons (ce_var 0) (ca_cons (ce_var 2) ca_nil))))
  (cs_cons (cs_forX (passes_of rfl) rfl (ci_rng1 rfl X.n_range (ca_cons (ce_call (sim__law_one X hP) (hr.mono (by decide)) hg rfl X.g__law_one X.F__law_one.kp X.b__law_one tk (ca_cons (ce_var 0) (ca_cons (ce_lst (ca_cons ce_int (ca_cons ce_int (ca_cons ce_int (ca_cons ce_int (ca_cons ce_int ca_nil)))))) ca_nil))) ca_nil)) (cg_name (n := 4) sc__law_any_test.nd rfl (by first | exact Or.inl rfl | exact Or.inr rfl))
  (cs_one (cs_set (i := 3) sc__law_any_test.nd rfl (by first | exact Or.inl rfl | exact Or.inr rfl) (ce_tup (ca_cons ce_str (ca_cons (ce_var 3) ca_nil))))))
  (cs_one (cs_ret (ce_var 3))))))))
theorem sc__law_row : FnScope ["_law_deck_here", "_law_pool_here", "_law_some", "_law_x", "_law_y", "_law_z", "_law_f", "_law_word_here"] ["_law_deck_here", "_law_pool_here"] (defScope st__law_row) := ⟨rfl, rfl, rfl, by decide +kernel, rfl, by decide +kernel, by decide +kernel⟩
theorem sim__law_row {P : Program} {w : World} {K : PySem.W.Frag} {mg : Str → Option Value} {base : Heap} (X : TX K mg) (hP : X.PO P w) : FnG P w K mg base 4 X.f__law_row X.d__law_row ["_law_deck_here", "_law_pool_here"] (SpM (X.T w) 2 m__law_row) := by
  refine fn_sim (k := 3) (N := ["_law_deck_here", "_law_pool_here", "_law_some", "_law_x", "_law_y", "_law_z", "_law_f", "_law_word_here"]) (T := X.T w) (b := b__law_row) X.F__law_row sc__law_row rfl fun cdv A outer s H E hr hg => ?_
  have tk := L2N.takes_of (X := cxOf (L2N.CX P w) P w K mg base ["_law_deck_here", "_law_pool_here", "_law_some", "_law_x", "_law_y", "_law_z", "_law_f", "_law_word_here"] "_law_row" (defScope st__law_row) X.f__law_row cdv A outer s H E) (E := E) rfl rfl rfl rfl
  unfold b__law_row
  exact (cs_cons (cs_par3 (i := 3) (j := 4) (l := 5) rfl sc__law_row.nd rfl rfl rfl (by decide) (by decide) (by decide) rfl rfl rfl (ca_cons (ce_call (sim__law_one X hP) (hr.mono (by decide)) hg rfl X.g__law_one X.F__law_one.kp X.b__law_one tk (ca_cons (ce_var 0) (ca_cons (ce_ix (o_ix (hu_of hr)) (ce_var 1) ce_int) ca_nil))) (ca_cons (ce_call (sim__law_one X hP) (hr.mono (by decide)) hg rfl X.g__law_one X.F__law_one.kp X.b__law_one tk (ca_cons (ce_var 0) (ca_cons (ce_ix (o_ix (hu_of hr)) (ce_var 1) ce_int) ca_nil))) (ca_cons (ce_call (sim__law_one X hP) (hr.mono (by decide)) hg rfl X.g__law_one X.F__law_one.kp X.b__law_one tk (ca_cons (ce_var 0) (ca_cons (ce_ix (o_ix (hu_of hr)) (ce_var 1) ce_int) ca_nil))) ca_nil))) (by rfl))
  (cs_cons (cs_par (i := 6) (j := 7) rfl sc__law_row.nd rfl rfl (by decide) rfl rfl (ca_cons (ce_call (sim__law_one X hP) (hr.mono (by decide)) hg rfl X.g__law_one X.F__law_one.kp X.b__law_one tk (ca_cons (ce_var 0) (ca_cons (ce_ix (o_ix (hu_of hr)) (ce_var 1) ce_int) ca_nil))) (ca_cons (ce_call (sim__law_one X hP) (hr.mono (by decide)) hg rfl X.g__law_one X.F__law_one.kp X.b__law_one tk (ca_cons (ce_var 0) (ca_cons (ce_ix (o_ix (hu_of hr)) (ce_var 1) ce_int) ca_nil))) ca_nil)) (by rfl))
  (cs_cons (cs_set (i := 2) sc__law_row.nd rfl (by first | exact Or.inl rfl | exact Or.inr rfl) (ce_lst (ca_cons (ce_tup (ca_cons ce_str (ca_cons (ce_var 3) ca_nil))) (ca_cons (ce_tup (ca_cons ce_str (ca_cons (ce_var 3) ca_nil))) (ca_cons (ce_tup (ca_cons ce_str (ca_cons (ce_var 3) ca_nil))) (ca_cons (ce_tup (ca_cons ce_str (ca_cons (ce_var 3) (ca_cons (ce_var 7) ca_nil)))) (ca_cons (ce_tup (ca_cons ce_str (ca_cons (ce_var 3) (ca_cons (ce_var 4) ca_nil)))) (ca_cons (ce_tup (ca_cons ce_str (ca_cons (ce_var 3) (ca_cons (ce_var 6) (ca_cons (ce_var 4) ca_nil))))) ca_nil))))))))
  (cs_cons (cs_set (i := 2) sc__law_row.nd rfl (by first | exact Or.inl rfl | exact Or.inr rfl) (ce_op o_add (ce_var 2) (ce_lst (ca_cons (ce_tup (ca_cons ce_str (ca_cons (ce_var 3) (ca_cons (ce_var 6) (ca_cons (ce_var 4) ca_nil))))) (ca_cons (ce_tup (ca_cons ce_str (ca_cons (ce_var 3) (ca_cons (ce_var 6) ca_nil)))) (ca_cons (ce_tup (ca_cons ce_str (ca_cons (ce_var 5) (ca_cons (ce_var 3) (ca_cons (ce_var 6) ca_nil))))) (ca_cons (ce_tup (ca_cons ce_str (ca_cons (ce_var 7) ca_nil))) ca_nil)))))))
  (cs_one (cs_ret (ce_call (sim__law_one X hP) (hr.mono (by decide)) hg rfl X.g__law_one X.F__law_one.kp X.b__law_one tk (ca_cons (ce_var 0) (ca_cons (ce_op o_add (ce_var 2) (ce_lst (ca_cons (ce_tup (ca_cons ce_str (ca_cons (ce_call (sim__law_any_test X hP) (hr.mono (by decide)) hg rfl X.g__law_any_test X.F__law_any_test.kp X.b__law_any_test tk (ca_cons (ce_var 0) (ca_cons (ce_var 1) ca_nil))) ca_nil))) ca_nil))) ca_nil)))))))))
theorem sc__law_is_name : FnScope ["_law_value", "_law_letters", "_law_sign"] ["_law_value"] (defScope st__law_is_name) := ⟨rfl, rfl, rfl, by decide +kernel, rfl, by decide +kernel, by decide +kernel⟩
theorem sim__law_is_name {P : Program} {w : World} {K : PySem.W.Frag} {mg : Str → Option Value} {base : Heap} (X : TX K mg) (hP : X.PO P w) : FnG P w K mg base 2 X.f__law_is_name X.d__law_is_name ["_law_value"] (SpM (X.T w) 1 m__law_is_name) := by
  refine fn_sim (k := 1) (N := ["_law_value", "_law_letters", "_law_sign"]) (T := X.T w) (b := b__law_is_name) X.F__law_is_name sc__law_is_name rfl fun cdv A outer s H E hr hg => ?_
  have tk := L2N.takes_of (X := cxOf (L2N.CX P w) P w K mg base ["_law_value", "_law_letters", "_law_sign"] "_law_is_name" (defScope st__law_is_name) X.f__law_is_name cdv A outer s H E) (E := E) rfl rfl rfl rfl
  unfold b__law_is_name
  exact (cs_cons (cs_set (i := 1) sc__law_is_name.nd rfl (by first | exact Or.inl rfl | exact Or.inr rfl) ce_str)
  (cs_cons (cs_if (PW.pt (cw_or (ct_not (ct_val (ce_callB c_isi rfl X.n_isinstance (by decide +kernel) (ca_cons (ce_var 0) (ca_cons (ce_ty rfl X.n_str (by decide +kernel)) ca_nil))))) (cw_or (ct_not (ct_chain o_le o_le ce_int (ce_callB (c_len) rfl X.n_len (by decide +kernel) (ca_cons (ce_var 0) ca_nil)) ce_int)) (cw_or1 (ct_cmp (o_in (hu_of hr)) (ce_var 0) (ce_call0 (sim__law_kept X hP) (hr.mono (by decide)) hg rfl X.g__law_kept X.F__law_kept.kp X.b__law_kept tk)))))) (cs_one (cs_ret ce_bl)) cs_nil)
  (cs_one (cs_ret (ce_and (ce_cmp (o_in (hu_of hr)) (ce_ix (o_ix (hu_of hr)) (ce_var 0) ce_int) (ce_var 1)) (ce_one (ce_cmp (o_eqE hr.units) (ce_lcX (own := [("_law_sign", 2)]) rfl sc__law_is_name.nd (ci_str (ce_var 0)) (blkOk_by (by kernel_rfl)) (tg_name (List.mem_cons_self ..)) (fun _ _ _ _ _ => pg_name (i := 2) sc__law_is_name.nd rfl (by first | exact Or.inl rfl | exact Or.inr rfl)) (fun _ _ _ _ _ => (cts_one (ct_cmp (o_notIn (hu_of hr)) (ce_var 2) (ce_op o_add (ce_var 1) ce_str)))) (fun _ _ _ _ _ => (ce_var 2))) (ce_lst ca_nil))))))))
theorem sc__law_is_word : FnScope ["_law_value", "_law_signs", "_law_sign"] ["_law_value"] (defScope st__law_is_word) := ⟨rfl, rfl, rfl, by decide +kernel, rfl, by decide +kernel, by decide +kernel⟩
theorem sim__law_is_word {P : Program} {w : World} {K : PySem.W.Frag} {mg : Str → Option Value} {base : Heap} (X : TX K mg) (hP : X.PO P w) : FnG P w K mg base 1 X.f__law_is_word X.d__law_is_word ["_law_value"] (SpM (X.T w) 1 m__law_is_word) := by
  refine fn_sim (k := 0) (N := ["_law_value", "_law_signs", "_law_sign"]) (T := X.T w) (b := b__law_is_word) X.F__law_is_word sc__law_is_word rfl fun cdv A outer s H E hr hg => ?_
  have tk := L2N.takes_of (X := cxOf (L2N.CX P w) P w K mg base ["_law_value", "_law_signs", "_law_sign"] "_law_is_word" (defScope st__law_is_word) X.f__law_is_word cdv A outer s H E) (E := E) rfl rfl rfl rfl
  unfold b__law_is_word
  exact (cs_cons (cs_set (i := 1) sc__law_is_word.nd rfl (by first | exact Or.inl rfl | exact Or.inr rfl) ce_str)
  (cs_one (cs_ret (ce_and (ce_callB c_isi rfl X.n_isinstance (by decide +kernel) (ca_cons (ce_var 0) (ca_cons (ce_ty rfl X.n_str (by decide +kernel)) ca_nil))) (ce_and (ce_chain o_le o_le ce_int (ce_callB (c_len) rfl X.n_len (by decide +kernel) (ca_cons (ce_var 0) ca_nil)) ce_int) (ce_one (ce_cmp (o_eqE hr.units) (ce_lcX (own := [("_law_sign", 2)]) rfl sc__law_is_word.nd (ci_str (ce_var 0)) (blkOk_by (by kernel_rfl)) (tg_name (List.mem_cons_self ..)) (fun _ _ _ _ _ => pg_name (i := 2) sc__law_is_word.nd rfl (by first | exact Or.inl rfl | exact Or.inr rfl)) (fun _ _ _ _ _ => (cts_one (ct_cmp (o_notIn (hu_of hr)) (ce_var 2) (ce_var 1)))) (fun _ _ _ _ _ => (ce_var 2))) (ce_lst ca_nil))))))))
theorem sc__law_is_number : FnScope ["_law_value", "_law_low", "_law_high"] ["_law_value", "_law_low", "_law_high"] (defScope st__law_is_number) := ⟨rfl, rfl, rfl, by decide +kernel, rfl, by decide +kernel, by decide +kernel⟩
theorem sim__law_is_number {P : Program} {w : World} {K : PySem.W.Frag} {mg : Str → Option Value} {base : Heap} (X : TX K mg) (hP : X.PO P w) : FnG P w K mg base 1 X.f__law_is_number X.d__law_is_number ["_law_value", "_law_low", "_law_high"] (SpM (X.T w) 3 m__law_is_number) := by
  refine fn_sim (k := 0) (N := ["_law_value", "_law_low", "_law_high"]) (T := X.T w) (b := b__law_is_number) X.F__law_is_number sc__law_is_number rfl fun cdv A outer s H E hr hg => ?_
  have tk := L2N.takes_of (X := cxOf (L2N.CX P w) P w K mg base ["_law_value", "_law_low", "_law_high"] "_law_is_number" (defScope st__law_is_number) X.f__law_is_number cdv A outer s H E) (E := E) rfl rfl rfl rfl
  unfold b__law_is_number
  exact (cs_one (cs_ret (ce_and (ce_callB c_isi rfl X.n_isinstance (by decide +kernel) (ca_cons (ce_var 0) (ca_cons (ce_ty rfl X.n_int (by decide +kernel)) ca_nil))) (ce_and (ce_not (ce_callB c_isi rfl X.n_isinstance (by decide +kernel) (ca_cons (ce_var 0) (ca_cons (ce_ty rfl X.n_bool (by decide +kernel)) ca_nil)))) (ce_one (ce_chain o_le o_le (ce_var 1) (ce_var 0) (ce_var 2)))))))
theorem sc__law_is_test : FnScope ["_law_value", "_law_givens", "_law_nots", "_law_word_here", "_law_rest", "_law_item"] ["_law_value", "_law_givens"] (defScope st__law_is_test) := ⟨rfl, rfl, rfl, by decide +kernel, rfl, by decide +kernel, by decide +kernel⟩
theorem sim__law_is_test {P : Program} {w : World} {K : PySem.W.Frag} {mg : Str → Option Value} {base : Heap} (X : TX K mg) (hP : X.PO P w) : FnG P w K mg base 3 X.f__law_is_test X.d__law_is_test ["_law_value", "_law_givens"] (SpM (X.T w) 2 m__law_is_test) := by
  refine fn_sim (k := 2) (N := ["_law_value", "_law_givens", "_law_nots", "_law_word_here", "_law_rest", "_law_item"]) (T := X.T w) (b := b__law_is_test) X.F__law_is_test sc__law_is_test rfl fun cdv A outer s H E hr hg => ?_
  have tk := L2N.takes_of (X := cxOf (L2N.CX P w) P w K mg base ["_law_value", "_law_givens", "_law_nots", "_law_word_here", "_law_rest", "_law_item"] "_law_is_test" (defScope st__law_is_test) X.f__law_is_test cdv A outer s H E) (E := E) rfl rfl rfl rfl
  unfold b__law_is_test
  exact (cs_cons (cs_set (i := 2) sc__law_is_test.nd rfl (by first | exact Or.inl rfl | exact Or.inr rfl) ce_int)
  (cs_cons (cs_while 100000 (passes_of rfl) (PW.pt (cw_and (ct_cmp o_lt (ce_var 2) ce_int) (cw_and (ct_val (ce_callB c_isi rfl X.n_isinstance (by decide +kernel) (ca_cons (ce_var 0) (ca_cons (ce_ty rfl X.n_tuple (by decide +kernel)) ca_nil)))) (cw_and (ct_cmp (o_eq hr.units) (ce_callB (c_len) rfl X.n_len (by decide +kernel) (ca_cons (ce_var 0) ca_nil)) ce_int) (cw_and1 (ct_cmp (o_eqS hr.units) (ce_ix (o_ix (hu_of hr)) (ce_var 0) ce_int) ce_str)))))) (cs_one (cs_par (i := 0) (j := 2) rfl sc__law_is_test.nd rfl rfl (by decide) rfl rfl (ca_cons (ce_ix (o_ix (hu_of hr)) (ce_var 0) ce_int) (ca_cons (ce_op o_add (ce_var 2) ce_int) ca_nil)) (by rfl))))
  (cs_cons (cs_if (PW.pt (cw_or (ct_not (ct_val (ce_callB c_isi rfl X.n_isinstance (by decide +kernel) (ca_cons (ce_var 0) (ca_cons (ce_ty rfl X.n_tuple (by decide +kernel)) ca_nil))))) (cw_or1 (ct_cmp o_lt (ce_callB (c_len) rfl X.n_len (by decide +kernel) (ca_cons (ce_var 0) ca_nil)) ce_int)))) (cs_one (cs_ret ce_bl)) cs_nil)
  (cs_cons (cs_par (i := 3) (j := 4) rfl sc__law_is_test.nd rfl rfl (by decide) rfl rfl (ca_cons (ce_ix (o_ix (hu_of hr)) (ce_var 0) ce_int) (ca_cons (ce_slice o_sl (ce_var 0) (co_some ce_int) co_none) ca_nil)) (by rfl))
  (cs_cons (cs_if (ct_cmp (o_eqS hr.units) (ce_var 3) ce_str) (cs_one (cs_ret (ce_and (ce_cmp (o_eq hr.units) (ce_callB (c_len) rfl X.n_len (by decide +kernel) (ca_cons (ce_var 4) ca_nil)) ce_int) (ce_one (ce_call (sim__law_is_number X hP) (hr.mono (by decide)) hg rfl X.g__law_is_number X.F__law_is_number.kp X.b__law_is_number tk (ca_cons (ce_ix (o_ix (hu_of hr)) (ce_var 4) ce_int) (ca_cons ce_int (ca_cons (ce_op o_sub (ce_var 1) ce_int) ca_nil)))))))) cs_nil)
  (cs_cons (cs_if (ct_cmp (o_eqS hr.units) (ce_var 3) ce_str) (cs_one (cs_ret (ce_and (ce_cmp (o_eq hr.units) (ce_callB (c_len) rfl X.n_len (by decide +kernel) (ca_cons (ce_var 4) ca_nil)) ce_int) (ce_one (ce_call (sim__law_is_word X hP) (hr.mono (by decide)) hg rfl X.g__law_is_word X.F__law_is_word.kp X.b__law_is_word tk (ca_cons (ce_ix (o_ix (hu_of hr)) (ce_var 4) ce_int) ca_nil)))))) cs_nil)
  (cs_cons (cs_if (PW.pt (cw_and (ct_cmp (o_neS hr.units) (ce_var 3) ce_str) (cw_and (ct_cmp (o_neS hr.units) (ce_var 3) ce_str) (cw_and1 (ct_cmp (o_neS hr.units) (ce_var 3) ce_str))))) (cs_one (cs_ret ce_bl)) cs_nil)
  (cs_one (cs_ret (ce_and (ce_cmp (o_eq hr.units) (ce_callB (c_len) rfl X.n_len (by decide +kernel) (ca_cons (ce_var 4) ca_nil)) (ce_if (ct_cmp (o_eqS hr.units) (ce_var 3) ce_str) ce_int ce_int)) (ce_one (ce_cmp (o_eqE hr.units) (ce_lcX (own := [("_law_item", 5)]) rfl sc__law_is_test.nd (ci_tup (ce_var 4)) (blkOk_by (by kernel_rfl)) (tg_name (List.mem_cons_self ..)) (fun _ _ _ _ _ => pg_name (i := 5) sc__law_is_test.nd rfl (by first | exact Or.inl rfl | exact Or.inr rfl)) (fun _ _ _ _ _ => (cts_one (ct_not (ct_val (ce_call (sim__law_is_name X hP) (hr.mono (by decide)) hg rfl X.g__law_is_name X.F__law_is_name.kp X.b__law_is_name takesN (ca_cons (ce_var 5) ca_nil)))))) (fun _ _ _ _ _ => (ce_var 5))) (ce_lst ca_nil)))))))))))))
theorem sc__law_is_row : FnScope ["_law_value", "_law_givens", "_law_counts", "_law_word_here", "_law_rest", "_law_blocks", "_law_item"] ["_law_value", "_law_givens"] (defScope st__law_is_row) := ⟨rfl, rfl, rfl, by decide +kernel, rfl, by decide +kernel, by decide +kernel⟩
theorem sim__law_is_row {P : Program} {w : World} {K : PySem.W.Frag} {mg : Str → Option Value} {base : Heap} (X : TX K mg) (hP : X.PO P w) : FnG P w K mg base 4 X.f__law_is_row X.d__law_is_row ["_law_value", "_law_givens"] (SpM (X.T w) 2 m__law_is_row) := by
  refine fn_sim (k := 3) (N := ["_law_value", "_law_givens", "_law_counts", "_law_word_here", "_law_rest", "_law_blocks", "_law_item"]) (T := X.T w) (b := b__law_is_row) X.F__law_is_row sc__law_is_row rfl fun cdv A outer s H E hr hg => ?_
  have tk := L2N.takes_of (X := cxOf (L2N.CX P w) P w K mg base ["_law_value", "_law_givens", "_law_counts", "_law_word_here", "_law_rest", "_law_blocks", "_law_item"] "_law_is_row" (defScope st__law_is_row) X.f__law_is_row cdv A outer s H E) (E := E) rfl rfl rfl rfl
  unfold b__law_is_row
  exact (cs_cons (cs_if (PW.pt (cw_or (ct_not (ct_val (ce_callB c_isi rfl X.n_isinstance (by decide +kernel) (ca_cons (ce_var 0) (ca_cons (ce_ty rfl X.n_tuple (by decide +kernel)) ca_nil))))) (cw_or (ct_cmp o_lt (ce_callB (c_len) rfl X.n_len (by decide +kernel) (ca_cons (ce_var 0) ca_nil)) ce_int) (cw_or1 (ct_not (ct_val (ce_callB c_isi rfl X.n_isinstance (by decide +kernel) (ca_cons (ce_ix (o_ix (hu_of hr)) (ce_var 0) ce_int) (ca_cons (ce_ty rfl X.n_str (by decide +kernel)) ca_nil))))))))) (cs_one (cs_ret ce_bl)) cs_nil)
  (cs_cons (cs_par (i := 3) (j := 4) rfl sc__law_is_row.nd rfl rfl (by decide) rfl rfl (ca_cons (ce_ix (o_ix (hu_of hr)) (ce_var 0) ce_int) (ca_cons (ce_slice o_sl (ce_var 0) (co_some ce_int) co_none) ca_nil)) (by rfl))
  (cs_cons (cs_if (ct_cmp (o_eqS hr.units) (ce_var 3) ce_str) (cs_one (cs_ret (ce_and (ce_cmp (o_eq hr.units) (ce_callB (c_len) rfl X.n_len (by decide +kernel) (ca_cons (ce_var 4) ca_nil)) ce_int) (ce_one (ce_call (sim__law_is_test X hP) (hr.mono (by decide)) hg rfl X.g__law_is_test X.F__law_is_test.kp X.b__law_is_test tk (ca_cons (ce_ix (o_ix (hu_of hr)) (ce_var 4) ce_int) (ca_cons (ce_var 1) ca_nil))))))) cs_nil)
  (cs_cons (cs_if (ct_cmp (o_eqS hr.units) (ce_var 3) ce_str) (cs_cons (cs_setLcX (i := 5) (own := [("_law_item", 6)]) rfl sc__law_is_row.nd rfl rfl (sw_true rfl rfl rfl (by kernel_rfl)) (ci_tup (ce_slice o_sl (ce_var 4) (co_some ce_int) co_none)) (blkOk_by (by kernel_rfl)) (tg_name (List.mem_cons_self ..)) (fun _ _ _ _ _ => pg_name (i := 6) sc__law_is_row.nd rfl (by first | exact Or.inl rfl | exact Or.inr rfl)) (fun _ _ _ _ _ => (cts_one (ct_val (ce_callB c_isi rfl X.n_isinstance (by decide +kernel) (ca_cons (ce_var 6) (ca_cons (ce_ty rfl X.n_tuple (by decide +kernel)) ca_nil)))))) (fun _ _ _ _ _ => (ce_var 6)))
  (cs_one (cs_ret (ce_and (ce_cmp (o_eq hr.units) (ce_callB (c_len) rfl X.n_len (by decide +kernel) (ca_cons (ce_var 4) ca_nil)) ce_int) (ce_and (ce_call (sim__law_is_test X hP) (hr.mono (by decide)) hg rfl X.g__law_is_test X.F__law_is_test.kp X.b__law_is_test tk (ca_cons (ce_ix (o_ix (hu_of hr)) (ce_var 4) ce_int) (ca_cons (ce_var 1) ca_nil))) (ce_one (ce_cmp (o_eq hr.units) (ce_callB (c_len) rfl X.n_len (by decide +kernel) (ca_cons (ce_var 5) ca_nil)) ce_int))))))) cs_nil)
  (cs_cons (cs_if (ct_cmp (o_eqS hr.units) (ce_var 3) ce_str) (cs_one (cs_ret (ce_and (ce_cmp (o_eq hr.units) (ce_callB (c_len) rfl X.n_len (by decide +kernel) (ca_cons (ce_var 4) ca_nil)) ce_int) (ce_and (ce_call (sim__law_is_number X hP) (hr.mono (by decide)) hg rfl X.g__law_is_number X.F__law_is_number.kp X.b__law_is_number tk (ca_cons (ce_ix (o_ix (hu_of hr)) (ce_var 4) ce_int) (ca_cons ce_int (ca_cons ce_int ca_nil)))) (ce_one (ce_callB c_isi rfl X.n_isinstance (by decide +kernel) (ca_cons (ce_ix (o_ix (hu_of hr)) (ce_var 4) ce_int) (ca_cons (ce_ty rfl X.n_tuple (by decide +kernel)) ca_nil)))))))) cs_nil)
  (cs_cons (cs_if (ct_cmp (o_eqS hr.units) (ce_var 3) ce_str) (cs_one (cs_ret (ce_and (ce_cmp (o_eq hr.units) (ce_callB (c_len) rfl X.n_len (by decide +kernel) (ca_cons (ce_var 4) ca_nil)) ce_int) (ce_one (ce_call (sim__law_is_word X hP) (hr.mono (by decide)) hg rfl X.g__law_is_word X.F__law_is_word.kp X.b__law_is_word tk (ca_cons (ce_ix (o_ix (hu_of hr)) (ce_var 4) ce_int) ca_nil)))))) cs_nil)
  (cs_cons (cs_if (ct_cmp (o_eqS hr.units) (ce_var 3) ce_str) (cs_one (cs_ret (ce_and (ce_cmp (o_eq hr.units) (ce_callB (c_len) rfl X.n_len (by decide +kernel) (ca_cons (ce_var 4) ca_nil)) ce_int) (ce_and (ce_call (sim__law_is_name X hP) (hr.mono (by decide)) hg rfl X.g__law_is_name X.F__law_is_name.kp X.b__law_is_name tk (ca_cons (ce_ix (o_ix (hu_of hr)) (ce_var 4) ce_int) ca_nil)) (ce_one (ce_call (sim__law_is_word X hP) (hr.mono (by decide)) hg rfl X.g__law_is_word X.F__law_is_word.kp X.b__law_is_word tk (ca_cons (ce_ix (o_ix (hu_of hr)) (ce_var 4) ce_int) ca_nil))))))) cs_nil)
  (cs_cons (cs_set (i := 2) sc__law_is_row.nd rfl (by first | exact Or.inl rfl | exact Or.inr rfl) (ce_dict (ps := [((eC (.str "make")), (eC (.int 1))), ((eC (.str "keep")), (eC (.int 1))), ((eC (.str "drop")), (eC (.int 1))), ((eC (.str "name")), (eC (.int 2))), ((eC (.str "hold")), (eC (.int 3))), ((eC (.str "weak")), (eC (.int 3))), ((eC (.str "cut")), (eC (.int 2))), ((eC (.str "take")), (eC (.int 3)))]) (pps_cons ce_str ce_int (pps_cons ce_str ce_int (pps_cons ce_str ce_int (pps_cons ce_str ce_int (pps_cons ce_str ce_int (pps_cons ce_str ce_int (pps_cons ce_str ce_int (pps_cons ce_str ce_int pps_nil))))))))))
  (cs_one (cs_ret (ce_and (ce_cmp (o_eq hr.units) (ce_callB (c_len) rfl X.n_len (by decide +kernel) (ca_cons (ce_var 4) ca_nil)) (ce_dget2 (hu_of hr) (ce_var 2) (ce_var 3) ce_int ⟨rfl, rfl, rfl, rfl⟩)) (ce_one (ce_cmp (o_eqE hr.units) (ce_lcX (own := [("_law_item", 6)]) rfl sc__law_is_row.nd (ci_tup (ce_var 4)) (blkOk_by (by kernel_rfl)) (tg_name (List.mem_cons_self ..)) (fun _ _ _ _ _ => pg_name (i := 6) sc__law_is_row.nd rfl (by first | exact Or.inl rfl | exact Or.inr rfl)) (fun _ _ _ _ _ => (cts_one (ct_not (ct_val (ce_call (sim__law_is_name X hP) (hr.mono (by decide)) hg rfl X.g__law_is_name X.F__law_is_name.kp X.b__law_is_name takesN (ca_cons (ce_var 6) ca_nil)))))) (fun _ _ _ _ _ => (ce_var 6))) (ce_lst ca_nil))))))))))))))
theorem sc__law_odd : FnScope ["_law_deck_here", "_law_pool_here", "_law_sign", "_law_at", "_law_some", "_law_name_here", "_law_word_here"] ["_law_deck_here", "_law_pool_here"] (defScope st__law_odd) := ⟨rfl, rfl, rfl, by decide +kernel, rfl, by decide +kernel, by decide +kernel⟩
theorem sim__law_odd {P : Program} {w : World} {K : PySem.W.Frag} {mg : Str → Option Value} {base : Heap} (X : TX K mg) (hP : X.PO P w) : FnG P w K mg base 3 X.f__law_odd X.d__law_odd ["_law_deck_here", "_law_pool_here"] (SpM (X.T w) 2 m__law_odd) := by
  refine fn_sim (k := 2) (N := ["_law_deck_here", "_law_pool_here", "_law_sign", "_law_at", "_law_some", "_law_name_here", "_law_word_here"]) (T := X.T w) (b := b__law_odd) X.F__law_odd sc__law_odd rfl fun cdv A outer s H E hr hg => ?_
  have tk := L2N.takes_of (X := cxOf (L2N.CX P w) P w K mg base ["_law_deck_here", "_law_pool_here", "_law_sign", "_law_at", "_law_some", "_law_name_here", "_law_word_here"] "_law_odd" (defScope st__law_odd) X.f__law_odd cdv A outer s H E) (E := E) rfl rfl rfl rfl
  unfold b__law_odd
  exact (cs_cons (cs_par (i := 5) (j := 6) rfl sc__law_odd.nd rfl rfl (by decide) rfl rfl (ca_cons (ce_call (sim__law_one X hP) (hr.mono (by decide)) hg rfl X.g__law_one X.F__law_one.kp X.b__law_one tk (ca_cons (ce_var 0) (ca_cons (ce_ix (o_ix (hu_of hr)) (ce_var 1) ce_int) ca_nil))) (ca_cons (ce_call (sim__law_one X hP) (hr.mono (by decide)) hg rfl X.g__law_one X.F__law_one.kp X.b__law_one tk (ca_cons (ce_var 0) (ca_cons (ce_ix (o_ix (hu_of hr)) (ce_var 1) ce_int) ca_nil))) ca_nil)) (by rfl))
  (cs_cons (cs_set (i := 2) sc__law_odd.nd rfl (by first | exact Or.inl rfl | exact Or.inr rfl) (ce_call (sim__law_one X hP) (hr.mono (by decide)) hg rfl X.g__law_one X.F__law_one.kp X.b__law_one tk (ca_cons (ce_var 0) (ca_cons ce_str ca_nil))))
  (cs_cons (cs_set (i := 3) sc__law_odd.nd rfl (by first | exact Or.inl rfl | exact Or.inr rfl) (ce_call (sim__law_draw X hP) (hr.mono (by decide)) hg rfl X.g__law_draw X.F__law_draw.kp X.b__law_draw tk (ca_cons (ce_var 0) (ca_cons (ce_op o_add (ce_callB (c_len) rfl X.n_len (by decide +kernel) (ca_cons (ce_var 5) ca_nil)) ce_int) ca_nil))))
  (cs_cons (cs_set (i := 4) sc__law_odd.nd rfl (by first | exact Or.inl rfl | exact Or.inr rfl) (ce_lst (ca_cons ce_non (ca_cons ce_bl (ca_cons ce_bl (ca_cons ce_int (ca_cons ce_int (ca_cons ce_int (ca_cons ce_int (ca_cons ce_int (ca_cons (ce_un o_neg ce_int) (ca_cons (ce_op o_pow ce_int ce_int) (ca_cons ce_str (ca_cons (ce_var 5) (ca_cons (ce_var 6) (ca_cons (ce_call (sim__law_one X hP) (hr.mono (by decide)) hg rfl X.g__law_one X.F__law_one.kp X.b__law_one tk (ca_cons (ce_var 0) (ca_cons (ce_call0 (sim__law_kept X hP) (hr.mono (by decide)) hg rfl X.g__law_kept X.F__law_kept.kp X.b__law_kept tk) ca_nil))) ca_nil))))))))))))))))
  (cs_cons (cs_set (i := 4) sc__law_odd.nd rfl (by first | exact Or.inl rfl | exact Or.inr rfl) (ce_op o_add (ce_var 4) (ce_lst (ca_cons (ce_op o_add (ce_op o_add (ce_slice o_sl (ce_var 5) co_none (co_some (ce_var 3))) (ce_var 2)) (ce_slice o_sl (ce_var 5) (co_some (ce_var 3)) co_none)) (ca_cons (ce_op o_add (ce_var 5) (ce_var 2)) (ca_cons (ce_op o_mulS (ce_var 5) ce_int) (ca_cons (ce_op o_add ce_str (ce_var 5)) (ca_cons (ce_lst (ca_cons (ce_var 5) ca_nil)) (ca_cons (ce_tup (ca_cons (ce_var 5) ca_nil)) (ca_cons (ce_tup ca_nil) (ca_cons (ce_tup (ca_cons (ce_tup ca_nil) (ca_cons (ce_tup ca_nil) ca_nil))) (ca_cons ce_dict0 ca_nil))))))))))))
  (cs_cons (cs_set (i := 4) sc__law_odd.nd rfl (by first | exact Or.inl rfl | exact Or.inr rfl) (ce_op o_add (ce_var 4) (ce_lst (ca_cons (ce_lst ca_nil) (ca_cons (ce_tup (ca_cons ce_str (ca_cons (ce_var 5) ca_nil))) (ca_cons (ce_tup (ca_cons ce_str (ca_cons (ce_tup (ca_cons ce_str (ca_cons (ce_var 5) ca_nil))) ca_nil))) (ca_cons (ce_lst (ca_cons ce_str (ca_cons (ce_var 5) ca_nil))) (ca_cons (ce_tup (ca_cons ce_str (ca_cons (ce_ix (o_ix (hu_of hr)) (ce_var 1) ce_int) ca_nil))) (ca_cons (ce_tup (ca_cons ce_str (ca_cons ce_bl ca_nil))) ca_nil)))))))))
  (cs_one (cs_ret (ce_call (sim__law_one X hP) (hr.mono (by decide)) hg rfl X.g__law_one X.F__law_one.kp X.b__law_one tk (ca_cons (ce_var 0) (ca_cons (ce_op o_add (ce_var 4) (ce_lst (ca_cons ce_str (ca_cons (ce_tup (ca_cons ce_str (ca_cons ce_str ca_nil))) ca_nil)))) ca_nil)))))))))))
theorem sc__law_bent : FnScope ["_law_deck_here", "_law_pool_here", "_law_value", "_law_deep", "_law_item", "_law_some", "_law_at", "_law_way"] ["_law_deck_here", "_law_pool_here", "_law_value", "_law_deep"] (defScope st__law_bent) := ⟨rfl, rfl, rfl, by decide +kernel, rfl, by decide +kernel, by decide +kernel⟩
theorem sims4 {P : Program} {w : World} {K : PySem.W.Frag} {mg : Str → Option Value} {base : Heap} (X : TX K mg) (hP : X.PO P w) : ∀ n : Nat, FnG P w K mg base (3 + 1 * n) X.f__law_bent X.d__law_bent ["_law_deck_here", "_law_pool_here", "_law_value", "_law_deep"] (SpM (X.T w) 4 (R4 n 0))
  | 0 => fnG_fail
  | n + 1 => by
    have ih__law_bent := sims4 (P := P) (w := w) (base := base) X hP n
    · refine fn_sim (k := 3 + 1 * n + 0) (N := ["_law_deck_here", "_law_pool_here", "_law_value", "_law_deep", "_law_item", "_law_some", "_law_at", "_law_way"]) (T := X.T w) (b := b__law_bent (R4 n)) X.F__law_bent sc__law_bent rfl fun cdv A outer s H E hr hg => ?_
      have tk := L2N.takes_of (X := cxOf (L2N.CX P w) P w K mg base ["_law_deck_here", "_law_pool_here", "_law_value", "_law_deep", "_law_item", "_law_some", "_law_at", "_law_way"] "_law_bent" (defScope st__law_bent) X.f__law_bent cdv A outer s H E) (E := E) rfl rfl rfl rfl
      unfold b__law_bent
      exact (cs_cons (cs_par (i := 6) (j := 7) rfl sc__law_bent.nd rfl rfl (by decide) rfl rfl (ca_cons (ce_call (sim__law_draw X hP) (hr.mono (by omega)) hg rfl X.g__law_draw X.F__law_draw.kp X.b__law_draw tk (ca_cons (ce_var 0) (ca_cons (ce_callB (c_len) rfl X.n_len (by decide +kernel) (ca_cons (ce_var 2) ca_nil)) ca_nil))) (ca_cons (ce_call (sim__law_draw X hP) (hr.mono (by omega)) hg rfl X.g__law_draw X.F__law_draw.kp X.b__law_draw tk (ca_cons (ce_var 0) (ca_cons ce_int ca_nil))) ca_nil)) (by rfl))
  (cs_cons (cs_set (i := 4) sc__law_bent.nd rfl (by first | exact Or.inl rfl | exact Or.inr rfl) (ce_ix (o_ix (hu_of hr)) (ce_var 2) (ce_var 6)))
  (cs_cons (cs_if (PW.pt (cw_and (ct_cmp o_lt (ce_var 7) ce_int) (cw_and (ct_cmp o_gt (ce_var 3) ce_int) (cw_and (ct_val (ce_callB c_isi rfl X.n_isinstance (by decide +kernel) (ca_cons (ce_var 4) (ca_cons (ce_ty rfl X.n_tuple (by decide +kernel)) ca_nil)))) (cw_and1 (ct_cmp (o_neE hr.units) (ce_var 4) (ce_tup ca_nil))))))) (cs_one (cs_ret (ce_op o_add (ce_op o_add (ce_slice o_sl (ce_var 2) co_none (co_some (ce_var 6))) (ce_tup (ca_cons (ce_call ih__law_bent (hr.mono (by omega)) hg rfl X.g__law_bent X.F__law_bent.kp X.b__law_bent tk (ca_cons (ce_var 0) (ca_cons (ce_var 1) (ca_cons (ce_var 4) (ca_cons (ce_op o_sub (ce_var 3) ce_int) ca_nil))))) ca_nil))) (ce_slice o_sl (ce_var 2) (co_some (ce_op o_add (ce_var 6) ce_int)) co_none)))) cs_nil)
  (cs_cons (cs_if (ct_cmp o_lt (ce_var 7) ce_int) (cs_one (cs_ret (ce_op o_add (ce_op o_add (ce_slice o_sl (ce_var 2) co_none (co_some (ce_var 6))) (ce_tup (ca_cons (ce_call (sim__law_odd X hP) (hr.mono (by omega)) hg rfl X.g__law_odd X.F__law_odd.kp X.b__law_odd tk (ca_cons (ce_var 0) (ca_cons (ce_var 1) ca_nil))) ca_nil))) (ce_slice o_sl (ce_var 2) (co_some (ce_op o_add (ce_var 6) ce_int)) co_none)))) cs_nil)
  (cs_cons (cs_if (ct_cmp (o_eq hr.units) (ce_var 7) ce_int) (cs_one (cs_ret (ce_op o_add (ce_slice o_sl (ce_var 2) co_none (co_some (ce_var 6))) (ce_slice o_sl (ce_var 2) (co_some (ce_op o_add (ce_var 6) ce_int)) co_none)))) cs_nil)
  (cs_cons (cs_if (ct_cmp (o_eq hr.units) (ce_var 7) ce_int) (cs_one (cs_ret (ce_op o_add (ce_op o_add (ce_slice o_sl (ce_var 2) co_none (co_some (ce_var 6))) (ce_tup (ca_cons (ce_call (sim__law_odd X hP) (hr.mono (by omega)) hg rfl X.g__law_odd X.F__law_odd.kp X.b__law_odd tk (ca_cons (ce_var 0) (ca_cons (ce_var 1) ca_nil))) ca_nil))) (ce_slice o_sl (ce_var 2) (co_some (ce_var 6)) co_none)))) cs_nil)
  (cs_cons (cs_set (i := 5) sc__law_bent.nd rfl (by first | exact Or.inl rfl | exact Or.inr rfl) (ce_lst (ca_cons (ce_callTy (c_list) rfl X.n_list (by decide +kernel) (ca_cons (ce_var 2) ca_nil)) (ca_cons (ce_op o_add (ce_var 2) (ce_slice o_sl (ce_var 2) (co_some (ce_un o_neg ce_int)) co_none)) (ca_cons (ce_rev (ce_var 2) (ce_un o_neg ce_int)) (ca_cons (ce_call (sim__law_odd X hP) (hr.mono (by omega)) hg rfl X.g__law_odd X.F__law_odd.kp X.b__law_odd tk (ca_cons (ce_var 0) (ca_cons (ce_var 1) ca_nil))) (ca_cons (ce_tup (ca_cons ce_str (ca_cons (ce_var 2) ca_nil))) (ca_cons (ce_op o_add (ce_slice o_sl (ce_var 2) co_none (co_some ce_int)) (ce_tup (ca_cons (ce_tup ca_nil) ca_nil))) ca_nil))))))))
  (cs_one (cs_ret (ce_call (sim__law_one X hP) (hr.mono (by omega)) hg rfl X.g__law_one X.F__law_one.kp X.b__law_one tk (ca_cons (ce_var 0) (ca_cons (ce_var 5) ca_nil))))))))))))
theorem sim__law_bent {P : Program} {w : World} {K : PySem.W.Frag} {mg : Str → Option Value} {base : Heap} (X : TX K mg) (hP : X.PO P w) : FnG P w K mg base 15 X.f__law_bent X.d__law_bent ["_law_deck_here", "_law_pool_here", "_law_value", "_law_deep"] (SpM (X.T w) 4 m__law_bent) := (sims4 (P := P) (w := w) (base := base) X hP 12)
theorem sc_law : FnScope ["_law_script", "_law_deck_here", "_law_turn", "_law_pool_here", "_law_row_here", "_law_time", "_law_due", "_law_test", "_law_item"] ["_law_script"] (defScope st_law) := ⟨rfl, rfl, rfl, by decide +kernel, rfl, by decide +kernel, by decide +kernel⟩
theorem sim_law {P : Program} {w : World} {K : PySem.W.Frag} {mg : Str → Option Value} {base : Heap} (X : TX K mg) (hP : X.PO P w) : FnG P w K mg base 28 X.f_law X.d_law ["_law_script"] (SpM (X.T w) 1 m_law) := by
  refine fn_sim (k := 27) (N := ["_law_script", "_law_deck_here", "_law_turn", "_law_pool_here", "_law_row_here", "_law_time", "_law_due", "_law_test", "_law_item"]) (T := X.T w) (b := b_law) X.F_law sc_law rfl fun cdv A outer s H E hr hg => ?_
  have tk := L2N.takes_of (X := cxOf (L2N.CX P w) P w K mg base ["_law_script", "_law_deck_here", "_law_turn", "_law_pool_here", "_law_row_here", "_law_time", "_law_due", "_law_test", "_law_item"] "law" (defScope st_law) X.f_law cdv A outer s H E) (E := E) rfl rfl rfl rfl
  unfold b_law
  exact (cs_cons (cs_set (i := 1) sc_law.nd rfl (by first | exact Or.inl rfl | exact Or.inr rfl) (ce_call (sim__law_deck X hP) (hr.mono (by decide)) hg rfl X.g__law_deck X.F__law_deck.kp X.b__law_deck tk (ca_cons (ce_var 0) ca_nil)))
  (cs_cons (cs_forX (passes_of rfl) rfl (ci_rng1 rfl X.n_range (ca_cons ce_int ca_nil)) (cg_name (n := 2) sc_law.nd rfl (by first | exact Or.inl rfl | exact Or.inr rfl))
  (cs_cons (cs_set (i := 3) sc_law.nd rfl (by first | exact Or.inl rfl | exact Or.inr rfl) (ce_call (sim__law_pool X hP) (hr.mono (by decide)) hg rfl X.g__law_pool X.F__law_pool.kp X.b__law_pool tk (ca_cons (ce_var 1) ca_nil)))
  (cs_cons (cs_set (i := 4) sc_law.nd rfl (by first | exact Or.inl rfl | exact Or.inr rfl) (ce_call (sim__law_row X hP) (hr.mono (by decide)) hg rfl X.g__law_row X.F__law_row.kp X.b__law_row tk (ca_cons (ce_var 1) (ca_cons (ce_var 3) ca_nil))))
  (cs_cons (cs_if (ct_cmp (o_eq hr.units) (ce_call (sim__law_draw X hP) (hr.mono (by decide)) hg rfl X.g__law_draw X.F__law_draw.kp X.b__law_draw tk (ca_cons (ce_var 1) (ca_cons ce_int ca_nil))) ce_int) (cs_cons (cs_set (i := 7) sc_law.nd rfl (by first | exact Or.inl rfl | exact Or.inr rfl) (ce_call (sim__law_any_test X hP) (hr.mono (by decide)) hg rfl X.g__law_any_test X.F__law_any_test.kp X.b__law_any_test tk (ca_cons (ce_var 1) (ca_cons (ce_var 3) ca_nil))))
  (cs_one (cs_set (i := 4) sc_law.nd rfl (by first | exact Or.inl rfl | exact Or.inr rfl) (ce_call (sim__law_one X hP) (hr.mono (by decide)) hg rfl X.g__law_one X.F__law_one.kp X.b__law_one tk (ca_cons (ce_var 1) (ca_cons (ce_lst (ca_cons (ce_tup (ca_cons ce_str (ca_cons (ce_var 7) (ca_cons (ce_tup ca_nil) (ca_cons (ce_tup ca_nil) ca_nil))))) (ca_cons (ce_tup (ca_cons ce_str (ca_cons (ce_call (sim__law_draw X hP) (hr.mono (by decide)) hg rfl X.g__law_draw X.F__law_draw.kp X.b__law_draw tk (ca_cons (ce_var 1) (ca_cons ce_int ca_nil))) (ca_cons (ce_tup ca_nil) ca_nil)))) (ca_cons (ce_tup (ca_cons ce_str (ca_cons (ce_var 7) ca_nil))) ca_nil)))) ca_nil)))))) cs_nil)
  (cs_cons (cs_forX (passes_of rfl) rfl (ci_rng1 rfl X.n_range (ca_cons (ce_call (sim__law_draw X hP) (hr.mono (by decide)) hg rfl X.g__law_draw X.F__law_draw.kp X.b__law_draw tk (ca_cons (ce_var 1) (ca_cons ce_int ca_nil))) ca_nil)) (cg_name (n := 5) sc_law.nd rfl (by first | exact Or.inl rfl | exact Or.inr rfl))
  (cs_one (cs_set (i := 4) sc_law.nd rfl (by first | exact Or.inl rfl | exact Or.inr rfl) (ce_if (PW.pt (cw_and (ct_val (ce_callB c_isi rfl X.n_isinstance (by decide +kernel) (ca_cons (ce_var 4) (ca_cons (ce_ty rfl X.n_tuple (by decide +kernel)) ca_nil)))) (cw_and1 (ct_cmp (o_neE hr.units) (ce_var 4) (ce_tup ca_nil))))) (ce_call (sim__law_bent X hP) (hr.mono (by decide)) hg rfl X.g__law_bent X.F__law_bent.kp X.b__law_bent tk (ca_cons (ce_var 1) (ca_cons (ce_var 3) (ca_cons (ce_var 4) (ca_cons ce_int ca_nil))))) (ce_call (sim__law_odd X hP) (hr.mono (by decide)) hg rfl X.g__law_odd X.F__law_odd.kp X.b__law_odd tk (ca_cons (ce_var 1) (ca_cons (ce_var 3) ca_nil)))))))
  (cs_cons (cs_if (PW.pt (cw_and (ct_val (ce_callB c_isi rfl X.n_isinstance (by decide +kernel) (ca_cons (ce_var 4) (ca_cons (ce_ty rfl X.n_tuple (by decide +kernel)) ca_nil)))) (cw_and (ct_cmp o_gt (ce_callB (c_len) rfl X.n_len (by decide +kernel) (ca_cons (ce_var 4) ca_nil)) ce_int) (cw_and1 (PW.pt (cw_or (ct_cmp (o_eqS hr.units) (ce_ix (o_ix (hu_of hr)) (ce_var 4) ce_int) ce_str) (cw_or1 (ct_cmp (o_eqS hr.units) (ce_ix (o_ix (hu_of hr)) (ce_var 4) ce_int) ce_str)))))))) (cs_one (cs_set (i := 4) sc_law.nd rfl (by first | exact Or.inl rfl | exact Or.inr rfl) (ce_op o_add (ce_slice o_sl (ce_var 4) co_none (co_some ce_int)) (ce_callTy (c_tuple) rfl X.n_tuple (by decide +kernel) (ca_cons (ce_lcX (own := [("_law_item", 8)]) rfl sc_law.nd (ci_tup (ce_slice o_sl (ce_var 4) (co_some ce_int) co_none)) (blkOk_by (by kernel_rfl)) (tg_name (List.mem_cons_self ..)) (fun _ _ _ _ _ => pg_name (i := 8) sc_law.nd rfl (by first | exact Or.inl rfl | exact Or.inr rfl)) (fun _ _ _ _ _ => cts_nil) (fun _ _ _ _ _ => (ce_if (ct_val (ce_callB c_isi rfl X.n_isinstance (by decide +kernel) (ca_cons (ce_var 8) (ca_cons (ce_ty rfl X.n_tuple (by decide +kernel)) ca_nil)))) (ce_tup ca_nil) (ce_var 8)))) ca_nil))))) cs_nil)
  (cs_cons (cs_set (i := 6) sc_law.nd rfl (by first | exact Or.inl rfl | exact Or.inr rfl) (ce_if (ct_val (ce_call (sim__law_is_row X hP) (hr.mono (by decide)) hg rfl X.g__law_is_row X.F__law_is_row.kp X.b__law_is_row tk (ca_cons (ce_var 4) (ca_cons (ce_ix (o_ix (hu_of hr)) (ce_var 3) ce_int) ca_nil)))) ce_non (ce_tup (ca_cons ce_int (ca_cons ce_str ca_nil)))))
  (cs_one (cs_if (ct_cmp (o_ne hr.units) (ce_callB (c_repr hg hr.units) rfl X.n_repr (by decide +kernel) (ca_cons (ce_call (sim_program_error X hP) (hr.mono (by decide)) hg rfl X.g_program_error X.F_program_error.kp X.b_program_error tk (ca_cons (ce_tup (ca_cons (ce_ix (o_ix (hu_of hr)) (ce_var 3) ce_int) (ca_cons (ce_tup (ca_cons (ce_var 4) ca_nil)) ca_nil))) ca_nil)) ca_nil)) (ce_callB (c_repr hg hr.units) rfl X.n_repr (by decide +kernel) (ca_cons (ce_var 6) ca_nil))) (cs_one (cs_ret ce_bl)) cs_nil)))))))))
  (cs_one (cs_ret ce_bl))))
end K00

namespace K00
open PySem PySem.Spec PyProof.Rows L2 Sm
theorem all_mk {l : PySem.W.OpenLaw} {w : World} {K : PySem.W.Frag} {h : Heap} {mg : Str → Option Value} {fa f_is_number f_is_word f_is_name f_has_form f_is_part f_is_test f_inner_blocks f_listed f_first_error f_weight_of f_statements_of f_wishes_of f_program_error f__law_deck f__law_draw f__law_one f__law_kept f__law_name f__law_word f__law_pool f__law_any_test f__law_row f__law_is_name f__law_is_word f__law_is_number f__law_is_test f__law_is_row f__law_odd f__law_bent f_law t_TEST_FORMS t_FORMS t_NO_NAMES : Addr} (X : K.In h) (G : h.Ns mainGlobals mg) (hfa : mg "law" = some (.ref fa))
    {od_is_number an_is_number od_is_word an_is_word od_is_name an_is_name od_has_form an_has_form od_is_part an_is_part od_is_test an_is_test od_inner_blocks an_inner_blocks od_listed an_listed od_first_error an_first_error od_weight_of an_weight_of od_statements_of an_statements_of od_wishes_of an_wishes_of od_program_error an_program_error od__law_deck an__law_deck od__law_draw an__law_draw od__law_one an__law_one od__law_kept an__law_kept od__law_name an__law_name od__law_word an__law_word od__law_pool an__law_pool od__law_any_test an__law_any_test od__law_row an__law_row od__law_is_name an__law_is_name od__law_is_word an__law_is_word od__law_is_number an__law_is_number od__law_is_test an__law_is_test od__law_is_row an__law_is_row od__law_odd an__law_odd od__law_bent an__law_bent od_law an_law o_NO_NAMES : Option Addr} {sl_is_number sl_is_word sl_is_name sl_has_form sl_is_part sl_is_test sl_inner_blocks sl_listed sl_first_error sl_weight_of sl_statements_of sl_wishes_of sl_program_error sl__law_deck sl__law_draw sl__law_one sl__law_kept sl__law_name sl__law_word sl__law_pool sl__law_any_test sl__law_row sl__law_is_name sl__law_is_word sl__law_is_number sl__law_is_test sl__law_is_row sl__law_odd sl__law_bent sl_law sl_NO_NAMES : Array (Option Value)} {oc_is_number kV_is_number dc_is_number pm_is_number cd_is_number ct_is_number oc_is_word kV_is_word dc_is_word pm_is_word cd_is_word ct_is_word oc_is_name kV_is_name dc_is_name pm_is_name cd_is_name ct_is_name oc_has_form kV_has_form dc_has_form pm_has_form cd_has_form ct_has_form oc_is_part kV_is_part dc_is_part pm_is_part cd_is_part ct_is_part oc_is_test kV_is_test dc_is_test pm_is_test cd_is_test ct_is_test oc_inner_blocks kV_inner_blocks dc_inner_blocks pm_inner_blocks cd_inner_blocks ct_inner_blocks oc_listed kV_listed dc_listed pm_listed cd_listed ct_listed oc_first_error kV_first_error dc_first_error pm_first_error cd_first_error ct_first_error oc_weight_of kV_weight_of dc_weight_of pm_weight_of cd_weight_of ct_weight_of oc_statements_of kV_statements_of dc_statements_of pm_statements_of cd_statements_of ct_statements_of oc_wishes_of kV_wishes_of dc_wishes_of pm_wishes_of cd_wishes_of ct_wishes_of oc_program_error kV_program_error dc_program_error pm_program_error cd_program_error ct_program_error oc__law_deck kV__law_deck dc__law_deck pm__law_deck cd__law_deck ct__law_deck oc__law_draw kV__law_draw dc__law_draw pm__law_draw cd__law_draw ct__law_draw oc__law_one kV__law_one dc__law_one pm__law_one cd__law_one ct__law_one oc__law_kept kV__law_kept dc__law_kept pm__law_kept cd__law_kept ct__law_kept oc__law_name kV__law_name dc__law_name pm__law_name cd__law_name ct__law_name oc__law_word kV__law_word dc__law_word pm__law_word cd__law_word ct__law_word oc__law_pool kV__law_pool dc__law_pool pm__law_pool cd__law_pool ct__law_pool oc__law_any_test kV__law_any_test dc__law_any_test pm__law_any_test cd__law_any_test ct__law_any_test oc__law_row kV__law_row dc__law_row pm__law_row cd__law_row ct__law_row oc__law_is_name kV__law_is_name dc__law_is_name pm__law_is_name cd__law_is_name ct__law_is_name oc__law_is_word kV__law_is_word dc__law_is_word pm__law_is_word cd__law_is_word ct__law_is_word oc__law_is_number kV__law_is_number dc__law_is_number pm__law_is_number cd__law_is_number ct__law_is_number oc__law_is_test kV__law_is_test dc__law_is_test pm__law_is_test cd__law_is_test ct__law_is_test oc__law_is_row kV__law_is_row dc__law_is_row pm__law_is_row cd__law_is_row ct__law_is_row oc__law_odd kV__law_odd dc__law_odd pm__law_odd cd__law_odd ct__law_odd oc__law_bent kV__law_bent dc__law_bent pm__law_bent cd__law_bent ct__law_bent oc_law kV_law dc_law pm_law cd_law ct_law : Value} {t_DIGITS t_MAX_GIVENS t_MAX_NAME t_MAX_NEST t_MAX_PLACES t_MAX_TIMES t_MAX_WEIGHT t_MAX_WISHES t_MAX_WORD t_MOST_NOTS t_SMALL : Tok} {n_TEST_FORMS n_FORMS n_NO_NAMES : Nat} {es_TEST_FORMS : Array DictEntry} {tv_TEST_FORMS_0 : Tok} {tv_TEST_FORMS_1 : Tok} {tv_TEST_FORMS_2 : Tok} {tv_TEST_FORMS_3 : Tok} {tv_TEST_FORMS_4 : Tok} {es_FORMS : Array DictEntry} {tv_FORMS_0 : Tok} {tv_FORMS_1 : Tok} {tv_FORMS_2 : Tok} {tv_FORMS_3 : Tok} {tv_FORMS_4 : Tok} {tv_FORMS_5 : Tok} {tv_FORMS_6 : Tok} {tv_FORMS_7 : Tok} {tv_FORMS_8 : Tok} {tv_FORMS_9 : Tok} {tv_FORMS_10 : Tok} {tv_FORMS_11 : Tok} {tv_FORMS_12 : Tok} {es_NO_NAMES : Array Value}
    (aC_D_TEST_FORMS : PySem.W.nsIn K mainGlobals "TEST_FORMS" = some (some (.ref t_TEST_FORMS)))
    (aC_D_FORMS : PySem.W.nsIn K mainGlobals "FORMS" = some (some (.ref t_FORMS)))
    (aC_D_NO_NAMES : PySem.W.nsIn K mainGlobals "NO_NAMES" = some (some (.ref t_NO_NAMES)))
    (a_is_number : PySem.W.nsIn K mainGlobals "is_number" = some (some (.ref f_is_number)))
    (a_is_word : PySem.W.nsIn K mainGlobals "is_word" = some (some (.ref f_is_word)))
    (a_is_name : PySem.W.nsIn K mainGlobals "is_name" = some (some (.ref f_is_name)))
    (a_has_form : PySem.W.nsIn K mainGlobals "has_form" = some (some (.ref f_has_form)))
    (a_is_part : PySem.W.nsIn K mainGlobals "is_part" = some (some (.ref f_is_part)))
    (a_is_test : PySem.W.nsIn K mainGlobals "is_test" = some (some (.ref f_is_test)))
    (a_inner_blocks : PySem.W.nsIn K mainGlobals "inner_blocks" = some (some (.ref f_inner_blocks)))
    (a_listed : PySem.W.nsIn K mainGlobals "listed" = some (some (.ref f_listed)))
    (a_first_error : PySem.W.nsIn K mainGlobals "first_error" = some (some (.ref f_first_error)))
    (a_weight_of : PySem.W.nsIn K mainGlobals "weight_of" = some (some (.ref f_weight_of)))
    (a_statements_of : PySem.W.nsIn K mainGlobals "statements_of" = some (some (.ref f_statements_of)))
    (a_wishes_of : PySem.W.nsIn K mainGlobals "wishes_of" = some (some (.ref f_wishes_of)))
    (a_program_error : PySem.W.nsIn K mainGlobals "program_error" = some (some (.ref f_program_error)))
    (a__law_deck : PySem.W.nsIn K mainGlobals "_law_deck" = some (some (.ref f__law_deck)))
    (a__law_draw : PySem.W.nsIn K mainGlobals "_law_draw" = some (some (.ref f__law_draw)))
    (a__law_one : PySem.W.nsIn K mainGlobals "_law_one" = some (some (.ref f__law_one)))
    (a__law_kept : PySem.W.nsIn K mainGlobals "_law_kept" = some (some (.ref f__law_kept)))
    (a__law_name : PySem.W.nsIn K mainGlobals "_law_name" = some (some (.ref f__law_name)))
    (a__law_word : PySem.W.nsIn K mainGlobals "_law_word" = some (some (.ref f__law_word)))
    (a__law_pool : PySem.W.nsIn K mainGlobals "_law_pool" = some (some (.ref f__law_pool)))
    (a__law_any_test : PySem.W.nsIn K mainGlobals "_law_any_test" = some (some (.ref f__law_any_test)))
    (a__law_row : PySem.W.nsIn K mainGlobals "_law_row" = some (some (.ref f__law_row)))
    (a__law_is_name : PySem.W.nsIn K mainGlobals "_law_is_name" = some (some (.ref f__law_is_name)))
    (a__law_is_word : PySem.W.nsIn K mainGlobals "_law_is_word" = some (some (.ref f__law_is_word)))
    (a__law_is_number : PySem.W.nsIn K mainGlobals "_law_is_number" = some (some (.ref f__law_is_number)))
    (a__law_is_test : PySem.W.nsIn K mainGlobals "_law_is_test" = some (some (.ref f__law_is_test)))
    (a__law_is_row : PySem.W.nsIn K mainGlobals "_law_is_row" = some (some (.ref f__law_is_row)))
    (a__law_odd : PySem.W.nsIn K mainGlobals "_law_odd" = some (some (.ref f__law_odd)))
    (a__law_bent : PySem.W.nsIn K mainGlobals "_law_bent" = some (some (.ref f__law_bent)))
    (a_law : PySem.W.nsIn K mainGlobals "law" = some (some (.ref f_law)))
    (l_is_number : K.lookup f_is_number = some ⟨oc_is_number, od_is_number, .func (PySem.W.fnOf "is_number" "is_number" (defArgs st_is_number) (defBody st_is_number) (defScope st_is_number) .none kV_is_number dc_is_number pm_is_number an_is_number cd_is_number ct_is_number), sl_is_number⟩)
    (c_is_number : PySem.W.codeIn K cd_is_number "is_number" = true)
    (k_is_number : PySem.W.keepIn K (.ref f_is_number) = true)
    (l_is_word : K.lookup f_is_word = some ⟨oc_is_word, od_is_word, .func (PySem.W.fnOf "is_word" "is_word" (defArgs st_is_word) (defBody st_is_word) (defScope st_is_word) .none kV_is_word dc_is_word pm_is_word an_is_word cd_is_word ct_is_word), sl_is_word⟩)
    (c_is_word : PySem.W.codeIn K cd_is_word "is_word" = true)
    (k_is_word : PySem.W.keepIn K (.ref f_is_word) = true)
    (l_is_name : K.lookup f_is_name = some ⟨oc_is_name, od_is_name, .func (PySem.W.fnOf "is_name" "is_name" (defArgs st_is_name) (defBody st_is_name) (defScope st_is_name) .none kV_is_name dc_is_name pm_is_name an_is_name cd_is_name ct_is_name), sl_is_name⟩)
    (c_is_name : PySem.W.codeIn K cd_is_name "is_name" = true)
    (k_is_name : PySem.W.keepIn K (.ref f_is_name) = true)
    (l_has_form : K.lookup f_has_form = some ⟨oc_has_form, od_has_form, .func (PySem.W.fnOf "has_form" "has_form" (defArgs st_has_form) (defBody st_has_form) (defScope st_has_form) .none kV_has_form dc_has_form pm_has_form an_has_form cd_has_form ct_has_form), sl_has_form⟩)
    (c_has_form : PySem.W.codeIn K cd_has_form "has_form" = true)
    (k_has_form : PySem.W.keepIn K (.ref f_has_form) = true)
    (l_is_part : K.lookup f_is_part = some ⟨oc_is_part, od_is_part, .func (PySem.W.fnOf "is_part" "is_part" (defArgs st_is_part) (defBody st_is_part) (defScope st_is_part) .none kV_is_part dc_is_part pm_is_part an_is_part cd_is_part ct_is_part), sl_is_part⟩)
    (c_is_part : PySem.W.codeIn K cd_is_part "is_part" = true)
    (k_is_part : PySem.W.keepIn K (.ref f_is_part) = true)
    (l_is_test : K.lookup f_is_test = some ⟨oc_is_test, od_is_test, .func (PySem.W.fnOf "is_test" "is_test" (defArgs st_is_test) (defBody st_is_test) (defScope st_is_test) .none kV_is_test dc_is_test pm_is_test an_is_test cd_is_test ct_is_test), sl_is_test⟩)
    (c_is_test : PySem.W.codeIn K cd_is_test "is_test" = true)
    (k_is_test : PySem.W.keepIn K (.ref f_is_test) = true)
    (l_inner_blocks : K.lookup f_inner_blocks = some ⟨oc_inner_blocks, od_inner_blocks, .func (PySem.W.fnOf "inner_blocks" "inner_blocks" (defArgs st_inner_blocks) (defBody st_inner_blocks) (defScope st_inner_blocks) .none kV_inner_blocks dc_inner_blocks pm_inner_blocks an_inner_blocks cd_inner_blocks ct_inner_blocks), sl_inner_blocks⟩)
    (c_inner_blocks : PySem.W.codeIn K cd_inner_blocks "inner_blocks" = true)
    (k_inner_blocks : PySem.W.keepIn K (.ref f_inner_blocks) = true)
    (l_listed : K.lookup f_listed = some ⟨oc_listed, od_listed, .func (PySem.W.fnOf "listed" "listed" (defArgs st_listed) (defBody st_listed) (defScope st_listed) .none kV_listed dc_listed pm_listed an_listed cd_listed ct_listed), sl_listed⟩)
    (c_listed : PySem.W.codeIn K cd_listed "listed" = true)
    (k_listed : PySem.W.keepIn K (.ref f_listed) = true)
    (l_first_error : K.lookup f_first_error = some ⟨oc_first_error, od_first_error, .func (PySem.W.fnOf "first_error" "first_error" (defArgs st_first_error) (defBody st_first_error) (defScope st_first_error) .none kV_first_error dc_first_error pm_first_error an_first_error cd_first_error ct_first_error), sl_first_error⟩)
    (c_first_error : PySem.W.codeIn K cd_first_error "first_error" = true)
    (k_first_error : PySem.W.keepIn K (.ref f_first_error) = true)
    (l_weight_of : K.lookup f_weight_of = some ⟨oc_weight_of, od_weight_of, .func (PySem.W.fnOf "weight_of" "weight_of" (defArgs st_weight_of) (defBody st_weight_of) (defScope st_weight_of) .none kV_weight_of dc_weight_of pm_weight_of an_weight_of cd_weight_of ct_weight_of), sl_weight_of⟩)
    (c_weight_of : PySem.W.codeIn K cd_weight_of "weight_of" = true)
    (k_weight_of : PySem.W.keepIn K (.ref f_weight_of) = true)
    (l_statements_of : K.lookup f_statements_of = some ⟨oc_statements_of, od_statements_of, .func (PySem.W.fnOf "statements_of" "statements_of" (defArgs st_statements_of) (defBody st_statements_of) (defScope st_statements_of) .none kV_statements_of dc_statements_of pm_statements_of an_statements_of cd_statements_of ct_statements_of), sl_statements_of⟩)
    (c_statements_of : PySem.W.codeIn K cd_statements_of "statements_of" = true)
    (k_statements_of : PySem.W.keepIn K (.ref f_statements_of) = true)
    (l_wishes_of : K.lookup f_wishes_of = some ⟨oc_wishes_of, od_wishes_of, .func (PySem.W.fnOf "wishes_of" "wishes_of" (defArgs st_wishes_of) (defBody st_wishes_of) (defScope st_wishes_of) .none kV_wishes_of dc_wishes_of pm_wishes_of an_wishes_of cd_wishes_of ct_wishes_of), sl_wishes_of⟩)
    (c_wishes_of : PySem.W.codeIn K cd_wishes_of "wishes_of" = true)
    (k_wishes_of : PySem.W.keepIn K (.ref f_wishes_of) = true)
    (l_program_error : K.lookup f_program_error = some ⟨oc_program_error, od_program_error, .func (PySem.W.fnOf "program_error" "program_error" (defArgs st_program_error) (defBody st_program_error) (defScope st_program_error) .none kV_program_error dc_program_error pm_program_error an_program_error cd_program_error ct_program_error), sl_program_error⟩)
    (c_program_error : PySem.W.codeIn K cd_program_error "program_error" = true)
    (k_program_error : PySem.W.keepIn K (.ref f_program_error) = true)
    (l__law_deck : K.lookup f__law_deck = some ⟨oc__law_deck, od__law_deck, .func (PySem.W.fnOf "_law_deck" "_law_deck" (defArgs st__law_deck) (defBody st__law_deck) (defScope st__law_deck) .none kV__law_deck dc__law_deck pm__law_deck an__law_deck cd__law_deck ct__law_deck), sl__law_deck⟩)
    (c__law_deck : PySem.W.codeIn K cd__law_deck "_law_deck" = true)
    (k__law_deck : PySem.W.keepIn K (.ref f__law_deck) = true)
    (l__law_draw : K.lookup f__law_draw = some ⟨oc__law_draw, od__law_draw, .func (PySem.W.fnOf "_law_draw" "_law_draw" (defArgs st__law_draw) (defBody st__law_draw) (defScope st__law_draw) .none kV__law_draw dc__law_draw pm__law_draw an__law_draw cd__law_draw ct__law_draw), sl__law_draw⟩)
    (c__law_draw : PySem.W.codeIn K cd__law_draw "_law_draw" = true)
    (k__law_draw : PySem.W.keepIn K (.ref f__law_draw) = true)
    (l__law_one : K.lookup f__law_one = some ⟨oc__law_one, od__law_one, .func (PySem.W.fnOf "_law_one" "_law_one" (defArgs st__law_one) (defBody st__law_one) (defScope st__law_one) .none kV__law_one dc__law_one pm__law_one an__law_one cd__law_one ct__law_one), sl__law_one⟩)
    (c__law_one : PySem.W.codeIn K cd__law_one "_law_one" = true)
    (k__law_one : PySem.W.keepIn K (.ref f__law_one) = true)
    (l__law_kept : K.lookup f__law_kept = some ⟨oc__law_kept, od__law_kept, .func (PySem.W.fnOf "_law_kept" "_law_kept" (defArgs st__law_kept) (defBody st__law_kept) (defScope st__law_kept) .none kV__law_kept dc__law_kept pm__law_kept an__law_kept cd__law_kept ct__law_kept), sl__law_kept⟩)
    (c__law_kept : PySem.W.codeIn K cd__law_kept "_law_kept" = true)
    (k__law_kept : PySem.W.keepIn K (.ref f__law_kept) = true)
    (l__law_name : K.lookup f__law_name = some ⟨oc__law_name, od__law_name, .func (PySem.W.fnOf "_law_name" "_law_name" (defArgs st__law_name) (defBody st__law_name) (defScope st__law_name) .none kV__law_name dc__law_name pm__law_name an__law_name cd__law_name ct__law_name), sl__law_name⟩)
    (c__law_name : PySem.W.codeIn K cd__law_name "_law_name" = true)
    (k__law_name : PySem.W.keepIn K (.ref f__law_name) = true)
    (l__law_word : K.lookup f__law_word = some ⟨oc__law_word, od__law_word, .func (PySem.W.fnOf "_law_word" "_law_word" (defArgs st__law_word) (defBody st__law_word) (defScope st__law_word) .none kV__law_word dc__law_word pm__law_word an__law_word cd__law_word ct__law_word), sl__law_word⟩)
    (c__law_word : PySem.W.codeIn K cd__law_word "_law_word" = true)
    (k__law_word : PySem.W.keepIn K (.ref f__law_word) = true)
    (l__law_pool : K.lookup f__law_pool = some ⟨oc__law_pool, od__law_pool, .func (PySem.W.fnOf "_law_pool" "_law_pool" (defArgs st__law_pool) (defBody st__law_pool) (defScope st__law_pool) .none kV__law_pool dc__law_pool pm__law_pool an__law_pool cd__law_pool ct__law_pool), sl__law_pool⟩)
    (c__law_pool : PySem.W.codeIn K cd__law_pool "_law_pool" = true)
    (k__law_pool : PySem.W.keepIn K (.ref f__law_pool) = true)
    (l__law_any_test : K.lookup f__law_any_test = some ⟨oc__law_any_test, od__law_any_test, .func (PySem.W.fnOf "_law_any_test" "_law_any_test" (defArgs st__law_any_test) (defBody st__law_any_test) (defScope st__law_any_test) .none kV__law_any_test dc__law_any_test pm__law_any_test an__law_any_test cd__law_any_test ct__law_any_test), sl__law_any_test⟩)
    (c__law_any_test : PySem.W.codeIn K cd__law_any_test "_law_any_test" = true)
    (k__law_any_test : PySem.W.keepIn K (.ref f__law_any_test) = true)
    (l__law_row : K.lookup f__law_row = some ⟨oc__law_row, od__law_row, .func (PySem.W.fnOf "_law_row" "_law_row" (defArgs st__law_row) (defBody st__law_row) (defScope st__law_row) .none kV__law_row dc__law_row pm__law_row an__law_row cd__law_row ct__law_row), sl__law_row⟩)
    (c__law_row : PySem.W.codeIn K cd__law_row "_law_row" = true)
    (k__law_row : PySem.W.keepIn K (.ref f__law_row) = true)
    (l__law_is_name : K.lookup f__law_is_name = some ⟨oc__law_is_name, od__law_is_name, .func (PySem.W.fnOf "_law_is_name" "_law_is_name" (defArgs st__law_is_name) (defBody st__law_is_name) (defScope st__law_is_name) .none kV__law_is_name dc__law_is_name pm__law_is_name an__law_is_name cd__law_is_name ct__law_is_name), sl__law_is_name⟩)
    (c__law_is_name : PySem.W.codeIn K cd__law_is_name "_law_is_name" = true)
    (k__law_is_name : PySem.W.keepIn K (.ref f__law_is_name) = true)
    (l__law_is_word : K.lookup f__law_is_word = some ⟨oc__law_is_word, od__law_is_word, .func (PySem.W.fnOf "_law_is_word" "_law_is_word" (defArgs st__law_is_word) (defBody st__law_is_word) (defScope st__law_is_word) .none kV__law_is_word dc__law_is_word pm__law_is_word an__law_is_word cd__law_is_word ct__law_is_word), sl__law_is_word⟩)
    (c__law_is_word : PySem.W.codeIn K cd__law_is_word "_law_is_word" = true)
    (k__law_is_word : PySem.W.keepIn K (.ref f__law_is_word) = true)
    (l__law_is_number : K.lookup f__law_is_number = some ⟨oc__law_is_number, od__law_is_number, .func (PySem.W.fnOf "_law_is_number" "_law_is_number" (defArgs st__law_is_number) (defBody st__law_is_number) (defScope st__law_is_number) .none kV__law_is_number dc__law_is_number pm__law_is_number an__law_is_number cd__law_is_number ct__law_is_number), sl__law_is_number⟩)
    (c__law_is_number : PySem.W.codeIn K cd__law_is_number "_law_is_number" = true)
    (k__law_is_number : PySem.W.keepIn K (.ref f__law_is_number) = true)
    (l__law_is_test : K.lookup f__law_is_test = some ⟨oc__law_is_test, od__law_is_test, .func (PySem.W.fnOf "_law_is_test" "_law_is_test" (defArgs st__law_is_test) (defBody st__law_is_test) (defScope st__law_is_test) .none kV__law_is_test dc__law_is_test pm__law_is_test an__law_is_test cd__law_is_test ct__law_is_test), sl__law_is_test⟩)
    (c__law_is_test : PySem.W.codeIn K cd__law_is_test "_law_is_test" = true)
    (k__law_is_test : PySem.W.keepIn K (.ref f__law_is_test) = true)
    (l__law_is_row : K.lookup f__law_is_row = some ⟨oc__law_is_row, od__law_is_row, .func (PySem.W.fnOf "_law_is_row" "_law_is_row" (defArgs st__law_is_row) (defBody st__law_is_row) (defScope st__law_is_row) .none kV__law_is_row dc__law_is_row pm__law_is_row an__law_is_row cd__law_is_row ct__law_is_row), sl__law_is_row⟩)
    (c__law_is_row : PySem.W.codeIn K cd__law_is_row "_law_is_row" = true)
    (k__law_is_row : PySem.W.keepIn K (.ref f__law_is_row) = true)
    (l__law_odd : K.lookup f__law_odd = some ⟨oc__law_odd, od__law_odd, .func (PySem.W.fnOf "_law_odd" "_law_odd" (defArgs st__law_odd) (defBody st__law_odd) (defScope st__law_odd) .none kV__law_odd dc__law_odd pm__law_odd an__law_odd cd__law_odd ct__law_odd), sl__law_odd⟩)
    (c__law_odd : PySem.W.codeIn K cd__law_odd "_law_odd" = true)
    (k__law_odd : PySem.W.keepIn K (.ref f__law_odd) = true)
    (l__law_bent : K.lookup f__law_bent = some ⟨oc__law_bent, od__law_bent, .func (PySem.W.fnOf "_law_bent" "_law_bent" (defArgs st__law_bent) (defBody st__law_bent) (defScope st__law_bent) .none kV__law_bent dc__law_bent pm__law_bent an__law_bent cd__law_bent ct__law_bent), sl__law_bent⟩)
    (c__law_bent : PySem.W.codeIn K cd__law_bent "_law_bent" = true)
    (k__law_bent : PySem.W.keepIn K (.ref f__law_bent) = true)
    (l_law : K.lookup f_law = some ⟨oc_law, od_law, .func (PySem.W.fnOf "law" "law" (defArgs st_law) (defBody st_law) (defScope st_law) .none kV_law dc_law pm_law an_law cd_law ct_law), sl_law⟩)
    (c_law : PySem.W.codeIn K cd_law "law" = true)
    (k_law : PySem.W.keepIn K (.ref f_law) = true)
    (lD_TEST_FORMS : K.lookup t_TEST_FORMS = some ⟨.type "dict", none, .dict es_TEST_FORMS n_TEST_FORMS, #[]⟩)
    (kl_TEST_FORMS : PySem.W.KeysLit w.params es_TEST_FORMS.toList)
    (kz_TEST_FORMS : es_TEST_FORMS.toList.map keyT = ktl_TEST_FORMS.map fun p => some p.1)
    (km_TEST_FORMS : (t_TEST_FORMS == sysModules) = false)
    (kn_TEST_FORMS_0 : PySem.W.nsIn K t_TEST_FORMS "given" = some (some (.str "g" tv_TEST_FORMS_0)))
    (kn_TEST_FORMS_1 : PySem.W.nsIn K t_TEST_FORMS "set" = some (some (.str "n" tv_TEST_FORMS_1)))
    (kn_TEST_FORMS_2 : PySem.W.nsIn K t_TEST_FORMS "same" = some (some (.str "nn" tv_TEST_FORMS_2)))
    (kn_TEST_FORMS_3 : PySem.W.nsIn K t_TEST_FORMS "full" = some (some (.str "nn" tv_TEST_FORMS_3)))
    (kn_TEST_FORMS_4 : PySem.W.nsIn K t_TEST_FORMS "wished" = some (some (.str "w" tv_TEST_FORMS_4)))
    (lD_FORMS : K.lookup t_FORMS = some ⟨.type "dict", none, .dict es_FORMS n_FORMS, #[]⟩)
    (kl_FORMS : PySem.W.KeysLit w.params es_FORMS.toList)
    (kz_FORMS : es_FORMS.toList.map keyT = ktl_FORMS.map fun p => some p.1)
    (km_FORMS : (t_FORMS == sysModules) = false)
    (kn_FORMS_0 : PySem.W.nsIn K t_FORMS "make" = some (some (.str "n" tv_FORMS_0)))
    (kn_FORMS_1 : PySem.W.nsIn K t_FORMS "keep" = some (some (.str "n" tv_FORMS_1)))
    (kn_FORMS_2 : PySem.W.nsIn K t_FORMS "drop" = some (some (.str "n" tv_FORMS_2)))
    (kn_FORMS_3 : PySem.W.nsIn K t_FORMS "wish" = some (some (.str "nw" tv_FORMS_3)))
    (kn_FORMS_4 : PySem.W.nsIn K t_FORMS "name" = some (some (.str "nn" tv_FORMS_4)))
    (kn_FORMS_5 : PySem.W.nsIn K t_FORMS "hold" = some (some (.str "nnn" tv_FORMS_5)))
    (kn_FORMS_6 : PySem.W.nsIn K t_FORMS "weak" = some (some (.str "nnn" tv_FORMS_6)))
    (kn_FORMS_7 : PySem.W.nsIn K t_FORMS "cut" = some (some (.str "nn" tv_FORMS_7)))
    (kn_FORMS_8 : PySem.W.nsIn K t_FORMS "take" = some (some (.str "nnn" tv_FORMS_8)))
    (kn_FORMS_9 : PySem.W.nsIn K t_FORMS "say" = some (some (.str "w" tv_FORMS_9)))
    (kn_FORMS_10 : PySem.W.nsIn K t_FORMS "ask" = some (some (.str "t" tv_FORMS_10)))
    (kn_FORMS_11 : PySem.W.nsIn K t_FORMS "if" = some (some (.str "tbb" tv_FORMS_11)))
    (kn_FORMS_12 : PySem.W.nsIn K t_FORMS "repeat" = some (some (.str "kb" tv_FORMS_12)))
    (lD_NO_NAMES : K.lookup t_NO_NAMES = some ⟨.type "tuple", o_NO_NAMES, .seq es_NO_NAMES n_NO_NAMES, sl_NO_NAMES⟩)
    (tk_NO_NAMES : Vals (tl_NO_NAMES.map V.str) es_NO_NAMES.toList ∧ es_NO_NAMES.size ≤ sizeLine)
    (v_DIGITS : PySem.W.nsIn K mainGlobals "DIGITS" = some (some (.str "0123456789" t_DIGITS)))
    (v_MAX_GIVENS : PySem.W.nsIn K mainGlobals "MAX_GIVENS" = some (some (.int 3 t_MAX_GIVENS)))
    (v_MAX_NAME : PySem.W.nsIn K mainGlobals "MAX_NAME" = some (some (.int 8 t_MAX_NAME)))
    (v_MAX_NEST : PySem.W.nsIn K mainGlobals "MAX_NEST" = some (some (.int 4 t_MAX_NEST)))
    (v_MAX_PLACES : PySem.W.nsIn K mainGlobals "MAX_PLACES" = some (some (.int 30 t_MAX_PLACES)))
    (v_MAX_TIMES : PySem.W.nsIn K mainGlobals "MAX_TIMES" = some (some (.int 12 t_MAX_TIMES)))
    (v_MAX_WEIGHT : PySem.W.nsIn K mainGlobals "MAX_WEIGHT" = some (some (.int 200 t_MAX_WEIGHT)))
    (v_MAX_WISHES : PySem.W.nsIn K mainGlobals "MAX_WISHES" = some (some (.int 4 t_MAX_WISHES)))
    (v_MAX_WORD : PySem.W.nsIn K mainGlobals "MAX_WORD" = some (some (.int 8 t_MAX_WORD)))
    (v_MOST_NOTS : PySem.W.nsIn K mainGlobals "MOST_NOTS" = some (some (.int 3 t_MOST_NOTS)))
    (v_SMALL : PySem.W.nsIn K mainGlobals "SMALL" = some (some (.str "abcdefghijklmnopqrstuvwxyz" t_SMALL)))
    (z_abs : PySem.W.nsIn K mainGlobals "abs" = some none)
    (z_all : PySem.W.nsIn K mainGlobals "all" = some none)
    (z_bool : PySem.W.nsIn K mainGlobals "bool" = some none)
    (z_int : PySem.W.nsIn K mainGlobals "int" = some none)
    (z_isinstance : PySem.W.nsIn K mainGlobals "isinstance" = some none)
    (z_len : PySem.W.nsIn K mainGlobals "len" = some none)
    (z_list : PySem.W.nsIn K mainGlobals "list" = some none)
    (z_range : PySem.W.nsIn K mainGlobals "range" = some none)
    (z_repr : PySem.W.nsIn K mainGlobals "repr" = some none)
    (z_sorted : PySem.W.nsIn K mainGlobals "sorted" = some none)
    (z_str : PySem.W.nsIn K mainGlobals "str" = some none)
    (z_sum : PySem.W.nsIn K mainGlobals "sum" = some none)
    (z_tuple : PySem.W.nsIn K mainGlobals "tuple" = some none)
    (z_zip : PySem.W.nsIn K mainGlobals "zip" = some none) :
    ∃ (T : Tb) (fd : FuncData), T.K = K ∧ (∀ (s : Shared) (u : Value), BindsTo s fd ⟨[u], []⟩ [("_law_script", u)]) ∧ ∀ base : Heap, T.K.In base → base.Ns mainGlobals mg → FnG l.prog w T.K mg base 28 fa fd ["_law_script"] (SpM T 1 m_law) := by
  have e := hfa.symm.trans (PySem.W.mg_of X G a_law)
  cases e
  have F_is_number := fun_mk (st := st_is_number) l_is_number c_is_number k_is_number
  have b_is_number := F_is_number.binds (ps := ["value", "low", "high"]) fun _ _ _ _ _ _ us hl => match us, hl with | [_, _, _], _ => rfl
  have F_is_word := fun_mk (st := st_is_word) l_is_word c_is_word k_is_word
  have b_is_word := F_is_word.binds (ps := ["value"]) fun _ _ _ _ _ _ us hl => match us, hl with | [_], _ => rfl
  have F_is_name := fun_mk (st := st_is_name) l_is_name c_is_name k_is_name
  have b_is_name := F_is_name.binds (ps := ["value"]) fun _ _ _ _ _ _ us hl => match us, hl with | [_], _ => rfl
  have F_has_form := fun_mk (st := st_has_form) l_has_form c_has_form k_has_form
  have b_has_form := F_has_form.binds (ps := ["value", "givens", "is_inner"]) fun _ _ _ _ _ _ us hl => match us, hl with | [_, _, _], _ => rfl
  have F_is_part := fun_mk (st := st_is_part) l_is_part c_is_part k_is_part
  have b_is_part := F_is_part.binds (ps := ["sort", "item", "givens"]) fun _ _ _ _ _ _ us hl => match us, hl with | [_, _, _], _ => rfl
  have F_is_test := fun_mk (st := st_is_test) l_is_test c_is_test k_is_test
  have b_is_test := F_is_test.binds (ps := ["value", "givens"]) fun _ _ _ _ _ _ us hl => match us, hl with | [_, _], _ => rfl
  have F_inner_blocks := fun_mk (st := st_inner_blocks) l_inner_blocks c_inner_blocks k_inner_blocks
  have b_inner_blocks := F_inner_blocks.binds (ps := ["statement"]) fun _ _ _ _ _ _ us hl => match us, hl with | [_], _ => rfl
  have F_listed := fun_mk (st := st_listed) l_listed c_listed k_listed
  have b_listed := F_listed.binds (ps := ["block", "depth"]) fun _ _ _ _ _ _ us hl => match us, hl with | [_, _], _ => rfl
  have F_first_error := fun_mk (st := st_first_error) l_first_error c_first_error k_first_error
  have b_first_error := F_first_error.binds (ps := ["block", "givens", "found", "depth"]) fun _ _ _ _ _ _ us hl => match us, hl with | [_, _, _, _], _ => rfl
  have F_weight_of := fun_mk (st := st_weight_of) l_weight_of c_weight_of k_weight_of
  have b_weight_of := F_weight_of.binds (ps := ["block"]) fun _ _ _ _ _ _ us hl => match us, hl with | [_], _ => rfl
  have F_statements_of := fun_mk (st := st_statements_of) l_statements_of c_statements_of k_statements_of
  have b_statements_of := F_statements_of.binds (ps := ["program"]) fun _ _ _ _ _ _ us hl => match us, hl with | [_], _ => rfl
  have F_wishes_of := fun_mk (st := st_wishes_of) l_wishes_of c_wishes_of k_wishes_of
  have b_wishes_of := F_wishes_of.binds (ps := ["program"]) fun _ _ _ _ _ _ us hl => match us, hl with | [_], _ => rfl
  have F_program_error := fun_mk (st := st_program_error) l_program_error c_program_error k_program_error
  have b_program_error := F_program_error.binds (ps := ["value"]) fun _ _ _ _ _ _ us hl => match us, hl with | [_], _ => rfl
  have F__law_deck := fun_mk (st := st__law_deck) l__law_deck c__law_deck k__law_deck
  have b__law_deck := F__law_deck.binds (ps := ["_law_script"]) fun _ _ _ _ _ _ us hl => match us, hl with | [_], _ => rfl
  have F__law_draw := fun_mk (st := st__law_draw) l__law_draw c__law_draw k__law_draw
  have b__law_draw := F__law_draw.binds (ps := ["_law_deck_here", "_law_many"]) fun _ _ _ _ _ _ us hl => match us, hl with | [_, _], _ => rfl
  have F__law_one := fun_mk (st := st__law_one) l__law_one c__law_one k__law_one
  have b__law_one := F__law_one.binds (ps := ["_law_deck_here", "_law_items"]) fun _ _ _ _ _ _ us hl => match us, hl with | [_, _], _ => rfl
  have F__law_kept := fun_mk (st := st__law_kept) l__law_kept c__law_kept k__law_kept
  have b__law_kept := F__law_kept.binds (ps := []) fun _ _ _ _ _ _ us hl => match us, hl with | [], _ => rfl
  have F__law_name := fun_mk (st := st__law_name) l__law_name c__law_name k__law_name
  have b__law_name := F__law_name.binds (ps := ["_law_deck_here"]) fun _ _ _ _ _ _ us hl => match us, hl with | [_], _ => rfl
  have F__law_word := fun_mk (st := st__law_word) l__law_word c__law_word k__law_word
  have b__law_word := F__law_word.binds (ps := ["_law_deck_here"]) fun _ _ _ _ _ _ us hl => match us, hl with | [_], _ => rfl
  have F__law_pool := fun_mk (st := st__law_pool) l__law_pool c__law_pool k__law_pool
  have b__law_pool := F__law_pool.binds (ps := ["_law_deck_here"]) fun _ _ _ _ _ _ us hl => match us, hl with | [_], _ => rfl
  have F__law_any_test := fun_mk (st := st__law_any_test) l__law_any_test c__law_any_test k__law_any_test
  have b__law_any_test := F__law_any_test.binds (ps := ["_law_deck_here", "_law_pool_here"]) fun _ _ _ _ _ _ us hl => match us, hl with | [_, _], _ => rfl
  have F__law_row := fun_mk (st := st__law_row) l__law_row c__law_row k__law_row
  have b__law_row := F__law_row.binds (ps := ["_law_deck_here", "_law_pool_here"]) fun _ _ _ _ _ _ us hl => match us, hl with | [_, _], _ => rfl
  have F__law_is_name := fun_mk (st := st__law_is_name) l__law_is_name c__law_is_name k__law_is_name
  have b__law_is_name := F__law_is_name.binds (ps := ["_law_value"]) fun _ _ _ _ _ _ us hl => match us, hl with | [_], _ => rfl
  have F__law_is_word := fun_mk (st := st__law_is_word) l__law_is_word c__law_is_word k__law_is_word
  have b__law_is_word := F__law_is_word.binds (ps := ["_law_value"]) fun _ _ _ _ _ _ us hl => match us, hl with | [_], _ => rfl
  have F__law_is_number := fun_mk (st := st__law_is_number) l__law_is_number c__law_is_number k__law_is_number
  have b__law_is_number := F__law_is_number.binds (ps := ["_law_value", "_law_low", "_law_high"]) fun _ _ _ _ _ _ us hl => match us, hl with | [_, _, _], _ => rfl
  have F__law_is_test := fun_mk (st := st__law_is_test) l__law_is_test c__law_is_test k__law_is_test
  have b__law_is_test := F__law_is_test.binds (ps := ["_law_value", "_law_givens"]) fun _ _ _ _ _ _ us hl => match us, hl with | [_, _], _ => rfl
  have F__law_is_row := fun_mk (st := st__law_is_row) l__law_is_row c__law_is_row k__law_is_row
  have b__law_is_row := F__law_is_row.binds (ps := ["_law_value", "_law_givens"]) fun _ _ _ _ _ _ us hl => match us, hl with | [_, _], _ => rfl
  have F__law_odd := fun_mk (st := st__law_odd) l__law_odd c__law_odd k__law_odd
  have b__law_odd := F__law_odd.binds (ps := ["_law_deck_here", "_law_pool_here"]) fun _ _ _ _ _ _ us hl => match us, hl with | [_, _], _ => rfl
  have F__law_bent := fun_mk (st := st__law_bent) l__law_bent c__law_bent k__law_bent
  have b__law_bent := F__law_bent.binds (ps := ["_law_deck_here", "_law_pool_here", "_law_value", "_law_deep"]) fun _ _ _ _ _ _ us hl => match us, hl with | [_, _, _, _], _ => rfl
  have F_law := fun_mk (st := st_law) l_law c_law k_law
  have b_law := F_law.binds (ps := ["_law_script"]) fun _ _ _ _ _ _ us hl => match us, hl with | [_], _ => rfl
  let Z : TX K mg := { t_TEST_FORMS := t_TEST_FORMS, es_TEST_FORMS := es_TEST_FORMS, n_TEST_FORMS := n_TEST_FORMS, g_TEST_FORMS := PySem.W.mg_of X G aC_D_TEST_FORMS, lD_TEST_FORMS := lD_TEST_FORMS, kz_TEST_FORMS := kz_TEST_FORMS, km_TEST_FORMS := km_TEST_FORMS, tv_TEST_FORMS_0 := tv_TEST_FORMS_0, kn_TEST_FORMS_0 := kn_TEST_FORMS_0, tv_TEST_FORMS_1 := tv_TEST_FORMS_1, kn_TEST_FORMS_1 := kn_TEST_FORMS_1, tv_TEST_FORMS_2 := tv_TEST_FORMS_2, kn_TEST_FORMS_2 := kn_TEST_FORMS_2, tv_TEST_FORMS_3 := tv_TEST_FORMS_3, kn_TEST_FORMS_3 := kn_TEST_FORMS_3, tv_TEST_FORMS_4 := tv_TEST_FORMS_4, kn_TEST_FORMS_4 := kn_TEST_FORMS_4, t_FORMS := t_FORMS, es_FORMS := es_FORMS, n_FORMS := n_FORMS, g_FORMS := PySem.W.mg_of X G aC_D_FORMS, lD_FORMS := lD_FORMS, kz_FORMS := kz_FORMS, km_FORMS := km_FORMS, tv_FORMS_0 := tv_FORMS_0, kn_FORMS_0 := kn_FORMS_0, tv_FORMS_1 := tv_FORMS_1, kn_FORMS_1 := kn_FORMS_1, tv_FORMS_2 := tv_FORMS_2, kn_FORMS_2 := kn_FORMS_2, tv_FORMS_3 := tv_FORMS_3, kn_FORMS_3 := kn_FORMS_3, tv_FORMS_4 := tv_FORMS_4, kn_FORMS_4 := kn_FORMS_4, tv_FORMS_5 := tv_FORMS_5, kn_FORMS_5 := kn_FORMS_5, tv_FORMS_6 := tv_FORMS_6, kn_FORMS_6 := kn_FORMS_6, tv_FORMS_7 := tv_FORMS_7, kn_FORMS_7 := kn_FORMS_7, tv_FORMS_8 := tv_FORMS_8, kn_FORMS_8 := kn_FORMS_8, tv_FORMS_9 := tv_FORMS_9, kn_FORMS_9 := kn_FORMS_9, tv_FORMS_10 := tv_FORMS_10, kn_FORMS_10 := kn_FORMS_10, tv_FORMS_11 := tv_FORMS_11, kn_FORMS_11 := kn_FORMS_11, tv_FORMS_12 := tv_FORMS_12, kn_FORMS_12 := kn_FORMS_12, t_NO_NAMES := t_NO_NAMES, g_NO_NAMES := PySem.W.mg_of X G aC_D_NO_NAMES, tk_NO_NAMES := ⟨_, _, _, _, lD_NO_NAMES, tk_NO_NAMES.2, tk_NO_NAMES.1⟩, f_is_number := _, d_is_number := _, F_is_number := F_is_number, b_is_number := b_is_number, g_is_number := PySem.W.mg_of X G a_is_number, f_is_word := _, d_is_word := _, F_is_word := F_is_word, b_is_word := b_is_word, g_is_word := PySem.W.mg_of X G a_is_word, f_is_name := _, d_is_name := _, F_is_name := F_is_name, b_is_name := b_is_name, g_is_name := PySem.W.mg_of X G a_is_name, f_has_form := _, d_has_form := _, F_has_form := F_has_form, b_has_form := b_has_form, g_has_form := PySem.W.mg_of X G a_has_form, f_is_part := _, d_is_part := _, F_is_part := F_is_part, b_is_part := b_is_part, g_is_part := PySem.W.mg_of X G a_is_part, f_is_test := _, d_is_test := _, F_is_test := F_is_test, b_is_test := b_is_test, g_is_test := PySem.W.mg_of X G a_is_test, f_inner_blocks := _, d_inner_blocks := _, F_inner_blocks := F_inner_blocks, b_inner_blocks := b_inner_blocks, g_inner_blocks := PySem.W.mg_of X G a_inner_blocks, f_listed := _, d_listed := _, F_listed := F_listed, b_listed := b_listed, g_listed := PySem.W.mg_of X G a_listed, f_first_error := _, d_first_error := _, F_first_error := F_first_error, b_first_error := b_first_error, g_first_error := PySem.W.mg_of X G a_first_error, f_weight_of := _, d_weight_of := _, F_weight_of := F_weight_of, b_weight_of := b_weight_of, g_weight_of := PySem.W.mg_of X G a_weight_of, f_statements_of := _, d_statements_of := _, F_statements_of := F_statements_of, b_statements_of := b_statements_of, g_statements_of := PySem.W.mg_of X G a_statements_of, f_wishes_of := _, d_wishes_of := _, F_wishes_of := F_wishes_of, b_wishes_of := b_wishes_of, g_wishes_of := PySem.W.mg_of X G a_wishes_of, f_program_error := _, d_program_error := _, F_program_error := F_program_error, b_program_error := b_program_error, g_program_error := PySem.W.mg_of X G a_program_error, f__law_deck := _, d__law_deck := _, F__law_deck := F__law_deck, b__law_deck := b__law_deck, g__law_deck := PySem.W.mg_of X G a__law_deck, f__law_draw := _, d__law_draw := _, F__law_draw := F__law_draw, b__law_draw := b__law_draw, g__law_draw := PySem.W.mg_of X G a__law_draw, f__law_one := _, d__law_one := _, F__law_one := F__law_one, b__law_one := b__law_one, g__law_one := PySem.W.mg_of X G a__law_one, f__law_kept := _, d__law_kept := _, F__law_kept := F__law_kept, b__law_kept := b__law_kept, g__law_kept := PySem.W.mg_of X G a__law_kept, f__law_name := _, d__law_name := _, F__law_name := F__law_name, b__law_name := b__law_name, g__law_name := PySem.W.mg_of X G a__law_name, f__law_word := _, d__law_word := _, F__law_word := F__law_word, b__law_word := b__law_word, g__law_word := PySem.W.mg_of X G a__law_word, f__law_pool := _, d__law_pool := _, F__law_pool := F__law_pool, b__law_pool := b__law_pool, g__law_pool := PySem.W.mg_of X G a__law_pool, f__law_any_test := _, d__law_any_test := _, F__law_any_test := F__law_any_test, b__law_any_test := b__law_any_test, g__law_any_test := PySem.W.mg_of X G a__law_any_test, f__law_row := _, d__law_row := _, F__law_row := F__law_row, b__law_row := b__law_row, g__law_row := PySem.W.mg_of X G a__law_row, f__law_is_name := _, d__law_is_name := _, F__law_is_name := F__law_is_name, b__law_is_name := b__law_is_name, g__law_is_name := PySem.W.mg_of X G a__law_is_name, f__law_is_word := _, d__law_is_word := _, F__law_is_word := F__law_is_word, b__law_is_word := b__law_is_word, g__law_is_word := PySem.W.mg_of X G a__law_is_word, f__law_is_number := _, d__law_is_number := _, F__law_is_number := F__law_is_number, b__law_is_number := b__law_is_number, g__law_is_number := PySem.W.mg_of X G a__law_is_number, f__law_is_test := _, d__law_is_test := _, F__law_is_test := F__law_is_test, b__law_is_test := b__law_is_test, g__law_is_test := PySem.W.mg_of X G a__law_is_test, f__law_is_row := _, d__law_is_row := _, F__law_is_row := F__law_is_row, b__law_is_row := b__law_is_row, g__law_is_row := PySem.W.mg_of X G a__law_is_row, f__law_odd := _, d__law_odd := _, F__law_odd := F__law_odd, b__law_odd := b__law_odd, g__law_odd := PySem.W.mg_of X G a__law_odd, f__law_bent := _, d__law_bent := _, F__law_bent := F__law_bent, b__law_bent := b__law_bent, g__law_bent := PySem.W.mg_of X G a__law_bent, f_law := _, d_law := _, F_law := F_law, b_law := b_law, g_law := PySem.W.mg_of X G a_law, t_DIGITS := t_DIGITS, g_DIGITS := PySem.W.mg_of X G v_DIGITS, t_MAX_GIVENS := t_MAX_GIVENS, g_MAX_GIVENS := PySem.W.mg_of X G v_MAX_GIVENS, t_MAX_NAME := t_MAX_NAME, g_MAX_NAME := PySem.W.mg_of X G v_MAX_NAME, t_MAX_NEST := t_MAX_NEST, g_MAX_NEST := PySem.W.mg_of X G v_MAX_NEST, t_MAX_PLACES := t_MAX_PLACES, g_MAX_PLACES := PySem.W.mg_of X G v_MAX_PLACES, t_MAX_TIMES := t_MAX_TIMES, g_MAX_TIMES := PySem.W.mg_of X G v_MAX_TIMES, t_MAX_WEIGHT := t_MAX_WEIGHT, g_MAX_WEIGHT := PySem.W.mg_of X G v_MAX_WEIGHT, t_MAX_WISHES := t_MAX_WISHES, g_MAX_WISHES := PySem.W.mg_of X G v_MAX_WISHES, t_MAX_WORD := t_MAX_WORD, g_MAX_WORD := PySem.W.mg_of X G v_MAX_WORD, t_MOST_NOTS := t_MOST_NOTS, g_MOST_NOTS := PySem.W.mg_of X G v_MOST_NOTS, t_SMALL := t_SMALL, g_SMALL := PySem.W.mg_of X G v_SMALL, n_abs := PySem.W.mg_none_of X G z_abs, n_all := PySem.W.mg_none_of X G z_all, n_bool := PySem.W.mg_none_of X G z_bool, n_int := PySem.W.mg_none_of X G z_int, n_isinstance := PySem.W.mg_none_of X G z_isinstance, n_len := PySem.W.mg_none_of X G z_len, n_list := PySem.W.mg_none_of X G z_list, n_range := PySem.W.mg_none_of X G z_range, n_repr := PySem.W.mg_none_of X G z_repr, n_sorted := PySem.W.mg_none_of X G z_sorted, n_str := PySem.W.mg_none_of X G z_str, n_sum := PySem.W.mg_none_of X G z_sum, n_tuple := PySem.W.mg_none_of X G z_tuple, n_zip := PySem.W.mg_none_of X G z_zip }
  exact ⟨Z.T w, Z.d_law, rfl, fun s u => .of_eq rfl, fun base _ _ => sim_law Z ⟨kl_TEST_FORMS, kl_FORMS⟩⟩
end K00

/-! D2: the deck of numbers: _law_deck, _law_draw (the second kind), _law_one -/
namespace K00
open PySem L2 Sm
/-- a deck of at most 63 numbers, at most c of them drawn -/
def Dk (s : Sto) (d l c : Nat) : Prop := ∃ k cells, k ≤ c ∧ cells.length ≤ 63 ∧ Deck s d l k cells
theorem Dk.fr {X : List Nat} {s s' : Sto} {d l c : Nat} (D : Dk s d l c) (f : Fr X s s') (h1 : d ∉ X) (h2 : l ∉ X) : Dk s' d l c := by
  obtain ⟨k, cells, a, b, D⟩ := D
  exact ⟨k, cells, a, b, D.fr f h1 h2⟩
theorem Dk.new {s s' : Sto} {d l c : Nat} (D : Dk s d l c) (f : Fr [] s s') : Dk s' d l c := D.fr f (by simp) (by simp)
theorem Dk.mono {s : Sto} {d l c c' : Nat} (D : Dk s d l c) (h : c ≤ c') : Dk s d l c' := by
  obtain ⟨k, cells, a, b, D⟩ := D
  exact ⟨k, cells, Nat.le_trans a h, b, D⟩
theorem Dk.lt {s : Sto} {d l c : Nat} (D : Dk s d l c) : d < s.length ∧ l < s.length := by
  obtain ⟨k, cells, a, b, D⟩ := D
  exact ⟨lt_of_get D.top, lt_of_get D.cel⟩
abbrev CM : Nat := 1000000000000000
section
variable {s : Sto} {d l c : Nat} {Q : Vl → Sto → Prop} {E : Ex → Sto → Prop}
theorem draw {many : Int} (D : Dk s d l c) (hm : 0 < many) (hm2 : many < 1267650600228229401496703205376) (hc : c < CM) (k : ∀ (r : Nat) s', (r : Int) < many → Dk s' d l (c + 1) → Fr [d, l] s s' → Q (.int r) s') : WE (m__law_draw [.ref d, .int many]) s Q E := by
  obtain ⟨n, cells, hn, hl, D⟩ := D
  have h1 := D.top
  have h2 := D.cel
  have hne := D.ne
  have k' : ∀ (r : Int) s' cells', 0 ≤ r → r < many → Deck s' d l (n + 1) cells' → cells'.length ≤ 63 → Fr [d, l] s s' → Q (.int r) s' := fun r s' cells' h0 hr D' hl' f => by
    have e : r = ((r.toNat : Nat) : Int) := (Int.toNat_of_nonneg h0).symm
    rw [e]
    exact k r.toNat s' (by omega) ⟨n + 1, cells', by omega, hl', D'⟩ f
  unfold m__law_draw b__law_draw
  simp [h1, h2, ixN, atI, List.replicate, get_set_self h1, get_set_ne hne.symm]
  generalize hs1 : s.set d (Ob.lst [Vl.ref l, Vl.int (↑n + 1)]) = s1
  have e1 : s1[d]? = some (.lst [.ref l, .int (n + 1)]) := by rw [← hs1]; exact get_set_self h1
  have e2 : s1[l]? = some (.lst (cells.map Vl.int)) := by rw [← hs1, get_set_ne hne.symm]; exact h2
  have f1 : Fr [d, l] s s1 := hs1 ▸ Fr.refl.set (Or.inl (List.mem_cons_self ..))
  have tail : ∀ (x : Int), 0 ≤ x → x < 1000000000000000000 → ∀ q : Int, q = (x % 2147483563 + 8117 * ((n : Int) + 1) + 3) ^ 5 % 2147483629 % many → Q (.int q) s1 := fun x hx hb q hq => by
    refine k' q s1 cells ?_ ?_ ⟨e1, e2, D.nn, hne⟩ hl f1
    · rw [hq]; exact Int.emod_nonneg _ (by omega)
    · rw [hq]; exact Int.emod_lt_of_pos _ hm
  have nab : ∀ x : Int, (x % 2147483563 + 8117 * ((n : Int) + 1) + 3).natAbs < 2 ^ 64 := fun x => by
    have a1 := Int.emod_nonneg x (show (2147483563 : Int) ≠ 0 by omega)
    have a2 := Int.emod_lt_of_pos x (show (0 : Int) < 2147483563 by omega)
    generalize x % 2147483563 = q at a1 a2
    have hn' : n < 1000000000000000 := Nat.lt_of_le_of_lt hn hc
    omega
  cases cells with
  | nil =>
    have := nab 0
    simp at this
    simp [e1, e2, hm, this]
    exact tail 0 (by omega) (by omega) _ (by simp)
  | cons y ys =>
    have hpos : 0 < (((y :: ys).length : Nat) : Int) := by simp <;> omega
    have hpos' : (0 : Int) < (ys.length : Int) + 1 := by omega
    generalize hcs : (y :: ys) = cs at *
    have hcl : ((ys.length : Nat) : Int) + 1 = ((cs.length : Nat) : Int) := by rw [← hcs]; simp
    have hp0 := Int.emod_nonneg ((n : Int) + 1) (Int.ne_of_gt hpos)
    have hp1 := Int.emod_lt_of_pos ((n : Int) + 1) hpos
    obtain ⟨p, hp⟩ : ∃ p : Nat, ((n : Int) + 1) % (cs.length : Int) = p := ⟨_, (Int.toNat_of_nonneg hp0).symm⟩
    have hpl : p < cs.length := by omega
    obtain ⟨x, hx⟩ : ∃ x, cs[p]? = some x := ⟨_, List.getElem?_eq_getElem hpl⟩
    have hx0 : 0 ≤ x := D.nn x (List.mem_of_getElem? hx)
    have hxm : (cs.map Vl.int)[p]? = some (.int x) := by rw [List.getElem?_map, hx]; rfl
    have hlt : 0 < cs.length := by omega
    simp [hlt, e1, e2]
    rw [hp, atN, hxm]
    simp [e1, e2]
    by_cases hbig : 1000000000000000000 ≤ x
    · have i2 : ixN cs.length (p : Int) = some p := ixN_nat hpl
      have i3 : ixN (cs.map Vl.int).length (p : Int) = some p := by rw [List.length_map]; exact i2
      simp [hbig, e1, e2, hm, hm2, i2]
      refine k' (x % many) _ (cs.set p (x / many)) (Int.emod_nonneg x (by omega)) (Int.emod_lt_of_pos x hm) ⟨?_, ?_, ?_, hne⟩ (by simpa using hl) (f1.set (by simp))
      · rw [get_set_ne hne]; exact e1
      · rw [get_set_self e2, List.map_set]
      · intro z hz
        rcases List.mem_or_eq_of_mem_set hz with h | h
        · exact D.nn z h
        · rw [h]; exact Int.ediv_nonneg hx0 (by omega)
    · have := nab x
      simp [hbig, e1, e2, hm, this]
      exact tail x hx0 (by omega) _ rfl
theorem one {a : Nat} {xs : List Vl} (D : Dk s d l c) (ha : s[a]? = some (.lst xs)) (hd : a ∉ [d, l]) (h0 : 0 < xs.length) (h1 : xs.length < 1000000) (hc : c < CM) (k : ∀ v s', v ∈ xs → Dk s' d l (c + 1) → Fr [d, l] s s' → Q v s') : WE (m__law_one [.ref d, .ref a]) s Q E := by
  unfold m__law_one b__law_one
  simp [ha]
  refine draw D (by omega) (by omega) hc fun r s' h2 h3 h4 => ?_
  have h5 := h4.at ha hd
  have h6 : r < xs.length := by omega
  simp [opIx_lst h5, atN, h6]
  exact k _ _ (List.getElem_mem h6) h3 h4
theorem oneNew {xs : List Vl} (D : Dk s d l c) (h0 : 0 < xs.length) (h1 : xs.length < 1000000) (hc : c < CM) (k : ∀ v s', v ∈ xs → Dk s' d l (c + 1) → Fr [d, l] s s' → Q v s') : WE (m__law_one [.ref d, .ref s.length]) (s ++ [.lst xs]) Q E := by
  have hlt := D.lt
  exact one (D.new (Fr.refl.push _)) get_last (by simp; omega) h0 h1 hc fun v s' a b f => k v s' a b ((Fr.refl.push _).trans f)
theorem oneS {x : Str} (D : Dk s d l c) (h0 : 0 < x.length) (h1 : x.length < 1000000) (hc : c < CM) (k : ∀ ch s', ch ∈ x.cps.toList → Dk s' d l (c + 1) → Fr [d, l] s s' → Q (.str ⟨#[ch]⟩) s') : WE (m__law_one [.ref d, .str x]) s Q E := by
  unfold m__law_one b__law_one
  have hL : x.length ≤ LIM := limB (by omega)
  simp [hL]
  refine draw D (by omega) (by omega) hc fun r s' h2 h3 h4 => ?_
  have h6 : r < x.cps.toList.length := by rw [← str_len]; omega
  have h7 : x.cps.toList[r]? = some x.cps.toList[r] := List.getElem?_eq_getElem h6
  rw [opIx_str hL, atN, h7]
  simp only [Option.map, WO_some]
  exact k _ _ (List.getElem_mem h6) h3 h4
theorem deck {ns : List Int} (h : ns.length ≤ 63) (k : ∀ d l s', Dk s' d l 0 → Fr [] s s' → Q (.ref d) s') : WE (m__law_deck [.scr ns]) s Q E := by
  unfold m__law_deck b__law_deck
  have e63 : cutL ns none (some 63) = ns.take 63 := cutL_nat (n := 63)
  simp
  rw [e63]
  refine lcL_p (xs := (ns.take 63).map Vl.int) (s ++ [.lst ((ns.take 63).map Vl.int)]) (fun v => match v with | .int i => some (.int (if i < 0 then -i else i)) | _ => none) (by simp) (by simp) get_last (by simp; omega) ?_ ?_
  · intro x hx acc
    obtain ⟨i, _, rfl⟩ := List.mem_map.mp hx
    refine ⟨_, rfl, ?_⟩
    simp [tTrue, wipeL]
  · have e : ((ns.take 63).map Vl.int).filterMap (fun v => match v with | .int i => some (.int (if i < 0 then -i else i)) | _ => none) = ((ns.take 63).map fun i : Int => if i < 0 then -i else i).map Vl.int := by
      rw [List.filterMap_map, List.map_map, ← List.filterMap_eq_map]
      rfl
    rw [e]
    have hcl : ((ns.take 63).map fun i : Int => if i < 0 then -i else i).length ≤ 63 := by simp; omega
    have hcn : ∀ x ∈ ((ns.take 63).map fun i : Int => if i < 0 then -i else i), 0 ≤ x := by
      intro x hx
      obtain ⟨a, _, rfl⟩ := List.mem_map.mp hx
      split <;> omega
    generalize ((ns.take 63).map fun i : Int => if i < 0 then -i else i) = cs at hcl hcn
    generalize (ns.take 63).map Vl.int = o1
    simp
    refine k _ (s.length + 1) _ ⟨0, cs, Nat.le_refl _, hcl, ⟨?_, ?_, hcn, ?_⟩⟩ (Fr.refl.app _)
    · rw [List.getElem?_append_right (by omega)]
      simp
    · rw [List.getElem?_append_right (by omega)]
      simp
    · omega
end
end K00

/-! N1: names and words of one to eight signs; the pool -/
namespace K00
open PySem L2 Sm
def keptT : Str := "as ask cut drop else full given hold if keep make not pass repeat same say set take weak wish wished"
/-- a small letter; a letter or a digit -/
def Low (c : Nat) : Prop := 97 ≤ c ∧ c ≤ 122
def LD (c : Nat) : Prop := Low c ∨ (48 ≤ c ∧ c ≤ 57)
structure Wd (x : Str) : Prop where
  pos : 0 < x.length
  len : x.length ≤ 8
  sgn : ∀ c ∈ x.cps.toList, LD c
structure Nm (x : Str) : Prop extends Wd x where
  fst : ∀ c, x.cps.toList[0]? = some c → Low c
  no : x ∉ Txt.words keptT
theorem Wd.nice {x : Str} (h : Wd x) : Nice x := ⟨by have := h.len; omega, fun c hc => by
  have := h.sgn c hc
  unfold LD Low at this
  omega⟩
theorem kept_low : (Txt.words keptT).all (fun w => w.cps.toList.all fun c => decide (97 ≤ c)) = true := by decide +kernel
theorem letters_low : (("abcdefghijklmnopqrstuvwxyz" : Str).cps.toList.all fun c => decide (97 ≤ c ∧ c ≤ 122)) = true := by decide +kernel
theorem signs_ld : ((("abcdefghijklmnopqrstuvwxyz" : Str) ++ ("0123456789" : Str)).cps.toList.all fun c => decide ((97 ≤ c ∧ c ≤ 122) ∨ (48 ≤ c ∧ c ≤ 57))) = true := by decide +kernel
theorem signs_ld2 : (("0123456789abcdefghijklmnopqrstuvwxyz" : Str).cps.toList.all fun c => decide ((97 ≤ c ∧ c ≤ 122) ∨ (48 ≤ c ∧ c ≤ 57))) = true := by decide +kernel
section
variable {s : Sto} {d l c : Nat} {Q : Vl → Sto → Prop} {E : Ex → Sto → Prop}
theorem keptS (k : Q (.ref s.length) (s ++ [.lst ((Txt.words keptT).map Vl.str)])) : WE (m__law_kept []) s Q E := by
  unfold m__law_kept b__law_kept
  have h : (("as ask cut drop else full given hold if keep make not pass repeat same say set take weak wish wished" : Str)).length + 2 ≤ LIM := limB (by decide +kernel)
  simp [oSplit0_str h]
  exact k
theorem inF_strs {x : Str} : ∀ {ys : List Str}, inF (.str x) (ys.map Vl.str) = decide (x ∈ ys)
  | [] => by simp
  | y :: ys => by
    rw [List.map_cons, inF_cons, inF_strs]
    by_cases e : y = x
    · subst e; simp [eqF]
    · have e' : ¬ x = y := fun z => e z.symm
      simp [eqF, e, e']
theorem flat_strs {ys : List Str} : (ys.map Vl.str).all flat = true := by
  rw [List.all_eq_true]
  intro v hv
  obtain ⟨x, _, rfl⟩ := List.mem_map.mp hv
  rfl
theorem len_app {x y : Str} : (x ++ y).length = x.length + y.length := by rw [str_len, str_append, List.length_append, ← str_len, ← str_len]
theorem cutTo {x : Str} {n : Nat} : (cutS x none (some (n : Int))).cps.toList = x.cps.toList.take n := by
  have e : HT.sIx x.length x.length (some (n : Int)) = min n x.length := HT.sIx_nat _ _ _
  show ((x.cps.toList.drop (HT.sIx x.length 0 none)).take (HT.sIx x.length x.length (some (n : Int)) - HT.sIx x.length 0 none)).toArray.toList = _
  rw [e, HT.sIx_none, List.drop_zero, Nat.sub_zero, str_len]
  by_cases h : n ≤ x.cps.toList.length
  · rw [Nat.min_eq_left h]
  · rw [Nat.min_eq_right (by omega), List.take_of_length_le (Nat.le_refl _), List.take_of_length_le (by omega)]
theorem app1_toList {x : Str} {ch : Nat} : (x ++ (⟨#[ch]⟩ : Str)).cps.toList = x.cps.toList ++ [ch] := by rw [str_append]
/-- behind i signs of a name -/
def NI (d l c : Nat) (s0 : Sto) (i : Nat) (lo : Lo) (s' : Sto) : Prop := ∃ (x : Str) (x3 : Option Vl), lo = [some (.ref d), some (.str "abcdefghijklmnopqrstuvwxyz"), some (.str x), x3] ∧ x.length = i + 1 ∧ (∀ c ∈ x.cps.toList, LD c) ∧ (∀ c, x.cps.toList[0]? = some c → Low c) ∧ Dk s' d l (c + i) ∧ Fr [d, l] s0 s'
theorem name (D : Dk s d l c) (hc : c + 1000 < CM) (k : ∀ x s', Nm x → Dk s' d l (c + 12) → Fr [d, l] s s' → Q (.str x) s') : WE (m__law_name [.ref d]) s Q E := by
  unfold m__law_name b__law_name
  simp
  refine oneS D (by decide +kernel) (by decide +kernel) (by omega) fun ch s1 hch D1 f1 => ?_
  have hlow : Low ch := by
    have := List.all_eq_true.mp letters_low ch hch
    simpa [Low] using this
  simp
  refine draw D1 (by omega) (by omega) (by omega) fun q s2 hq D2 f2 => ?_
  simp
  refine oneNew D2 (by simp) (by simp) (by omega) fun v s3 hv D3 f3 => ?_
  obtain ⟨m, rfl, hm⟩ : ∃ m : Nat, v = .int m ∧ m ≤ 7 := by
    simp only [List.mem_cons, List.not_mem_nil, or_false] at hv
    rcases hv with rfl | rfl | rfl | rfl
    · exact ⟨0, rfl, by omega⟩
    · exact ⟨1, rfl, by omega⟩
    · exact ⟨7, rfl, by omega⟩
    · exact ⟨q, rfl, by omega⟩
  simp
  rw [rngW_nat (by omega)]
  refine loopX_inv (NI d l (c + 3) s3) ?_ ?_ ?_
  · refine ⟨⟨#[ch]⟩, none, rfl, rfl, fun c hc => ?_, fun c hc => ?_, D3, Fr.refl⟩
    · simp at hc; subst hc; exact .inl hlow
    · simp at hc; subst hc; exact hlow
  · rintro i v lo s4 hv ⟨x, x3, rfl, xl, xs, xf, D4, f4⟩
    obtain ⟨hi, rfl⟩ := rng_get hv
    have h1 : ("abcdefghijklmnopqrstuvwxyz" : Str).length + ("0123456789" : Str).length ≤ LIM := limB (by decide +kernel)
    simp [opAdd_str h1]
    refine oneS D4 (by decide +kernel) (by decide +kernel) (by omega) fun ch2 s5 hch2 D5 f5 => ?_
    have hld : LD ch2 := by
      have := List.all_eq_true.mp signs_ld ch2 hch2
      simpa [LD, Low] using this
    have h2 : x.length + (⟨#[ch2]⟩ : Str).length ≤ LIM := limB (by rw [xl]; show i + 1 + 1 ≤ _; omega)
    simp [opAdd_str h2]
    refine ⟨_, _, rfl, ?_, ?_, ?_, D5, f4.trans f5⟩
    · rw [len_app, xl]; rfl
    · intro c hc
      rw [app1_toList] at hc
      rcases List.mem_append.mp hc with z | z
      · exact xs c z
      · simp at z; subst z; exact hld
    · intro c hc
      rw [app1_toList, List.getElem?_append_left (by rw [← str_len]; omega)] at hc
      exact xf c hc
  · rintro lo s4 ⟨x, x3, rfl, xl, xs, xf, D4, f4⟩
    rw [rng_len] at xl D4
    have F4 : Fr [d, l] s s4 := ((f1.trans f2).trans f3).trans f4
    simp
    refine keptS ?_
    simp [opNotIn_lstS get_last, flat_strs, inF_strs]
    have F5 : Fr [d, l] s (s4 ++ [Ob.lst ((Txt.words keptT).map Vl.str)]) := F4.push _
    have D5 := (D4.new (Fr.refl.push (Ob.lst ((Txt.words keptT).map Vl.str)))).mono (show c + 3 + m ≤ c + 12 by omega)
    have hl0 := str_len (x := x)
    split
    · have hL : x.length ≤ LIM := limB (by omega)
      have y1 : (cutS x none (some 7)).cps.toList = x.cps.toList.take 7 := cutTo (n := 7)
      have y2 : (cutS x none (some 7)).length = min 7 x.length := by rw [str_len, y1, List.length_take, ← hl0]
      have z1 : (cutS x none (some 7) ++ ("0" : Str)).cps.toList = x.cps.toList.take 7 ++ [48] := by rw [str_append, y1]; rfl
      have z0 : ("0" : Str).length = 1 := by decide
      have h2 : (cutS x none (some 7)).length + ("0" : Str).length ≤ LIM := limB (by rw [y2, z0]; omega)
      simp only [opSl, if_pos hL, WO_some, WE_eC, opAdd_str h2]
      refine k _ _ ⟨⟨?_, ?_, ?_⟩, ?_, ?_⟩ D5 F5
      · rw [len_app, y2, z0]; omega
      · rw [len_app, y2, z0]; omega
      · intro c hc
        rw [z1] at hc
        rcases List.mem_append.mp hc with z | z
        · exact xs c (List.mem_of_mem_take z)
        · simp at z; subst z; exact .inr ⟨by omega, by omega⟩
      · intro c hc
        rw [z1, List.getElem?_append_left (by rw [List.length_take]; omega), List.getElem?_take_of_lt (by omega)] at hc
        exact xf c hc
      · intro hm
        have := List.all_eq_true.mp (List.all_eq_true.mp kept_low _ hm) 48 (by rw [z1]; simp)
        simp at this
    · rename_i hno
      exact k x _ ⟨⟨by omega, by omega, xs⟩, xf, hno⟩ D5 F5
theorem join_eq {x : Str} {ys : List Str} : Txt.join x ys = Str.join x ys := StrLaws.glued_eq_join x ys
theorem joinP {P : Nat → Prop} : ∀ {ys : List Str}, (∀ y ∈ ys, y.length = 1 ∧ ∀ c ∈ y.cps.toList, P c) → (Txt.join "" ys).length = ys.length ∧ ∀ c ∈ (Txt.join "" ys).cps.toList, P c
  | [], _ => ⟨rfl, fun c hc => by cases hc⟩
  | [y], h => by
    have := h y (List.mem_cons_self ..)
    exact ⟨this.1, this.2⟩
  | y :: z :: r, h => by
    have h1 := h y (List.mem_cons_self ..)
    have ih := joinP (ys := z :: r) fun w hw => h w (List.mem_cons_of_mem _ hw)
    have e : Txt.join "" (y :: z :: r) = y ++ "" ++ Txt.join "" (z :: r) := by rw [join_eq, join_eq]; rfl
    have e2 : (Txt.join "" (y :: z :: r)).cps.toList = y.cps.toList ++ (Txt.join "" (z :: r)).cps.toList := by
      rw [e, str_append, str_append]
      have : (("" : Str)).cps.toList = [] := by decide
      rw [this, List.append_nil]
    refine ⟨?_, fun c hc => ?_⟩
    · rw [str_len, e2, List.length_append, ← str_len, ← str_len, h1.1, ih.1]
      simp; omega
    · rw [e2] at hc
      rcases List.mem_append.mp hc with q | q
      · exact h1.2 c q
      · exact ih.2 c q
theorem sum_ones : ∀ {ys : List Str}, (∀ y ∈ ys, y.length = 1) → (ys.map (·.length)).sum = ys.length
  | [], _ => rfl
  | y :: ys, h => by
    have := sum_ones (ys := ys) fun z hz => h z (List.mem_cons_of_mem _ hz)
    have := h y (List.mem_cons_self ..)
    simp only [List.map_cons, List.sum_cons, List.length_cons]
    omega
theorem signs {x : Str} {n : Nat} {lo : Lo} {P : Nat → Prop} {QS : Sto → Prop} (D : Dk s d l c) (h0 : 0 < x.length) (h1 : x.length ≤ 100) (hx : ∀ ch ∈ x.cps.toList, P ch) (hn : n ≤ 10) (hc : c + 100 < CM) (l0 : lo[0]? = some (some (.ref d))) (l2 : lo[1]? = some (some (.str x))) (l5 : 2 < lo.length)
    (k : ∀ (ys : List Str) (s' : Sto), s'[s.length]? = some (.lst (ys.map Vl.str)) → ys.length = n → (∀ y ∈ ys, y.length = 1 ∧ ∀ c ∈ y.cps.toList, P c) → Dk s' d l (c + n) → Fr [d, l] s s' → QS s') :
    WL (lcX (glN 2) tTrue (eCall (arg 2 m__law_one) (aCons (eVar 0) (aCons (eVar 1) aNil))) s.length lo (rng 0 n) (s ++ [.lst []])) QS := by
  have hlt := D.lt
  refine lcX_inv (fun i s' => ∃ ys : List Str, s'[s.length]? = some (.lst (ys.map Vl.str)) ∧ ys.length = i ∧ (∀ y ∈ ys, y.length = 1 ∧ ∀ c ∈ y.cps.toList, P c) ∧ Dk s' d l (c + i) ∧ Fr [d, l] s s') ?_ ?_ ?_
  · exact ⟨[], get_last, rfl, by simp, D.new (Fr.refl.push _), Fr.refl.push _⟩
  · rintro i v s1 hv ⟨ys, g1, g2, g3, D1, f1⟩
    obtain ⟨hi, rfl⟩ := rng_get hv
    refine ⟨_, rfl, ?_⟩
    unfold LcT tTrue
    have e0 : (lo.set 2 (some (Vl.int (i : Nat))))[0]? = some (some (.ref d)) := by rw [List.getElem?_set_ne (by omega)]; exact l0
    have e2 : (lo.set 2 (some (Vl.int (i : Nat))))[1]? = some (some (.str x)) := by rw [List.getElem?_set_ne (by omega)]; exact l2
    simp [e0, e2, l0, l2]
    refine oneS D1 h0 (by omega) (by omega) fun ch s2 hch D2 f2 => ?_
    have g4 := f2.at g1 (by simp; omega)
    simp only [g4]
    refine ⟨limC (by simp; omega), ys ++ [⟨#[ch]⟩], ?_, by simp [g2], ?_, ?_, ?_⟩
    · rw [get_set_self g4]; simp
    · intro y hy
      rcases List.mem_append.mp hy with q | q
      · exact g3 y q
      · simp at q
        subst q
        exact ⟨rfl, fun z hz => by simp at hz; subst hz; exact hx z hch⟩
    · exact D2.fr (Fr.refl.set (X := [s.length]) (by simp)) (by simp; omega) (by simp; omega)
    · exact (f1.trans f2).set (Or.inr (Nat.le_refl _))
  · rintro s1 ⟨ys, g1, g2, g3, D1, f1⟩
    rw [rng_len] at g2 D1
    exact k ys s1 g1 g2 g3 D1 f1
theorem word (D : Dk s d l c) (hc : c + 1000 < CM) (k : ∀ x s', Wd x → Dk s' d l (c + 12) → Fr [d, l] s s' → Q (.str x) s') : WE (m__law_word [.ref d]) s Q E := by
  unfold m__law_word b__law_word
  simp
  refine draw D (by omega) (by omega) (by omega) fun q s2 hq D2 f2 => ?_
  simp
  refine oneNew D2 (by simp) (by simp) (by omega) fun v s3 hv D3 f3 => ?_
  obtain ⟨m, rfl, hm, hm0⟩ : ∃ m : Nat, v = .int m ∧ m ≤ 8 ∧ 0 < m := by
    simp only [List.mem_cons, List.not_mem_nil, or_false] at hv
    rcases hv with rfl | rfl | rfl | rfl
    · exact ⟨1, rfl, by omega, by omega⟩
    · exact ⟨2, rfl, by omega, by omega⟩
    · exact ⟨8, rfl, by omega, by omega⟩
    · exact ⟨1 + q, by simp, by omega, by omega⟩
  simp
  rw [rngW_nat (by omega)]
  refine signs (x := "0123456789abcdefghijklmnopqrstuvwxyz") (P := LD) D3 (by decide +kernel) (by decide +kernel) (fun ch hch => by have := List.all_eq_true.mp signs_ld2 ch hch; simpa [LD, Low] using this) (by omega) (by omega) (by simp [wipeL]) (by simp [wipeL]) (by simp [wipeL]) fun ys s4 g4 y1 y2 D4 f4 => ?_
  obtain ⟨j1, j2⟩ := joinP y2
  have hs := sum_ones fun y hy => (y2 y hy).1
  simp [oJoin_strs g4 (x := "") (by rw [hs]; exact Nat.le_trans (show _ ≤ ys.length + ys.length * 0 from Nat.le_of_eq rfl) (limB (by omega)))]
  exact k _ _ ⟨by omega, by omega, j2⟩ (D4.mono (by omega)) ((f2.trans f3).trans f4)
/-- some names, some words -/
theorem some_ {n : Nat} {lo : Lo} {mf : List Vl → M Vl} {P : Str → Prop} {QS : Sto → Prop} (hm : ∀ (s : Sto) (c : Nat) (Q : Vl → Sto → Prop), Dk s d l c → c + 1000 < CM → (∀ x s', P x → Dk s' d l (c + 12) → Fr [d, l] s s' → Q (.str x) s') → WE (mf [.ref d]) s Q NoX) (D : Dk s d l c) (hn : n ≤ 10) (hc : c + 2000 < CM) (l0 : lo[0]? = some (some (.ref d))) (l2 : 2 < lo.length)
    (k : ∀ (ys : List Str) (s' : Sto), s'[s.length]? = some (.lst (ys.map Vl.str)) → ys.length = n → (∀ y ∈ ys, P y) → Dk s' d l (c + 12 * n) → Fr [d, l] s s' → QS s') :
    WL (lcX (glN 2) tTrue (eCall (arg 1 mf) (aCons (eVar 0) aNil)) s.length lo (rng 0 n) (s ++ [.lst []])) QS := by
  have hlt := D.lt
  refine lcX_inv (fun i s' => ∃ ys : List Str, s'[s.length]? = some (.lst (ys.map Vl.str)) ∧ ys.length = i ∧ (∀ y ∈ ys, P y) ∧ Dk s' d l (c + 12 * i) ∧ Fr [d, l] s s') ?_ ?_ ?_
  · exact ⟨[], get_last, rfl, by simp, D.new (Fr.refl.push _), Fr.refl.push _⟩
  · rintro i v s1 hv ⟨ys, g1, g2, g3, D1, f1⟩
    obtain ⟨hi, rfl⟩ := rng_get hv
    refine ⟨_, rfl, ?_⟩
    unfold LcT tTrue
    have e0 : (lo.set 2 (some (Vl.int (i : Nat))))[0]? = some (some (.ref d)) := by rw [List.getElem?_set_ne (by omega)]; exact l0
    simp [e0, l0]
    refine hm s1 _ _ D1 (by omega) fun x s2 hx D2 f2 => ?_
    have g4 := f2.at g1 (by simp; omega)
    simp only [g4]
    refine ⟨limC (by simp; omega), ys ++ [x], ?_, by simp [g2], ?_, ?_, ?_⟩
    · rw [get_set_self g4]; simp
    · intro y hy
      rcases List.mem_append.mp hy with q | q
      · exact g3 y q
      · simp at q
        subst q
        exact hx
    · exact (D2.mono (by omega)).fr (Fr.refl.set (X := [s.length]) (by simp)) (by simp; omega) (by simp; omega)
    · exact (f1.trans f2).set (Or.inr (Nat.le_refl _))
  · rintro s1 ⟨ys, g1, g2, g3, D1, f1⟩
    rw [rng_len] at g2 D1
    exact k ys s1 g1 g2 g3 D1 f1
/-- the pool: names, words, how many givens -/
structure Pl (s : Sto) (d l p n w : Nat) (N W : List Str) (g : Nat) : Prop where
  top : s[p]? = some (.lst [.ref n, .ref w, .int (g : Nat)])
  sn : s[n]? = some (.lst (N.map Vl.str))
  sw : s[w]? = some (.lst (W.map Vl.str))
  nm : ∀ x ∈ N, Nm x
  wd : ∀ x ∈ W, Wd x
  n0 : 0 < N.length
  n1 : N.length ≤ 10
  w0 : 0 < W.length
  w1 : W.length ≤ 4
  g4 : g < 4
  ne : ∀ i ∈ [p, n, w], i ∉ [d, l]
theorem Pl.fr {X : List Nat} {s s' : Sto} {d l p n w : Nat} {N W : List Str} {g : Nat} (P : Pl s d l p n w N W g) (f : Fr X s s') (h : ∀ i ∈ [p, n, w], i ∉ X) : Pl s' d l p n w N W g :=
  ⟨f.at P.top (h p (by simp)), f.at P.sn (h n (by simp)), f.at P.sw (h w (by simp)), P.nm, P.wd, P.n0, P.n1, P.w0, P.w1, P.g4, P.ne⟩
theorem Pl.frD {s s' : Sto} {d l p n w : Nat} {N W : List Str} {g : Nat} (P : Pl s d l p n w N W g) (f : Fr [d, l] s s') : Pl s' d l p n w N W g := P.fr f P.ne
theorem Pl.fr0 {s s' : Sto} {d l p n w : Nat} {N W : List Str} {g : Nat} (P : Pl s d l p n w N W g) (f : Fr [] s s') : Pl s' d l p n w N W g := P.fr f (by simp)
theorem pool (D : Dk s d l c) (hc : c + 3000 < CM) (k : ∀ (p n w : Nat) (N W : List Str) (g : Nat) s', Pl s' d l p n w N W g → s.length ≤ p → s.length ≤ n → s.length ≤ w → Dk s' d l (c + 200) → Fr [d, l] s s' → Q (.ref p) s') : WE (m__law_pool [.ref d]) s Q E := by
  unfold m__law_pool b__law_pool
  have lt0 := D.lt
  simp
  refine draw D (by omega) (by omega) (by omega) fun q s1 hq D1 f1 => ?_
  have e1 : (1 : Int) + q = ((1 + q : Nat) : Int) := by omega
  simp
  rw [e1, rngW_nat (by omega)]
  refine some_ (mf := m__law_name) (P := Nm) (fun s c Q D hc k => name D hc k) D1 (by omega) (by omega) (by simp [wipeL]) (by simp [wipeL]) fun N s2 n1 n2 n3 D2 f2 => ?_
  simp
  refine draw D2 (by omega) (by omega) (by omega) fun q2 s3 hq2 D3 f3 => ?_
  have e2 : (1 : Int) + q2 = ((1 + q2 : Nat) : Int) := by omega
  simp
  rw [e2, rngW_nat (by omega)]
  refine some_ (mf := m__law_word) (P := Wd) (fun s c Q D hc k => word D hc k) D3 (by omega) (by omega) (by simp [wipeL]) (by simp [wipeL]) fun W s4 w1 w2 w3 D4 f4 => ?_
  simp
  refine draw D4 (by omega) (by omega) (by omega) fun g s5 hg D5 f5 => ?_
  simp
  have le1 := f1.le
  have le2 := f2.le
  have le3 := f3.le
  have le4 := f4.le
  have le5 := f5.le
  have n5 := f5.at (f4.at (f3.at n1 (by simp; omega)) (by simp; omega)) (by simp; omega)
  have w5 := f5.at w1 (by simp; omega)
  refine k s5.length s1.length s3.length N W g _ ⟨get_last, get_push n5, get_push w5, n3, w3, by omega, by omega, by omega, by omega, by omega, ?_⟩ (by omega) (by omega) (by omega) ((D5.new (Fr.refl.push _)).mono (by omega)) (((((f1.trans f2).trans f3).trans f4).trans f5).push _)
  intro i hi
  simp at hi ⊢
  omega
end
end K00

/-! PGA: numbers, words, names, tests, statements -/
namespace K00
open PySem L2 Sm
section
variable {s : Sto} {Q : Vl → Sto → Prop} {E : Ex → Sto → Prop}
theorem isNumber {v : Vl} {lo hi : Int} (h : VOk s v) (k : Q (.bl (numV lo hi v)) s) : WE (m_is_number [v, .int lo, .int hi]) s Q E := by
  unfold m_is_number b_is_number
  simp [oIsi_int h, oIsi_bool h]
  cases v with
  | int i =>
    simp [isInt, isBl]
    by_cases h1 : lo ≤ i
    · simpa [h1, numV] using k
    · simpa [h1, numV] using k
  | _ => simpa [isInt, isBl, numV] using k
theorem small_eq : ("abcdefghijklmnopqrstuvwxyz" : Str) = smallT := rfl
theorem dig_eq : ("0123456789" : Str) = digT := rfl
theorem isWord {v : Vl} (h : VOk s v) (k : ∀ s', Fr [] s s' → Q (.bl (wdV v)) s') : WE (m_is_word [v]) s Q E := by
  unfold m_is_word b_is_word
  simp [oIsi_str h]
  cases v with
  | str x =>
    have hx : x.length ≤ LIM := limB (by unfold VOk at h; exact h)
    simp [isStr, oLen_str hx]
    by_cases h1 : 1 ≤ x.length
    · by_cases h2 : x.length ≤ 8
      · have h1' : (1 : Int) ≤ (x.length : Nat) := by omega
        have h2' : ((x.length : Nat) : Int) ≤ 8 := by omega
        have h3' : ¬ (8 : Int) < (x.length : Nat) := by omega
        simp [h1', h2', h3']
        refine lcX_map (xs := Sm.signs x) s (fun v => .bl (match v with | .str ⟨cs⟩ => cs.toList.all sgB | _ => false)) rfl rfl (by unfold Sm.signs; rw [List.length_map, ← str_len]; omega) ?_ ?_
        · intro y hy
          unfold Sm.signs at hy
          obtain ⟨c, _, rfl⟩ := List.mem_map.mp hy
          refine ⟨[some (.str x), some (.str ⟨#[c]⟩)], rfl, fun s' f => ?_⟩
          simp only [WE_eOrM, WE_eOp, WE_eC, WE_eVar', small_eq, dig_eq, List.getElem?_cons_succ, List.getElem?_cons_zero, opIn_sg, WO_some]
          by_cases q : c ∈ smallT.cps.toList
          · rw [decide_eq_true q]
            refine ⟨?_, Fr.refl⟩
            show Vl.bl true = Vl.bl ([c].all sgB)
            simp [sgB, q]
          · rw [decide_eq_false q]
            refine ⟨?_, Fr.refl⟩
            show Vl.bl (decide (c ∈ digT.cps.toList)) = Vl.bl ([c].all sgB)
            have q' := q
            simp at q'
            simp [sgB, q']
        · intro s' e f
          have e' : s'[s.length]? = some (.lst ((x.cps.toList.map sgB).map Vl.bl)) := by
            rw [e]
            unfold Sm.signs
            simp
          simp [oAll_bls e']
          have := k s' f
          simpa [wdV, wdB, h1, h2, List.all_map] using this
      · have h1' : (1 : Int) ≤ (x.length : Nat) := by omega
        have h2' : ¬ ((x.length : Nat) : Int) ≤ 8 := by omega
        have h3' : (8 : Int) < (x.length : Nat) := by omega
        simp [h1', h2', h3']
        simpa [wdV, wdB, h2] using k s Fr.refl
    · have h1' : ¬ (1 : Int) ≤ (x.length : Nat) := by omega
      simp [h1']
      simpa [wdV, wdB, h1] using k s Fr.refl
  | _ => simpa [isStr, wdV] using k s Fr.refl
theorem isName {v : Vl} (h : VOk s v) (k : ∀ s', Fr [] s s' → Q (.bl (nmV v)) s') : WE (m_is_name [v]) s Q E := by
  unfold m_is_name b_is_name
  simp
  refine isWord h fun s1 f1 => ?_
  cases v with
  | str x =>
    have hx : x.length ≤ LIM := limB (by unfold VOk at h; exact h)
    simp only [wdV]
    by_cases hw : wdB x = true
    · have hw' := hw
      unfold wdB at hw'
      simp only [Bool.and_eq_true, decide_eq_true_eq] at hw'
      have h8 : ((x.length : Nat) : Int) ≤ 8 := by have := hw'.1.2; omega
      obtain ⟨c, cs, hc⟩ : ∃ c cs, x.cps.toList = c :: cs := by
        cases e : x.cps.toList with
        | nil => have := hw'.1.1; rw [str_len, e] at this; simp at this
        | cons c cs => exact ⟨c, cs, rfl⟩
      have a0 : atI (c :: cs) (0 : Int) = some c := atN (n := 0)
      rw [hw]
      simp [oLen_str hx, h8, opIx_str hx, hc, a0]
      have k1 := k s1 f1
      by_cases q : c ∈ smallT.cps.toList
      · have q' := q
        unfold smallT at q'
        have e2 : inF (.str x) (List.map Vl.str tl_NO_NAMES) = decide (x ∈ noNm) := inF_strs
        have e3 : (List.map Vl.str tl_NO_NAMES).all flat = true := flat_strs
        simp only [small_eq, opIn_sg, decide_eq_true q, WO_some, opNotIn_tup flat_str e3]
        simp [opNotIn_tup flat_str e3]
        rw [e2]
        simpa [nmV, nmB, hw, fstB, hc, q] using k1
      · simp only [small_eq, opIn_sg, decide_eq_false q, WO_some]
        simpa [nmV, nmB, hw, fstB, hc, q] using k1
    · have hw' : wdB x = false := by simpa using hw
      rw [hw']
      simpa [nmV, nmB, hw'] using k s1 f1
  | _ => simpa [wdV, nmV] using k s1 f1
end
end K00

/-! PGB: tests, statements -/
namespace K00
open PySem L2 Sm
theorem one_n {c : Nat} : ((⟨#[c]⟩ : Str) = ("n" : Str)) = (c = 110) := by
  refine propext ⟨fun h => ?_, fun h => by subst h; rfl⟩
  have : [c] = [110] := congrArg (fun x : Str => x.cps.toList) h
  simpa using this
theorem one_w {c : Nat} : ((⟨#[c]⟩ : Str) = ("w" : Str)) = (c = 119) := by
  refine propext ⟨fun h => ?_, fun h => by subst h; rfl⟩
  have : [c] = [119] := congrArg (fun x : Str => x.cps.toList) h
  simpa using this
theorem one_g {c : Nat} : ((⟨#[c]⟩ : Str) = ("g" : Str)) = (c = 103) := by
  refine propext ⟨fun h => ?_, fun h => by subst h; rfl⟩
  have : [c] = [103] := congrArg (fun x : Str => x.cps.toList) h
  simpa using this
theorem one_k {c : Nat} : ((⟨#[c]⟩ : Str) = ("k" : Str)) = (c = 107) := by
  refine propext ⟨fun h => ?_, fun h => by subst h; rfl⟩
  have : [c] = [107] := congrArg (fun x : Str => x.cps.toList) h
  simpa using this
theorem one_t {c : Nat} : ((⟨#[c]⟩ : Str) = ("t" : Str)) = (c = 116) := by
  refine propext ⟨fun h => ?_, fun h => by subst h; rfl⟩
  have : [c] = [116] := congrArg (fun x : Str => x.cps.toList) h
  simpa using this
abbrev RF : Nat → Nat → List Vl → M Vl := R0
/-- items are judged by tf at "t" -/
def PartS (n : Nat) (ok : Nat → Prop) (tf : Vl → Bool) (g : Int) : Prop := ∀ (s : Sto) (c : Nat) (v : Vl) (Q : Vl → Sto → Prop), ok c → VOk s v → (∀ s', Fr [] s s' → Q (.bl (partB tf g c v)) s') → WE (RF n 1 [.str ⟨#[c]⟩, v, .int g]) s Q NoX
def FormS (n : Nat) (b : Bool) (f : Vl → Bool) (g : Int) : Prop := ∀ (s : Sto) (v : Vl) (Q : Vl → Sto → Prop), VOk s v → (∀ s', Fr [] s s' → Q (.bl (f v)) s') → WE (RF n 0 [v, .int g, .bl b]) s Q NoX
def TestS (n : Nat) (g : Int) : Prop := ∀ (s : Sto) (v : Vl) (Q : Vl → Sto → Prop), VOk s v → (∀ s', Fr [] s s' → Q (.bl (tstV g v)) s') → WE (RF n 2 [v, .int g]) s Q NoX
theorem partS {n : Nat} {ok : Nat → Prop} {tf : Vl → Bool} {g : Int} (ht : ok 116 → ∀ (s : Sto) (v : Vl) (Q : Vl → Sto → Prop), VOk s v → (∀ s', Fr [] s s' → Q (.bl (tf v)) s') → WE (RF n 2 [v, .int g]) s Q NoX) : PartS (n + 1) ok tf g := fun s c v Q hc hv k => by
  show WE (fnM 3 (b_is_part (RF n)) _) _ _ _
  unfold b_is_part
  simp [oIsi_tuple hv]
  simp only [one_n, one_w, one_g, one_k, one_t]
  by_cases h1 : c = 110
  · rw [if_pos h1]
    exact isName hv fun s' f => by simpa [partB, h1] using k s' f
  rw [if_neg h1]
  by_cases h2 : c = 119
  · rw [if_pos h2]
    exact isWord hv fun s' f => by simpa [partB, h2] using k s' f
  rw [if_neg h2]
  by_cases h3 : c = 103
  · rw [if_pos h3]
    exact isNumber hv (by simpa [partB, h3] using k s Fr.refl)
  rw [if_neg h3]
  by_cases h4 : c = 107
  · rw [if_pos h4]
    exact isNumber hv (by simpa [partB, h4] using k s Fr.refl)
  rw [if_neg h4]
  by_cases h5 : c = 116
  · rw [if_pos h5]
    subst h5
    exact ht hc s v _ hv fun s' f => by simpa [partB] using k s' f
  rw [if_neg h5]
  simpa [partB, h1, h2, h3, h4, h5] using k s Fr.refl
theorem eqS_vok {s : Sto} {v : Vl} {y : Str} (h : VOk s v) (hy : PyData.strOk y = true := by decide +kernel) : opEqS v (.str y) s = some (.bl (eqStr v y), s) := by
  cases v <;> unfold VOk at h <;> first | rfl | exact h.elim | skip
  · rename_i b
    have e1 : toD 40 s (.bl b) = some (.bool b) := rfl
    have e2 : toD 40 s (.str y) = some (.str y) := rfl
    have e3 : (PyData.bool b).canLay0 = true := rfl
    have e4 : (PyData.str y).canLay0 = true := hy
    have e5 : PyData.eqv (.bool b) (.str y) = false := rfl
    simp [opEqS, opEq, eqM, eqS, e1, e2, e3, e4, e5, eqStr]
  · rename_i i
    unfold LsD at h
    unfold opEqS
    simp only
    split at h
    · rename_i e; first | rfl | (rw [e]; rfl)
    · rename_i e; first | rfl | (rw [e]; rfl)
    · exact h.elim
/-- a form, by its table -/
theorem formS {n : Nat} {b : Bool} {tab : List (Str × Vl)} {tf : Vl → Bool} {g : Int} {ok : Nat → Prop} (hp : PartS n ok tf g) (htab : (if b = true then ktl_TEST_FORMS else ktl_FORMS) = tab)
    (hok : ∀ h f, getS tab h = some f → ∃ x : Str, f = .str x ∧ x.length ≤ 10 ∧ ∀ c ∈ x.cps.toList, ok c) : FormS (n + 1) b (formB tab tf g) g := fun s v Q hv k => by
  show WE (fnM 6 (b_has_form (RF n)) _) _ _ _
  unfold b_has_form
  simp [oIsi_tuple hv]
  cases v with
  | tup xs =>
    simp [isTup, opEq0_tup]
    cases xs with
    | nil => simpa [formB] using k s Fr.refl
    | cons h xs =>
      have hxs : VOks s (h :: xs) := by unfold VOk at hv; exact hv
      have hh : VOk s h := hxs.mem h (by simp)
      have a0 : atI (h :: xs) (0 : Int) = some h := atN (n := 0)
      simp [a0, oIsi_str hh]
      cases h with
      | str h =>
        have fin : ∀ (x : Str) (lo : Lo), lo = [some (.tup (.str h :: xs)), some (.int g), some (.bl b), some (.str x), none, none] → getS tab h = some (.str x) → xs.length = x.length →
            WL (lcX (glT [4, 5]) tTrue (eCall (arg 3 (RF n 1)) (aCons (eVar 4) (aCons (eVar 5) (aCons (eVar 1) aNil)))) s.length (wipeL lo [4, 5]) (zipL x (cutL (Vl.str h :: xs) (some 1) none)) (s ++ [Ob.lst []])) (fun s' => WE (aNil lo) s' (fun xs s_1 => WO (oAll (Vl.ref s.length :: xs) s_1) Q) NoX) := by
          intro x lo hlo hg hlen
          obtain ⟨x', e, hl, hc⟩ := hok h _ hg
          cases e
          have ec : cutL (Vl.str h :: xs) (some (1 : Int)) none = xs := cutL_from (n := 1) (xs := Vl.str h :: xs)
          rw [ec]
          refine lcX_map (xs := zipL x xs) s (fun v => .bl (match v with | .tup [.str ⟨cs⟩, y] => (match cs.toList with | [c] => partB tf g c y | _ => false) | _ => false)) rfl rfl (by unfold zipL; rw [List.length_map, List.length_zip]; omega) ?_ ?_
          · intro y hy
            unfold zipL at hy
            obtain ⟨⟨c, w⟩, hm, rfl⟩ := List.mem_map.mp hy
            have m1 := (List.of_mem_zip hm).1
            have m2 := (List.of_mem_zip hm).2
            subst hlo
            refine ⟨[some (.tup (.str h :: xs)), some (.int g), some (.bl b), some (.str x), some (.str ⟨#[c]⟩), some w], rfl, fun s' f => ?_⟩
            simp
            refine hp s' c w _ (hc c m1) ((hxs.mem w (by simp [m2])).fr f) fun s'' f' => ⟨by simp, f'⟩
          · intro s' e f
            have e' : s'[s.length]? = some (.lst (((x.cps.toList.zip xs).map fun p => partB tf g p.1 p.2).map Vl.bl)) := by
              rw [e]
              unfold zipL
              simp
            simp [oAll_bls e']
            have := k s' f
            simpa [formB, hg, hlen, List.all_map] using this
        cases b with
        | true =>
          have htab : ktl_TEST_FORMS = tab := htab
          subst htab
          cases hg : getS ktl_TEST_FORMS h with
          | none =>
            simp [isStr, hg]
            simpa [formB, hg] using k s Fr.refl
          | some f' =>
            obtain ⟨x, rfl, hl, hc⟩ := hok h f' hg
            simp [isStr, hg, oLen_str (limB (show x.length ≤ 1000000 by omega))]
            by_cases hlen : xs.length = x.length
            · rw [if_pos (by omega), zipW_two]
              exact fin x _ rfl hg hlen
            · rw [if_neg (by omega)]
              simpa [formB, hg, hlen] using k s Fr.refl
        | false =>
          have htab : ktl_FORMS = tab := htab
          subst htab
          cases hg : getS ktl_FORMS h with
          | none =>
            simp [isStr, hg]
            simpa [formB, hg] using k s Fr.refl
          | some f' =>
            obtain ⟨x, rfl, hl, hc⟩ := hok h f' hg
            simp [isStr, hg, oLen_str (limB (show x.length ≤ 1000000 by omega))]
            by_cases hlen : xs.length = x.length
            · rw [if_pos (by omega), zipW_two]
              exact fin x _ rfl hg hlen
            · rw [if_neg (by omega)]
              simpa [formB, hg, hlen] using k s Fr.refl
      | _ => simpa [isStr, formB] using k s Fr.refl
  | _ => simpa [isTup, formB] using k s Fr.refl
end K00

/-! PGC: tests, statements, the first error -/
namespace K00
open PySem L2 Sm
def stepN : Vl → Vl
  | .tup [.str h, b] => if h = "not" then b else .tup [.str h, b]
  | v => v
theorem unNot_not {n : Nat} {b : Vl} : unNot (n + 1) (.tup [.str "not", b]) = unNot n b := by
  show (if ("not" : Str) = "not" then unNot n b else _) = _
  rw [if_pos rfl]
theorem unNot_no {v : Vl} (h : ¬ ∃ b, v = .tup [.str "not", b]) : ∀ m, unNot m v = v
  | 0 => by cases v <;> rfl
  | m + 1 => by
    unfold unNot
    split
    · rfl
    · split
      · rename_i e1
        exact absurd ⟨_, by rw [e1]⟩ h
      · rfl
    · rfl
theorem stepN_no {v : Vl} (h : ¬ ∃ b, v = .tup [.str "not", b]) : stepN v = v := by
  unfold stepN
  split
  · rename_i hh b
    split
    · rename_i e1
      exact absurd ⟨b, by rw [e1]⟩ h
    · rfl
  · rfl
theorem stepN_not {b : Vl} : stepN (.tup [.str "not", b]) = b := by
  unfold stepN
  simp
theorem unNot_step : ∀ (n : Nat) (v : Vl), unNot (n + 1) v = stepN (unNot n v)
  | n, v => by
    by_cases h : ∃ b, v = .tup [.str "not", b]
    · obtain ⟨b, rfl⟩ := h
      rw [unNot_not]
      cases n with
      | zero => rw [show unNot 0 (.tup [.str "not", b]) = .tup [.str "not", b] from rfl, stepN_not]; cases b <;> rfl
      | succ n => rw [unNot_step n b, unNot_not]
    · rw [unNot_no h, unNot_no h, stepN_no h]
theorem unNot_ok {s : Sto} : ∀ (n : Nat) (v : Vl), VOk s v → VOk s (unNot n v)
  | n, v, hv => by
    by_cases h : ∃ b, v = .tup [.str "not", b]
    · obtain ⟨b, rfl⟩ := h
      cases n with
      | zero => exact hv
      | succ n =>
        rw [unNot_not]
        unfold VOk at hv
        exact unNot_ok n b (hv.mem b (by simp))
    · rw [unNot_no h]; exact hv
theorem tst_tab : ∀ h f, getS ktl_TEST_FORMS h = some f → ∃ x : Str, f = .str x ∧ x.length ≤ 10 ∧ ∀ c ∈ x.cps.toList, c ≠ 116 := by
  intro h f e
  have m := getS_mem e
  simp only [ktl_TEST_FORMS, List.mem_cons, List.not_mem_nil, or_false, Prod.mk.injEq] at m
  rcases m with ⟨_, rfl⟩ | ⟨_, rfl⟩ | ⟨_, rfl⟩ | ⟨_, rfl⟩ | ⟨_, rfl⟩ <;> exact ⟨_, rfl, by decide, by decide⟩
theorem stm_tab : ∀ h f, getS ktl_FORMS h = some f → ∃ x : Str, f = .str x ∧ x.length ≤ 10 ∧ ∀ c ∈ x.cps.toList, True := by
  intro h f e
  have m := getS_mem e
  simp only [ktl_FORMS, List.mem_cons, List.not_mem_nil, or_false, Prod.mk.injEq] at m
  rcases m with ⟨_, rfl⟩ | ⟨_, rfl⟩ | ⟨_, rfl⟩ | ⟨_, rfl⟩ | ⟨_, rfl⟩ | ⟨_, rfl⟩ | ⟨_, rfl⟩ | ⟨_, rfl⟩ | ⟨_, rfl⟩ | ⟨_, rfl⟩ | ⟨_, rfl⟩ | ⟨_, rfl⟩ | ⟨_, rfl⟩ <;> exact ⟨_, rfl, by decide, by simp⟩
theorem tstInS {n : Nat} {g : Int} : FormS (n + 2) true (tstIn g) g := formS (ok := fun c => c ≠ 116) (tf := fun _ => false) (partS fun h => absurd rfl h) rfl tst_tab
def TI (s : Sto) (v : Vl) (g : Int) (i : Nat) (lo : Lo) (s' : Sto) : Prop := ∃ x2, lo = [some (unNot i v), some (.int g), x2] ∧ s' = s
theorem testS {n : Nat} {g : Int} : TestS (n + 3) g := fun s v Q hv k => by
  show WE (fnM 3 (b_is_test (RF (n + 2))) _) _ _ _
  unfold b_is_test
  simp
  rw [show rngW [Vl.int 3] s _ = _ from rngW_nat (n := 3) (by omega)]
  refine loopX_inv (TI s v g) ?_ ?_ ?_
  · exact ⟨none, rfl, rfl⟩
  · rintro i w lo s1 hw ⟨x2, rfl, rfl⟩
    obtain ⟨hi, rfl⟩ := rng_get hw
    have hu := unNot_ok i v hv
    simp [oIsi_tuple hu]
    have fin : ∀ u, u = unNot (i + 1) v → TI s1 v g (i + 1) [some u, some (.int g), some (.int i)] s1 := fun u hu => ⟨some (.int i), by rw [hu], rfl⟩
    rw [unNot_step] at fin
    generalize unNot i v = u at hu fin ⊢
    cases u with
    | tup xs =>
      simp [isTup]
      unfold VOk at hu
      match xs, hu with
      | [a, b], hu =>
        have ha := hu.mem a (by simp)
        have a0 : atI [a, b] (0 : Int) = some a := atN (n := 0)
        have a1 : atI [a, b] (1 : Int) = some b := atN (n := 1)
        simp [a0, a1]
        cases a with
        | str h =>
          rw [eqS_vok ha]
          simp [eqStr]
          by_cases e : h = "not"
          · simp [e]
            exact fin _ (by simp [stepN, e])
          · simp [e]
            exact fin _ (by simp [stepN, e])
        | _ =>
          rw [eqS_vok ha]
          simp [eqStr]
          exact fin _ (by simp [stepN])
      | [], hu => simp; exact fin _ (by simp [stepN])
      | [a], hu => simp; exact fin _ (by simp [stepN])
      | a :: b :: c :: r, hu =>
        have : ¬ ((r.length : Int) + 1 + 1 + 1 = 2) := by omega
        simp [this]
        exact fin _ (by simp [stepN])
    | _ => simp [isTup]; exact fin _ (by simp [stepN])
  · rintro lo s1 ⟨x2, rfl, rfl⟩
    simp
    exact tstInS s1 _ _ (unNot_ok _ _ hv) k
theorem stmS {n : Nat} {g : Int} : FormS (n + 5) false (stmV g) g := formS (ok := fun _ => True) (partS fun _ => testS) rfl stm_tab
theorem hasForm {s : Sto} {v : Vl} {g : Int} {Q : Vl → Sto → Prop} (hv : VOk s v) (k : ∀ s', Fr [] s s' → Q (.bl (stmV g v)) s') : WE (m_has_form [v, .int g, .bl false]) s Q NoX := stmS (n := 7) s v Q hv k
theorem insV_cons {h : Str} {xs : List Vl} : insV (.tup (.str h :: xs)) = if h = "if" then xs.drop 1 else if h = "repeat" then xs.drop 1 else [] := rfl
/-- the items of a statement's blocks are blocks -/
theorem insV_tup {g : Int} {x : Vl} (h : stmV g x = true) : (∃ h' xs, x = .tup (.str h' :: xs) ∧ (insV x = xs.drop 1 ∨ insV x = [])) ∧ ∀ b ∈ insV x, ∃ ys, b = .tup ys := by
  unfold stmV at h
  match x, h with
  | .tup (.str hh :: xs), h =>
    refine ⟨⟨hh, xs, rfl, ?_⟩, ?_⟩
    · rw [insV_cons]
      split
      · exact .inl rfl
      · split
        · exact .inl rfl
        · exact .inr rfl
    · unfold formB at h
      rw [insV_cons]
      split
      · rename_i e
        subst e
        have e1 : getS sTab "if" = some (.str "tbb") := by simp [sTab, getS]
        simp only [e1] at h
        simp only [Bool.and_eq_true, decide_eq_true_eq] at h
        obtain ⟨h1, h2⟩ := h
        match xs, h1, h2 with
        | [a, b, c], h1, h2 =>
          have h2 : ((([116, 98, 98] : List Nat).zip [a, b, c]).all fun p => partB (tstV g) g p.1 p.2) = true := h2
          simp [partB] at h2
          intro z hz
          simp at hz
          have : isTup z = true := by rcases hz with rfl | rfl <;> simp [h2]
          cases z <;> first | exact ⟨_, rfl⟩ | cases this
      · split
        · rename_i e
          subst e
          have e1 : getS sTab "repeat" = some (.str "kb") := by simp [sTab, getS]
          simp only [e1] at h
          simp only [Bool.and_eq_true, decide_eq_true_eq] at h
          obtain ⟨h1, h2⟩ := h
          match xs, h1, h2 with
          | [a, b], h1, h2 =>
            have h2 : ((([107, 98] : List Nat).zip [a, b]).all fun p => partB (tstV g) g p.1 p.2) = true := h2
            simp [partB] at h2
            intro z hz
            simp at hz
            have : isTup z = true := by rw [hz]; simp [h2]
            cases z <;> first | exact ⟨_, rfl⟩ | cases this
        · intro b hb
          cases hb
theorem innerV {s : Sto} {g : Int} {x : Vl} {Q : Vl → Sto → Prop} {E : Ex → Sto → Prop} (h : stmV g x = true) (k : Q (.tup (insV x)) s) : WE (m_inner_blocks [x]) s Q E := by
  obtain ⟨⟨hh, xs, rfl, _⟩, _⟩ := insV_tup h
  unfold m_inner_blocks b_inner_blocks
  have a0 : atI (Vl.str hh :: xs) (0 : Int) = some (.str hh) := atN (n := 0)
  have c2 : cutL (Vl.str hh :: xs) (some 2) none = xs.drop 1 := cutL_from (n := 2)
  rw [List.drop_one] at c2
  simp [a0, c2]
  rw [insV_cons, List.drop_one] at k
  by_cases e1 : hh = "if"
  · rw [if_pos e1] at k ⊢; exact k
  · rw [if_neg e1] at k ⊢
    by_cases e2 : hh = "repeat"
    · rw [if_pos e2] at k ⊢; exact k
    · rw [if_neg e2] at k ⊢; exact k
end K00

/-! S187: statements of values, head by head; values that are statements come from statements; comprehensions that choose -/
namespace Sm
open PySem L2
/-- the elements that a test chooses; the store may grow -/
theorem lcX_sel {g : GL} {t : TM} {e : EM} {lo : Lo} {d : Nat} {xs : List Vl} {s0 : Sto} {Q : Sto → Prop} (s : Sto) (p : Vl → Bool) (h1 : d = s.length) (h2 : s0 = s ++ [.lst []]) (hl : xs.length < 1000000)
    (hx : ∀ x ∈ xs, ∃ lo', g x lo = some lo' ∧ ∀ s', Fr [] s s' → WE (t lo') s' (fun b s'' => b = p x ∧ Fr [] s' s'' ∧ WE (e lo') s'' (fun v s3 => v = x ∧ s3 = s'') NoX) NoX) (hd : ∀ s', s'[s.length]? = some (.lst (xs.filter p)) → Fr [] s s' → Q s') :
    WL (lcX g t e d lo xs s0) Q := by
  subst h1 h2
  refine lcX_inv (fun i s' => s'[s.length]? = some (.lst ((xs.take i).filter p)) ∧ Fr [] s s') ⟨by simp, Fr.refl.push _⟩ ?_ ?_
  · rintro i v s1 hv ⟨e1, f1⟩
    obtain ⟨lo', q1, q2⟩ := hx v (List.mem_of_getElem? hv)
    refine ⟨lo', q1, ?_⟩
    unfold LcT
    refine WE.mono (q2 s1 f1) ?_ fun _ _ z => z
    rintro b s2 ⟨rfl, f2, q3⟩
    have e2 := f2.at e1 (by simp)
    have et : xs.take (i + 1) = xs.take i ++ [v] := by rw [List.take_add_one, hv]; rfl
    cases hp : p v with
    | true =>
      rw [if_pos rfl]
      refine WE.mono q3 ?_ fun _ _ z => z
      rintro y s3 ⟨rfl, rfl⟩
      simp only [e2]
      have hi := (List.getElem?_eq_some_iff.mp hv).1
      refine ⟨limC (Nat.lt_of_le_of_lt (List.length_filter_le ..) (by rw [List.length_take]; omega)), ?_, (f1.trans f2).set (Or.inr (Nat.le_refl _))⟩
      rw [get_set_self e2, et, List.filter_append]
      simp [hp]
    | false =>
      rw [if_neg (by simp)]
      refine ⟨?_, f1.trans f2⟩
      rw [e2, et, List.filter_append]
      simp [hp]
  · rintro s1 ⟨e1, f1⟩
    rw [List.take_length] at e1
    exact hd s1 e1 f1
theorem filter_none {α : Type} {p : α → Bool} {xs : List α} : (xs.filter fun x => !p x).isEmpty = xs.all p := by
  induction xs with
  | nil => rfl
  | cons x xs ih =>
    cases h : p x with
    | true => simpa [List.filter_cons, h] using ih
    | false => simp [List.filter_cons, h]
/-! ### forms, head by head -/
section
variable {tab : List (Str × Vl)} {tf : Vl → Bool} {g : Int} {h : Str} {xs : List Vl}
theorem formB_none (e : getS tab h = none) : formB tab tf g (.tup (.str h :: xs)) = false := by simp only [formB, e]
theorem zip_nm : ∀ {n : Nat} {xs : List Vl}, xs.length = n → ((List.replicate n 110).zip xs).all (fun p => partB tf g p.1 p.2) = xs.all nmV
  | 0, [], _ => rfl
  | n + 1, x :: xs, e => by
    have := zip_nm (n := n) (xs := xs) (by simpa using e)
    rw [List.replicate_succ, List.zip_cons_cons, List.all_cons, List.all_cons, this]
    rfl
theorem formB_nm {f : Str} (n : Nat) (e : getS tab h = some (.str f)) (hf : f.cps.toList = List.replicate n 110) : formB tab tf g (.tup (.str h :: xs)) = (decide (xs.length = n) && xs.all nmV) := by
  have hl : f.length = n := by rw [str_len, hf, List.length_replicate]
  simp only [formB, e, hl, hf]
  by_cases q : xs.length = n
  · simp only [q, decide_true, Bool.true_and]
    exact zip_nm q
  · simp only [q, decide_false, Bool.false_and]
theorem formB_1 {f : Str} (c : Nat) (e : getS tab h = some (.str f)) (hf : f.cps.toList = [c]) : formB tab tf g (.tup (.str h :: xs)) = match xs with | [a] => partB tf g c a | _ => false := by
  have hl : f.length = 1 := by rw [str_len, hf]; rfl
  simp only [formB, e, hl, hf]
  match xs with
  | [] => rfl
  | [a] => simp
  | a :: b :: r => simp
theorem formB_2 {f : Str} (c d : Nat) (e : getS tab h = some (.str f)) (hf : f.cps.toList = [c, d]) : formB tab tf g (.tup (.str h :: xs)) = match xs with | [a, b] => partB tf g c a && partB tf g d b | _ => false := by
  have hl : f.length = 2 := by rw [str_len, hf]; rfl
  simp only [formB, e, hl, hf]
  match xs with
  | [] => rfl
  | [a] => rfl
  | [a, b] => simp
  | a :: b :: c :: r => simp
theorem formB_3 {f : Str} (c d k : Nat) (e : getS tab h = some (.str f)) (hf : f.cps.toList = [c, d, k]) : formB tab tf g (.tup (.str h :: xs)) = match xs with | [a, b, z] => partB tf g c a && (partB tf g d b && partB tf g k z) | _ => false := by
  have hl : f.length = 3 := by rw [str_len, hf]; rfl
  simp only [formB, e, hl, hf]
  match xs with
  | [] => rfl
  | [a] => rfl
  | [a, b] => rfl
  | [a, b, z] => simp
  | a :: b :: c :: d :: r => simp
theorem getS_strs {zs : List (Str × Str)} : getS (zs.map fun p => (p.1, Vl.str p.2)) h = ((zs.find? fun p => decide (p.1 = h)).map fun p => Vl.str p.2) := by
  induction zs with
  | nil => rfl
  | cons z zs ih =>
    rw [List.map_cons]
    show (if z.1 = h then some (Vl.str z.2) else getS (zs.map fun p => (p.1, Vl.str p.2)) h) = _
    by_cases q : z.1 = h
    · rw [if_pos q, List.find?_cons_of_pos (by simpa using q)]; rfl
    · rw [if_neg q, List.find?_cons_of_neg (by simpa using q), ih]
end
section
variable {g : Int} {h : Str} {xs : List Vl}
theorem tst_given : tstIn g (.tup (.str "given" :: xs)) = match xs with | [a] => numV 0 (g - 1) a | _ => false := (formB_1 103 (by simp [tTab, getS]; rfl) rfl).trans (by match xs with | [] => rfl | [a] => rfl | a :: b :: r => rfl)
theorem tst_wished : tstIn g (.tup (.str "wished" :: xs)) = match xs with | [a] => wdV a | _ => false := (formB_1 119 (by simp [tTab, getS]; rfl) rfl).trans (by match xs with | [] => rfl | [a] => rfl | a :: b :: r => rfl)
theorem tst_set : tstIn g (.tup (.str "set" :: xs)) = (decide (xs.length = 1) && xs.all nmV) := formB_nm 1 (by simp [tTab, getS]; rfl) rfl
theorem tst_same : tstIn g (.tup (.str "same" :: xs)) = (decide (xs.length = 2) && xs.all nmV) := formB_nm 2 (by simp [tTab, getS]; rfl) rfl
theorem tst_full : tstIn g (.tup (.str "full" :: xs)) = (decide (xs.length = 2) && xs.all nmV) := formB_nm 2 (by simp [tTab, getS]; rfl) rfl
theorem tst_no (h1 : h ≠ "given") (h2 : h ≠ "wished") (h3 : h ≠ "set") (h4 : h ≠ "same") (h5 : h ≠ "full") : tstIn g (.tup (.str h :: xs)) = false :=
  formB_none (by simp [tTab, getS, h1.symm, h2.symm, h3.symm, h4.symm, h5.symm])
theorem stm_ask : stmV g (.tup (.str "ask" :: xs)) = match xs with | [a] => tstV g a | _ => false := (formB_1 116 (by simp [sTab, getS]; rfl) rfl).trans (by match xs with | [] => rfl | [a] => rfl | a :: b :: r => rfl)
theorem stm_say : stmV g (.tup (.str "say" :: xs)) = match xs with | [a] => wdV a | _ => false := (formB_1 119 (by simp [sTab, getS]; rfl) rfl).trans (by match xs with | [] => rfl | [a] => rfl | a :: b :: r => rfl)
theorem stm_wish : stmV g (.tup (.str "wish" :: xs)) = match xs with | [a, b] => nmV a && wdV b | _ => false := (formB_2 110 119 (by simp [sTab, getS]; rfl) rfl).trans (by match xs with | [] => rfl | [a] => rfl | [a, b] => rfl | a :: b :: c :: r => rfl)
theorem stm_repeat : stmV g (.tup (.str "repeat" :: xs)) = match xs with | [a, b] => numV 0 12 a && isTup b | _ => false := (formB_2 107 98 (by simp [sTab, getS]; rfl) rfl).trans (by match xs with | [] => rfl | [a] => rfl | [a, b] => rfl | a :: b :: c :: r => rfl)
theorem stm_if : stmV g (.tup (.str "if" :: xs)) = match xs with | [a, b, c] => tstV g a && (isTup b && isTup c) | _ => false := (formB_3 116 98 98 (by simp [sTab, getS]; rfl) rfl).trans (by match xs with | [] => rfl | [a] => rfl | [a, b] => rfl | [a, b, c] => rfl | a :: b :: c :: d :: r => rfl)
theorem stm_nm1 (hh : h = "make" ∨ h = "keep" ∨ h = "drop") : stmV g (.tup (.str h :: xs)) = (decide (xs.length = 1) && xs.all nmV) := by
  rcases hh with rfl | rfl | rfl <;> exact formB_nm 1 (by simp [sTab, getS]; rfl) rfl
theorem stm_nm2 (hh : h = "name" ∨ h = "cut") : stmV g (.tup (.str h :: xs)) = (decide (xs.length = 2) && xs.all nmV) := by
  rcases hh with rfl | rfl <;> exact formB_nm 2 (by simp [sTab, getS]; rfl) rfl
theorem stm_nm3 (hh : h = "hold" ∨ h = "weak" ∨ h = "take") : stmV g (.tup (.str h :: xs)) = (decide (xs.length = 3) && xs.all nmV) := by
  rcases hh with rfl | rfl | rfl <;> exact formB_nm 3 (by simp [sTab, getS]; rfl) rfl
theorem stm_no (h1 : h ≠ "ask") (h2 : h ≠ "say") (h3 : h ≠ "wish") (h4 : h ≠ "repeat") (h5 : h ≠ "if") (h6 : h ≠ "make") (h7 : h ≠ "keep") (h8 : h ≠ "drop") (h9 : h ≠ "name") (h10 : h ≠ "cut") (h11 : h ≠ "hold") (h12 : h ≠ "weak") (h13 : h ≠ "take") : stmV g (.tup (.str h :: xs)) = false :=
  formB_none (by simp [sTab, getS, h1.symm, h2.symm, h3.symm, h4.symm, h5.symm, h6.symm, h7.symm, h8.symm, h9.symm, h10.symm, h11.symm, h12.symm, h13.symm])
theorem form_str {tab : List (Str × Vl)} {tf : Vl → Bool} {v : Vl} (h : formB tab tf g v = true) : ∃ h' xs, v = .tup (.str h' :: xs) := by
  unfold formB at h
  split at h
  · exact ⟨_, _, rfl⟩
  · cases h
end
/-! ### what is a statement by its values is one -/
theorem wdB_nice {x : Str} (h : wdB x = true) : Nice x := by
  unfold wdB at h
  simp only [Bool.and_eq_true, decide_eq_true_eq] at h
  refine ⟨by omega, fun c hc => ?_⟩
  have := List.all_eq_true.mp h.2 c hc
  unfold sgB at this
  have k1 : ∀ c ∈ smallT.cps.toList, c < 128 := by decide +kernel
  have k2 : ∀ c ∈ digT.cps.toList, c < 128 := by decide +kernel
  rcases Bool.or_eq_true _ _ ▸ this with q | q
  · exact k1 c (of_decide_eq_true q)
  · exact k2 c (of_decide_eq_true q)
theorem nmB_nice {x : Str} (h : nmB x = true) : Nice x := by
  unfold nmB at h
  simp only [Bool.and_eq_true] at h
  exact wdB_nice h.1.1
theorem wdV_of {v : Vl} (h : wdV v = true) : ∃ x, v = .str x ∧ WdB x ∧ Nice x := by
  cases v <;> first | cases h | exact ⟨_, rfl, h, wdB_nice h⟩
theorem nmV_of {v : Vl} (h : nmV v = true) : ∃ x, v = .str x ∧ NmB x ∧ Nice x := by
  cases v <;> first | cases h | exact ⟨_, rfl, h, nmB_nice h⟩
theorem numV_of {lo hi : Int} {v : Vl} (h : numV lo hi v = true) (h0 : 0 ≤ lo) : ∃ k : Nat, v = .int (k : Nat) ∧ (k : Int) ≤ hi := by
  cases v <;> first | cases h | skip
  rename_i i
  unfold numV at h
  simp only [Bool.and_eq_true, decide_eq_true_eq] at h
  exact ⟨i.toNat, by rw [Int.toNat_of_nonneg (by omega)], by omega⟩
theorem nms1 {xs : List Vl} (h : (decide (xs.length = 1) && xs.all nmV) = true) : ∃ x, xs = [.str x] ∧ NmB x ∧ Nice x := by
  match xs, h with
  | [a], h =>
    simp at h
    obtain ⟨x, rfl, h'⟩ := nmV_of h
    exact ⟨x, rfl, h'⟩
  | [], h => simp at h
  | a :: b :: r, h => simp at h
theorem nms2 {xs : List Vl} (h : (decide (xs.length = 2) && xs.all nmV) = true) : ∃ x y, xs = [.str x, .str y] ∧ (NmB x ∧ Nice x) ∧ NmB y ∧ Nice y := by
  match xs, h with
  | [a, b], h =>
    simp at h
    obtain ⟨x, rfl, h1⟩ := nmV_of h.1
    obtain ⟨y, rfl, h2⟩ := nmV_of h.2
    exact ⟨x, y, rfl, h1, h2⟩
  | [], h => simp at h
  | [a], h => simp at h
  | a :: b :: c :: r, h => simp at h
theorem nms3 {xs : List Vl} (h : (decide (xs.length = 3) && xs.all nmV) = true) : ∃ x y z, xs = [.str x, .str y, .str z] ∧ (NmB x ∧ Nice x) ∧ (NmB y ∧ Nice y) ∧ NmB z ∧ Nice z := by
  match xs, h with
  | [a, b, c], h =>
    simp at h
    obtain ⟨x, rfl, h1⟩ := nmV_of h.1
    obtain ⟨y, rfl, h2⟩ := nmV_of h.2.1
    obtain ⟨z, rfl, h3⟩ := nmV_of h.2.2
    exact ⟨x, y, z, rfl, h1, h2, h3⟩
  | [], h => simp at h
  | [a], h => simp at h
  | [a, b], h => simp at h
  | a :: b :: c :: d :: r, h => simp at h
section
variable {g : Nat}
theorem tst_of {v : Vl} (h : tstIn g v = true) : ∃ t : Tst, v = t.vl ∧ t.ok g 0 ∧ t.sat NmB WdB := by
  obtain ⟨hd, xs, rfl⟩ := form_str h
  by_cases e1 : hd = "given"
  · subst e1
    rw [tst_given] at h
    match xs, h with
    | [a], h =>
      obtain ⟨k, rfl, hk⟩ := numV_of h (by omega)
      exact ⟨.given k, rfl, by show k < g; omega, trivial⟩
  by_cases e2 : hd = "wished"
  · subst e2
    rw [tst_wished] at h
    match xs, h with
    | [a], h =>
      obtain ⟨x, rfl, h1, h2⟩ := wdV_of h
      exact ⟨.wished x, rfl, h2, h1⟩
  by_cases e3 : hd = "set"
  · subst e3
    rw [tst_set] at h
    obtain ⟨x, rfl, h1, h2⟩ := nms1 h
    exact ⟨.set x, rfl, h2, h1⟩
  by_cases e4 : hd = "same"
  · subst e4
    rw [tst_same] at h
    obtain ⟨x, y, rfl, h1, h2⟩ := nms2 h
    exact ⟨.same x y, rfl, ⟨h1.2, h2.2⟩, h1.1, h2.1⟩
  by_cases e5 : hd = "full"
  · subst e5
    rw [tst_full] at h
    obtain ⟨x, y, rfl, h1, h2⟩ := nms2 h
    exact ⟨.full x y, rfl, ⟨h1.2, h2.2⟩, h1.1, h2.1⟩
  rw [tst_no e1 e2 e3 e4 e5] at h
  cases h
theorem tstN_of : ∀ (n : Nat) {v : Vl}, tstIn g (unNot n v) = true → ∃ t : Tst, v = t.vl ∧ t.ok g n ∧ t.sat NmB WdB
  | 0, v, h => by
    have e : unNot 0 v = v := by cases v <;> rfl
    rw [e] at h
    exact tst_of h
  | n + 1, v, h => by
    unfold unNot at h
    split at h
    · rename_i e; cases e
    · rename_i n' hh b e
      cases e
      split at h
      · rename_i e1
        subst e1
        obtain ⟨t, rfl, h1, h2⟩ := tstN_of n h
        exact ⟨.not t, rfl, h1, h2⟩
      · obtain ⟨t, e, h1, h2⟩ := tst_of h
        exact ⟨t, e, h1.mono (by omega), h2⟩
    · obtain ⟨t, e, h1, h2⟩ := tst_of h
      exact ⟨t, e, h1.mono (by omega), h2⟩
theorem tstV_of {v : Vl} (h : tstV g v = true) : ∃ t : Tst, v = t.vl ∧ t.ok g 3 ∧ t.sat NmB WdB := tstN_of 3 h
theorem typed_of {v : Vl} (h : stmV g v = true) (hb : ∀ b ∈ insV v, b = .tup []) : ∃ x : Stm, v = x.vl ∧ x.ok g 1 ∧ x.sat NmB WdB ∧ x.fit 5 ∧ x.cnt = 1 ∧ x.wgt = 1 ∧ Stm.flats 0 [x] = [(0, x)] := by
  obtain ⟨hd, xs, rfl⟩ := form_str h
  have fin : ∀ x : Stm, x.ok g 0 → x.sat NmB WdB → ∃ y : Stm, x.vl = y.vl ∧ y.ok g 1 ∧ y.sat NmB WdB ∧ y.fit 5 ∧ y.cnt = 1 ∧ y.wgt = 1 ∧ Stm.flats 0 [y] = [(0, y)] := fun x h1 h2 => by
    refine ⟨x, rfl, ?_, h2, Stm.fit_flat h1 (by omega), ?_⟩
    · cases x <;> unfold Stm.ok at h1 ⊢ <;> first | exact h1 | exact absurd h1.1 (by omega)
    · cases x <;> unfold Stm.ok at h1 <;> first | exact ⟨rfl, rfl, rfl⟩ | exact absurd h1.1 (by omega)
  by_cases e1 : hd = "ask"
  · subst e1
    rw [stm_ask] at h
    match xs, h with
    | [a], h =>
      obtain ⟨t, rfl, h1, h2⟩ := tstV_of h
      exact fin (.ask t) (by unfold Stm.ok; exact h1) (by unfold Stm.sat; exact h2)
  by_cases e2 : hd = "say"
  · subst e2
    rw [stm_say] at h
    match xs, h with
    | [a], h =>
      obtain ⟨x, rfl, h1, h2⟩ := wdV_of h
      exact fin (.say x) (by unfold Stm.ok; exact h2) (by unfold Stm.sat; exact h1)
  by_cases e3 : hd = "wish"
  · subst e3
    rw [stm_wish] at h
    match xs, h with
    | [a, b], h =>
      simp only [Bool.and_eq_true] at h
      obtain ⟨x, rfl, h1, h2⟩ := nmV_of h.1
      obtain ⟨w, rfl, h3, h4⟩ := wdV_of h.2
      exact fin (.wish x w) (by unfold Stm.ok; exact ⟨h2, h4⟩) (by unfold Stm.sat; exact ⟨h1, h3⟩)
  by_cases e4 : hd = "repeat"
  · subst e4
    rw [stm_repeat] at h
    match xs, h, hb with
    | [a, b], h, hb =>
      simp only [Bool.and_eq_true] at h
      obtain ⟨k, rfl, hk⟩ := numV_of h.1 (by omega)
      have : b = .tup [] := hb b (by simp [insV])
      subst this
      refine ⟨.rep k [], rfl, ?_, ?_, ?_, ?_, ?_, ?_⟩
      · unfold Stm.ok; exact ⟨by omega, by omega, trivial⟩
      · unfold Stm.sat; trivial
      · unfold Stm.fit; exact ⟨by omega, trivial⟩
      · simp [Stm.cnt, Stm.cnts]
      · simp [Stm.wgt, Stm.wgts]
      · simp [Stm.flats, Stm.flat]
  by_cases e5 : hd = "if"
  · subst e5
    rw [stm_if] at h
    match xs, h, hb with
    | [a, b, c], h, hb =>
      simp only [Bool.and_eq_true] at h
      obtain ⟨t, rfl, h1, h2⟩ := tstV_of h.1
      have z1 : b = .tup [] := hb b (by simp [insV])
      have z2 : c = .tup [] := hb c (by simp [insV])
      subst z1 z2
      refine ⟨.ife t [] [], rfl, ?_, ?_, ?_, ?_, ?_, ?_⟩
      · unfold Stm.ok; exact ⟨by omega, h1, trivial, trivial⟩
      · unfold Stm.sat; exact ⟨h2, trivial, trivial⟩
      · unfold Stm.fit; exact ⟨by omega, trivial, trivial⟩
      · simp [Stm.cnt, Stm.cnts]
      · simp [Stm.wgt, Stm.wgts]
      · simp [Stm.flats, Stm.flat]
  by_cases e6 : hd = "make" ∨ hd = "keep" ∨ hd = "drop"
  · rw [stm_nm1 e6] at h
    obtain ⟨x, rfl, h1, h2⟩ := nms1 h
    rcases e6 with rfl | rfl | rfl
    · exact fin (.make x) (by unfold Stm.ok; exact h2) (by unfold Stm.sat; exact h1)
    · exact fin (.keep x) (by unfold Stm.ok; exact h2) (by unfold Stm.sat; exact h1)
    · exact fin (.drop x) (by unfold Stm.ok; exact h2) (by unfold Stm.sat; exact h1)
  by_cases e7 : hd = "name" ∨ hd = "cut"
  · rw [stm_nm2 e7] at h
    obtain ⟨x, y, rfl, ⟨h1, h2⟩, h3, h4⟩ := nms2 h
    rcases e7 with rfl | rfl
    · exact fin (.name x y) (by unfold Stm.ok; exact ⟨h2, h4⟩) (by unfold Stm.sat; exact ⟨h1, h3⟩)
    · exact fin (.cut x y) (by unfold Stm.ok; exact ⟨h2, h4⟩) (by unfold Stm.sat; exact ⟨h1, h3⟩)
  by_cases e8 : hd = "hold" ∨ hd = "weak" ∨ hd = "take"
  · rw [stm_nm3 e8] at h
    obtain ⟨x, y, z, rfl, ⟨h1, h2⟩, ⟨h3, h4⟩, h5, h6⟩ := nms3 h
    rcases e8 with rfl | rfl | rfl
    · exact fin (.hold x y z) (by unfold Stm.ok; exact ⟨h2, h4, h6⟩) (by unfold Stm.sat; exact ⟨h1, h3, h5⟩)
    · exact fin (.weak x y z) (by unfold Stm.ok; exact ⟨h2, h4, h6⟩) (by unfold Stm.sat; exact ⟨h1, h3, h5⟩)
    · exact fin (.take x y z) (by unfold Stm.ok; exact ⟨h2, h4, h6⟩) (by unfold Stm.sat; exact ⟨h1, h3, h5⟩)
  simp only [not_or] at e6 e7 e8
  rw [stm_no e1 e2 e3 e4 e5 e6.1 e6.2.1 e6.2.2 e7.1 e7.2 e8.1 e8.2.1 e8.2.2] at h
  cases h
end
end Sm

/-! K0A: the law's own judgement of numbers, words, names, tests, statements -/
namespace K00
open PySem L2 Sm
theorem sg_all {c : Nat} : decide (c ∈ ("0123456789abcdefghijklmnopqrstuvwxyz" : Str).cps.toList) = sgB c := by
  have e : ("0123456789abcdefghijklmnopqrstuvwxyz" : Str).cps.toList = digT.cps.toList ++ smallT.cps.toList := by decide +kernel
  rw [e]
  unfold sgB
  simp only [List.mem_append, Bool.decide_or]
  exact Bool.or_comm _ _
theorem sg_sum {c : Nat} : decide (c ∈ (smallT ++ ("0123456789" : Str)).cps.toList) = sgB c := by
  have e : (smallT ++ ("0123456789" : Str)).cps.toList = smallT.cps.toList ++ digT.cps.toList := by decide +kernel
  rw [e]
  unfold sgB
  simp only [List.mem_append, Bool.decide_or]
theorem opNotIn_sg {c : Nat} {y : Str} {s : Sto} : opNotIn (.str ⟨#[c]⟩) (.str y) s = some (.bl (!decide (c ∈ y.cps.toList)), s) := rfl
theorem neS_vok {s : Sto} {v : Vl} {y : Str} (h : VOk s v) (hy : PyData.strOk y = true := by decide +kernel) : opNeS v (.str y) s = some (.bl (!eqStr v y), s) := by
  cases v <;> unfold VOk at h <;> first | rfl | exact h.elim | skip
  · rename_i b
    have e1 : toD 40 s (.bl b) = some (.bool b) := rfl
    have e2 : toD 40 s (.str y) = some (.str y) := rfl
    have e3 : (PyData.bool b).canLay0 = true := rfl
    have e4 : (PyData.str y).canLay0 = true := hy
    have e5 : PyData.eqv (.bool b) (.str y) = false := rfl
    simp [opNeS, opNe, eqM, eqS, e1, e2, e3, e4, e5, eqStr]
  · rename_i i
    unfold LsD at h
    unfold opNeS
    simp only
    split at h
    · rename_i e; first | rfl | (rw [e]; rfl)
    · rename_i e; first | rfl | (rw [e]; rfl)
    · exact h.elim
/-- a one-sign text is no sign of words -/
def badV (v : Vl) : Bool := match v with
  | .str ⟨cs⟩ => !cs.toList.all sgB
  | _ => false
theorem bad_signs {x : Str} : ((Sm.signs x).filter badV).isEmpty = x.cps.toList.all sgB := by
  unfold Sm.signs
  induction x.cps.toList with
  | nil => rfl
  | cons c cs ih =>
    rw [List.map_cons, List.all_cons]
    cases h : sgB c with
    | true =>
      have : badV (.str ⟨#[c]⟩) = false := by simp [badV, h]
      rw [List.filter_cons, this]
      simpa using ih
    | false =>
      have : badV (.str ⟨#[c]⟩) = true := by simp [badV, h]
      rw [List.filter_cons, this]
      simp
section
variable {s : Sto} {Q : Vl → Sto → Prop}
theorem lwNumber {v : Vl} {lo hi : Int} {E : Ex → Sto → Prop} (h : VOk s v) (k : Q (.bl (numV lo hi v)) s) : WE (m__law_is_number [v, .int lo, .int hi]) s Q E := by
  unfold m__law_is_number b__law_is_number
  simp [oIsi_int h, oIsi_bool h]
  cases v with
  | int i =>
    simp [isInt, isBl]
    by_cases h1 : lo ≤ i
    · simpa [h1, numV] using k
    · simpa [h1, numV] using k
  | _ => simpa [isInt, isBl, numV] using k
theorem lwWord {v : Vl} {E : Ex → Sto → Prop} (h : VOk s v) (k : ∀ s', Fr [] s s' → Q (.bl (wdV v)) s') : WE (m__law_is_word [v]) s Q E := by
  unfold m__law_is_word b__law_is_word
  simp [oIsi_str h]
  cases v with
  | str x =>
    have hx : x.length ≤ LIM := limB (by unfold VOk at h; exact h)
    simp [isStr, oLen_str hx]
    by_cases h1 : 1 ≤ x.length
    · by_cases h2 : x.length ≤ 8
      · have h1' : (1 : Int) ≤ (x.length : Nat) := by omega
        have h2' : ((x.length : Nat) : Int) ≤ 8 := by omega
        simp [h1', h2']
        refine lcX_sel (xs := Sm.signs x) s badV rfl rfl (by unfold Sm.signs; rw [List.length_map, ← str_len]; omega) ?_ ?_
        · intro y hy
          unfold Sm.signs at hy
          obtain ⟨c, _, rfl⟩ := List.mem_map.mp hy
          refine ⟨[some (.str x), some (.str "0123456789abcdefghijklmnopqrstuvwxyz"), some (.str ⟨#[c]⟩)], rfl, fun s' f => ?_⟩
          simp only [WE_tVal, WE_eOp, WE_eC, WE_eVar', List.getElem?_cons_succ, List.getElem?_cons_zero, opNotIn_sg, WO_some, sg_all]
          refine ⟨by simp [badV], Fr.refl, by simp⟩
        · intro s' e f
          simp [opEqE_lst (get_push e) (get_last (s := s'))]
          have := k _ (f.push (Ob.lst []))
          rw [bad_signs]
          simpa [wdV, wdB, h1, h2, bad_signs] using this
      · have h1' : (1 : Int) ≤ (x.length : Nat) := by omega
        have h2' : ¬ ((x.length : Nat) : Int) ≤ 8 := by omega
        simp [h1', h2']
        simpa [wdV, wdB, h2] using k s Fr.refl
    · have h1' : ¬ (1 : Int) ≤ (x.length : Nat) := by omega
      simp [h1']
      simpa [wdV, wdB, h1] using k s Fr.refl
  | _ => simpa [isStr, wdV] using k s Fr.refl
theorem kept_no' : Txt.words keptT = noNm := by decide +kernel
theorem lwName {v : Vl} {E : Ex → Sto → Prop} (h : VOk s v) (k : ∀ s', Fr [] s s' → Q (.bl (nmV v)) s') : WE (m__law_is_name [v]) s Q E := by
  unfold m__law_is_name b__law_is_name
  simp [oIsi_str h]
  cases v with
  | str x =>
    have hx : x.length ≤ LIM := limB (by unfold VOk at h; exact h)
    simp [isStr, oLen_str hx]
    by_cases h1 : 1 ≤ x.length
    · by_cases h2 : x.length ≤ 8
      · have h1' : (1 : Int) ≤ (x.length : Nat) := by omega
        have h2' : ((x.length : Nat) : Int) ≤ 8 := by omega
        have h3' : ¬ (8 : Int) < (x.length : Nat) := by omega
        simp [h1', h2', h3']
        refine keptS ?_
        simp [opIn_lstS get_last, flat_strs, inF_strs, kept_no']
        by_cases h3 : x ∈ noNm
        · simp [h3]
          simpa [nmV, nmB, h3] using k _ (Fr.refl.push _)
        · obtain ⟨c, cs, hc⟩ : ∃ c cs, x.cps.toList = c :: cs := by
            cases e : x.cps.toList with
            | nil => rw [str_len, e] at h1; simp at h1
            | cons c cs => exact ⟨c, cs, rfl⟩
          have a0 : atI (c :: cs) (0 : Int) = some c := atN (n := 0)
          simp [h3, opIx_str hx, hc, a0]
          have k1 := fun s' f => k s' ((Fr.refl.push (Ob.lst ((noNm).map Vl.str))).trans f)
          generalize s ++ [Ob.lst (noNm.map Vl.str)] = s1 at k1 ⊢
          by_cases q : c ∈ smallT.cps.toList
          · simp only [show ("abcdefghijklmnopqrstuvwxyz" : Str) = smallT from rfl, opIn_sg, decide_eq_true q, WO_some]
            simp
            have hL : smallT.length + ("0123456789" : Str).length ≤ LIM := limB (by decide +kernel)
            refine lcX_sel (xs := Sm.signs x) s1 badV rfl rfl (by unfold Sm.signs; rw [List.length_map, ← str_len]; omega) ?_ ?_
            · intro y hy
              unfold Sm.signs at hy
              obtain ⟨c, _, rfl⟩ := List.mem_map.mp hy
              refine ⟨[some (.str x), some (.str smallT), some (.str ⟨#[c]⟩)], rfl, fun s' f => ?_⟩
              simp only [WE_tVal, WE_eOp, WE_eC, WE_eVar', List.getElem?_cons_succ, List.getElem?_cons_zero, opAdd_str hL, opNotIn_sg, WO_some, sg_sum]
              refine ⟨by simp [badV], Fr.refl, by simp⟩
            · intro s' e f
              simp [opEqE_lst (get_push e) (get_last (s := s'))]
              have := k1 _ (f.push (Ob.lst []))
              rw [bad_signs]
              simpa [nmV, nmB, wdB, h1, h2, h3, fstB, hc, q, bad_signs] using this
          · simp only [show ("abcdefghijklmnopqrstuvwxyz" : Str) = smallT from rfl, opIn_sg, decide_eq_false q, WO_some]
            simpa [nmV, nmB, fstB, hc, q] using k1 s1 Fr.refl
      · have h1' : (1 : Int) ≤ (x.length : Nat) := by omega
        have h2' : ¬ ((x.length : Nat) : Int) ≤ 8 := by omega
        have h3' : (8 : Int) < (x.length : Nat) := by omega
        simp [h1', h2', h3']
        simpa [nmV, nmB, wdB, h2] using k s Fr.refl
    · have h1' : ¬ (1 : Int) ≤ (x.length : Nat) := by omega
      simp [h1']
      simpa [nmV, nmB, wdB, h1] using k s Fr.refl
  | _ => simpa [isStr, nmV] using k s Fr.refl
end
end K00

/-! K0B: the law's own judgement of tests, statements -/
namespace K00
open PySem L2 Sm
theorem unNot_stop {i : Nat} {v : Vl} (h : stepN (unNot i v) = unNot i v) : ∀ j, unNot (i + j) v = unNot i v
  | 0 => rfl
  | j + 1 => by rw [show i + (j + 1) = (i + j) + 1 from rfl, unNot_step, unNot_stop h j, h]
theorem all1 {p : Vl → Bool} {xs : List Vl} : (decide (xs.length = 1) && xs.all p) = match xs with | [a] => p a | _ => false := by
  match xs with
  | [] => rfl
  | [a] => simp
  | a :: b :: r => simp
section
variable {s : Sto} {Q : Vl → Sto → Prop}
def nlT : TM := (tAndM (tVal (eOp opLt (eVar 2) (eC (.int 3)))) (tAndM (tVal (eCB oIsi (aCons (eVar 0) (aCons (eC (.ty "tuple")) aNil)))) (tAndM (tVal (eOp opEq (eCB oLen (aCons (eVar 0) aNil)) (eC (.int 2)))) (tVal (eOp opEqS (eOp opIx (eVar 0) (eC (.int 0))) (eC (.str "not")))))))
def nlB : SM := (sPar 0 2 (aCons (eOp opIx (eVar 0) (eC (.int 1))) (aCons (eOp opAdd (eVar 2) (eC (.int 1))) aNil)))
def NLi (s : Sto) (v : Vl) (g : Int) (m : Nat) (lo : Lo) (s' : Sto) : Prop := ∃ i, i ≤ 3 ∧ m = 3 - i ∧ lo = [some (unNot i v), some (.int g), some (.int (i : Nat)), none, none, none] ∧ s' = s
theorem notLoop {v : Vl} {g : Int} (hv : VOk s v) : WS (loopW nlT nlB 100000) [some v, some (.int g), some (.int 0), none, none, none] s ⟨fun lo s' => (∃ x2, lo = [some (unNot 3 v), some (.int g), x2, none, none, none]) ∧ s' = s, fun _ _ => False, fun _ _ => False, fun _ _ => False, fun _ _ _ => False⟩ := by
  refine loopW_inv (NLi s v g) 3 (by omega) ⟨0, by omega, rfl, by rw [show unNot 0 v = v by cases v <;> rfl]; rfl, rfl⟩ ?_
  rintro m lo s1 ⟨i, hi, rfl, rfl, rfl⟩
  unfold nlT nlB
  have hu := unNot_ok i v hv
  by_cases h3 : i = 3
  · subst h3
    simp
  have hlt : (i : Int) < 3 := by omega
  have go : ∀ b, unNot i v = .tup [.str "not", b] → ∃ m', m' < 3 - i ∧ NLi s1 v g m' [some b, some (.int g), some (.int ((i : Int) + 1)), none, none, none] s1 := fun b hb => by
    refine ⟨3 - (i + 1), by omega, i + 1, by omega, rfl, ?_, rfl⟩
    rw [unNot_step, hb, stepN_not]
    simp
  have stop : (¬ ∃ b, unNot i v = .tup [.str "not", b]) → (∃ x2, [some (unNot i v), some (Vl.int g), some (.int (i : Nat)), none, none, none] = [some (unNot 3 v), some (.int g), x2, none, none, none]) := fun hn => by
    have e := unNot_stop (stepN_no hn) (3 - i)
    rw [show i + (3 - i) = 3 by omega] at e
    exact ⟨_, by rw [e]⟩
  simp [oIsi_tuple hu, hlt]
  generalize unNot i v = u at hu go stop ⊢
  cases u with
  | tup xs =>
    simp [isTup]
    unfold VOk at hu
    match xs, hu, go, stop with
    | [a, b], hu, go, stop =>
      have ha := hu.mem a (by simp)
      have a0 : atI [a, b] (0 : Int) = some a := atN (n := 0)
      have a1 : atI [a, b] (1 : Int) = some b := atN (n := 1)
      simp [a0, a1]
      cases a with
      | str h =>
        rw [eqS_vok ha]
        simp [eqStr]
        by_cases e : h = "not"
        · subst e
          simp
          exact go b rfl
        · simp [e]
          simpa using stop (by rintro ⟨b', e'⟩; simp at e'; exact e e'.1)
      | _ =>
        rw [eqS_vok ha]
        simp [eqStr]
        simpa using stop (by rintro ⟨b', e'⟩; simp at e')
    | [], hu, go, stop => simpa using stop (by rintro ⟨b', e'⟩; simp at e')
    | [a], hu, go, stop => simpa using stop (by rintro ⟨b', e'⟩; simp at e')
    | a :: b :: c :: r, hu, go, stop =>
      have : ¬ ((r.length : Int) + 1 + 1 + 1 = 2) := by omega
      simp [this]
      simpa using stop (by rintro ⟨b', e'⟩; simp at e')
  | _ => simp [isTup]; simpa using stop (by rintro ⟨b', e'⟩; simp at e')
/-- [item for item in rest if not is_name(item)] -/
theorem lwNames {j : Nat} {lo : Lo} {xs : List Vl} {QS : Sto → Prop} (hv : VOks s xs) (hl : xs.length < 1000000) (hj : j < lo.length) (k : ∀ s', s'[s.length]? = some (.lst (xs.filter fun v => !nmV v)) → Fr [] s s' → QS s') :
    WL (lcX (glN j) (tNotM (tVal (eCall (arg 1 m__law_is_name) (aCons (eVar j) aNil)))) (eVar j) s.length (wipeL lo [j]) xs (s ++ [Ob.lst []])) QS := by
  refine lcX_sel (xs := xs) s (fun v => !nmV v) rfl rfl hl ?_ k
  intro x hx
  have e : ((wipeL lo [j]).set j (some x))[j]? = some (some x) := by rw [List.getElem?_set_self (by simpa [wipeL] using hj)]
  refine ⟨(wipeL lo [j]).set j (some x), rfl, fun s' f => ?_⟩
  simp [e]
  exact lwName ((hv.mem x hx).fr f) fun s'' f' => by simp [e]; exact f'
theorem nmEnd {xs : List Vl} {s' : Sto} {E : Ex → Sto → Prop} {lo : Lo} (e : s'[s.length]? = some (.lst (xs.filter fun v => !nmV v))) (k : Q (.bl (xs.all nmV)) (s' ++ [Ob.lst []])) :
    WE (eCB oLst aNil lo) s' (fun y s2 => WO (opEqE (.ref s.length) y s2) Q) E := by
  simp [opEqE_lst (get_push e) (get_last (s := s'))]
  rw [filter_none]
  exact k
theorem lwTest {v : Vl} {g : Int} (hv : VOk s v) (k : ∀ s', Fr [] s s' → Q (.bl (tstV g v)) s') : WE (m__law_is_test [v, .int g]) s Q NoX := by
  unfold m__law_is_test b__law_is_test
  rw [WE_fnM, WS_sSeq]
  simp only [WS_sSet, WE_eC]
  rw [WS_sSeq]
  refine WS.mono (notLoop (g := g) hv) ?_ (fun _ _ z => z.elim) (fun _ _ z => z.elim) (fun _ _ z => z.elim) (fun _ _ _ z => z.elim)
  rintro lo s1 ⟨⟨x2, rfl⟩, rfl⟩
  have hu := unNot_ok 3 v hv
  have ek : tstV g v = tstIn g (unNot 3 v) := rfl
  rw [ek] at k
  generalize unNot 3 v = u at hu k ⊢
  clear ek hv
  simp [oIsi_tuple hu]
  cases u with
  | tup xs =>
    unfold VOk at hu
    match xs, hu, k with
    | [], hu, k => simpa [isTup, tstIn, formB] using k s1 Fr.refl
    | [a], hu, k =>
      simp [isTup]
      have e : tstIn g (.tup [a]) = false := by
        cases h : tstIn g (.tup [a]) with
        | false => rfl
        | true =>
          obtain ⟨h', xs, e⟩ := form_str h
          cases e
          by_cases e1 : h' = "given"
          · subst e1; rw [tst_given] at h; exact h.symm
          by_cases e2 : h' = "wished"
          · subst e2; rw [tst_wished] at h; exact h.symm
          by_cases e3 : h' = "set"
          · subst e3; rw [tst_set] at h; simp at h
          by_cases e4 : h' = "same"
          · subst e4; rw [tst_same] at h; simp at h
          by_cases e5 : h' = "full"
          · subst e5; rw [tst_full] at h; simp at h
          rw [tst_no e1 e2 e3 e4 e5] at h
          exact h.symm
      rw [e] at k
      exact k s1 Fr.refl
    | a :: b :: r, hu, k =>
      have hn : ¬ ((r.length : Int) + 1 + 1 < 2) := by omega
      have ha := hu.mem a (by simp)
      have hb := hu.mem b (by simp)
      have hr : VOks s1 (b :: r) := VOks.of fun x hx => hu.mem x (List.mem_cons_of_mem _ hx)
      have a0 : atI (a :: b :: r) (0 : Int) = some a := atN (n := 0)
      have b0 : atI (b :: r) (0 : Int) = some b := atN (n := 0)
      have c1 : cutL (a :: b :: r) (some (1 : Int)) none = b :: r := cutL_from (n := 1)
      simp [isTup, hn, a0, c1]
      have q1 : opEqS a (.str "given") s1 = _ := eqS_vok ha
      have q2 : opEqS a (.str "wished") s1 = _ := eqS_vok ha
      have q3 : opEqS a (.str "set") s1 = _ := eqS_vok ha
      have n3 : opNeS a (.str "set") s1 = _ := neS_vok ha
      have n4 : opNeS a (.str "same") s1 = _ := neS_vok ha
      have n5 : opNeS a (.str "full") s1 = _ := neS_vok ha
      simp [q1, q2, q3, n3, n4, n5]
      have hlen : (b :: r).length = 1 ↔ r = [] := by cases r <;> simp
      cases a with
      | str h =>
        simp [eqStr]
        by_cases e1 : h = "given"
        · subst e1
          rw [tst_given] at k
          cases r with
          | nil =>
            simp [b0]
            exact lwNumber hb (k s1 Fr.refl)
          | cons c r =>
            have : ¬ ((r.length : Int) + 1 + 1 = 1) := by omega
            simp [this]
            exact k s1 Fr.refl
        rw [if_neg e1]
        by_cases e2 : h = "wished"
        · subst e2
          rw [tst_wished] at k
          cases r with
          | nil =>
            simp [b0]
            exact lwWord hb k
          | cons c r =>
            have : ¬ ((r.length : Int) + 1 + 1 = 1) := by omega
            simp [this]
            exact k s1 Fr.refl
        rw [if_neg e2]
        have two : (h = "same" ∨ h = "full") → tstIn g (.tup (.str h :: b :: r)) = (decide ((b :: r).length = 2) && (b :: r).all nmV) := by
          rintro (rfl | rfl)
          · exact tst_same
          · exact tst_full
        by_cases e3 : h = "set"
        · subst e3
          rw [tst_set] at k
          simp
          cases r with
          | nil =>
            simp
            refine lwNames hr (by simp) (by simp) fun s' e f => nmEnd e (by simpa using k _ (f.push _))
          | cons c r =>
            have : ((r.length : Int) + 1 + 1 == 1) = false := by simp; omega
            simp [this]
            simpa using k s1 Fr.refl
        by_cases e4 : h = "same" ∨ h = "full"
        · rw [two e4] at k
          cases r with
          | nil =>
            rcases e4 with rfl | rfl
            · simp
              simpa using k s1 Fr.refl
            · simp
              simpa using k s1 Fr.refl
          | cons c r =>
            have h0 : ∀ n : Nat, n < 2 ∨ (n : Int) + 1 = 2 ∨ 0 < n := fun n => by omega
            by_cases hr0 : r = []
            · subst hr0
              rcases e4 with rfl | rfl
              · simp
                refine lwNames hr (by simp) (by simp) fun s' e f => nmEnd e (by simpa using k _ (f.push _))
              · simp
                refine lwNames hr (by simp) (by simp) fun s' e f => nmEnd e (by simpa using k _ (f.push _))
            · have hp : 0 < r.length := List.length_pos_iff.mpr hr0
              have : ((r.length : Int) + 1 + 1 == 2) = false := by simp; omega
              rcases e4 with rfl | rfl
              · simp [this]
                simpa [hr0] using k s1 Fr.refl
              · simp [this]
                simpa [hr0] using k s1 Fr.refl
        · simp only [not_or] at e4
          rw [tst_no e1 e2 e3 e4.1 e4.2] at k
          simp [e3, e4.1, e4.2]
          exact k s1 Fr.refl
      | _ =>
        simp [eqStr]
        simpa [tstIn, formB] using k s1 Fr.refl
  | _ => simpa [isTup, tstIn, formB] using k s1 Fr.refl
end
end K00

/-! S65: d.update(d2) -/
namespace Sm
open PySem PySem.Spec PyProof.Rows L2
def oUpdate : OMt
  | .ref i, [.ref j], s => match s[i]?, s[j]? with
    | some (.dic kvs), some (.dic more) => if i ≠ j ∧ kvs.length + more.length < LIM then some (.non, s.set i (.dic (mergeP kvs more))) else none
    | _, _ => none
  | _, _, _ => none
section
variable {X : Cx} {T : Tb}
def rUpd : V → List V → Hp → VK → Prop := fun x vs H Q => ∃ (a b : Addr) (kvs more : List (Key × V)), x = .ref a ∧ vs = [.ref b] ∧ H a = some (.dK kvs) ∧ H b = some (.dK more) ∧ a ≠ b ∧ kvs.length + more.length ≤ sizeLine ∧ Q .non (upd H a (.dK (mergeK kvs more)))
end
end Sm

/-! S70: written dicts and updates, computed -/
namespace Sm
open PySem L2
section
variable {s : Sto} {lo : Lo} {QV : Vl → Sto → Prop} {E : Ex → Sto → Prop}
@[simp ↓] theorem WE_dpNil {Q : List (Vl × Vl) → Sto → Prop} : WE (dpM [] lo) s Q E = Q [] s := by
  show WE (ret []) s Q E = _
  rw [WE_ret]
@[simp ↓] theorem WE_dpCons {k v : EM} {r : List (EM × EM)} {Q : List (Vl × Vl) → Sto → Prop} : WE (dpM ((k, v) :: r) lo) s Q E = WE (k lo) s (fun x s => WE (v lo) s (fun y s => WE (dpM r lo) s (fun ps s => Q ((x, y) :: ps) s) E) E) E := by
  show WE (bnd (k lo) fun x => bnd (v lo) fun y => bnd (dpM r lo) fun ps => ret ((x, y) :: ps)) s Q E = _
  rw [WE_bnd]
  refine WE_ext fun x s => ?_
  rw [WE_bnd]
  refine WE_ext fun y s => ?_
  rw [WE_bnd]
  exact WE_ext fun ps s => WE_ret
def dictQ (d : Nat) (QV : Vl → Sto → Prop) (prs : List (Vl × Vl)) (s' : Sto) : Prop := s'[d]? = some (.dic []) ∧ match mapO keyP prs with
  | some kvs => kvs.length ≤ 15 ∧ QV (.ref d) (s'.set d (.dic (mergeP [] kvs)))
  | none => False
@[simp ↓] theorem WE_eDict {ps : List (EM × EM)} : WE (eDict ps lo) s QV E = WE (dpM ps lo) (s ++ [.dic []]) (dictQ s.length QV) E := by
  simp only [WE_eq]
  unfold WE0 eDict
  cases h : dpM ps lo (s ++ [.dic []]) with
  | fail => rfl
  | exc e s' => rfl
  | ok prs s' =>
    simp only
    unfold dictQ
    cases h2 : s'[s.length]? with
    | none => simp
    | some o =>
      cases o <;> try simp
      rename_i kvs0
      cases kvs0 with
      | cons p r => simp
      | nil =>
        simp
        cases mapO keyP prs with
        | none => rfl
        | some kvs =>
          simp
          by_cases hl : kvs.length ≤ 15
          · simp [hl]
          · simp [hl]
theorem mapK_nil : mapO keyP [] = some [] := rfl
end
end Sm

/-! S37: the texts of tests, statements and blocks -/
namespace Sm
open PySem L2
def nums (i : Nat) : Str := Str.ofString (toString ((i : Nat) : Int))
def Tst.txt : Tst → Str
  | .given i => "given " ++ nums i
  | .set x => "set " ++ x
  | .same x y => x ++ " is " ++ y
  | .full x f => "full " ++ x ++ "." ++ f
  | .wished w => "wished " ++ w
  | .not t => "not " ++ t.txt
def Stm.line : Stm → Str
  | .make x => "make " ++ x
  | .wish x w => "wish " ++ x ++ " " ++ w
  | .keep x => "keep " ++ x
  | .name x y => x ++ " = " ++ y
  | .drop x => "drop " ++ x
  | .hold x f y => x ++ "." ++ f ++ " = " ++ y
  | .weak x f y => x ++ "." ++ f ++ " ~ " ++ y
  | .cut x f => "cut " ++ x ++ "." ++ f
  | .take z x f => z ++ " = " ++ x ++ "." ++ f
  | .say w => "say " ++ w
  | .ask t => "ask " ++ t.txt
  | .ife t _ _ => "if " ++ t.txt
  | .rep k _ => "repeat " ++ nums k
mutual
/-- the lines of a statement -/
def Stm.lines (a : Str) : Stm → List Str
  | .ife t x y => (a ++ (Stm.ife t x y).line) :: ((match Stm.liness (a ++ "  ") x with | [] => [a ++ "  pass"] | ls => ls) ++ (match Stm.liness (a ++ "  ") y with | [] => [] | ls => (a ++ "else") :: ls))
  | .rep k x => (a ++ (Stm.rep k x).line) :: (match Stm.liness (a ++ "  ") x with | [] => [a ++ "  pass"] | ls => ls)
  | x => [a ++ x.line]
def Stm.liness (a : Str) : List Stm → List Str
  | [] => []
  | x :: xs => x.lines a ++ Stm.liness a xs
end
end Sm

/-! S38: values that can be laid out (==); short loops unrolled; lines -/
namespace Sm
open PySem L2
def La (n : Nat) (v : Vl) : Prop := ∃ d : PyData, (∀ s m, n ≤ m → toD m s v = some d) ∧ d.canLay0 = true
theorem La.mono {n m : Nat} {v : Vl} (h : La n v) (h1 : n ≤ m) : La m v := by
  obtain ⟨d, a, b⟩ := h
  exact ⟨d, fun s k hk => a s k (Nat.le_trans h1 hk), b⟩
theorem La.int {i : Int} : La 1 (.int i) := by
  refine ⟨.int i, fun s m hm => ?_, rfl⟩
  obtain ⟨m, rfl⟩ : ∃ k, m = k + 1 := ⟨m - 1, by omega⟩
  rfl
theorem La.str {x : Str} (h : PyData.strOk x = true) : La 1 (.str x) := by
  refine ⟨.str x, fun s m hm => ?_, h⟩
  obtain ⟨m, rfl⟩ : ∃ k, m = k + 1 := ⟨m - 1, by omega⟩
  rfl
theorem La.lit {x : Str} (h : (x.cps.toList.all fun c => decide (c < 128)) = true := by decide) : La 1 (.str x) := La.str (by
  unfold PyData.strOk
  rw [← Array.all_toList, List.all_eq_true]
  intro c hc
  have := of_decide_eq_true (List.all_eq_true.mp h c hc)
  exact decide_eq_true (by omega))
theorem Nice.la {x : Str} (h : Nice x) : La 1 (.str x) := La.str h.strOk
theorem La.all {n : Nat} : ∀ {xs : List Vl}, (∀ x ∈ xs, La n x) → ∃ ds : List PyData, (∀ s m, n ≤ m → mapO (toD m s) xs = some ds) ∧ PyData.canLayAll0 ds = true
  | [], _ => ⟨[], fun _ _ _ => rfl, rfl⟩
  | x :: xs, h => by
    obtain ⟨d, a, b⟩ := h x (List.mem_cons_self ..)
    obtain ⟨ds, a', b'⟩ := La.all fun y hy => h y (List.mem_cons_of_mem _ hy)
    refine ⟨d :: ds, fun s m hm => ?_, ?_⟩
    · simp only [mapO, a s m hm, a' s m hm]
    · simp only [PyData.canLayAll0, b, b', Bool.and_self]
theorem La.tup {n : Nat} {xs : List Vl} (h : ∀ x ∈ xs, La n x) : La (n + 1) (.tup xs) := by
  obtain ⟨ds, a, b⟩ := La.all h
  refine ⟨.tuple ds, fun s m hm => ?_, ?_⟩
  · obtain ⟨m, rfl⟩ : ∃ k, m = k + 1 := ⟨m - 1, by omega⟩
    simp only [toD, a s m (by omega), Option.map]
  · simpa only [PyData.canLay0] using b
theorem La.tup2 {n : Nat} {a b : Vl} (h1 : La n a) (h2 : La n b) : La (n + 1) (.tup [a, b]) := La.tup fun x hx => by
  simp at hx; rcases hx with rfl | rfl <;> assumption
theorem La.tup3 {n : Nat} {a b c : Vl} (h1 : La n a) (h2 : La n b) (h3 : La n c) : La (n + 1) (.tup [a, b, c]) := La.tup fun x hx => by
  simp at hx; rcases hx with rfl | rfl | rfl <;> assumption
theorem La.tup4 {n : Nat} {a b c d : Vl} (h1 : La n a) (h2 : La n b) (h3 : La n c) (h4 : La n d) : La (n + 1) (.tup [a, b, c, d]) := La.tup fun x hx => by
  simp at hx; rcases hx with rfl | rfl | rfl | rfl <;> assumption
theorem Tst.la {g : Nat} : ∀ {n : Nat} {t : Tst}, t.ok g n → La (2 + n) t.vl
  | n, .given i, h => (La.tup2 La.lit La.int).mono (by omega)
  | n, .set x, h => by
    have h : Nice x := by cases n <;> exact h
    exact (La.tup2 La.lit h.la).mono (by omega)
  | n, .same x y, h => by
    have h : Nice x ∧ Nice y := by cases n <;> exact h
    exact (La.tup3 La.lit h.1.la h.2.la).mono (by omega)
  | n, .full x y, h => by
    have h : Nice x ∧ Nice y := by cases n <;> exact h
    exact (La.tup3 La.lit h.1.la h.2.la).mono (by omega)
  | n, .wished x, h => by
    have h : Nice x := by cases n <;> exact h
    exact (La.tup2 La.lit h.la).mono (by omega)
  | n + 1, .not t, h => by
    have ih := Tst.la (n := n) (t := t) h
    exact (La.tup2 (La.mono La.lit (by omega)) ih).mono (by omega)
  | 0, .not t, h => h.elim
mutual
theorem Stm.la {g : Nat} : ∀ {n : Nat} {x : Stm}, x.ok g n → La (6 + 2 * n) x.vl
  | n, .make x, h => by unfold Stm.ok at h; unfold Stm.vl; exact (La.tup2 La.lit h.la).mono (by omega)
  | n, .wish x w, h => by unfold Stm.ok at h; unfold Stm.vl; exact (La.tup3 La.lit h.1.la h.2.la).mono (by omega)
  | n, .keep x, h => by unfold Stm.ok at h; unfold Stm.vl; exact (La.tup2 La.lit h.la).mono (by omega)
  | n, .name x y, h => by unfold Stm.ok at h; unfold Stm.vl; exact (La.tup3 La.lit h.1.la h.2.la).mono (by omega)
  | n, .drop x, h => by unfold Stm.ok at h; unfold Stm.vl; exact (La.tup2 La.lit h.la).mono (by omega)
  | n, .hold x f y, h => by unfold Stm.ok at h; unfold Stm.vl; exact (La.tup4 La.lit h.1.la h.2.1.la h.2.2.la).mono (by omega)
  | n, .weak x f y, h => by unfold Stm.ok at h; unfold Stm.vl; exact (La.tup4 La.lit h.1.la h.2.1.la h.2.2.la).mono (by omega)
  | n, .cut x f, h => by unfold Stm.ok at h; unfold Stm.vl; exact (La.tup3 La.lit h.1.la h.2.la).mono (by omega)
  | n, .take z x f, h => by unfold Stm.ok at h; unfold Stm.vl; exact (La.tup4 La.lit h.1.la h.2.1.la h.2.2.la).mono (by omega)
  | n, .say w, h => by unfold Stm.ok at h; unfold Stm.vl; exact (La.tup2 La.lit h.la).mono (by omega)
  | n, .ask t, h => by
    unfold Stm.ok at h; unfold Stm.vl
    exact (La.tup2 (La.mono La.lit (show 1 ≤ 5 by omega)) (Tst.la h)).mono (by omega)
  | n, .ife t a b, h => by
    unfold Stm.ok at h; unfold Stm.vl
    have h1 : La (6 + 2 * (n - 1) + 1) (.tup (Stm.vls a)) := La.tup (Stm.lam h.2.2.1)
    have h2 : La (6 + 2 * (n - 1) + 1) (.tup (Stm.vls b)) := La.tup (Stm.lam h.2.2.2)
    have h3 := Tst.la h.2.1
    have e : 6 + 2 * (n - 1) + 1 = 5 + 2 * n := by omega
    rw [e] at h1 h2
    exact (La.tup4 (La.mono La.lit (show 1 ≤ 5 + 2 * n by omega)) (h3.mono (by omega)) h1 h2).mono (by omega)
  | n, .rep k b, h => by
    unfold Stm.ok at h; unfold Stm.vl
    have h1 : La (6 + 2 * (n - 1) + 1) (.tup (Stm.vls b)) := La.tup (Stm.lam h.2.2)
    have e : 6 + 2 * (n - 1) + 1 = 5 + 2 * n := by omega
    rw [e] at h1
    exact (La.tup3 (La.mono La.lit (show 1 ≤ 5 + 2 * n by omega)) (La.int.mono (show 1 ≤ 5 + 2 * n by omega)) h1).mono (by omega)
theorem Stm.lam {g : Nat} : ∀ {n : Nat} {xs : List Stm}, Stm.oks g n xs → ∀ v ∈ Stm.vls xs, La (6 + 2 * n) v
  | n, [], _, v, hv => by simp [Stm.vls] at hv
  | n, x :: xs, h, v, hv => by
    simp only [Stm.vls, List.mem_cons] at hv
    rcases hv with rfl | hv
    · exact Stm.la h.1
    · exact Stm.lam h.2 v hv
end
/-! ### short loops -/
section
variable {s : Sto} {lo : Lo} {K : RK} {g : GM} {b : SM}
theorem WS_loopX_cons {v : Vl} {vs : List Vl} : WS (loopX g b (v :: vs)) lo s K = WG g v lo s (fun lo s => WS b lo s ⟨fun lo s => WS (loopX g b vs) lo s K, K.rt, K.nx, fun lo s => WS (loopX g b vs) lo s K, K.ex⟩) (fun e s => K.ex e lo s) := by
  simp only [WS_eq, WG_eq, WE_eq]
  unfold WS0 WE0
  have e : loopX g b (v :: vs) lo s = match g v lo s with | .ok lo' s' => (match b lo' s' with | .nx lo2 s2 => loopX g b vs lo2 s2 | .ct lo2 s2 => loopX g b vs lo2 s2 | .bk lo2 s2 => .nx lo2 s2 | .rt v s2 => .rt v s2 | .exc z lo2 s2 => .exc z lo2 s2 | .fail => .fail) | .exc z s' => .exc z lo s' | .fail => .fail := by
    conv => lhs; unfold loopX
    cases g v lo s with
    | fail => rfl
    | exc z s' => rfl
    | ok lo' s' => rfl
  rw [e]
  cases g v lo s with
  | fail => rfl
  | exc z s' => rfl
  | ok lo' s' =>
    simp only [WS_eq]
    cases b lo' s' <;> rfl
end
section
variable {s : Sto} {xs : List Vl} {x : Str} {i : Int} {k : Bool}
@[simp] theorem oIsi_tup_tuple : oIsi [.tup xs, .ty "tuple"] s = some (.bl true, s) := rfl
@[simp] theorem oIsi_tup_str : oIsi [.tup xs, .ty "str"] s = some (.bl false, s) := rfl
@[simp] theorem oIsi_tup_int : oIsi [.tup xs, .ty "int"] s = some (.bl false, s) := rfl
@[simp] theorem oIsi_tup_bool : oIsi [.tup xs, .ty "bool"] s = some (.bl false, s) := rfl
@[simp] theorem oIsi_tup_list : oIsi [.tup xs, .ty "list"] s = some (.bl false, s) := rfl
@[simp] theorem oIsi_tup_dict : oIsi [.tup xs, .ty "dict"] s = some (.bl false, s) := rfl
@[simp] theorem oIsi_str_tuple : oIsi [.str x, .ty "tuple"] s = some (.bl false, s) := rfl
@[simp] theorem oIsi_str_str : oIsi [.str x, .ty "str"] s = some (.bl true, s) := rfl
@[simp] theorem oIsi_str_int : oIsi [.str x, .ty "int"] s = some (.bl false, s) := rfl
@[simp] theorem oIsi_str_bool : oIsi [.str x, .ty "bool"] s = some (.bl false, s) := rfl
@[simp] theorem oIsi_str_list : oIsi [.str x, .ty "list"] s = some (.bl false, s) := rfl
@[simp] theorem oIsi_str_dict : oIsi [.str x, .ty "dict"] s = some (.bl false, s) := rfl
@[simp] theorem oIsi_int_tuple : oIsi [.int i, .ty "tuple"] s = some (.bl false, s) := rfl
@[simp] theorem oIsi_int_str : oIsi [.int i, .ty "str"] s = some (.bl false, s) := rfl
@[simp] theorem oIsi_int_int : oIsi [.int i, .ty "int"] s = some (.bl true, s) := rfl
@[simp] theorem oIsi_int_bool : oIsi [.int i, .ty "bool"] s = some (.bl false, s) := rfl
@[simp] theorem oIsi_int_list : oIsi [.int i, .ty "list"] s = some (.bl false, s) := rfl
@[simp] theorem oIsi_int_dict : oIsi [.int i, .ty "dict"] s = some (.bl false, s) := rfl
@[simp] theorem oIsi_bl_tuple : oIsi [.bl k, .ty "tuple"] s = some (.bl false, s) := rfl
@[simp] theorem oIsi_bl_str : oIsi [.bl k, .ty "str"] s = some (.bl false, s) := rfl
@[simp] theorem oIsi_bl_int : oIsi [.bl k, .ty "int"] s = some (.bl true, s) := rfl
@[simp] theorem oIsi_bl_bool : oIsi [.bl k, .ty "bool"] s = some (.bl true, s) := rfl
@[simp] theorem oIsi_bl_list : oIsi [.bl k, .ty "list"] s = some (.bl false, s) := rfl
@[simp] theorem oIsi_bl_dict : oIsi [.bl k, .ty "dict"] s = some (.bl false, s) := rfl
@[simp] theorem oIsi_non_tuple : oIsi [.non, .ty "tuple"] s = some (.bl false, s) := rfl
@[simp] theorem oIsi_non_str : oIsi [.non, .ty "str"] s = some (.bl false, s) := rfl
@[simp] theorem oIsi_non_int : oIsi [.non, .ty "int"] s = some (.bl false, s) := rfl
@[simp] theorem oIsi_non_bool : oIsi [.non, .ty "bool"] s = some (.bl false, s) := rfl
@[simp] theorem oIsi_non_list : oIsi [.non, .ty "list"] s = some (.bl false, s) := rfl
@[simp] theorem oIsi_non_dict : oIsi [.non, .ty "dict"] s = some (.bl false, s) := rfl
end
/-! ### lines -/
def padL (a : Str) (p : List Stm) : List Str := match Stm.liness (a ++ "  ") p with | [] => [a ++ "  pass"] | ls => ls
def elsL (a : Str) (p : List Stm) : List Str := match Stm.liness (a ++ "  ") p with | [] => [] | ls => (a ++ "else") :: ls
theorem Stm.lines_eq (a : Str) (x : Stm) : x.lines a = (a ++ x.line) :: (match x.ins with | [] => [] | [p] => padL a p | p :: q :: _ => padL a p ++ elsL a q) := by
  cases x
  case ife t p q => simp only [Stm.lines, Stm.ins, padL, elsL] <;> cases Stm.liness (a ++ "  ") p <;> cases Stm.liness (a ++ "  ") q <;> rfl
  case rep k p => simp only [Stm.lines, Stm.ins, padL, elsL] <;> cases Stm.liness (a ++ "  ") p <;> rfl
  all_goals simp [Stm.lines, Stm.ins]
theorem Stm.lines_ne {a : Str} {x : Stm} : x.lines a ≠ [] := by rw [Stm.lines_eq]; simp
theorem Stm.liness_nil {a : Str} {b : List Stm} : Stm.liness a b = [] ↔ b = [] := by
  cases b with
  | nil => simp [Stm.liness]
  | cons x b => simp [Stm.liness, Stm.lines_ne]
theorem padL_ne {a : Str} {p : List Stm} (h : p ≠ []) : padL a p = Stm.liness (a ++ "  ") p := by
  unfold padL
  cases q : Stm.liness (a ++ "  ") p with
  | nil => exact absurd (Stm.liness_nil.mp q) h
  | cons _ _ => rfl
theorem elsL_ne {a : Str} {p : List Stm} (h : p ≠ []) : elsL a p = (a ++ "else") :: Stm.liness (a ++ "  ") p := by
  unfold elsL
  cases q : Stm.liness (a ++ "  ") p with
  | nil => exact absurd (Stm.liness_nil.mp q) h
  | cons _ _ => rfl
end Sm

/-! S39: range(a, b), len of own objects; small helpers -/
namespace Sm
open PySem L2
section
variable {s : Sto} {lo : Lo} {QV : Vl → Sto → Prop} {QA : List Vl → Sto → Prop} {E : Ex → Sto → Prop}
def rng2W (xs : List Vl) (s : Sto) (QA : List Vl → Sto → Prop) : Prop := match xs with
  | [.int i, .int j] => (-(2 ^ 62) ≤ i ∧ i < 2 ^ 62 ∧ -(2 ^ 62) ≤ j ∧ j < 2 ^ 62) ∧ QA (rng i (j - i).toNat) s
  | _ => False
@[simp ↓] theorem WE_aRng2 {a : AM} : WE (aRng2 a lo) s QA E = WE (a lo) s (fun xs s => rng2W xs s QA) E := by
  unfold aRng2
  rw [WE_bnd]
  refine WE_ext fun xs s => ?_
  unfold rng2W
  split
  · rename_i i j
    by_cases h : -(2 ^ 62) ≤ i ∧ i < 2 ^ 62 ∧ -(2 ^ 62) ≤ j ∧ j < 2 ^ 62
    · rw [if_pos h]; simp only [h, and_self, true_and, WE_ret]
    · rw [if_neg h, WE_fail]
      exact (propext ⟨fun z => z.elim, fun z => absurd z.1 h⟩)
  · simp only [WE_eq]; rfl
theorem WE_eLenO {tab : MTab} {o : EM} : WE (eLenO tab o lo) s QV E = WE (o lo) s (fun x s => match x with | .ref j => (match s[j]? with | some (.ins c fs) => (match tab c with | some mf => WE (mf [.ref j]) s (fun v s' => match v with | .int n => (0 ≤ n ∧ n < 2 ^ 62) ∧ QV (.int n) s' | _ => False) E | none => False) | _ => False) | _ => False) E := by
  unfold eLenO
  rw [WE_bnd]
  refine WE_ext fun x s => ?_
  cases x <;> try (simp only [WE_eq]; rfl)
  rename_i j
  simp only [WE_eq]
  unfold WE0
  dsimp only
  cases h : s[j]? with
  | none => rfl
  | some ob =>
    cases ob <;> try rfl
    rename_i c fs
    dsimp only
    cases h1 : tab c with
    | none => rfl
    | some mf =>
      dsimp only
      cases h2 : mf [.ref j] s with
      | fail => rfl
      | exc e s' => rfl
      | ok v s' =>
        cases v <;> try rfl
        rename_i n
        dsimp only
        by_cases q : 0 ≤ n ∧ n < 2 ^ 62
        · rw [if_pos q]; exact propext ⟨fun z => ⟨q, z⟩, fun z => z.2⟩
        · rw [if_neg q]; exact propext ⟨fun z => z.elim, fun z => q z.1⟩
end
@[simp] theorem rng_len2 {a : Int} {n : Nat} : (rng a n).length = n := by simp [rng]
theorem rep_flat {α : Type} {x : α} {n : Nat} : (List.replicate n [x]).flatten = List.replicate n x := by
  induction n with
  | zero => rfl
  | succ n ih => rw [List.replicate_succ, List.flatten_cons, ih]; rfl
end Sm

/-! S47: how raise, try, super, written dicts, keywords are computed -/
namespace Sm
open PySem L2
section
variable {s : Sto} {lo : Lo} {QV : Vl → Sto → Prop} {E : Ex → Sto → Prop} {K : RK}
@[simp ↓] theorem WS_sRaise {c : Nat} {f : Str} {e : EM} : WS (sRaise c f e) lo s K = WE (e lo) s (fun v s => K.ex ⟨c, some [(f, v)]⟩ lo s) (fun x s => K.ex x lo s) := by unfold sRaise; rw [WS_bndS]
def tryK (hit : Nat → Option Bool) (i : Nat) (su : Ex → SM) (K : RK) (e : Ex) (lo : Lo) (s : Sto) : Prop := match hit e.c with
  | some true => match e.fs with
    | some _ => WS (su e) (lo.set i none) s ⟨fun lo s => K.nx (lo.set i none) s, K.rt, fun lo s => K.bk (lo.set i none) s, fun lo s => K.ct (lo.set i none) s, fun _ _ _ => False⟩
    | none => False
  | some false => K.ex e lo s
  | none => False
@[simp ↓] theorem WS_sTryAs {hit : Nat → Option Bool} {i : Nat} {b : SM} {su : Ex → SM} : WS (sTryAs hit i b su) lo s K = WS b lo s ⟨K.nx, K.rt, K.bk, K.ct, tryK hit i su K⟩ := by
  simp only [WS_eq]
  unfold WS0 sTryAs
  cases b lo s with
  | exc e lo' s' =>
    simp only [tryK, WS_eq, WS0]
    cases hit e.c with
    | none => rfl
    | some t =>
      cases t with
      | false => rfl
      | true =>
        cases e.fs with
        | none => rfl
        | some fs => cases su e (lo'.set i none) s' <;> rfl
  | _ => rfl
@[simp ↓] theorem WE_eXf {i : Nat} {e : Ex} {f : Str} : WE (eXf i e f lo) s QV E = (match lo[i]?, e.fs with
  | some none, some fs => (match getS fs f with | some v => QV v s | none => False)
  | _, _ => False) := by
  simp only [WE_eq]
  unfold WE0 eXf
  cases lo[i]? with
  | none => rfl
  | some o =>
    cases o with
    | some v => rfl
    | none =>
      cases e.fs with
      | none => rfl
      | some fs =>
        simp only
        cases getS fs f <;> rfl
@[simp ↓] theorem WE_eKix {tbl : List (Str × Vl)} {e : EM} : WE (eKix tbl e lo) s QV E = WE (e lo) s (fun v s => match v with
  | .str z => (match getS tbl z with | some u => QV u s | none => False)
  | _ => False) E := by
  unfold eKix
  rw [WE_bnd]
  refine WE_ext fun v s => ?_
  simp only [WE_eq]
  unfold WE0
  cases v <;> try rfl
  rename_i z
  simp only
  cases getS tbl z <;> rfl
@[simp ↓] theorem WE_eCallK {n m : Nat} {das : List Vl} {mf : List Vl → M Vl} {a k : AM} : WE (eCallK n das m mf a k lo) s QV E = WE (a lo) s (fun as s => WE (k lo) s (fun zs s => if as.length = n ∧ zs.length = m then WE (mf (as ++ das ++ zs)) s QV E else False) E) E := by
  unfold eCallK
  rw [WE_bnd]
  refine WE_ext fun as s => ?_
  rw [WE_bnd]
  refine WE_ext fun zs s => ?_
  by_cases h : as.length = n ∧ zs.length = m
  · simp only [WE_eq, WE0, if_pos h]
  · simp only [WE_eq, WE0, if_neg h]
end
end Sm

/-! S48: a machine's state in plain Lean, and how it stands in a store -/
namespace Sm
open PySem L2
/-- None or a cell -/
def cV : Option Nat → Vl
  | none => .non
  | some c => .int (c : Nat)
/-- a field: None, or a cell and whether it is held strongly -/
def fV : Option (Nat × Bool) → Vl
  | none => .non
  | some p => .tup [.int (p.1 : Nat), .bl p.2]
def wV : Option Str → Vl
  | none => .non
  | some x => .str x
inductive Said where
  | w (x : Str) | yes | no
def Said.vl : Said → Vl
  | .w x => .tup [.str "said", .str x]
  | .yes => .tup [.str "yes"]
  | .no => .tup [.str "no"]
def bV (b : Bool) : Vl := .int (if b then 1 else 0)
def pV (p : Int × Nat) : Vl := .tup [.int p.1, .int (p.2 : Nat)]
def nV (n : Nat) : Vl := .int (n : Nat)
/-! dicts with str keys -/
section
variable {α : Type} {f : α → Vl} {l : List (Str × α)} {x y : Str} {v : α}
def getT (l : List (Str × α)) (x : Str) : Option α := match l with
  | [] => none
  | p :: r => if p.1 = x then some p.2 else getT r x
def putT (l : List (Str × α)) (x : Str) (v : α) : List (Str × α) := match l with
  | [] => [(x, v)]
  | p :: r => if p.1 = x then (x, v) :: r else p :: putT r x v
def rawT (f : α → Vl) (l : List (Str × α)) : List (Key × Vl) := l.map fun p => (.inr p.1, f p.2)
theorem look_raw : ∀ {l : List (Str × α)}, look (rawT f l) (.inr x) = (getT l x).map f
  | [] => rfl
  | p :: r => by
    show (if (Sum.inr p.1 : Key) = Sum.inr x then some (f p.2) else look (rawT f r) (.inr x)) = _
    rw [look_raw]
    show _ = Option.map f (if p.1 = x then some p.2 else getT r x)
    by_cases e : p.1 = x
    · rw [if_pos (by rw [e]), if_pos e]; rfl
    · rw [if_neg (fun z => e (Sum.inr.inj z)), if_neg e]
theorem put_raw : ∀ {l : List (Str × α)}, put (rawT f l) (.inr x) (f v) = rawT f (putT l x v)
  | [] => rfl
  | p :: r => by
    show (if (Sum.inr p.1 : Key) = Sum.inr x then (Sum.inr x, f v) :: rawT f r else (Sum.inr p.1, f p.2) :: put (rawT f r) (.inr x) (f v)) = _
    rw [put_raw]
    show _ = rawT f (if p.1 = x then (x, v) :: r else p :: putT r x v)
    by_cases e : p.1 = x
    · rw [if_pos (by rw [e]), if_pos e]; rfl
    · rw [if_neg (fun z => e (Sum.inr.inj z)), if_neg e]; rfl
theorem putT_len : (putT l x v).length ≤ l.length + 1 := by
  induction l with
  | nil => simp [putT]
  | cons p r ih =>
    unfold putT
    split <;> simp <;> omega
theorem putT_mem {p : Str × α} (h : p ∈ putT l x v) : p ∈ l ∨ p = (x, v) := by
  induction l with
  | nil => simp [putT] at h; exact .inr h
  | cons q r ih =>
    unfold putT at h
    split at h
    · rcases List.mem_cons.mp h with z | z
      · exact .inr z
      · exact .inl (List.mem_cons_of_mem _ z)
    · rcases List.mem_cons.mp h with z | z
      · exact .inl (z ▸ List.mem_cons_self ..)
      · exact (ih z).imp (List.mem_cons_of_mem _) id
theorem getT_mem (h : getT l x = some v) : (x, v) ∈ l := by
  induction l with
  | nil => simp [getT] at h
  | cons q r ih =>
    unfold getT at h
    split at h
    · rename_i e
      cases h
      rw [← e]
      exact List.mem_cons_self ..
    · exact List.mem_cons_of_mem _ (ih h)
end
/-! dicts of cells that are kept -/
def rawK (l : List Nat) : List (Key × Vl) := l.map fun (c : Nat) => ((.inl (c : Int) : Key), Vl.bl true)
def addK : List Nat → Nat → List Nat
  | [], c => [c]
  | d :: r, c => if d = c then d :: r else d :: addK r c
theorem put_rawK {c : Nat} : ∀ {l : List Nat}, put (rawK l) (.inl (c : Int)) (.bl true) = rawK (addK l c)
  | [] => rfl
  | d :: r => by
    show (if (Sum.inl (d : Int) : Key) = Sum.inl (c : Int) then (Sum.inl (c : Int), Vl.bl true) :: rawK r else (Sum.inl (d : Int), Vl.bl true) :: put (rawK r) (.inl (c : Int)) (.bl true)) = _
    rw [put_rawK]
    show _ = rawK (if d = c then d :: r else d :: addK r c)
    by_cases e : d = c
    · subst e; simp [rawK]
    · rw [if_neg (fun z => e (by have := Sum.inl.inj z; omega)), if_neg e]; rfl
theorem addK_len {c : Nat} : ∀ {l : List Nat}, (addK l c).length ≤ l.length + 1
  | [] => by simp [addK]
  | d :: r => by
    unfold addK
    split
    · simp
    · have := addK_len (c := c) (l := r)
      simp; omega
theorem addK_mem {c d : Nat} : ∀ {l : List Nat}, d ∈ addK l c ↔ d ∈ l ∨ d = c
  | [] => by simp [addK]
  | e :: r => by
    unfold addK
    split
    · rename_i q
      subst q
      simp
      intro z
      exact .inl z
    · simp only [List.mem_cons, addK_mem (l := r)]
      constructor
      · rintro (z | z | z)
        · exact .inl (.inl z)
        · exact .inl (.inr z)
        · exact .inr z
      · rintro ((z | z) | z)
        · exact .inl z
        · exact .inr (.inl z)
        · exact .inr (.inr z)
/-! ### the state -/
structure Mt where
  place : Int
  moment : Int
  stands : List (Str × Option Nat)
  kept : List Nat
  cont : List (List (Str × Option (Nat × Bool)))
  wish : List (Option Str)
  lost : List Bool
  rep : List Bool
  said : List Said
  clr : List (Int × Nat)
  there : List Nat
abbrev Mt0 : Mt := ⟨-1, -1, [], [], [], [], [], [], [], [], []⟩
/-- what stays the same in a run: class, address, program, inputs, paused places, plan -/
structure MP where
  c : Nat
  m : Nat
  bk : Vl
  bits : Vl
  qp : Vl
  wa : List (Key × Vl)
  pl : List (Nat × List Vl)
def Mt.obs (P : MP) (cs : List Nat) (M : Mt) : List Ob := [
  .ins P.c [("block", P.bk), ("bits", P.bits), ("at_place", .int M.place), ("moment", .int M.moment), ("stands", .ref (P.m + 1)), ("kept", .ref (P.m + 2)), ("contents", .ref (P.m + 3)), ("wishes", .ref (P.m + 4)), ("lost", .ref (P.m + 5)), ("replies", .ref (P.m + 6)), ("spoken", .ref (P.m + 7)), ("quiet_places", P.qp), ("cleared", .ref (P.m + 8)), ("there", .ref (P.m + 9)), ("wishes_at", .ref (P.m + 10))],
  .dic (rawT cV M.stands), .dic (rawK M.kept), .lst (cs.map Vl.ref), .lst (M.wish.map wV), .lst (M.lost.map Vl.bl), .lst (M.rep.map bV), .lst (M.said.map Said.vl), .lst (M.clr.map pV), .lst (M.there.map nV), .dic P.wa]
structure MaAt (s : Sto) (P : MP) (cs : List Nat) (M : Mt) : Prop where
  obs : ∀ (i : Nat) (o : Ob), (M.obs P cs)[i]? = some o → s[P.m + i]? = some o
  csl : cs.length = M.cont.length
  rows : ∀ (i z : Nat) (r : List (Str × Option (Nat × Bool))), cs[i]? = some z → M.cont[i]? = some r → P.m + 10 < z ∧ s[z]? = some (.dic (rawT fV r))
  nd : cs.Nodup
  pls : ∀ p ∈ P.pl, P.m + 10 < p.1 ∧ p.1 ∉ cs ∧ s[p.1]? = some (.lst p.2)
/-- nothing below m is changed -/
structure Kp (m : Nat) (s s' : Sto) : Prop where
  le : s.length ≤ s'.length
  get : ∀ i, i < m → s'[i]? = s[i]?
theorem Kp.refl {m : Nat} {s : Sto} : Kp m s s := ⟨Nat.le_refl _, fun _ _ => rfl⟩
theorem Kp.trans {m : Nat} {s s1 s2 : Sto} (a : Kp m s s1) (b : Kp m s1 s2) : Kp m s s2 := ⟨Nat.le_trans a.le b.le, fun i hi => (b.get i hi).trans (a.get i hi)⟩
theorem Kp.set {m j : Nat} {s s1 : Sto} {o : Ob} (a : Kp m s s1) (h : m ≤ j) : Kp m s (s1.set j o) := ⟨by rw [List.length_set]; exact a.le, fun i hi => by rw [List.getElem?_set_ne (by omega)]; exact a.get i hi⟩
theorem Kp.push {m : Nat} {s s1 : Sto} {o : Ob} (a : Kp m s s1) (h : m ≤ s.length) : Kp m s (s1 ++ [o]) := ⟨by rw [List.length_append]; exact Nat.le_trans a.le (Nat.le_add_right ..), fun i hi => by rw [List.getElem?_append_left (by have := a.le; omega)]; exact a.get i hi⟩
section
variable {s s' : Sto} {P : MP} {cs : List Nat} {M M' : Mt}
theorem MaAt.top (A : MaAt s P cs M) : s[P.m]? = some (.ins P.c [("block", P.bk), ("bits", P.bits), ("at_place", .int M.place), ("moment", .int M.moment), ("stands", .ref (P.m + 1)), ("kept", .ref (P.m + 2)), ("contents", .ref (P.m + 3)), ("wishes", .ref (P.m + 4)), ("lost", .ref (P.m + 5)), ("replies", .ref (P.m + 6)), ("spoken", .ref (P.m + 7)), ("quiet_places", P.qp), ("cleared", .ref (P.m + 8)), ("there", .ref (P.m + 9)), ("wishes_at", .ref (P.m + 10))]) := A.obs 0 _ rfl
theorem MaAt.st (A : MaAt s P cs M) : s[P.m + 1]? = some (.dic (rawT cV M.stands)) := A.obs 1 _ rfl
theorem MaAt.kp (A : MaAt s P cs M) : s[P.m + 2]? = some (.dic (rawK M.kept)) := A.obs 2 _ rfl
theorem MaAt.co (A : MaAt s P cs M) : s[P.m + 3]? = some (.lst (cs.map Vl.ref)) := A.obs 3 _ rfl
theorem MaAt.wi (A : MaAt s P cs M) : s[P.m + 4]? = some (.lst (M.wish.map wV)) := A.obs 4 _ rfl
theorem MaAt.lo (A : MaAt s P cs M) : s[P.m + 5]? = some (.lst (M.lost.map Vl.bl)) := A.obs 5 _ rfl
theorem MaAt.sp (A : MaAt s P cs M) : s[P.m + 7]? = some (.lst (M.said.map Said.vl)) := A.obs 7 _ rfl
theorem MaAt.cl (A : MaAt s P cs M) : s[P.m + 8]? = some (.lst (M.clr.map pV)) := A.obs 8 _ rfl
theorem MaAt.th (A : MaAt s P cs M) : s[P.m + 9]? = some (.lst (M.there.map nV)) := A.obs 9 _ rfl
theorem MaAt.wa (A : MaAt s P cs M) : s[P.m + 10]? = some (.dic P.wa) := A.obs 10 _ rfl
theorem MaAt.len (A : MaAt s P cs M) : P.m + 10 < s.length := lt_of_get A.wa
theorem obs_len : (M.obs P cs).length = 11 := rfl
theorem MaAt.fr (A : MaAt s P cs M) (f : Fr [] s s') : MaAt s' P cs M :=
  ⟨fun i o h => f.at (A.obs i o h) (by simp), A.csl, fun i z r h1 h2 => ⟨(A.rows i z r h1 h2).1, f.at (A.rows i z r h1 h2).2 (by simp)⟩, A.nd, fun p hp => ⟨(A.pls p hp).1, (A.pls p hp).2.1, f.at (A.pls p hp).2.2 (by simp)⟩⟩
theorem MaAt.set (A : MaAt s P cs M) {j : Nat} {o : Ob} (hj : j < 11) (h : M'.obs P cs = (M.obs P cs).set j o) (hc : M'.cont = M.cont) : MaAt (s.set (P.m + j) o) P cs M' := by
  have hl := A.len
  refine ⟨fun i o' q => ?_, by rw [hc]; exact A.csl, fun i z r h1 h2 => ?_, A.nd, fun p hp => ?_⟩
  · rw [h] at q
    by_cases e : i = j
    · subst e
      rw [List.getElem?_set_self (by rw [obs_len]; exact hj)] at q
      rw [List.getElem?_set_self (by omega)]
      exact q
    · rw [List.getElem?_set_ne (fun z => e z.symm)] at q
      rw [List.getElem?_set_ne (by omega)]
      exact A.obs i o' q
  · rw [hc] at h2
    obtain ⟨q1, q2⟩ := A.rows i z r h1 h2
    exact ⟨q1, by rw [List.getElem?_set_ne (by omega)]; exact q2⟩
  · obtain ⟨q1, q2, q3⟩ := A.pls p hp
    exact ⟨q1, q2, by rw [List.getElem?_set_ne (by omega)]; exact q3⟩
theorem MaAt.row (A : MaAt s P cs M) {i z : Nat} {r : List (Str × Option (Nat × Bool))} (hi : cs[i]? = some z) : MaAt (s.set z (.dic (rawT fV r))) P cs { M with cont := M.cont.set i r } := by
  have hil := (List.getElem?_eq_some_iff.mp hi).1
  have hcl := A.csl
  obtain ⟨z1, z2⟩ := A.rows i z _ hi (List.getElem?_eq_getElem (by omega))
  have hz := lt_of_get z2
  refine ⟨fun j o q => ?_, by simpa using hcl, fun j y r' h1 h2 => ?_, A.nd, fun p hp => ?_⟩
  · have hj : j < 11 := (List.getElem?_eq_some_iff.mp q).1
    rw [List.getElem?_set_ne (by omega)]
    exact A.obs j o q
  · by_cases e : j = i
    · subst e
      rw [hi] at h1
      cases h1
      simp only at h2
      rw [List.getElem?_set_self (by omega)] at h2
      cases h2
      exact ⟨z1, List.getElem?_set_self hz⟩
    · simp only at h2
      rw [List.getElem?_set_ne (fun q => e q.symm)] at h2
      obtain ⟨q1, q2⟩ := A.rows j y r' h1 h2
      have ne : z ≠ y := fun q => by
        subst q
        exact e ((List.getElem?_inj (List.getElem?_eq_some_iff.mp h1).1 A.nd).mp (h1.trans hi.symm))
      exact ⟨q1, by rw [List.getElem?_set_ne ne]; exact q2⟩
  · obtain ⟨q1, q2, q3⟩ := A.pls p hp
    have ne : z ≠ p.1 := fun q => q2 (q ▸ List.mem_of_getElem? hi)
    exact ⟨q1, q2, by rw [List.getElem?_set_ne ne]; exact q3⟩
theorem MaAt.make (A : MaAt s P cs M) : MaAt ((s ++ [Ob.dic []]).set (P.m + 3) (.lst ((cs ++ [s.length]).map Vl.ref))) P (cs ++ [s.length]) { M with cont := M.cont ++ [[]] } := by
  have hl := A.len
  have hcl := A.csl
  refine ⟨fun i o q => ?_, by simp [hcl], fun i z r h1 h2 => ?_, ?_, fun p hp => ?_⟩
  · have hi : i < 11 := (List.getElem?_eq_some_iff.mp q).1
    by_cases e : i = 3
    · subst e
      rw [List.getElem?_set_self (by simp; omega)]
      exact q
    · rw [List.getElem?_set_ne (by omega), List.getElem?_append_left (by omega)]
      refine A.obs i o ?_
      have : ∀ i, i < 11 → i ≠ 3 → (Mt.obs P (cs ++ [s.length]) { M with cont := M.cont ++ [[]] })[i]? = (M.obs P cs)[i]? := by
        intro i h1 h2
        match i, h1, h2 with
        | 0, _, _ => rfl
        | 1, _, _ => rfl
        | 2, _, _ => rfl
        | 4, _, _ => rfl
        | 5, _, _ => rfl
        | 6, _, _ => rfl
        | 7, _, _ => rfl
        | 8, _, _ => rfl
        | 9, _, _ => rfl
        | 10, _, _ => rfl
      rw [← this i hi e]
      exact q
  · rcases getElem?_snoc h1 with z1 | ⟨z1, z2⟩
    · have hi := (List.getElem?_eq_some_iff.mp z1).1
      simp only at h2
      rw [List.getElem?_append_left (by omega)] at h2
      obtain ⟨q1, q2⟩ := A.rows i z r z1 h2
      have := lt_of_get q2
      exact ⟨q1, by rw [List.getElem?_set_ne (by omega), List.getElem?_append_left this]; exact q2⟩
    · subst z1 z2
      simp only at h2
      rw [hcl, List.getElem?_append_right (Nat.le_refl _)] at h2
      simp at h2
      subst h2
      exact ⟨by omega, by rw [List.getElem?_set_ne (by omega)]; simp [rawT]⟩
  · rw [List.nodup_append]
    refine ⟨A.nd, by simp, fun x hx y hy => ?_⟩
    simp at hy
    subst hy
    obtain ⟨i, hi⟩ := List.getElem?_of_mem hx
    have hil := (List.getElem?_eq_some_iff.mp hi).1
    have := lt_of_get (A.rows i x _ hi (List.getElem?_eq_getElem (by omega))).2
    omega
  · obtain ⟨q1, q2, q3⟩ := A.pls p hp
    have := lt_of_get q3
    refine ⟨q1, ?_, by rw [List.getElem?_set_ne (by omega), List.getElem?_append_left this]; exact q3⟩
    rw [List.mem_append]
    rintro (z | z)
    · exact q2 z
    · simp at z
      omega
end
end Sm

/-! S49: programs executed, in plain Lean -/
namespace Sm
open PySem L2
inductive Out (α : Type) where
  | ok (a : α) (M : Mt) | stop (why : Str) (M : Mt)
def Mt.cell (M : Mt) (x : Str) : Option Nat := (getT M.stands x).join
def Mt.row (M : Mt) (c : Nat) : List (Str × Option (Nat × Bool)) := (M.cont[c]?).getD []
def Mt.fld (M : Mt) (c : Nat) (f : Str) : Option (Nat × Bool) := (getT (M.row c) f).join
def Mt.askC (M : Mt) (c : Nat) : Out Bool := if 200 ≤ M.rep.length then .stop "long" M else .ok ((M.lost[c]?).getD false) { M with rep := M.rep ++ [(M.lost[c]?).getD false] }
def Mt.wishedF (w : Str) : List (Option Str) → Nat → Mt → Out Bool
  | [], _, M => .ok false M
  | o :: r, i, M => if o = some w then (match M.askC i with
    | .ok true M => .ok true M
    | .ok false M => Mt.wishedF w r (i + 1) M
    | .stop y M => .stop y M) else Mt.wishedF w r (i + 1) M
def Mt.test (bits : List Int) : Tst → Mt → Out Bool
  | .not t, M => match Mt.test bits t M with
    | .ok b M => .ok (!b) M
    | .stop y M => .stop y M
  | .given i, M => .ok (decide (bits[i]? = some 1)) M
  | .set x, M => .ok (M.cell x).isSome M
  | .same x y, M => match M.cell x, M.cell y with
    | some a, some b => .ok (decide (a = b)) M
    | _, _ => .stop "name" M
  | .full x f, M => match M.cell x with
    | none => .stop "name" M
    | some c => match M.fld c f with
      | none => .ok false M
      | some p => match M.askC p.1 with
        | .ok b M => .ok (!b) M
        | .stop y M => .stop y M
  | .wished w, M => Mt.wishedF w M.wish 0 M
def Mt.stand (M : Mt) (x : Str) (c : Option Nat) : Mt := { M with stands := putT M.stands x c }
def Mt.fill (M : Mt) (h : Nat) (f : Str) (v : Option (Nat × Bool)) : Mt := { M with cont := M.cont.set h (putT (M.row h) f v) }
def Mt.tell (M : Mt) (x : Said) : Mt := { M with said := M.said ++ [x] }
def Mt.made (M : Mt) (x : Str) : Mt := { M with cont := M.cont ++ [[]], wish := M.wish ++ [none], lost := M.lost ++ [false], stands := putT M.stands x (some M.cont.length) }
def Mt.deed (bits : List Int) : Stm → Mt → Out Unit
  | .make x, M => .ok () (M.made x)
  | .wish x w, M => match M.cell x with
    | some c => .ok () { M with wish := M.wish.set c (some w) }
    | none => .stop "name" M
  | .keep x, M => match M.cell x with
    | some c => .ok () { M with kept := addK M.kept c }
    | none => .stop "name" M
  | .name x y, M => match M.cell y with
    | some c => .ok () (M.stand x (some c))
    | none => .stop "name" M
  | .drop x, M => .ok () (M.stand x none)
  | .hold x f y, M => match M.cell x, M.cell y with
    | some h, some c => .ok () (M.fill h f (some (c, true)))
    | _, _ => .stop "name" M
  | .weak x f y, M => match M.cell x, M.cell y with
    | some h, some c => .ok () (M.fill h f (some (c, false)))
    | _, _ => .stop "name" M
  | .cut x f, M => match M.cell x with
    | some h => .ok () (M.fill h f none)
    | none => .stop "name" M
  | .take z x f, M => match M.cell x with
    | none => .stop "name" M
    | some h => match M.fld h f with
      | none => .ok () (M.stand z none)
      | some p => match M.askC p.1 with
        | .ok b M => .ok () (M.stand z (if b then none else some p.1))
        | .stop y M => .stop y M
  | .say w, M => .ok () (M.tell (.w w))
  | .ask t, M => match M.test bits t with
    | .ok b M => .ok () (M.tell (if b then .yes else .no))
    | .stop y M => .stop y M
  | .ife _ _ _, M => .ok () M
  | .rep _ _, M => .ok () M
def Mt.fin (M : Mt) : Mt := { M with there := M.there ++ [M.lost.length - M.clr.length] }
/-- the moment's end behind a deed -/
def Out.fin : Out Unit → Out Unit
  | .ok _ M => .ok () M.fin
  | .stop y M => .stop y M
def Mt.enter (bg : Mt → Mt) (M : Mt) (p : Nat) : Mt := bg { M with place := (p : Int), moment := M.moment + 1 }
def repN (f : Mt → Out Unit) : Nat → Mt → Out Unit
  | 0, M => .ok () M
  | k + 1, M => match f M with
    | .ok _ M => repN f k M
    | .stop y M => .stop y M
mutual
/-- a statement at a place, the moment begun -/
def exec1 (bg : Mt → Mt) (bits : List Int) : Stm → Nat → Mt → Out Unit
  | .ife t a b, p, M => match M.test bits t with
    | .ok true M => execL bg bits a (p + 1) M.fin
    | .ok false M => execL bg bits b (p + 1 + Stm.cnts a) M.fin
    | .stop y M => .stop y M
  | .rep k b, p, M => repN (fun M => execL bg bits b (p + 1) M) k M.fin
  | x, _, M => (M.deed bits x).fin
/-- a block whose first statement has this place -/
def execL (bg : Mt → Mt) (bits : List Int) : List Stm → Nat → Mt → Out Unit
  | [], _, M => .ok () M
  | x :: r, p, M => match exec1 bg bits x p (M.enter bg p) with
    | .ok _ M => execL bg bits r (p + x.cnt) M
    | .stop y M => .stop y M
end
/-- how many fields there are -/
def szC : List (List (Str × Option (Nat × Bool))) → Nat
  | [] => 0
  | r :: l => r.length + szC l
theorem szC_app : ∀ {l m : List (List (Str × Option (Nat × Bool)))}, szC (l ++ m) = szC l + szC m
  | [], m => by simp [szC]
  | r :: l, m => by simp only [List.cons_append, szC, szC_app (l := l)]; omega
theorem szC_set : ∀ {l : List (List (Str × Option (Nat × Bool)))} {h : Nat} {r : List (Str × Option (Nat × Bool))}, r.length ≤ ((l[h]?).getD []).length + 1 → szC (l.set h r) ≤ szC l + 1
  | [], h, r, _ => by simp [szC]
  | q :: l, 0, r, e => by simp at e; simp only [List.set_cons_zero, szC]; omega
  | q :: l, h + 1, r, e => by
    have := szC_set (l := l) (h := h) (r := r) (by simpa using e)
    simp only [List.set_cons_succ, szC]; omega
/-- what is right of a state: cells that are there; nothing is larger than B -/
structure MOk (B : Nat) (M : Mt) : Prop where
  std : ∀ p ∈ M.stands, ∀ c, p.2 = some c → c < M.cont.length
  rws : ∀ r ∈ M.cont, r.length ≤ B ∧ ∀ p ∈ r, ∀ q, p.2 = some q → q.1 < M.cont.length
  wl : M.wish.length = M.cont.length
  ll : M.lost.length = M.cont.length
  kpt : ∀ c ∈ M.kept, c < M.cont.length
  s1 : M.stands.length ≤ B
  s2 : M.kept.length ≤ B
  s3 : M.cont.length ≤ B
  s4 : M.rep.length ≤ 200
  s5 : M.said.length ≤ B
  s6 : M.clr.length ≤ M.lost.count true
  s7 : M.there.length ≤ B
  s8 : szC M.cont ≤ B
section
variable {M : Mt} {B : Nat} {x f : Str}
theorem MOk.cl (O : MOk B M) : M.clr.length ≤ M.lost.length := Nat.le_trans O.s6 List.count_le_length
theorem MOk.mono {B' : Nat} (O : MOk B M) (h : B ≤ B') : MOk B' M := by
  obtain ⟨a1, a2, a3, a4, a5, a6, a7, a8, a9, a10, a11, a12, a13⟩ := O
  exact ⟨a1, fun r hr => ⟨by have := (a2 r hr).1; omega, (a2 r hr).2⟩, a3, a4, a5, by omega, by omega, by omega, a9, by omega, a11, by omega, by omega⟩
theorem MOk.cell (O : MOk B M) {c : Nat} (h : M.cell x = some c) : c < M.cont.length := by
  unfold Mt.cell at h
  cases e : getT M.stands x with
  | none => rw [e] at h; cases h
  | some o =>
    rw [e] at h
    exact O.std _ (getT_mem e) c h
theorem MOk.fld (O : MOk B M) {c : Nat} {p : Nat × Bool} (h : M.fld c f = some p) : p.1 < M.cont.length := by
  unfold Mt.fld at h
  cases e : getT (M.row c) f with
  | none => rw [e] at h; cases h
  | some o =>
    rw [e] at h
    unfold Mt.row at e
    cases e2 : M.cont[c]? with
    | none => rw [e2] at e; simp [getT] at e
    | some r =>
      rw [e2] at e
      exact (O.rws r (List.mem_of_getElem? e2)).2 _ (getT_mem e) p h
theorem MOk.stand (O : MOk B M) {c : Option Nat} (h : ∀ d, c = some d → d < M.cont.length) : MOk (B + 1) (M.stand x c) := by
  obtain ⟨a1, a2, a3, a4, a5, a6, a7, a8, a9, a10, a11, a12, a13⟩ := O
  refine ⟨fun p hp d hd => ?_, fun r hr => ⟨by have := (a2 r hr).1; omega, (a2 r hr).2⟩, a3, a4, a5, ?_, by show M.kept.length ≤ _; omega, by show M.cont.length ≤ _; omega, a9, by show M.said.length ≤ _; omega, a11, by show M.there.length ≤ _; omega, by show szC M.cont ≤ _; omega⟩
  · rcases putT_mem hp with z | z
    · exact a1 p z d hd
    · rw [z] at hd; exact h d hd
  · exact Nat.le_trans putT_len (by omega)
theorem MOk.fill (O : MOk B M) {h : Nat} {v : Option (Nat × Bool)} (hv : ∀ q, v = some q → q.1 < M.cont.length) : MOk (B + 1) (M.fill h f v) := by
  have hl : (M.fill h f v).cont.length = M.cont.length := by simp [Mt.fill]
  obtain ⟨a1, a2, a3, a4, a5, a6, a7, a8, a9, a10, a11, a12, a13⟩ := O
  refine ⟨fun p hp d hd => by rw [hl]; exact a1 p hp d hd, fun r hr => ?_, by rw [hl]; exact a3, by rw [hl]; exact a4, fun c hc => by rw [hl]; exact a5 c hc, by show M.stands.length ≤ _; omega, by show M.kept.length ≤ _; omega, by rw [hl]; omega, a9, by show M.said.length ≤ _; omega, a11, by show M.there.length ≤ _; omega, by show szC (M.cont.set h (putT (M.row h) f v)) ≤ B + 1; have := szC_set (l := M.cont) (h := h) (r := putT (M.row h) f v) putT_len; omega⟩
  rw [hl]
  have hr : r ∈ M.cont.set h (putT (M.row h) f v) := hr
  rcases List.mem_or_eq_of_mem_set hr with z | z
  · exact ⟨by have := (a2 r z).1; omega, (a2 r z).2⟩
  · subst z
    have rw1 : (M.row h).length ≤ B ∧ ∀ p ∈ M.row h, ∀ q, p.2 = some q → q.1 < M.cont.length := by
      unfold Mt.row
      cases e : M.cont[h]? with
      | none => exact ⟨by simp, by simp⟩
      | some r => exact a2 r (List.mem_of_getElem? e)
    refine ⟨Nat.le_trans putT_len (by omega), fun p hp q hq => ?_⟩
    rcases putT_mem hp with z | z
    · exact rw1.2 p z q hq
    · rw [z] at hq; exact hv q hq
theorem MOk.tell (O : MOk B M) {y : Said} : MOk (B + 1) (M.tell y) := by
  obtain ⟨a1, a2, a3, a4, a5, a6, a7, a8, a9, a10, a11, a12, a13⟩ := O
  exact ⟨a1, fun r hr => ⟨by have := (a2 r hr).1; omega, (a2 r hr).2⟩, a3, a4, a5, by show M.stands.length ≤ _; omega, by show M.kept.length ≤ _; omega, by show M.cont.length ≤ _; omega, a9, by show (M.said ++ [y]).length ≤ _; simp; omega, a11, by show M.there.length ≤ _; omega, by show szC M.cont ≤ _; omega⟩
theorem MOk.fin (O : MOk B M) : MOk (B + 1) M.fin := by
  obtain ⟨a1, a2, a3, a4, a5, a6, a7, a8, a9, a10, a11, a12, a13⟩ := O
  exact ⟨a1, fun r hr => ⟨by have := (a2 r hr).1; omega, (a2 r hr).2⟩, a3, a4, a5, by show M.stands.length ≤ _; omega, by show M.kept.length ≤ _; omega, by show M.cont.length ≤ _; omega, a9, by show M.said.length ≤ _; omega, a11, by show (M.there ++ [_]).length ≤ _; simp; omega, by show szC M.cont ≤ _; omega⟩
theorem MOk.made (O : MOk B M) : MOk (B + 1) (M.made x) := by
  have hl : (M.made x).cont.length = M.cont.length + 1 := by simp [Mt.made]
  obtain ⟨a1, a2, a3, a4, a5, a6, a7, a8, a9, a10, a11, a12, a13⟩ := O
  refine ⟨fun p hp d hd => ?_, fun r hr => ?_, by rw [hl]; simp [Mt.made, a3], by rw [hl]; simp [Mt.made, a4], fun c hc => by rw [hl]; have := a5 c hc; omega, ?_, by show M.kept.length ≤ _; omega, by rw [hl]; omega, a9, by show M.said.length ≤ _; omega, by show M.clr.length ≤ (M.lost ++ [false]).count true; rw [List.count_append]; omega, by show M.there.length ≤ _; omega, by show szC (M.cont ++ [[]]) ≤ _; rw [szC_app]; simp only [szC, List.length_nil]; omega⟩
  · rw [hl]
    rcases putT_mem (show p ∈ putT M.stands x (some M.cont.length) from hp) with z | z
    · have := a1 p z d hd; omega
    · rw [z] at hd; cases hd; omega
  · rw [hl]
    rcases List.mem_append.mp (show r ∈ M.cont ++ [[]] from hr) with z | z
    · exact ⟨by have := (a2 r z).1; omega, fun p hp q hq => by have := (a2 r z).2 p hp q hq; omega⟩
    · simp at z
      subst z
      exact ⟨by simp, by simp⟩
  · exact Nat.le_trans putT_len (by omega)
theorem MOk.askC (O : MOk B M) {c : Nat} {b : Bool} {M' : Mt} (h : M.askC c = .ok b M') : MOk B M' ∧ M'.cont = M.cont ∧ M' = { M with rep := M.rep ++ [b] } ∧ b = (M.lost[c]?).getD false ∧ M.rep.length < 200 := by
  unfold Mt.askC at h
  split at h
  · cases h
  · rename_i e
    cases h
    obtain ⟨a1, a2, a3, a4, a5, a6, a7, a8, a9, a10, a11, a12, a13⟩ := O
    exact ⟨⟨a1, a2, a3, a4, a5, a6, a7, a8, by show (M.rep ++ [_]).length ≤ _; simp; omega, a10, a11, a12, a13⟩, rfl, rfl, rfl, by omega⟩
/-- what an Out left -/
def Out.st {α : Type} : Out α → Mt
  | .ok _ M => M
  | .stop _ M => M
theorem MOk.askS (O : MOk B M) {c : Nat} : MOk B (M.askC c).st ∧ ∃ r, (M.askC c).st = { M with rep := r } := by
  cases h : M.askC c with
  | ok b M' =>
    obtain ⟨O', _, e, _⟩ := O.askC h
    exact ⟨O', _, e⟩
  | stop y M' =>
    unfold Mt.askC at h
    split at h
    · cases h; exact ⟨O, M.rep, rfl⟩
    · cases h
theorem MOk.wishS {w : Str} : ∀ {l : List (Option Str)} {i : Nat} {M : Mt}, MOk B M → MOk B (Mt.wishedF w l i M).st ∧ ∃ r, (Mt.wishedF w l i M).st = { M with rep := r }
  | [], _, M, O => ⟨O, M.rep, rfl⟩
  | o :: l, i, M, O => by
    unfold Mt.wishedF
    split
    · obtain ⟨O', r, e⟩ := O.askS (c := i)
      cases h : M.askC i with
      | stop y M' => rw [h] at O' e; exact ⟨O', r, e⟩
      | ok b M' =>
        rw [h] at O' e
        cases b with
        | true => exact ⟨O', r, e⟩
        | false =>
          obtain ⟨O2, r2, e2⟩ := MOk.wishS (w := w) (l := l) (i := i + 1) (M := M') O'
          refine ⟨O2, r2, ?_⟩
          simp only
          rw [e2]
          have e : M' = { M with rep := r } := e
          rw [e]
    · exact MOk.wishS O
theorem MOk.testS {bits : List Int} : ∀ {t : Tst} {M : Mt}, MOk B M → MOk B (M.test bits t).st ∧ ∃ r, (M.test bits t).st = { M with rep := r }
  | .not t, M, O => by
    obtain ⟨O', r, e⟩ := MOk.testS (bits := bits) (t := t) O
    unfold Mt.test
    cases h : M.test bits t with
    | ok b M' => rw [h] at O' e; exact ⟨O', r, e⟩
    | stop y M' => rw [h] at O' e; exact ⟨O', r, e⟩
  | .given i, M, O => ⟨O, M.rep, rfl⟩
  | .set x, M, O => ⟨O, M.rep, rfl⟩
  | .same x y, M, O => by
    unfold Mt.test
    split <;> exact ⟨O, M.rep, rfl⟩
  | .full x f, M, O => by
    unfold Mt.test
    split
    · exact ⟨O, M.rep, rfl⟩
    · split
      · exact ⟨O, M.rep, rfl⟩
      · rename_i p _
        obtain ⟨O', r, e⟩ := O.askS (c := p.1)
        cases h : M.askC p.1 with
        | ok b M' => rw [h] at O' e; exact ⟨O', r, e⟩
        | stop y M' => rw [h] at O' e; exact ⟨O', r, e⟩
  | .wished w, M, O => by
    unfold Mt.test
    exact MOk.wishS O
theorem MOk.test (O : MOk B M) {bits : List Int} {t : Tst} {b : Bool} {M' : Mt} (h : M.test bits t = .ok b M') : MOk B M' ∧ ∃ r, M' = { M with rep := r } := by
  have := O.testS (bits := bits) (t := t)
  rw [h] at this
  exact this
end
end Sm

/-! S50: executed programs leave right states -/
namespace Sm
open PySem L2
section
variable {M : Mt} {B : Nat} {bits : List Int} {bg : Mt → Mt}
theorem MOk.at0 {p t : Int} (O : MOk B M) : MOk B { M with place := p, moment := t } := by
  obtain ⟨a1, a2, a3, a4, a5, a6, a7, a8, a9, a10, a11, a12, a13⟩ := O
  exact ⟨a1, a2, a3, a4, a5, a6, a7, a8, a9, a10, a11, a12, a13⟩
theorem MOk.wishSet (O : MOk B M) {c : Nat} {w : Str} : MOk B { M with wish := M.wish.set c (some w) } := by
  obtain ⟨a1, a2, a3, a4, a5, a6, a7, a8, a9, a10, a11, a12, a13⟩ := O
  exact ⟨a1, a2, by simpa using a3, a4, a5, a6, a7, a8, a9, a10, a11, a12, a13⟩
theorem MOk.keepC (O : MOk B M) {c : Nat} (h : c < M.cont.length) : MOk (B + 1) { M with kept := addK M.kept c } := by
  obtain ⟨a1, a2, a3, a4, a5, a6, a7, a8, a9, a10, a11, a12, a13⟩ := O
  refine ⟨a1, fun r hr => ⟨by have := (a2 r hr).1; omega, (a2 r hr).2⟩, a3, a4, fun d hd => ?_, by show M.stands.length ≤ _; omega, Nat.le_trans addK_len (by omega), by show M.cont.length ≤ _; omega, a9, by show M.said.length ≤ _; omega, a11, by show M.there.length ≤ _; omega, by show szC M.cont ≤ _; omega⟩
  rcases addK_mem.mp hd with z | z
  · exact a5 d z
  · subst z; exact h
theorem MOk.deedS (O : MOk B M) {x : Stm} : MOk (B + 1) (M.deed bits x).st := by
  have O1 := O.mono (B' := B + 1) (by omega)
  cases x with
  | make x => exact O.made
  | wish x w =>
    simp only [Mt.deed]
    cases h : M.cell x with
    | none => exact O1
    | some c => exact O1.wishSet
  | keep x =>
    simp only [Mt.deed]
    cases h : M.cell x with
    | none => exact O1
    | some c => exact O.keepC (O.cell h)
  | name x y =>
    simp only [Mt.deed]
    cases h : M.cell y with
    | none => exact O1
    | some c => exact O.stand fun d hd => by cases hd; exact O.cell h
  | drop x => exact O.stand fun d hd => by cases hd
  | hold x f y =>
    simp only [Mt.deed]
    cases h : M.cell x with
    | none => exact O1
    | some a =>
      cases h2 : M.cell y with
      | none => exact O1
      | some c => exact O.fill fun q hq => by cases hq; exact O.cell h2
  | weak x f y =>
    simp only [Mt.deed]
    cases h : M.cell x with
    | none => exact O1
    | some a =>
      cases h2 : M.cell y with
      | none => exact O1
      | some c => exact O.fill fun q hq => by cases hq; exact O.cell h2
  | cut x f =>
    simp only [Mt.deed]
    cases h : M.cell x with
    | none => exact O1
    | some a => exact O.fill fun q hq => by cases hq
  | take z x f =>
    simp only [Mt.deed]
    cases h : M.cell x with
    | none => exact O1
    | some c =>
      simp only
      cases hf : M.fld c f with
      | none => exact O.stand fun d hd => by cases hd
      | some p =>
        simp only
        cases ha : M.askC p.1 with
        | stop y M' =>
          have := O.askS (c := p.1)
          rw [ha] at this
          exact this.1.mono (by omega)
        | ok b M' =>
          obtain ⟨O', c1, _⟩ := O.askC ha
          refine O'.stand fun d hd => ?_
          rw [c1]
          cases b with
          | true => simp at hd
          | false => simp at hd; subst hd; exact O.fld hf
  | say w => exact O.tell
  | ask t =>
    simp only [Mt.deed]
    have := O.testS (bits := bits) (t := t)
    cases h : M.test bits t with
    | stop y M' => rw [h] at this; exact this.1.mono (by omega)
    | ok b M' => rw [h] at this; exact MOk.tell this.1
  | ife t a b => exact O1
  | rep k b => exact O1
theorem MOk.enter (hbg : ∀ B M, MOk B M → MOk B (bg M)) (O : MOk B M) {p : Nat} : MOk B (M.enter bg p) := hbg _ _ O.at0
theorem MOk.repS {f : Mt → Out Unit} {w : Nat} (h : ∀ B M, MOk B M → MOk (B + w) (f M).st) : ∀ {k B : Nat} {M : Mt}, MOk B M → MOk (B + k * w) (repN f k M).st
  | 0, B, M, O => O.mono (by omega)
  | k + 1, B, M, O => by
    have h1 := h B M O
    unfold repN
    have e : B + (k + 1) * w = B + w + k * w := by rw [Nat.succ_mul]; omega
    cases q : f M with
    | stop y M' =>
      rw [q] at h1
      exact MOk.mono (M := M') h1 (by rw [e]; omega)
    | ok a M' =>
      rw [q] at h1
      rw [e]
      exact MOk.repS h (B := B + w) (M := M') h1
theorem MOk.oneS {x : Stm} (O : MOk B M) : MOk (B + 2) (M.deed bits x).fin.st := by
  have h := O.deedS (bits := bits) (x := x)
  cases q : M.deed bits x with
  | ok a M' => rw [q] at h; exact MOk.fin (M := M') h
  | stop y M' => rw [q] at h; exact MOk.mono (M := M') h (by omega)
mutual
theorem MOk.exec1S (hbg : ∀ B M, MOk B M → MOk B (bg M)) : ∀ (x : Stm) {p B : Nat} {M : Mt}, MOk B M → MOk (B + 2 * x.wgt) (exec1 bg bits x p M).st
  | .ife t a b, p, B, M, O => by
    unfold exec1
    have ht := O.testS (bits := bits) (t := t)
    have w : (Stm.ife t a b).wgt = 1 + Stm.wgts a + Stm.wgts b := by simp only [Stm.wgt]
    rw [w]
    cases h : M.test bits t with
    | stop y M' => rw [h] at ht; exact MOk.mono (M := M') ht.1 (by omega)
    | ok c M' =>
      rw [h] at ht
      have O1 := MOk.fin (M := M') ht.1
      cases c with
      | true => exact (MOk.execLS hbg a (p := p + 1) O1).mono (by omega)
      | false => exact (MOk.execLS hbg b (p := p + 1 + Stm.cnts a) O1).mono (by omega)
  | .rep k b, p, B, M, O => by
    unfold exec1
    have w : (Stm.rep k b).wgt = 1 + k * Stm.wgts b := by simp only [Stm.wgt]
    rw [w]
    have h := MOk.repS (f := fun M => execL bg bits b (p + 1) M) (w := 2 * Stm.wgts b) (fun B M O => MOk.execLS hbg b O) (k := k) (O.fin)
    refine h.mono ?_
    have : k * (2 * Stm.wgts b) = 2 * (k * Stm.wgts b) := by rw [Nat.mul_left_comm]
    omega
  | .make x, p, B, M, O => by unfold exec1; simp only [Stm.wgt]; exact MOk.oneS O
  | .wish x w, p, B, M, O => by unfold exec1; simp only [Stm.wgt]; exact MOk.oneS O
  | .keep x, p, B, M, O => by unfold exec1; simp only [Stm.wgt]; exact MOk.oneS O
  | .name x y, p, B, M, O => by unfold exec1; simp only [Stm.wgt]; exact MOk.oneS O
  | .drop x, p, B, M, O => by unfold exec1; simp only [Stm.wgt]; exact MOk.oneS O
  | .hold x f y, p, B, M, O => by unfold exec1; simp only [Stm.wgt]; exact MOk.oneS O
  | .weak x f y, p, B, M, O => by unfold exec1; simp only [Stm.wgt]; exact MOk.oneS O
  | .cut x f, p, B, M, O => by unfold exec1; simp only [Stm.wgt]; exact MOk.oneS O
  | .take z x f, p, B, M, O => by unfold exec1; simp only [Stm.wgt]; exact MOk.oneS O
  | .say w, p, B, M, O => by unfold exec1; simp only [Stm.wgt]; exact MOk.oneS O
  | .ask t, p, B, M, O => by unfold exec1; simp only [Stm.wgt]; exact MOk.oneS O
theorem MOk.execLS (hbg : ∀ B M, MOk B M → MOk B (bg M)) : ∀ (b : List Stm) {p B : Nat} {M : Mt}, MOk B M → MOk (B + 2 * Stm.wgts b) (execL bg bits b p M).st
  | [], p, B, M, O => O.mono (by omega)
  | x :: r, p, B, M, O => by
    unfold execL
    have O1 := O.enter hbg (p := p)
    have h1 := MOk.exec1S hbg x (p := p) O1
    have w : Stm.wgts (x :: r) = x.wgt + Stm.wgts r := by simp only [Stm.wgts]
    rw [w]
    cases q : exec1 bg bits x p (M.enter bg p) with
    | stop y M' => rw [q] at h1; exact MOk.mono (M := M') h1 (by omega)
    | ok a M' =>
      rw [q] at h1
      exact (MOk.execLS hbg r (p := p + x.cnt) (M := M') h1).mono (by omega)
end
end
end Sm

/-! S56: what is reached, what comes to a cell, what a moment clears; plain Lean -/
namespace Sm
open PySem L2
/-- the cells that a row of fields holds -/
def heldR (r : List (Str × Option (Nat × Bool))) : List Nat := r.filterMap fun p => match p.2 with
  | some (c, true) => some c
  | _ => none
def Mt.held (M : Mt) (h : Nat) : List Nat := heldR (M.row h)
inductive Mt.Rc (M : Mt) (S : Nat → Prop) : Nat → Prop
  | base {x : Nat} : S x → Mt.Rc M S x
  | step {x y : Nat} : Mt.Rc M S x → y ∈ M.held x → Mt.Rc M S y
inductive Mt.Cm (M : Mt) (w : Nat) : Nat → Prop
  | base : Mt.Cm M w w
  | step {x y : Nat} : x < M.cont.length → M.lost[x]? = some false → y ∈ M.held x → Mt.Cm M w y → Mt.Cm M w x
def Mt.start (M : Mt) (c : Nat) : Prop := c ∈ M.kept ∨ ∃ p ∈ M.stands, p.2 = some c
abbrev Mt.Reached (M : Mt) (c : Nat) : Prop := M.Rc M.start c
/-- the cells that are cleared now, if ws are wanted -/
def Mt.Goes (M : Mt) (ws : List Nat) (c : Nat) : Prop := ∃ w ∈ ws, M.lost[w]? = some false ∧ ¬ M.Reached w ∧ M.Cm w c
noncomputable def pick (n : Nat) (P : Nat → Prop) : List Nat := (List.range n).filter fun c => @decide (P c) (Classical.propDecidable _)
noncomputable def Mt.gone (M : Mt) (ws : List Nat) : List Nat := pick M.cont.length (M.Goes ws)
def Mt.clear (M : Mt) (l : List Nat) : Mt := { M with lost := l.foldl (fun a c => a.set c true) M.lost, clr := M.clr ++ l.map fun c => (M.moment, c) }
noncomputable def Mt.begin (want : Int → List Nat) (shut : Int → Bool) (M : Mt) : Mt := if shut M.place then M else M.clear (M.gone (want M.moment))
theorem mem_pick {n c : Nat} {P : Nat → Prop} : c ∈ pick n P ↔ c < n ∧ P c := by
  unfold pick
  rw [List.mem_filter, List.mem_range, @decide_eq_true_iff (P c) (Classical.propDecidable _)]
theorem pick_inc {n : Nat} {P : Nat → Prop} : (pick n P).Pairwise (· < ·) := List.Pairwise.filter _ List.pairwise_lt_range
theorem pick_nodup {n : Nat} {P : Nat → Prop} : (pick n P).Nodup := pick_inc.imp fun h => Nat.ne_of_lt h
section
variable {M : Mt} {B : Nat}
theorem mem_heldR {r : List (Str × Option (Nat × Bool))} {c : Nat} : c ∈ heldR r ↔ ∃ p ∈ r, p.2 = some (c, true) := by
  unfold heldR
  rw [List.mem_filterMap]
  constructor
  · rintro ⟨p, hp, e⟩
    refine ⟨p, hp, ?_⟩
    split at e
    · rename_i d q; cases e; exact q
    · cases e
  · rintro ⟨p, hp, e⟩
    exact ⟨p, hp, by rw [e]⟩
theorem MOk.held (O : MOk B M) {h c : Nat} (hc : c ∈ M.held h) : c < M.cont.length := by
  unfold Mt.held Mt.row at hc
  cases e : M.cont[h]? with
  | none => rw [e] at hc; simp [heldR] at hc
  | some r =>
    rw [e] at hc
    obtain ⟨p, hp, q⟩ := mem_heldR.mp hc
    exact (O.rws r (List.mem_of_getElem? e)).2 p hp _ q
theorem MOk.cm_lt (O : MOk B M) {w c : Nat} (hw : M.lost[w]? = some false) (h : M.Cm w c) : c < M.cont.length ∧ M.lost[c]? = some false := by
  cases h with
  | base =>
    have := (List.getElem?_eq_some_iff.mp hw).1
    rw [O.ll] at this
    exact ⟨this, hw⟩
  | step a b _ _ => exact ⟨a, b⟩
theorem MOk.goes (O : MOk B M) {ws : List Nat} {c : Nat} (h : M.Goes ws c) : c < M.cont.length ∧ M.lost[c]? = some false := by
  obtain ⟨w, _, h1, _, h3⟩ := h
  exact O.cm_lt h1 h3
theorem count_set : ∀ {l : List Bool} {c : Nat}, l[c]? = some false → (l.set c true).count true = l.count true + 1
  | [], c, h => by simp at h
  | b :: l, 0, h => by
    simp at h
    subst h
    simp
  | b :: l, c + 1, h => by
    have := count_set (l := l) (c := c) (by simpa using h)
    simp only [List.set_cons_succ, List.count_cons, this]
    omega
theorem clear_len : ∀ {l : List Nat} {a : List Bool}, (l.foldl (fun a c => a.set c true) a).length = a.length
  | [], a => rfl
  | c :: l, a => by
    rw [List.foldl_cons, clear_len]
    simp
theorem clear_count : ∀ {l : List Nat} {a : List Bool}, l.Nodup → (∀ c ∈ l, a[c]? = some false) → (l.foldl (fun a c => a.set c true) a).count true = a.count true + l.length
  | [], a, _, _ => rfl
  | c :: l, a, nd, h => by
    obtain ⟨n1, n2⟩ := List.nodup_cons.mp nd
    rw [List.foldl_cons, clear_count n2 fun d hd => ?_, count_set (h c (List.mem_cons_self ..)), List.length_cons]
    · omega
    · rw [List.getElem?_set_ne (fun e => n1 (by rw [e]; exact hd))]
      exact h d (List.mem_cons_of_mem _ hd)
theorem MOk.clear (O : MOk B M) {l : List Nat} (nd : l.Nodup) (h : ∀ c ∈ l, M.lost[c]? = some false) : MOk B (M.clear l) := by
  obtain ⟨a1, a2, a3, a4, a5, a6, a7, a8, a9, a10, a11, a12, a13⟩ := O
  refine ⟨a1, a2, a3, ?_, a5, a6, a7, a8, a9, a10, ?_, a12, a13⟩
  · show (l.foldl (fun a c => a.set c true) M.lost).length = _
    rw [clear_len]; exact a4
  · show (M.clr ++ l.map fun c => (M.moment, c)).length ≤ (l.foldl (fun a c => a.set c true) M.lost).count true
    rw [clear_count nd h, List.length_append, List.length_map]
    omega
theorem MOk.begin (O : MOk B M) {want : Int → List Nat} {shut : Int → Bool} : MOk B (M.begin want shut) := by
  unfold Mt.begin
  split
  · exact O
  · exact O.clear pick_nodup fun c hc => (O.goes (mem_pick.mp hc).2).2
/-- what is not yet gone through of the fields -/
def potL : List (List (Str × Option (Nat × Bool))) → List Bool → Nat
  | r :: rs, b :: bs => (if b then 0 else r.length) + potL rs bs
  | _, _ => 0
end
end Sm

/-! S57: d.setdefault(k, x), computed; a plan's wishes -/
namespace Sm
open PySem L2
section
variable {s : Sto} {lo : Lo} {QV : Vl → Sto → Prop} {E : Ex → Sto → Prop}
def setW (j : Nat) (y z : Vl) (s : Sto) (QV : Vl → Sto → Prop) : Prop := match s[j]?, keyOf y with
  | some (.dic kvs), some key => kvs.length < LIM ∧ match look kvs key with
    | some w => QV w s
    | none => QV z (s.set j (.dic (put kvs key z)))
  | _, _ => False
@[simp ↓] theorem WE_eDSet {d k v : EM} : WE (eDSet d k v lo) s QV E = WE (d lo) s (fun x s => dicW x s fun j => WE (k lo) s (fun y s => WE (v lo) s (fun z s => setW j y z s QV) E) E) E := by
  unfold eDSet
  rw [WE_bnd]
  refine WE_ext fun x s => ?_
  cases x <;> try (simp only [WE_eq]; rfl)
  rename_i j
  unfold dicW
  by_cases h : isDic j s = true
  · simp only [h, true_and]
    refine Eq.trans (b := WE (bnd (k lo) fun y => bnd (v lo) fun z s => match s[j]?, keyOf y with | some (.dic kvs), some key => if kvs.length < LIM then (match look kvs key with | some w => .ok w s | none => .ok z (s.set j (.dic (put kvs key z)))) else .fail | _, _ => .fail) s QV E) ?_ ?_
    · simp only [WE_eq]; unfold WE0; simp only [h, if_true] <;> rfl
    · rw [WE_bnd]
      refine WE_ext fun y s => ?_
      rw [WE_bnd]
      refine WE_ext fun z s => ?_
      simp only [WE_eq]
      unfold WE0 setW
      dsimp only
      cases s[j]? with
      | none => rfl
      | some o =>
        cases o <;> cases keyOf y <;> try rfl
        rename_i kvs key
        by_cases hl : kvs.length < LIM
        · simp only [hl, if_true, true_and]
          cases look kvs key <;> rfl
        · simp only [hl, if_false, false_and]
  · simp only [h, false_and, Bool.false_eq_true]
    simp only [WE_eq]; unfold WE0; simp only [h, if_false, Bool.false_eq_true]
end
/-- the cells that a plan names at a moment -/
def wantF (pl : List (Int × Nat)) (m : Int) : List Nat := (pl.filter fun p => decide (p.1 = m)).map (·.2)
end Sm

/-! K0C: the law's own judgement of statements -/
namespace K00
open PySem L2 Sm
def cntL : List (Key × Vl) := [(.inr "make", .int 1), (.inr "keep", .int 1), (.inr "drop", .int 1), (.inr "name", .int 2), (.inr "hold", .int 3), (.inr "weak", .int 3), (.inr "cut", .int 2), (.inr "take", .int 3)]
section
variable {s : Sto} {Q : Vl → Sto → Prop}
theorem lwRow {v : Vl} {g : Int} (hv : VOk s v) (hsz : ∀ xs, v = .tup xs → xs.length < 1000000) (k : ∀ s', Fr [] s s' → Q (.bl (stmV g v)) s') : WE (m__law_is_row [v, .int g]) s Q NoX := by
  unfold m__law_is_row b__law_is_row
  simp [oIsi_tuple hv]
  cases v with
  | tup xs =>
    have hL := hsz xs rfl
    clear hsz
    unfold VOk at hv
    match xs, hv, hL, k with
    | [], hu, hL, k => simpa [isTup, stmV, formB] using k s Fr.refl
    | [a], hu, hL, k =>
      simp [isTup]
      have e : stmV g (.tup [a]) = false := by
        cases h : stmV g (.tup [a]) with
        | false => rfl
        | true =>
          obtain ⟨h', xs, e⟩ := form_str h
          cases e
          by_cases e1 : h' = "ask"
          · subst e1; rw [stm_ask] at h; exact h.symm
          by_cases e2 : h' = "say"
          · subst e2; rw [stm_say] at h; exact h.symm
          by_cases e3 : h' = "wish"
          · subst e3; rw [stm_wish] at h; exact h.symm
          by_cases e4 : h' = "repeat"
          · subst e4; rw [stm_repeat] at h; exact h.symm
          by_cases e5 : h' = "if"
          · subst e5; rw [stm_if] at h; exact h.symm
          by_cases e6 : h' = "make" ∨ h' = "keep" ∨ h' = "drop"
          · rw [stm_nm1 e6] at h; simp at h
          by_cases e7 : h' = "name" ∨ h' = "cut"
          · rw [stm_nm2 e7] at h; simp at h
          by_cases e8 : h' = "hold" ∨ h' = "weak" ∨ h' = "take"
          · rw [stm_nm3 e8] at h; simp at h
          simp only [not_or] at e6 e7 e8
          rw [stm_no e1 e2 e3 e4 e5 e6.1 e6.2.1 e6.2.2 e7.1 e7.2 e8.1 e8.2.1 e8.2.2] at h
          exact h.symm
      rw [e] at k
      exact k s Fr.refl
    | a :: b :: r, hu, hL, k =>
      have hn : ¬ ((r.length : Int) + 1 + 1 < 2) := by omega
      have ha := hu.mem a (by simp)
      have hb := hu.mem b (by simp)
      have hr : VOks s (b :: r) := VOks.of fun x hx => hu.mem x (List.mem_cons_of_mem _ hx)
      have hrl : (b :: r).length < 1000000 := by simp at hL ⊢; omega
      have a0 : atI (a :: b :: r) (0 : Int) = some a := atN (n := 0)
      have b0 : atI (b :: r) (0 : Int) = some b := atN (n := 0)
      have c1 : cutL (a :: b :: r) (some (1 : Int)) none = b :: r := cutL_from (n := 1)
      have c2 : cutL (b :: r) (some (1 : Int)) none = r := cutL_from (n := 1)
      simp [isTup, hn, a0, c1, oIsi_str ha]
      cases a with
      | str h =>
        have q1 : opEqS (.str h) (.str "ask") s = _ := eqS_vok ha
        have q2 : opEqS (.str h) (.str "if") s = _ := eqS_vok ha
        have q3 : opEqS (.str h) (.str "repeat") s = _ := eqS_vok ha
        have q4 : opEqS (.str h) (.str "say") s = _ := eqS_vok ha
        have q5 : opEqS (.str h) (.str "wish") s = _ := eqS_vok ha
        simp [isStr, q1, q2, q3, q4, q5]
        simp [eqStr]
        by_cases e1 : h = "ask"
        · subst e1
          rw [stm_ask] at k
          cases r with
          | nil =>
            simp [b0]
            exact lwTest hb k
          | cons c r =>
            have : ¬ ((r.length : Int) + 1 + 1 = 1) := by omega
            simp [this]
            exact k s Fr.refl
        rw [if_neg e1]
        by_cases e2 : h = "if"
        · subst e2
          rw [stm_if] at k
          simp [c2]
          refine lcX_sel (xs := r) s isTup rfl rfl (by simp at hrl; omega) ?_ ?_
          · intro x hx
            refine ⟨[some (.tup (.str "if" :: b :: r)), some (.int g), none, some (.str "if"), some (.tup (b :: r)), none, some x], rfl, fun s' f => ?_⟩
            have := (hu.mem x (by simp [hx])).fr f
            simp [oIsi_tuple this]
            exact Fr.refl
          · intro s1 e f1
            simp
            by_cases hl : r.length = 2
            · have hl' : ((r.length : Int) + 1 == 3) = true := by simp; omega
              simp [hl', b0]
              refine lwTest (hb.fr f1) fun s2 f2 => ?_
              have e2 := f2.at e (by simp)
              simp [e2]
              match r, hl, k, e2 with
              | [c, d], hl, k, e2 =>
                simp only at k
                have k2 := k s2 (f1.trans f2)
                cases ht : tstV g b with
                | false => simpa [ht] using k2
                | true =>
                  simp [ht] at k2
                  cases hc : isTup c <;> cases hd : isTup d <;> simp [hc, hd] at k2 ⊢ <;> exact k2
            · have hl' : ((r.length : Int) + 1 == 3) = false := by simp; omega
              simp [hl']
              match r, hl, k with
              | [], hl, k => exact k s1 f1
              | [c], hl, k => exact k s1 f1
              | c :: d :: z :: r, hl, k => exact k s1 f1
        rw [if_neg e2]
        by_cases e3 : h = "repeat"
        · subst e3
          rw [stm_repeat] at k
          simp
          match r, k with
          | [], k => simp; exact k s Fr.refl
          | [c], k =>
            have hc := hu.mem c (by simp)
            have b1 : atI [b, c] (1 : Int) = some c := atN (n := 1)
            simp [b0]
            refine lwNumber hb ?_
            simp [b1, oIsi_tuple hc]
            have k2 := k s Fr.refl
            simp only at k2
            cases hn : numV 0 12 b with
            | false => simpa [hn] using k2
            | true => simpa [hn] using k2
          | c :: d :: r, k =>
            have : ((r.length : Int) + 1 + 1 + 1 == 2) = false := by simp; omega
            have this' : ¬ ((r.length : Int) + 1 + 1 + 1 = 2) := by omega
            simp [this, this']
            exact k s Fr.refl
        rw [if_neg e3]
        by_cases e4 : h = "say"
        · subst e4
          rw [stm_say] at k
          simp
          match r, k with
          | [], k => simp [b0]; exact lwWord hb k
          | c :: r, k =>
            have : ((r.length : Int) + 1 + 1 == 1) = false := by simp; omega
            have this' : ¬ ((r.length : Int) + 1 + 1 = 1) := by omega
            simp [this, this']
            exact k s Fr.refl
        rw [if_neg e4]
        by_cases e5 : h = "wish"
        · subst e5
          rw [stm_wish] at k
          simp
          match r, k with
          | [], k => simp; exact k s Fr.refl
          | [c], k =>
            have hc := hu.mem c (by simp)
            have b1 : atI [b, c] (1 : Int) = some c := atN (n := 1)
            simp [b0]
            refine lwName hb fun s1 f1 => ?_
            have k2 := fun s2 (f2 : Fr [] s1 s2) => k s2 (f1.trans f2)
            cases hn : nmV b with
            | false => simpa [hn] using k2 s1 Fr.refl
            | true =>
              simp [b1]
              refine lwWord (hc.fr f1) fun s2 f2 => by simpa [hn] using k2 s2 f2
          | c :: d :: r, k =>
            have : ((r.length : Int) + 1 + 1 + 1 == 2) = false := by simp; omega
            have this' : ¬ ((r.length : Int) + 1 + 1 + 1 = 2) := by omega
            simp [this, this']
            exact k s Fr.refl
        rw [if_neg e5]
        simp [dictQ]
        have hm : mapO keyP [(Vl.str "make", Vl.int 1), (Vl.str "keep", Vl.int 1), (Vl.str "drop", Vl.int 1), (Vl.str "name", Vl.int 2), (Vl.str "hold", Vl.int 3), (Vl.str "weak", Vl.int 3), (Vl.str "cut", Vl.int 2), (Vl.str "take", Vl.int 3)] = some cntL := rfl
        have hp : mergeP [] cntL = cntL := by first | rfl | (simp [mergeP, cntL, put]; done)
        rw [hm]
        refine ⟨by decide, ?_⟩
        rw [hp]
        obtain ⟨n, n1, n2⟩ : ∃ n : Nat, (look cntL (.inr h)).getD (.int 0) = .int (n : Nat) ∧ stmV g (.tup (.str h :: b :: r)) = (decide ((b :: r).length = n) && (b :: r).all nmV) := by
          by_cases e6 : h = "make" ∨ h = "keep" ∨ h = "drop"
          · exact ⟨1, by rcases e6 with rfl | rfl | rfl <;> rfl, stm_nm1 e6⟩
          by_cases e7 : h = "name" ∨ h = "cut"
          · exact ⟨2, by rcases e7 with rfl | rfl <;> rfl, stm_nm2 e7⟩
          by_cases e8 : h = "hold" ∨ h = "weak" ∨ h = "take"
          · exact ⟨3, by rcases e8 with rfl | rfl | rfl <;> rfl, stm_nm3 e8⟩
          simp only [not_or] at e6 e7 e8
          refine ⟨0, ?_, ?_⟩
          · have z : look cntL (.inr h) = none := by
              simp [cntL, look, Ne.symm e6.1, Ne.symm e6.2.1, Ne.symm e6.2.2, Ne.symm e7.1, Ne.symm e7.2, Ne.symm e8.1, Ne.symm e8.2.1, Ne.symm e8.2.2]
            rw [z]; rfl
          · rw [stm_no e1 e4 e5 e3 e2 e6.1 e6.2.1 e6.2.2 e7.1 e7.2 e8.1 e8.2.1 e8.2.2]
            simp
        rw [n1]
        rw [n2] at k
        have f1 : Fr [] s (s ++ [Ob.dic cntL]) := Fr.refl.push _
        generalize s ++ [Ob.dic cntL] = s1 at f1 ⊢
        by_cases hl : r.length + 1 = n
        · have hl' : ((r.length : Int) + 1 = (n : Nat)) := by omega
          simp [hl']
          exact lwNames (hr.mono f1.ld _) hrl (by simp) fun s' e f => nmEnd e (by simpa [hl] using k _ ((f1.trans f).push _))
        · have hl' : ((r.length : Int) + 1 == (n : Nat)) = false := by simp; omega
          simp [hl']
          simpa [hl] using k _ f1
      | _ => simpa [isStr, stmV, formB] using k s Fr.refl
  | _ => simpa [isTup, stmV, formB] using k s Fr.refl
end
end K00

/-! R1: tests and statements of the F1 generator -/
namespace K00
open PySem L2 Sm
section
variable {s : Sto} {d l c : Nat} {Q : Vl → Sto → Prop} {E : Ex → Sto → Prop}
theorem oneN {p n w : Nat} {N W : List Str} {g : Nat} (D : Dk s d l c) (P : Pl s d l p n w N W g) (hc : c < CM) (k : ∀ x s', Nm x → Pl s' d l p n w N W g → Dk s' d l (c + 1) → Fr [d, l] s s' → Q (.str x) s') : WE (m__law_one [.ref d, .ref n]) s Q E := by
  refine one D P.sn (P.ne n (by simp)) (by simpa using P.n0) (by have := P.n1; simp; omega) hc fun v s' hv D' f => ?_
  obtain ⟨x, hx, rfl⟩ := List.mem_map.mp hv
  exact k x s' (P.nm x hx) (P.frD f) D' f
theorem oneW {p n w : Nat} {N W : List Str} {g : Nat} (D : Dk s d l c) (P : Pl s d l p n w N W g) (hc : c < CM) (k : ∀ x s', Wd x → Pl s' d l p n w N W g → Dk s' d l (c + 1) → Fr [d, l] s s' → Q (.str x) s') : WE (m__law_one [.ref d, .ref w]) s Q E := by
  refine one D P.sw (P.ne w (by simp)) (by simpa using P.w0) (by have := P.w1; simp; omega) hc fun v s' hv D' f => ?_
  obtain ⟨x, hx, rfl⟩ := List.mem_map.mp hv
  exact k x s' (P.wd x hx) (P.frD f) D' f
/-- behind i "not" -/
def AI (d l c p g : Nat) (s0 : Sto) (i : Nat) (lo : Lo) (s' : Sto) : Prop := ∃ (t : Tst) (x2 x4 x5 x6 x7 : Option Vl), lo = [some (.ref d), some (.ref p), x2, some t.vl, x4, x5, x6, x7] ∧ t.ok g i ∧ t.sat Nm Wd ∧ Dk s' d l c ∧ Fr [d, l] s0 s'
theorem anyEnd {p r g : Nat} {xs : List Vl} {x5 x6 x7 : Vl} {s0 : Sto} (D : Dk s d l c) (e : s[r]? = some (.lst xs)) (hr : r ∉ [d, l]) (h0 : 0 < xs.length) (h1 : xs.length ≤ 10) (hx : ∀ v ∈ xs, ∃ t : Tst, v = t.vl ∧ t.ok g 0 ∧ t.sat Nm Wd) (hc : c + 50 < CM) (F : Fr [d, l] s0 s)
    (k : ∀ t s', Tst.ok g 3 t → t.sat Nm Wd → Dk s' d l (c + 2) → Fr [d, l] s0 s' → Q t.vl s') :
    WE (m__law_one [.ref d, .ref r]) s (fun v s => WS (sSeq (sForX (aRng (aCons (eCall (arg 2 m__law_one) (aCons (eVar 0) (aCons (eCB oLst (aCons (eC (.int 0)) (aCons (eC (.int 0)) (aCons (eC (.int 1)) (aCons (eC (.int 2)) (aCons (eC (.int 3)) aNil)))))) aNil))) aNil)) (gNm 4)
      (sSet 3 (eCB oTup (aCons (eC (.str "not")) (aCons (eVar 3) aNil))))) (sRet (eVar 3))) [some (.ref d), some (.ref p), some (.ref r), some v, none, some x5, some x6, some x7] s ⟨fun _ s => Q .non s, Q, fun _ _ => False, fun _ _ => False, fun e _ s => E e s⟩) E := by
  refine one D e hr h0 (by omega) (by omega) fun v s1 hv D1 f1 => ?_
  obtain ⟨t, rfl, t1, t2⟩ := hx v hv
  simp
  refine oneNew D1 (by simp) (by simp) (by omega) fun v2 s2 hv2 D2 f2 => ?_
  obtain ⟨m, rfl, hm⟩ : ∃ m : Nat, v2 = .int m ∧ m ≤ 3 := by
    simp only [List.mem_cons, List.not_mem_nil, or_false] at hv2
    rcases hv2 with rfl | rfl | rfl | rfl | rfl
    · exact ⟨0, rfl, by omega⟩
    · exact ⟨0, rfl, by omega⟩
    · exact ⟨1, rfl, by omega⟩
    · exact ⟨2, rfl, by omega⟩
    · exact ⟨3, rfl, by omega⟩
  simp
  rw [rngW_nat (by omega)]
  refine loopX_inv (AI d l (c + 2) p g s0) ?_ ?_ ?_
  · exact ⟨t, _, _, _, _, _, rfl, t1, t2, D2, (F.trans f1).trans f2⟩
  · rintro i v lo s3 hv ⟨t, x2, x4, x5, x6, x7, rfl, t1, t2, D3, f3⟩
    simp
    exact ⟨.not t, _, _, _, _, _, rfl, t1, t2, D3, f3⟩
  · rintro lo s3 ⟨t, x2, x4, x5, x6, x7, rfl, t1, t2, D3, f3⟩
    rw [rng_len] at t1
    simp
    exact k t s3 (t1.mono hm) t2 D3 f3
theorem anyTest {p n w : Nat} {N W : List Str} {g : Nat} (D : Dk s d l c) (P : Pl s d l p n w N W g) (hc : c + 100 < CM) (k : ∀ t s', Tst.ok g 3 t → t.sat Nm Wd → Pl s' d l p n w N W g → Dk s' d l (c + 6) → Fr [d, l] s s' → Q t.vl s') : WE (m__law_any_test [.ref d, .ref p]) s Q E := by
  unfold m__law_any_test b__law_any_test
  have g4 := P.g4
  simp [P.top]
  refine oneN D P (by omega) fun x s1 nx P1 D1 f1 => ?_
  simp [P1.top]
  refine oneN D1 P1 (by omega) fun y s2 ny P2 D2 f2 => ?_
  simp [P2.top]
  refine oneW D2 P2 (by omega) fun u s3 nu P3 D3 f3 => ?_
  have lt3 := D3.lt
  have F3 : Fr [d, l] s s3 := (f1.trans f2).trans f3
  simp
  have f4 : Fr [] s3 (s3 ++ [Ob.lst [Vl.tup [.str "set", .str x], Vl.tup [.str "same", .str x, .str y], Vl.tup [.str "full", .str x, .str y], Vl.tup [.str "wished", .str u]]]) := Fr.refl.push _
  have e4 : (s3 ++ [Ob.lst [Vl.tup [.str "set", .str x], Vl.tup [.str "same", .str x, .str y], Vl.tup [.str "full", .str x, .str y], Vl.tup [.str "wished", .str u]]])[s3.length]? = some (.lst [Vl.tup [.str "set", .str x], Vl.tup [.str "same", .str x, .str y], Vl.tup [.str "full", .str x, .str y], Vl.tup [.str "wished", .str u]]) := get_last
  have hr : s3.length ∉ [d, l] := by simp; omega
  generalize s3 ++ [Ob.lst [Vl.tup [.str "set", .str x], Vl.tup [.str "same", .str x, .str y], Vl.tup [.str "full", .str x, .str y], Vl.tup [.str "wished", .str u]]] = s4 at f4 e4
  have rl : s.length ≤ s3.length := F3.le
  generalize s3.length = r at e4 hr rl
  have P4 := P3.fr0 f4
  have D4 := D3.new f4
  have F4 : Fr [d, l] s s4 := F3.trans (f4.mono (by simp))
  have base : ∀ v ∈ [Vl.tup [.str "set", .str x], Vl.tup [.str "same", .str x, .str y], Vl.tup [.str "full", .str x, .str y], Vl.tup [.str "wished", .str u]], ∃ t : Tst, v = t.vl ∧ t.ok g 0 ∧ t.sat Nm Wd := by
    intro v hv
    simp only [List.mem_cons, List.not_mem_nil, or_false] at hv
    rcases hv with rfl | rfl | rfl | rfl
    · exact ⟨.set x, rfl, nx.toWd.nice, nx⟩
    · exact ⟨.same x y, rfl, ⟨nx.toWd.nice, ny.toWd.nice⟩, nx, ny⟩
    · exact ⟨.full x y, rfl, ⟨nx.toWd.nice, ny.toWd.nice⟩, nx, ny⟩
    · exact ⟨.wished u, rfl, nu.nice, nu⟩
  by_cases hg : 0 < g
  · have hgi : (0 : Int) < (g : Nat) := by omega
    simp [P4.top, hg, hgi, kd_lst e4]
    refine draw D4 (by omega) (by omega) (by omega) fun i s5 hi D5 f5 => ?_
    have e5 := f5.at e4 hr
    simp [oAppend_lst e5 (limC (by simp))]
    have fs : Fr [d, l] s (s5.set r (.lst ([Vl.tup [.str "set", .str x], Vl.tup [.str "same", .str x, .str y], Vl.tup [.str "full", .str x, .str y], Vl.tup [.str "wished", .str u], Vl.tup [.str "given", .int (i : Nat)]]))) := (F4.trans f5).set (Or.inr rl)
    refine anyEnd (g := g) (s0 := s) (D5.fr (Fr.refl.set (X := [r]) (by simp)) (by simp at hr ⊢; omega) (by simp at hr ⊢; omega)) (get_set_self e5) hr (by simp) (by simp) ?_ (by omega) fs fun t s' t1 t2 D' f' => k t s' t1 t2 (P.frD f') (D'.mono (by omega)) f'
    intro v hv
    simp only [List.mem_cons, List.not_mem_nil, or_false] at hv base
    rcases hv with hv | hv | hv | hv | rfl
    · exact base v (.inl hv)
    · exact base v (.inr (.inl hv))
    · exact base v (.inr (.inr (.inl hv)))
    · exact base v (.inr (.inr (.inr hv)))
    · exact ⟨.given i, rfl, by show i < g; omega, trivial⟩
  · have hgi : ¬ (0 : Int) < (g : Nat) := by omega
    simp [P4.top, hg, hgi]
    exact anyEnd (g := g) (s0 := s) D4 e4 hr (by simp) (by simp) base (by omega) F4 fun t s' t1 t2 D' f' => k t s' t1 t2 (P.frD f') (D'.mono (by omega)) f'
theorem row {p n w : Nat} {N W : List Str} {g : Nat} (D : Dk s d l c) (P : Pl s d l p n w N W g) (hc : c + 200 < CM) (k : ∀ (x : Stm) s', x.ok g 0 → x.cnt = 1 → x.wgt = 1 → x.sat Nm Wd → Pl s' d l p n w N W g → Dk s' d l (c + 20) → Fr [d, l] s s' → Q x.vl s') : WE (m__law_row [.ref d, .ref p]) s Q E := by
  unfold m__law_row b__law_row
  have g4 := P.g4
  simp [P.top]
  refine oneN D P (by omega) fun x s1 nx P1 D1 f1 => ?_
  simp [P1.top]
  refine oneN D1 P1 (by omega) fun y s2 ny P2 D2 f2 => ?_
  simp [P2.top]
  refine oneN D2 P2 (by omega) fun z s3 nz P3 D3 f3 => ?_
  simp [P3.top]
  refine oneN D3 P3 (by omega) fun f s4 nf P4 D4 f4 => ?_
  simp [P4.top]
  refine oneW D4 P4 (by omega) fun u s5 nu P5 D5 f5 => ?_
  have F5 : Fr [d, l] s s5 := (((f1.trans f2).trans f3).trans f4).trans f5
  obtain ⟨A, hA⟩ : ∃ A : List Stm, A = [.make x, .keep x, .drop x, .wish x u, .name x y, .hold x f y, .weak x f y, .cut x f, .take z x f, .say u] := ⟨_, rfl⟩
  have okA : ∀ q ∈ A, q.ok g 0 ∧ q.cnt = 1 ∧ q.wgt = 1 ∧ q.sat Nm Wd := by
    intro q hq
    rw [hA] at hq
    have ox := nx.toWd.nice
    have oy := ny.toWd.nice
    have oz := nz.toWd.nice
    have of := nf.toWd.nice
    have ou := nu.nice
    simp only [List.mem_cons, List.not_mem_nil, or_false] at hq
    rcases hq with rfl | rfl | rfl | rfl | rfl | rfl | rfl | rfl | rfl | rfl
    · exact ⟨by unfold Stm.ok; exact ox, rfl, rfl, by unfold Stm.sat; exact nx⟩
    · exact ⟨by unfold Stm.ok; exact ox, rfl, rfl, by unfold Stm.sat; exact nx⟩
    · exact ⟨by unfold Stm.ok; exact ox, rfl, rfl, by unfold Stm.sat; exact nx⟩
    · exact ⟨by unfold Stm.ok; exact ⟨ox, ou⟩, rfl, rfl, by unfold Stm.sat; exact ⟨nx, nu⟩⟩
    · exact ⟨by unfold Stm.ok; exact ⟨ox, oy⟩, rfl, rfl, by unfold Stm.sat; exact ⟨nx, ny⟩⟩
    · exact ⟨by unfold Stm.ok; exact ⟨ox, of, oy⟩, rfl, rfl, by unfold Stm.sat; exact ⟨nx, nf, ny⟩⟩
    · exact ⟨by unfold Stm.ok; exact ⟨ox, of, oy⟩, rfl, rfl, by unfold Stm.sat; exact ⟨nx, nf, ny⟩⟩
    · exact ⟨by unfold Stm.ok; exact ⟨ox, of⟩, rfl, rfl, by unfold Stm.sat; exact ⟨nx, nf⟩⟩
    · exact ⟨by unfold Stm.ok; exact ⟨oz, ox, of⟩, rfl, rfl, by unfold Stm.sat; exact ⟨nz, nx, nf⟩⟩
    · exact ⟨by unfold Stm.ok; exact ou, rfl, rfl, by unfold Stm.sat; exact nu⟩
  have vA : [Vl.tup [.str "make", .str x], Vl.tup [.str "keep", .str x], Vl.tup [.str "drop", .str x], Vl.tup [.str "wish", .str x, .str u], Vl.tup [.str "name", .str x, .str y], Vl.tup [.str "hold", .str x, .str f, .str y], Vl.tup [.str "weak", .str x, .str f, .str y], Vl.tup [.str "cut", .str x, .str f], Vl.tup [.str "take", .str z, .str x, .str f], Vl.tup [.str "say", .str u]] = Stm.vls A := by rw [hA]; simp [Stm.vls, Stm.vl]
  have lA : (Stm.vls A).length = 10 := by rw [hA]; rfl
  clear hA
  simp
  rw [vA]
  obtain ⟨o1, ho1⟩ : ∃ o, o = Ob.lst [Vl.tup [.str "make", .str x], Vl.tup [.str "keep", .str x], Vl.tup [.str "drop", .str x], Vl.tup [.str "wish", .str x, .str u], Vl.tup [.str "name", .str x, .str y], Vl.tup [.str "hold", .str x, .str f, .str y]] := ⟨_, rfl⟩
  obtain ⟨o2, ho2⟩ : ∃ o, o = Ob.lst [Vl.tup [.str "weak", .str x, .str f, .str y], Vl.tup [.str "cut", .str x, .str f], Vl.tup [.str "take", .str z, .str x, .str f], Vl.tup [.str "say", .str u]] := ⟨_, rfl⟩
  rw [← ho1, ← ho2]
  have f6 : Fr [] s5 (s5 ++ [o1, o2, Ob.lst (Stm.vls A)]) := Fr.refl.app _
  have e6 : (s5 ++ [o1, o2, Ob.lst (Stm.vls A)])[s5.length + 2]? = some (.lst (Stm.vls A)) := by rw [List.getElem?_append_right (by omega)]; simp
  have lt5 := D5.lt
  have hr : s5.length + 2 ∉ [d, l] := by simp; omega
  generalize s5 ++ [o1, o2, Ob.lst (Stm.vls A)] = s6 at f6 e6
  generalize s5.length + 2 = r at e6 hr
  refine anyTest (D5.new f6) (P5.fr0 f6) (by omega) fun t s7 t1 t2 P7 D7 f7 => ?_
  have e7 := f7.at e6 hr
  have lt7 := D7.lt
  have F7 : Fr [d, l] s s7 := (F5.trans (f6.mono (by simp))).trans f7
  simp
  rw [opAdd_lst (get_push e7) get_last (limB (by simp; omega))]
  have hr2 : (s7 ++ [Ob.lst [Vl.tup [.str "ask", t.vl]]]).length ∉ [d, l] := by simp; omega
  have f8 : Fr [] s7 (s7 ++ [Ob.lst [Vl.tup [.str "ask", t.vl]]] ++ [Ob.lst (Stm.vls A ++ [Vl.tup [.str "ask", t.vl]])]) := (Fr.refl.push _).push _
  have e8 : (s7 ++ [Ob.lst [Vl.tup [.str "ask", t.vl]]] ++ [Ob.lst (Stm.vls A ++ [Vl.tup [.str "ask", t.vl]])])[(s7 ++ [Ob.lst [Vl.tup [.str "ask", t.vl]]]).length]? = some (.lst (Stm.vls A ++ [Vl.tup [.str "ask", t.vl]])) := get_last
  simp only [WO_some]
  generalize s7 ++ [Ob.lst [Vl.tup [.str "ask", t.vl]]] ++ [Ob.lst (Stm.vls A ++ [Vl.tup [.str "ask", t.vl]])] = s8 at f8 e8
  generalize (s7 ++ [Ob.lst [Vl.tup [.str "ask", t.vl]]]).length = r2 at e8 hr2
  simp
  refine one (D7.new f8) e8 hr2 (by simp) (by simp; omega) (by omega) fun v s9 hv D9 f9 => ?_
  have F9 : Fr [d, l] s s9 := (F7.trans (f8.mono (by simp))).trans f9
  rcases List.mem_append.mp hv with q | q
  · rw [Stm.vls_map] at q
    obtain ⟨st, hst, rfl⟩ := List.mem_map.mp q
    obtain ⟨a1, a2, a3, a4⟩ := okA st hst
    exact k st s9 a1 a2 a3 a4 (P.frD F9) (D9.mono (by omega)) F9
  · simp at q
    subst q
    exact k (.ask t) s9 (by unfold Stm.ok; exact t1) rfl rfl (by unfold Stm.sat; exact t2) (P.frD F9) (D9.mono (by omega)) F9
end
end K00

/-! S188: values whose tuples are short -/
namespace Sm
open PySem L2
mutual
def Vsz (m : Nat) : Vl → Prop
  | .tup xs => xs.length ≤ m ∧ Vszs m xs
  | _ => True
def Vszs (m : Nat) : List Vl → Prop
  | [] => True
  | x :: xs => Vsz m x ∧ Vszs m xs
end
theorem Vszs.mem {m : Nat} : ∀ {xs : List Vl}, Vszs m xs → ∀ x ∈ xs, Vsz m x
  | [], _, x, h => by cases h
  | y :: ys, h, x, hx => by
    unfold Vszs at h
    rcases List.mem_cons.mp hx with rfl | hx
    · exact h.1
    · exact Vszs.mem h.2 x hx
theorem Vszs.of {m : Nat} : ∀ {xs : List Vl}, (∀ x ∈ xs, Vsz m x) → Vszs m xs
  | [], _ => by unfold Vszs; trivial
  | x :: xs, h => by unfold Vszs; exact ⟨h x (List.mem_cons_self ..), Vszs.of fun y hy => h y (List.mem_cons_of_mem _ hy)⟩
mutual
theorem Vsz.mono {m n : Nat} (h : m ≤ n) : ∀ v : Vl, Vsz m v → Vsz n v
  | .tup xs, p => by unfold Vsz at p ⊢; exact ⟨Nat.le_trans p.1 h, Vszs.mono h xs p.2⟩
  | .ref _, _ => by unfold Vsz; trivial
  | .str _, _ => by unfold Vsz; trivial
  | .int _, _ => by unfold Vsz; trivial
  | .bl _, _ => by unfold Vsz; trivial
  | .non, _ => by unfold Vsz; trivial
  | .scr _, _ => by unfold Vsz; trivial
  | .ty _, _ => by unfold Vsz; trivial
  | .fn _, _ => by unfold Vsz; trivial
theorem Vszs.mono {m n : Nat} (h : m ≤ n) : ∀ xs : List Vl, Vszs m xs → Vszs n xs
  | [], _ => by unfold Vszs; trivial
  | x :: xs, p => by unfold Vszs at p ⊢; exact ⟨Vsz.mono h x p.1, Vszs.mono h xs p.2⟩
end
/-- may lie in a bent statement -/
structure GV (s : Sto) (m : Nat) (v : Vl) : Prop where
  ok : VOk s v
  sz : Vsz m v
def GVs (s : Sto) (m : Nat) (xs : List Vl) : Prop := ∀ x ∈ xs, GV s m x
theorem GV.mono {s s' : Sto} {m n : Nat} {v : Vl} (h : GV s m v) (hl : ∀ i, LsD s i → LsD s' i) (hm : m ≤ n) : GV s' n v := ⟨h.ok.mono hl _, h.sz.mono hm⟩
theorem GVs.mono {s s' : Sto} {m n : Nat} {xs : List Vl} (h : GVs s m xs) (hl : ∀ i, LsD s i → LsD s' i) (hm : m ≤ n) : GVs s' n xs := fun x hx => (h x hx).mono hl hm
theorem GVs.app {s : Sto} {m : Nat} {xs ys : List Vl} (h : GVs s m xs) (h' : GVs s m ys) : GVs s m (xs ++ ys) := fun x hx => by
  rcases List.mem_append.mp hx with q | q
  · exact h x q
  · exact h' x q
theorem GV.tup {s : Sto} {m : Nat} {xs : List Vl} (h : GVs s m xs) (hl : xs.length ≤ m) : GV s m (.tup xs) := ⟨vok_tup (VOks.of fun x hx => (h x hx).ok), by unfold Vsz; exact ⟨hl, Vszs.of fun x hx => (h x hx).sz⟩⟩
theorem GV.un {s : Sto} {m : Nat} {xs : List Vl} (h : GV s m (.tup xs)) : xs.length ≤ m ∧ GVs s m xs := by
  have h1 := h.ok
  have h2 := h.sz
  unfold VOk at h1
  unfold Vsz at h2
  exact ⟨h2.1, fun x hx => ⟨h1.mem x hx, h2.2.mem x hx⟩⟩
theorem GV.str {s : Sto} {m : Nat} {x : Str} (h : x.length ≤ 1000000) : GV s m (.str x) := ⟨by unfold VOk; exact h, by unfold Vsz; trivial⟩
theorem GV.int {s : Sto} {m : Nat} {i : Int} : GV s m (.int i) := ⟨by unfold VOk; trivial, by unfold Vsz; trivial⟩
theorem GV.bl {s : Sto} {m : Nat} {i : Bool} : GV s m (.bl i) := ⟨by unfold VOk; trivial, by unfold Vsz; trivial⟩
theorem GV.non {s : Sto} {m : Nat} : GV s m .non := ⟨by unfold VOk; trivial, by unfold Vsz; trivial⟩
theorem GV.lst {s : Sto} {m i : Nat} {xs : List Vl} (h : s[i]? = some (.lst xs)) : GV s m (.ref i) := ⟨by unfold VOk; exact ld_lst h, by unfold Vsz; trivial⟩
theorem GV.dic {s : Sto} {m i : Nat} {kvs : List (Key × Vl)} (h : s[i]? = some (.dic kvs)) : GV s m (.ref i) := ⟨by unfold VOk LsD; rw [h]; trivial, by unfold Vsz; trivial⟩
theorem GVs.nil {s : Sto} {m : Nat} : GVs s m [] := fun x hx => by cases hx
theorem GVs.cons {s : Sto} {m : Nat} {x : Vl} {xs : List Vl} (h : GV s m x) (h' : GVs s m xs) : GVs s m (x :: xs) := fun y hy => by
  rcases List.mem_cons.mp hy with rfl | q
  · exact h
  · exact h' y q
theorem GVs.sub {s : Sto} {m : Nat} {xs ys : List Vl} (h : GVs s m xs) (hs : ∀ y ∈ ys, y ∈ xs) : GVs s m ys := fun y hy => h y (hs y hy)
theorem Tst.vsz {g : Nat} : ∀ {n : Nat} {t : Tst}, t.ok g n → Vsz 3 t.vl
  | _, .given i, _ => by unfold Tst.vl Vsz; exact ⟨by simp, Vszs.of fun x hx => by simp at hx; rcases hx with rfl | rfl <;> (unfold Vsz; trivial)⟩
  | _, .set i, _ => by unfold Tst.vl Vsz; exact ⟨by simp, Vszs.of fun x hx => by simp at hx; rcases hx with rfl | rfl <;> (unfold Vsz; trivial)⟩
  | _, .same i j, _ => by unfold Tst.vl Vsz; exact ⟨by simp, Vszs.of fun x hx => by simp at hx; rcases hx with rfl | rfl | rfl <;> (unfold Vsz; trivial)⟩
  | _, .full i j, _ => by unfold Tst.vl Vsz; exact ⟨by simp, Vszs.of fun x hx => by simp at hx; rcases hx with rfl | rfl | rfl <;> (unfold Vsz; trivial)⟩
  | _, .wished i, _ => by unfold Tst.vl Vsz; exact ⟨by simp, Vszs.of fun x hx => by simp at hx; rcases hx with rfl | rfl <;> (unfold Vsz; trivial)⟩
  | n + 1, .not t, h => by
    have ih := Tst.vsz (n := n) (t := t) h
    unfold Tst.vl Vsz
    exact ⟨by simp, Vszs.of fun x hx => by
      simp at hx
      rcases hx with rfl | rfl
      · unfold Vsz; trivial
      · exact ih⟩
  | 0, .not t, h => h.elim
theorem Tst.gv {s : Sto} {g n m : Nat} {t : Tst} (h : t.ok g n) (hm : 3 ≤ m) : GV s m t.vl := ⟨Tst.vok h, (Tst.vsz h).mono hm⟩
theorem Stm.gv {s : Sto} {g m : Nat} {x : Stm} (h : x.ok g 0) (hm : 4 ≤ m) : GV s m x.vl := by
  refine ⟨Stm.vok 0 x h, ?_⟩
  have lit : ∀ y : Str, Vsz m (.str y) := fun y => by unfold Vsz; trivial
  cases x <;> unfold Stm.ok at h <;> try exact absurd h.1 (by omega)
  case ask t =>
    unfold Stm.vl Vsz
    refine ⟨by simp; omega, Vszs.of fun x hx => ?_⟩
    simp at hx
    rcases hx with rfl | rfl
    · exact lit _
    · exact (Tst.vsz h).mono (by omega)
  all_goals
    unfold Stm.vl Vsz
    refine ⟨by simp; omega, Vszs.of fun x hx => ?_⟩
    simp at hx
    rcases hx with rfl | rfl | rfl | rfl <;> exact lit _
theorem cutS_len {x : Str} {lo hi : Option Int} : (cutS x lo hi).length ≤ x.length := by
  show ((x.cps.toList.drop _).take _).toArray.size ≤ x.cps.size
  rw [List.size_toArray, List.length_take, List.length_drop, Array.length_toList]
  omega
theorem cutL_sub {xs : List Vl} {lo hi : Option Int} : ∀ y ∈ cutL xs lo hi, y ∈ xs := fun y hy => by
  unfold cutL at hy
  exact List.mem_of_mem_drop (List.mem_of_mem_take hy)
end Sm

/-! K0D: a value that mostly does not belong where it is put -/
namespace K00
open PySem L2 Sm
theorem fr2 {s s' : Sto} {d l c : Nat} (f : Fr [d, l] s s') (D : Dk s' d l c) : ∀ i, LsD s i → LsD s' i := f.ldX fun i hi => by
  obtain ⟨k, cells, _, _, DD⟩ := D
  simp at hi
  rcases hi with rfl | rfl
  · exact ld_lst DD.top
  · exact ld_lst DD.cel
section
variable {s : Sto} {d l c : Nat} {Q : Vl → Sto → Prop} {E : Ex → Sto → Prop}
theorem odd {p n w : Nat} {N W : List Str} {g : Nat} (D : Dk s d l c) (P : Pl s d l p n w N W g) (hc : c + 100 < CM) (k : ∀ v s', GV s' 2 v → Dk s' d l (c + 8) → Fr [d, l] s s' → Q v s') : WE (m__law_odd [.ref d, .ref p]) s Q E := by
  unfold m__law_odd b__law_odd
  simp [P.top]
  refine oneN D P (by omega) fun x s1 nx P1 D1 f1 => ?_
  simp [P1.top]
  refine oneW D1 P1 (by omega) fun u s2 nu P2 D2 f2 => ?_
  have x8 := nx.len
  have u8 := nu.len
  have xL : x.length ≤ LIM := limB (by omega)
  simp
  refine oneS D2 (by decide +kernel) (by decide +kernel) (by omega) fun ch s3 hch D3 f3 => ?_
  simp [oLen_str xL]
  refine draw D3 (by omega) (by omega) (by omega) fun a s4 ha D4 f4 => ?_
  have pw : opPow (.int 10) (.int 30) s4 = some (.int (10 ^ 30), s4) := by rfl
  simp [pw]
  refine keptS ?_
  simp
  refine oneNew D4 (by decide +kernel) (by decide +kernel) (by omega) fun v s5 hv D5 f5 => ?_
  obtain ⟨kw, hkw, rfl⟩ := List.mem_map.mp hv
  have F5 : Fr [d, l] s s5 := (((f1.trans f2).trans f3).trans f4).trans f5
  have P5 := P.frD F5
  have kl : kw.length ≤ 1000000 := by
    have := List.all_eq_true.mp (by decide +kernel : (Txt.words keptT).all (fun w => decide (w.length ≤ 20)) = true) kw hkw
    have := of_decide_eq_true this
    omega
  simp
  have chl : (⟨#[ch]⟩ : Str).length = 1 := rfl
  have sl : ∀ lo hi S, opSl (.str x) lo hi S = some (.str (cutS x lo hi), S) := fun lo hi S => by simp only [opSl, if_pos xL]
  have ad : ∀ (y z : Str), y.length ≤ 1000 → z.length ≤ 1000 → ∀ S, opAdd (.str y) (.str z) S = some (.str (y ++ z), S) := fun y z hy hz S => opAdd_str (limB (by omega))
  have c1 := cutS_len (x := x) (lo := none) (hi := some (a : Int))
  have c2 := cutS_len (x := x) (lo := some (a : Int)) (hi := none)
  have a1 := ad (cutS x none (some (a : Int))) ⟨#[ch]⟩ (by omega) (by omega)
  have a1l : (cutS x none (some (a : Int)) ++ (⟨#[ch]⟩ : Str)).length ≤ 9 := by rw [len_app]; omega
  have a2 := ad (cutS x none (some (a : Int)) ++ (⟨#[ch]⟩ : Str)) (cutS x (some (a : Int)) none) (by omega) (by omega)
  have a2l : (cutS x none (some (a : Int)) ++ (⟨#[ch]⟩ : Str) ++ cutS x (some (a : Int)) none).length ≤ 20 := by rw [len_app]; omega
  have a3 := ad x ⟨#[ch]⟩ (by omega) (by omega)
  have a3l : (x ++ (⟨#[ch]⟩ : Str)).length ≤ 20 := by rw [len_app]; omega
  have nl : ("9" : Str).length = 1 := by decide
  have a4 := ad "9" x (by omega) (by omega)
  have a4l : (("9" : Str) ++ x).length ≤ 20 := by rw [len_app]; omega
  have ms : ∀ S, opMulS (Vl.str x) (Vl.int 9) S = some (Vl.str (repS 9 x), S) := fun S => by
    show (if (2 : Int) ≤ 9 ∧ (9 : Int) ≤ 1000 ∧ 0 < x.length ∧ x.length ≤ 1000 then some (Vl.str (repS (9 : Int).toNat x), S) else none) = _
    rw [if_pos ⟨by omega, by omega, nx.pos, by omega⟩]
    rfl
  have msl : (repS 9 x).length ≤ 100 := by rw [repS_len]; omega
  obtain ⟨L1, hL1⟩ : ∃ L1, L1 = [Vl.non, Vl.bl true, Vl.bl false, Vl.int 0, Vl.int 1, Vl.int 3, Vl.int 12, Vl.int 13, Vl.int (-1), Vl.int 1000000000000000000000000000000, Vl.str "", Vl.str x, Vl.str u, Vl.str kw] := ⟨_, rfl⟩
  have g1 : ∀ S, GVs S 2 L1 := fun S => by
    rw [hL1]
    intro v hv
    simp only [List.mem_cons, List.not_mem_nil, or_false] at hv
    rcases hv with rfl | rfl | rfl | rfl | rfl | rfl | rfl | rfl | rfl | rfl | rfl | rfl | rfl | rfl <;>
      first | exact GV.non | exact GV.bl | exact GV.int | exact GV.str (by decide) | exact GV.str (by omega)
  have l1 : L1.length = 14 := by rw [hL1]; rfl
  rw [← hL1]
  clear hL1 hv
  have e6 : (s5 ++ [Ob.lst L1])[s5.length]? = some (.lst L1) := get_last
  have f6 : Fr [] s5 (s5 ++ [Ob.lst L1]) := Fr.refl.push _
  have D6 := D5.new f6
  have P6 := P5.fr0 f6
  have r6 : s5.length ∉ [d, l] := by have := D5.lt; simp; omega
  generalize s5 ++ [Ob.lst L1] = s6 at e6 f6 D6 P6 ⊢
  have F6 : Fr [d, l] s s6 := F5.trans (f6.mono (by simp))
  generalize s5.length = r at e6 r6 ⊢
  simp [sl, a1, a2, a3, a4, ms]
  obtain ⟨L2, hL2⟩ : ∃ L2, L2 = [Vl.str (cutS x none (some (a : Int)) ++ (⟨#[ch]⟩ : Str) ++ cutS x (some (a : Int)) none), Vl.str (x ++ (⟨#[ch]⟩ : Str)), Vl.str (repS 9 x), Vl.str (("9" : Str) ++ x), Vl.ref s6.length, Vl.tup [Vl.str x], Vl.tup [], Vl.tup [Vl.tup [], Vl.tup []], Vl.ref (s6.length + 1)] := ⟨_, rfl⟩
  rw [← hL2]
  have l2 : L2.length = 9 := by rw [hL2]; rfl
  obtain ⟨t6, ht6⟩ : ∃ t6, t6 = s6 ++ [Ob.lst [Vl.str x], Ob.dic [], Ob.lst L2] := ⟨_, rfl⟩
  have b1 : t6[r]? = some (.lst L1) := by rw [ht6, List.getElem?_append_left (lt_of_get e6)]; exact e6
  have b2 : t6[s6.length + 2]? = some (.lst L2) := by rw [ht6, List.getElem?_append_right (by omega)]; simp
  have b3 : t6[s6.length]? = some (.lst [.str x]) := by rw [ht6, List.getElem?_append_right (by omega)]; simp
  have b4 : t6[s6.length + 1]? = some (.dic []) := by rw [ht6, List.getElem?_append_right (by omega)]; simp
  have ft : Fr [] s6 t6 := by rw [ht6]; exact Fr.refl.app _
  rw [← ht6, opAdd_lst b1 b2 (limB (by omega))]
  have e7 : (t6 ++ [Ob.lst (L1 ++ L2)])[t6.length]? = some (.lst (L1 ++ L2)) := get_last
  have g7 : GVs (t6 ++ [Ob.lst (L1 ++ L2)]) 2 (L1 ++ L2) := by
    refine (g1 _).app ?_
    rw [hL2]
    intro v hv
    simp only [List.mem_cons, List.not_mem_nil, or_false] at hv
    have tx : GVs (t6 ++ [Ob.lst (L1 ++ L2)]) 2 [Vl.str x] := GVs.cons (GV.str (by omega)) GVs.nil
    have t0 : GV (t6 ++ [Ob.lst (L1 ++ L2)]) 2 (Vl.tup []) := GV.tup GVs.nil (by simp)
    rcases hv with rfl | rfl | rfl | rfl | rfl | rfl | rfl | rfl | rfl
    · exact GV.str (by omega)
    · exact GV.str (by omega)
    · exact GV.str (by omega)
    · exact GV.str (by omega)
    · rw [← hL2]; exact GV.lst (get_push b3)
    · rw [← hL2]; exact GV.tup tx (by simp)
    · rw [← hL2]; exact t0
    · rw [← hL2]; exact GV.tup (GVs.cons t0 (GVs.cons t0 GVs.nil)) (by simp)
    · rw [← hL2]; exact GV.dic (get_push b4)
  have f7 : Fr [] s6 (t6 ++ [Ob.lst (L1 ++ L2)]) := ft.push _
  have D7 := D6.new f7
  have P7 := P6.fr0 f7
  have r7 : t6.length ∉ [d, l] := by have := D6.lt; have := ft.le; simp; omega
  simp only [WO_some]
  clear hL2 ht6 b1 b2 b3 b4 ft g1
  have l12 : (L1 ++ L2).length = 23 := by rw [List.length_append]; omega
  generalize L1 ++ L2 = L12 at e7 g7 f7 D7 P7 l12 ⊢
  generalize t6 ++ [Ob.lst L12] = s7 at e7 g7 f7 D7 P7 ⊢
  have F7 : Fr [d, l] s s7 := F6.trans (f7.mono (by simp))
  generalize t6.length = r2 at e7 r7 ⊢
  simp
  have pt : opIx (Vl.ref p) (Vl.int 2) (s7 ++ [Ob.lst [], Ob.lst [Vl.str "set", Vl.str x]]) = some (Vl.int (g : Nat), s7 ++ [Ob.lst [], Ob.lst [Vl.str "set", Vl.str x]]) := by
    have q : (s7 ++ [Ob.lst [], Ob.lst [Vl.str "set", Vl.str x]])[p]? = some (.lst [.ref n, .ref w, .int (g : Nat)]) := by rw [List.getElem?_append_left (lt_of_get P7.top)]; exact P7.top
    rw [opIx_lst q]
    rfl
  rw [pt]
  simp
  obtain ⟨L3, hL3⟩ : ∃ L3, L3 = [Vl.ref s7.length, Vl.tup [Vl.str "set", Vl.str x], Vl.tup [Vl.str "not", Vl.tup [Vl.str "set", Vl.str x]], Vl.ref (s7.length + 1), Vl.tup [Vl.str "given", Vl.int (g : Nat)], Vl.tup [Vl.str "given", Vl.bl true]] := ⟨_, rfl⟩
  rw [← hL3]
  have l3 : L3.length = 6 := by rw [hL3]; rfl
  obtain ⟨t7, ht7⟩ : ∃ t7, t7 = s7 ++ [Ob.lst [], Ob.lst [Vl.str "set", Vl.str x], Ob.lst L3] := ⟨_, rfl⟩
  have b1 : t7[r2]? = some (.lst L12) := by rw [ht7, List.getElem?_append_left (lt_of_get e7)]; exact e7
  have b2 : t7[s7.length + 2]? = some (.lst L3) := by rw [ht7, List.getElem?_append_right (by omega)]; simp
  have b3 : t7[s7.length]? = some (.lst []) := by rw [ht7, List.getElem?_append_right (by omega)]; simp
  have b4 : t7[s7.length + 1]? = some (.lst [Vl.str "set", Vl.str x]) := by rw [ht7, List.getElem?_append_right (by omega)]; simp
  have ft : Fr [] s7 t7 := by rw [ht7]; exact Fr.refl.app _
  rw [← ht7, opAdd_lst b1 b2 (limB (by omega))]
  have e8 : (t7 ++ [Ob.lst (L12 ++ L3)])[t7.length]? = some (.lst (L12 ++ L3)) := get_last
  have f8 : Fr [] s7 (t7 ++ [Ob.lst (L12 ++ L3)]) := ft.push _
  have g8 : GVs (t7 ++ [Ob.lst (L12 ++ L3)]) 2 (L12 ++ L3) := by
    refine (g7.mono f8.ld (Nat.le_refl _)).app ?_
    rw [hL3]
    intro v hv
    simp only [List.mem_cons, List.not_mem_nil, or_false] at hv
    have gx : GV (t7 ++ [Ob.lst (L12 ++ L3)]) 2 (Vl.str x) := GV.str (by omega)
    have lit : ∀ y : Str, y.length ≤ 10 → GV (t7 ++ [Ob.lst (L12 ++ L3)]) 2 (Vl.str y) := fun y hy => GV.str (by omega)
    have gs : GV (t7 ++ [Ob.lst (L12 ++ L3)]) 2 (Vl.tup [Vl.str "set", Vl.str x]) := GV.tup (GVs.cons (lit _ (by decide)) (GVs.cons gx GVs.nil)) (by simp)
    rcases hv with rfl | rfl | rfl | rfl | rfl | rfl
    · rw [← hL3]; exact GV.lst (get_push b3)
    · rw [← hL3]; exact gs
    · rw [← hL3]; exact GV.tup (GVs.cons (lit _ (by decide)) (GVs.cons gs GVs.nil)) (by simp)
    · rw [← hL3]; exact GV.lst (get_push b4)
    · rw [← hL3]; exact GV.tup (GVs.cons (lit _ (by decide)) (GVs.cons GV.int GVs.nil)) (by simp)
    · rw [← hL3]; exact GV.tup (GVs.cons (lit _ (by decide)) (GVs.cons GV.bl GVs.nil)) (by simp)
  have D8 := D7.new f8
  have r8 : t7.length ∉ [d, l] := by have := D7.lt; have := ft.le; simp; omega
  simp only [WO_some]
  clear hL3 ht7 b1 b2 b3 b4 ft pt
  have l123 : (L12 ++ L3).length = 29 := by rw [List.length_append]; omega
  generalize L12 ++ L3 = L4 at e8 g8 f8 D8 l123 ⊢
  generalize t7 ++ [Ob.lst L4] = s8 at e8 g8 f8 D8 ⊢
  have F8 : Fr [d, l] s s8 := F7.trans (f8.mono (by simp))
  generalize t7.length = r3 at e8 r8 ⊢
  simp
  rw [opAdd_lst (get_push e8) get_last (limB (by simp; omega))]
  simp only [WO_some]
  have f9 : Fr [] s8 (s8 ++ [Ob.lst [Vl.str "make", Vl.tup [Vl.str "set", Vl.str "set"]]] ++ [Ob.lst (L4 ++ [Vl.str "make", Vl.tup [Vl.str "set", Vl.str "set"]])]) := (Fr.refl.push _).push _
  have e9 : (s8 ++ [Ob.lst [Vl.str "make", Vl.tup [Vl.str "set", Vl.str "set"]]] ++ [Ob.lst (L4 ++ [Vl.str "make", Vl.tup [Vl.str "set", Vl.str "set"]])])[(s8 ++ [Ob.lst [Vl.str "make", Vl.tup [Vl.str "set", Vl.str "set"]]]).length]? = some (.lst (L4 ++ [Vl.str "make", Vl.tup [Vl.str "set", Vl.str "set"]])) := get_last
  have r9 : (s8 ++ [Ob.lst [Vl.str "make", Vl.tup [Vl.str "set", Vl.str "set"]]]).length ∉ [d, l] := by have := D8.lt; simp; omega
  generalize s8 ++ [Ob.lst [Vl.str "make", Vl.tup [Vl.str "set", Vl.str "set"]]] ++ [Ob.lst (L4 ++ [Vl.str "make", Vl.tup [Vl.str "set", Vl.str "set"]])] = s9 at e9 f9 ⊢
  generalize (s8 ++ [Ob.lst [Vl.str "make", Vl.tup [Vl.str "set", Vl.str "set"]]]).length = r4 at e9 r9 ⊢
  have D9 := D8.new f9
  have g9 : GVs s9 2 (L4 ++ [Vl.str "make", Vl.tup [Vl.str "set", Vl.str "set"]]) := by
    have lit : ∀ y : Str, y.length ≤ 10 → GV s9 2 (Vl.str y) := fun y hy => GV.str (by omega)
    exact (g8.mono f9.ld (Nat.le_refl _)).app (GVs.cons (lit _ (by decide)) (GVs.cons (GV.tup (GVs.cons (lit _ (by decide)) (GVs.cons (lit _ (by decide)) GVs.nil)) (by simp)) GVs.nil))
  simp
  refine one D9 e9 r9 (by simp) (by simp; omega) (by omega) fun v s10 hv D10 f10 => ?_
  exact k v s10 ((g9 v hv).mono (fr2 f10 D10) (Nat.le_refl _)) (D10.mono (by omega)) ((F8.trans (f9.mono (by simp))).trans f10)
end
end K00

/-! K0E: a tuple in which something is changed -/
namespace K00
open PySem L2 Sm
theorem lastL {xs : List Vl} : (cutL xs (some (-1)) none).length ≤ 1 := by
  have e : HT.sIx xs.length 0 (some (-1)) = xs.length - 1 := by
    show (if (-1 : Int) < 0 then ((-1 : Int) + (xs.length : Int)).toNat else min (-1 : Int).toNat xs.length) = _
    rw [if_pos (by omega)]
    omega
  unfold cutL
  rw [e, List.length_take, List.length_drop]
  omega
/-- behind the first choice -/
def bTail : SM := (sSeq (sIf (tVal (eOp opLt (eVar 7) (eC (.int 5)))) (sRet (eOp opAdd (eOp opAdd (eSl opSl (eVar 2) none (some (eVar 6))) (eCB oTup (aCons (eCall (arg 2 m__law_odd) (aCons (eVar 0) (aCons (eVar 1) aNil))) aNil))) (eSl opSl (eVar 2) (some (eOp opAdd (eVar 6) (eC (.int 1)))) none))) sNil)
  (sSeq (sIf (tVal (eOp opEq (eVar 7) (eC (.int 5)))) (sRet (eOp opAdd (eSl opSl (eVar 2) none (some (eVar 6))) (eSl opSl (eVar 2) (some (eOp opAdd (eVar 6) (eC (.int 1)))) none))) sNil)
  (sSeq (sIf (tVal (eOp opEq (eVar 7) (eC (.int 6)))) (sRet (eOp opAdd (eOp opAdd (eSl opSl (eVar 2) none (some (eVar 6))) (eCB oTup (aCons (eCall (arg 2 m__law_odd) (aCons (eVar 0) (aCons (eVar 1) aNil))) aNil))) (eSl opSl (eVar 2) (some (eVar 6)) none))) sNil)
  (sSeq (sSet 5 (eCB oLst (aCons (eCB oList (aCons (eVar 2) aNil)) (aCons (eOp opAdd (eVar 2) (eSl opSl (eVar 2) (some (eOp1 opNeg (eC (.int 1)))) none)) (aCons (eRev (eVar 2) (eOp1 opNeg (eC (.int 1)))) (aCons (eCall (arg 2 m__law_odd) (aCons (eVar 0) (aCons (eVar 1) aNil))) (aCons (eCB oTup (aCons (eC (.str "not")) (aCons (eVar 2) aNil))) (aCons (eOp opAdd (eSl opSl (eVar 2) none (some (eC (.int 1)))) (eCB oTup (aCons (eCB oTup aNil) aNil))) aNil))))))))
  (sRet (eCall (arg 2 m__law_one) (aCons (eVar 0) (aCons (eVar 5) aNil))))))))
theorem bent_eq (R : Nat → List Vl → M Vl) : b__law_bent R = (sSeq (sPar 6 7 (aCons (eCall (arg 2 m__law_draw) (aCons (eVar 0) (aCons (eCB oLen (aCons (eVar 2) aNil)) aNil))) (aCons (eCall (arg 2 m__law_draw) (aCons (eVar 0) (aCons (eC (.int 8)) aNil))) aNil)))
  (sSeq (sSet 4 (eOp opIx (eVar 2) (eVar 6)))
  (sSeq (sIf (tAndM (tVal (eOp opLt (eVar 7) (eC (.int 4)))) (tAndM (tVal (eOp opGt (eVar 3) (eC (.int 0)))) (tAndM (tVal (eCB oIsi (aCons (eVar 4) (aCons (eC (.ty "tuple")) aNil)))) (tVal (eOp opNeE (eVar 4) (eCB oTup aNil)))))) (sRet (eOp opAdd (eOp opAdd (eSl opSl (eVar 2) none (some (eVar 6))) (eCB oTup (aCons (eCall (arg 4 (R 0)) (aCons (eVar 0) (aCons (eVar 1) (aCons (eVar 4) (aCons (eOp opSub (eVar 3) (eC (.int 1))) aNil))))) aNil))) (eSl opSl (eVar 2) (some (eOp opAdd (eVar 6) (eC (.int 1)))) none))) sNil)
  bTail))) := rfl
def BentS (mf : List Vl → M Vl) (dp : Nat) : Prop := ∀ (s : Sto) (d l c p n w : Nat) (N W : List Str) (g m : Nat) (xs : List Vl) (Q : Vl → Sto → Prop), Dk s d l c → Pl s d l p n w N W g → GV s m (.tup xs) → xs ≠ [] → 2 ≤ m → m ≤ 100 → c + 20 * (dp + 1) + 200 < CM →
  (∀ v s', GV s' (m + 1) v → Dk s' d l (c + 20 * (dp + 1)) → Fr [d, l] s s' → Q v s') → WE (mf [.ref d, .ref p, .tup xs, .int (dp : Nat)]) s Q NoX
theorem tailS {s2 : Sto} {d l c p n w a b m dp : Nat} {N W : List Str} {g : Nat} {xs : List Vl} {it : Vl} {K : RK} (D2 : Dk s2 d l c) (P2 : Pl s2 d l p n w N W g) (hv2 : GV s2 m (.tup xs)) (hal : a < xs.length) (h2 : 2 ≤ m) (h100 : m ≤ 100) (hc : c + 200 < CM)
    (k : ∀ v s', GV s' (m + 1) v → Dk s' d l (c + 12) → Fr [d, l] s2 s' → K.rt v s') : WS bTail [some (.ref d), some (.ref p), some (.tup xs), some (.int (dp : Nat)), some it, none, some (.int (a : Nat)), some (.int (b : Nat))] s2 K := by
  have hx2 := hv2.un
  have hlm := hx2.1
  have e1 : cutL xs none (some (a : Int)) = xs.take a := cutL_nat
  have e2 : cutL xs (some ((a : Int) + 1)) none = xs.drop (a + 1) := cutL_from (n := a + 1)
  have e3 : cutL xs (some (a : Int)) none = xs.drop a := cutL_from
  have e5 : cutL xs none (some 1) = xs.take 1 := cutL_nat (n := 1)
  have tk : ∀ i, GVs s2 m (xs.take i) := fun i => hx2.2.sub fun y hy => List.mem_of_mem_take hy
  have dr : ∀ i, GVs s2 m (xs.drop i) := fun i => hx2.2.sub fun y hy => List.mem_of_mem_drop hy
  have lim1 : ∀ v : Vl, (xs.take a).length + [v].length ≤ LIM := fun v => limB (by simp; omega)
  unfold bTail
  simp
  by_cases h5 : (b : Int) < 5
  · simp [h5, e1]
    refine odd D2 P2 (by omega) fun v s3 gv D3 f3 => ?_
    simp
    rw [opAdd_tup (lim1 v)]
    simp only [WO_some]
    simp [e2]
    rw [opAdd_tup (limB (by simp; omega))]
    simp only [WO_some]
    refine k _ s3 (GV.tup ((((tk a).mono (fr2 f3 D3) (by omega)).app (GVs.cons (gv.mono (fun _ q => q) (by omega)) GVs.nil)).app ((dr (a + 1)).mono (fr2 f3 D3) (by omega))) ?_) (D3.mono (by omega)) f3
    simp
    omega
  by_cases h5' : b = 5
  · subst h5'
    simp [e1, e2]
    rw [opAdd_tup (limB (by simp; omega))]
    simp only [WO_some]
    refine k _ s2 (GV.tup (((tk a).mono (fun _ q => q) (by omega)).app ((dr (a + 1)).mono (fun _ q => q) (by omega))) ?_) (D2.mono (by omega)) Fr.refl
    simp
    omega
  by_cases h6 : b = 6
  · subst h6
    simp [e1]
    refine odd D2 P2 (by omega) fun v s3 gv D3 f3 => ?_
    simp
    rw [opAdd_tup (lim1 v)]
    simp only [WO_some]
    simp [e3]
    rw [opAdd_tup (limB (by simp; omega))]
    simp only [WO_some]
    refine k _ s3 (GV.tup ((((tk a).mono (fr2 f3 D3) (by omega)).app (GVs.cons (gv.mono (fun _ q => q) (by omega)) GVs.nil)).app ((dr a).mono (fr2 f3 D3) (by omega))) ?_) (D3.mono (by omega)) f3
    simp
    omega
  have hb5 : ¬ ((b : Int) = 5) := by omega
  have hb6 : ¬ ((b : Int) = 6) := by omega
  simp [h5, hb5, hb6]
  have ll := lastL (xs := xs)
  have f3 : Fr [] s2 (s2 ++ [Ob.lst xs]) := Fr.refl.push _
  have e3' : (s2 ++ [Ob.lst xs])[s2.length]? = some (.lst xs) := get_last
  have D3 := D2.new f3
  have P3 := P2.fr0 f3
  generalize hs3 : s2 ++ [Ob.lst xs] = s3 at f3 e3' D3 P3 ⊢
  have aL : ∀ S, opAdd (.tup xs) (.tup (cutL xs (some (-1)) none)) S = some (.tup (xs ++ cutL xs (some (-1)) none), S) := fun S => opAdd_tup (limB (by omega))
  have aT : ∀ S, opAdd (.tup (xs.take 1)) (.tup [.tup []]) S = some (.tup (xs.take 1 ++ [.tup []]), S) := fun S => opAdd_tup (limB (by simp; omega))
  simp [aL]
  refine odd D3 P3 (by omega) fun v s4 gv D4 f4 => ?_
  have F4 : Fr [d, l] s2 s4 := (f3.mono (by simp)).trans f4
  have r3 : s2.length ∉ [d, l] := by have := D2.lt; simp; omega
  have e4 := f4.at e3' r3
  have hv4 := hv2.mono (fr2 F4 D4) (show m ≤ m + 1 by omega)
  simp [e5, aT]
  refine oneNew D4 (by simp) (by simp) (by omega) fun v' s5 hv' D5 f5 => ?_
  have hld := fr2 f5 D5
  have tl : GVs s4 (m + 1) (cutL xs (some (-1)) none) := hv4.un.2.sub fun y hy => cutL_sub y hy
  refine k v' s5 (GV.mono (m := m + 1) ?_ hld (Nat.le_refl _)) (D5.mono (by omega)) (F4.trans f5)
  have lit : GV s4 (m + 1) (.str "not") := GV.str (by decide)
  have t0 : GV s4 (m + 1) (.tup []) := GV.tup GVs.nil (by simp)
  simp only [List.mem_cons, List.not_mem_nil, or_false] at hv'
  rcases hv' with rfl | rfl | rfl | rfl | rfl | rfl
  · exact GV.lst e4
  · exact GV.tup (hv4.un.2.app tl) (by rw [List.length_append]; omega)
  · exact GV.tup (hv4.un.2.sub fun y hy => List.mem_reverse.mp hy) (by rw [List.length_reverse]; omega)
  · exact gv.mono (fun _ q => q) (by omega)
  · exact GV.tup (GVs.cons lit (GVs.cons hv4 GVs.nil)) (by simp; omega)
  · refine GV.tup ((hv4.un.2.sub fun y hy => List.mem_of_mem_take hy).app (GVs.cons t0 GVs.nil)) ?_
    simp
    omega
theorem bentS : ∀ (M dp : Nat), dp < M → BentS (R4 M 0) dp
  | 0, dp, h => absurd h (Nat.not_lt_zero _)
  | M + 1, dp, hM => fun s d l c p n w N W g m xs Q D P hv hne h2 h100 hc k => by
    show WE (fnM 8 (b__law_bent (R4 M)) _) _ _ _
    rw [bent_eq]
    have hx := hv.un
    have hpos : 0 < xs.length := List.length_pos_iff.mpr hne
    simp
    refine draw D (by omega) (by omega) (by omega) fun a s1 ha D1 f1 => ?_
    simp
    refine draw D1 (by omega) (by omega) (by omega) fun b s2 hb D2 f2 => ?_
    have hal : a < xs.length := by omega
    obtain ⟨it, hit⟩ : ∃ it, xs[a]? = some it := ⟨_, List.getElem?_eq_getElem hal⟩
    have hmem : it ∈ xs := List.mem_of_getElem? hit
    have F2 : Fr [d, l] s s2 := f1.trans f2
    have P2 := P.frD F2
    have hv2 := hv.mono (fr2 F2 D2) (Nat.le_refl m)
    have hx2 := hv2.un
    have gi := hx2.2 it hmem
    have ai : atI xs (a : Int) = some it := by rw [atN, hit]
    have e1 : cutL xs none (some (a : Int)) = xs.take a := cutL_nat
    have e2 : cutL xs (some ((a : Int) + 1)) none = xs.drop (a + 1) := cutL_from (n := a + 1)
    have e3 : cutL xs (some (a : Int)) none = xs.drop a := cutL_from
    have e5 : cutL xs none (some 1) = xs.take 1 := cutL_nat (n := 1)
    have hlm := hx2.1
    -- a new item in the place
    have put1 : ∀ (v : Vl) (s' : Sto), GV s' (m + 1) v → (∀ i, LsD s2 i → LsD s' i) → GV s' (m + 1) (.tup (xs.take a ++ [v] ++ xs.drop (a + 1))) := fun v s' hv' hld => by
      refine GV.tup ((((hx2.2.sub fun y hy => List.mem_of_mem_take hy).mono hld (by omega)).app (GVs.cons hv' GVs.nil)).app ((hx2.2.sub fun y hy => List.mem_of_mem_drop hy).mono hld (by omega))) ?_
      simp
      omega
    have lim3 : ∀ v : Vl, (xs.take a ++ [v]).length + (xs.drop (a + 1)).length ≤ LIM := fun v => limB (by simp; omega)
    have lim1 : ∀ v : Vl, (xs.take a).length + [v].length ≤ LIM := fun v => limB (by simp; omega)
    have go : ∀ K : RK, (∀ v s', Q v s' → K.rt v s') → WS bTail [some (.ref d), some (.ref p), some (.tup xs), some (.int (dp : Nat)), some it, none, some (.int (a : Nat)), some (.int (b : Nat))] s2 K := fun K hK =>
      tailS D2 P2 hv2 hal h2 h100 (by omega) fun v s' gv D' f' => hK v s' (k v s' gv (D'.mono (by omega)) (F2.trans f'))
    simp [ai, oIsi_tuple gi.ok]
    by_cases h4 : (b : Int) < 4
    · by_cases hd : 0 < dp
      · have hd' : (0 : Int) < (dp : Nat) := by omega
        cases it with
        | tup ys =>
          cases ys with
          | nil =>
            simp [h4, hd, isTup, opNeE_tup]
            exact go _ fun v s' q => q
          | cons y0 yr =>
            have ed : (dp : Int) - 1 = ((dp - 1 : Nat) : Int) := by omega
            simp [h4, hd, isTup, opNeE_tup, e1]
            rw [ed]
            refine bentS M (dp - 1) (by omega) s2 d l (c + 2) p n w N W g m (y0 :: yr) _ (D2.mono (by omega)) P2 gi (by simp) h2 h100 (by omega) fun v s3 gv D3 f3 => ?_
            simp
            rw [opAdd_tup (lim1 v)]
            simp only [WO_some]
            simp [e2]
            rw [opAdd_tup (lim3 v)]
            simp only [WO_some]
            exact k _ s3 (put1 v s3 gv (fr2 f3 D3)) (D3.mono (by omega)) (F2.trans f3)
        | _ =>
          simp [h4, hd, isTup]
          exact go _ fun v s' q => q
      · have hd' : ¬ (0 : Int) < (dp : Nat) := by omega
        simp [h4, hd]
        exact go _ fun v s' q => q
    · simp [h4]
      exact go _ fun v s' q => q
end K00

/-! PGD: the first error of a block -/
namespace K00
open PySem L2 Sm
def errVl : Nat × Option Str → Vl
  | (_, none) => .non
  | (c, some w) => .tup [.int (c : Nat), .str w]
theorem ldq {s s' : Sto} {q : Nat} {fs : List Vl} (f : Fr [q] s s') (e : s'[q]? = some (.lst fs)) : ∀ i, LsD s i → LsD s' i := f.ldX fun i hi => by
  simp at hi
  subst hi
  exact ld_lst e
theorem VOk.insV {s : Sto} {x : Vl} (h : VOk s x) : ∀ b ∈ insV x, VOk s b := by
  intro b hb
  unfold Sm.insV at hb
  split at hb
  · unfold VOk at h
    have h' : ∀ z ∈ _, VOk s z := fun z hz => VOks.mem h z (List.mem_cons_of_mem _ hz)
    split at hb
    · exact h' b (List.mem_of_mem_drop hb)
    · split at hb
      · exact h' b (List.mem_of_mem_drop hb)
      · cases hb
  · cases hb
def ErrS (mf : List Vl → M Vl) (g : Int) (M : Nat) : Prop := ∀ (s : Sto) (xs fs : List Vl) (q d : Nat) (Q : Vl → Sto → Prop), VOks s xs → s[q]? = some (.lst fs) → 6 ≤ M + d → d ≤ 5 → (errB g M d fs.length xs).1 < 1000000 →
  (∀ fs' s', fs'.length = (errB g M d fs.length xs).1 → s'[q]? = some (.lst fs') → Fr [q] s s' → Q (errVl (errB g M d fs.length xs)) s') → WE (mf [.tup xs, .int g, .ref q, .int (d : Nat)]) s Q NoX
def EI (s : Sto) (xs fs : List Vl) (g : Int) (q d M i : Nat) (lo : Lo) (s' : Sto) : Prop := ∃ (fs' : List Vl) (x4 x5 x6 : Option Vl), lo = [some (.tup xs), some (.int g), some (.ref q), some (.int (d : Nat)), x4, x5, x6] ∧
  errB g (M + 1) d fs.length xs = errB g (M + 1) d fs'.length (xs.drop i) ∧ s'[q]? = some (.lst fs') ∧ Fr [q] s s'
def EJ (s : Sto) (xs : List Vl) (x : Vl) (c0 : Nat) (g : Int) (q d M j : Nat) (lo : Lo) (s' : Sto) : Prop := ∃ (fs' : List Vl) (x5 x6 : Option Vl), lo = [some (.tup xs), some (.int g), some (.ref q), some (.int (d : Nat)), some x, x5, x6] ∧
  insB g M (d + 1) (c0, none) (insV x) = insB g M (d + 1) (fs'.length, none) ((insV x).drop j) ∧ s'[q]? = some (.lst fs') ∧ Fr [q] s s'
theorem errS {g : Int} : ∀ M : Nat, ErrS (R2 M 0) g M
  | 0 => fun s xs fs q d Q hv hq h1 h2 h3 k => by omega
  | M + 1 => fun s xs fs q d Q hv hq h1 h2 h3 k => by
    have ih := errS (g := g) M
    show WE (fnM 7 (b_first_error (R2 M)) _) _ _ _
    unfold b_first_error
    simp
    refine loopX_inv (EI s xs fs g q d M) ?_ ?_ ?_
    · exact ⟨fs, none, none, none, rfl, rfl, hq, Fr.refl⟩
    · rintro i x lo s1 hx ⟨fs1, x4, x5, x6, rfl, e1, q1, f1⟩
      have hi := (List.getElem?_eq_some_iff.mp hx).1
      have ex : xs[i] = x := (List.getElem?_eq_some_iff.mp hx).2
      have ed : xs.drop i = x :: xs.drop (i + 1) := by rw [List.drop_eq_getElem_cons hi, ex]
      rw [ed] at e1
      have vx1 : VOk s1 x := (hv.mem x (List.mem_of_getElem? hx)).mono (ldq f1 q1)
      simp
      by_cases hd : d = 5
      · have hd' : (4 : Int) < (d : Nat) := by omega
        rw [errB_nest (by omega)] at e1
        rw [e1] at k
        simp [hd', q1]
        exact k fs1 s1 rfl q1 f1
      · have hd' : ¬ (4 : Int) < (d : Nat) := by omega
        have hd4 : d ≤ 4 := by omega
        simp [hd']
        refine hasForm vx1 fun s2 f2 => ?_
        have q2 := f2.at q1 (by simp)
        have F2 : Fr [q] s s2 := f1.trans (f2.mono (by simp))
        cases hf : stmV g x with
        | false =>
          rw [errB_wrong hd4 hf] at e1
          rw [e1] at k
          simp [q2]
          exact k fs1 s2 rfl q2 F2
        | true =>
          rw [errB_ok hd4 hf] at e1
          have hge := errB_ge g (M + 1) d (xs.drop (i + 1))
          have hlen : fs1.length + 1 < 1000000 := by
            have h4 := insB_ge g M (d + 1) (insV x) (fs1.length + 1, none)
            rw [e1] at h3
            rcases ei : insB g M (d + 1) (fs1.length + 1, none) (insV x) with ⟨c', _ | w⟩
            · rw [ei] at h3 h4
              have := hge c'
              simp only at h3 h4
              omega
            · rw [ei] at h3 h4
              simp only at h3 h4
              omega
          simp [kd_lst q2, oAppend_lst q2 (limC (by omega))]
          have q3 : (s2.set q (.lst (fs1 ++ [x])))[q]? = some (.lst (fs1 ++ [x])) := get_set_self q2
          have F3 : Fr [q] s (s2.set q (.lst (fs1 ++ [x]))) := F2.set (Or.inl (by simp))
          have vx3 : VOk (s2.set q (.lst (fs1 ++ [x]))) x := (hv.mem x (List.mem_of_getElem? hx)).mono (ldq F3 q3)
          generalize s2.set q (.lst (fs1 ++ [x])) = s3 at q3 F3 vx3
          refine innerV hf ?_
          refine loopX_inv (EJ s xs x (fs1.length + 1) g q d M) ?_ ?_ ?_
          · exact ⟨fs1 ++ [x], _, _, rfl, by simp, q3, F3⟩
          · rintro j b lo s4 hb ⟨fs4, x5', x6', rfl, e4, q4, f4⟩
            have hj := (List.getElem?_eq_some_iff.mp hb).1
            have eb : (insV x)[j] = b := (List.getElem?_eq_some_iff.mp hb).2
            have ed4 : (insV x).drop j = b :: (insV x).drop (j + 1) := by rw [List.drop_eq_getElem_cons hj, eb]
            obtain ⟨ys, rfl⟩ := (insV_tup hf).2 b (List.mem_of_getElem? hb)
            have vb : VOks s ys := by
              have := VOk.insV (hv.mem x (List.mem_of_getElem? hx)) _ (List.mem_of_getElem? hb)
              unfold VOk at this
              exact this
            have vb4 : VOks s4 ys := vb.mono (ldq f4 q4) ys
            rw [ed4, insB_cons] at e4
            have e4' : insB g M (d + 1) (fs1.length + 1, none) (insV x) = insB g M (d + 1) (errB g M (d + 1) fs4.length ys) ((insV x).drop (j + 1)) := e4
            have hl4 : (errB g M (d + 1) fs4.length ys).1 < 1000000 := by
              have h4 := insB_ge g M (d + 1) ((insV x).drop (j + 1)) (errB g M (d + 1) fs4.length ys)
              rw [← e4'] at h4
              rw [e1] at h3
              rcases ei : insB g M (d + 1) (fs1.length + 1, none) (insV x) with ⟨c', _ | w⟩
              · rw [ei] at h3 h4
                have := hge c'
                simp only at h3 h4
                omega
              · rw [ei] at h3 h4
                simp only at h3 h4
                omega
            have edd : (d : Int) + 1 = ((d + 1 : Nat) : Int) := by omega
            simp
            rw [edd]
            refine ih s4 ys fs4 q (d + 1) _ vb4 q4 (by omega) (by omega) hl4 fun fs5 s5 l5 q5 f5 => ?_
            have F5 : Fr [q] s s5 := f4.trans f5
            rcases eo : errB g M (d + 1) fs4.length ys with ⟨c5, _ | w⟩
            · rw [eo] at e4' l5
              simp only at l5
              simp [errVl]
              exact ⟨fs5, _, _, rfl, by rw [e4', l5], q5, F5⟩
            · rw [eo] at e4' l5
              rw [insB_err] at e4'
              rw [e4'] at e1
              rw [e1] at k
              simp only at l5
              simp [errVl]
              exact k fs5 s5 l5 q5 F5
          · rintro lo s4 ⟨fs4, x5', x6', rfl, e4, q4, f4⟩
            rw [List.drop_length, insB_nil] at e4
            rw [e4] at e1
            exact ⟨fs4, _, _, _, rfl, e1, q4, f4⟩
    · rintro lo s1 ⟨fs1, x4, x5, x6, rfl, e1, q1, f1⟩
      rw [List.drop_length, errB_nil] at e1
      rw [e1] at k
      simp
      exact k fs1 s1 rfl q1 f1
end K00

/-! PGE: a program's statements in their order -/
namespace K00
open PySem L2 Sm
section
variable {s : Sto} {Q : Vl → Sto → Prop} {E : Ex → Sto → Prop}
theorem inner (x : Stm) (k : Q (.tup (x.ins.map blk)) s) : WE (m_inner_blocks [x.vl]) s Q E := by
  unfold m_inner_blocks b_inner_blocks
  have c4 : ∀ a b c e : Vl, cutL [a, b, c, e] (some 2) none = [c, e] := fun a b c e => cutL_from (n := 2) (xs := [a, b, c, e])
  have c3 : ∀ a b c : Vl, cutL [a, b, c] (some 2) none = [c] := fun a b c => cutL_from (n := 2) (xs := [a, b, c])
  cases x <;> simp [Stm.vl, Stm.ins, c3, c4] <;> exact k
def LI (s : Sto) (b : List Stm) (d : Nat) (i : Nat) (lo : Lo) (s' : Sto) : Prop := ∃ x3 x4 : Option Vl, lo = [some (blk b), some (.int (d : Nat)), some (.ref s.length), x3, x4] ∧ s'[s.length]? = some (.lst ((Stm.flats d (b.take i)).map rowD)) ∧ Fr [] s s'
def LJ (s : Sto) (b : List Stm) (d i : Nat) (x : Stm) (j : Nat) (lo : Lo) (s' : Sto) : Prop := ∃ x4 : Option Vl, lo = [some (blk b), some (.int (d : Nat)), some (.ref s.length), some x.vl, x4] ∧ s'[s.length]? = some (.lst ((Stm.flats d (b.take i)).map rowD ++ rowD (d, x) :: ((x.ins.take j).flatMap (Stm.flats (d + 1))).map rowD)) ∧ ((x.ins.take j).flatMap (Stm.flats (d + 1))).length ≤ j * 1000 ∧ Fr [] s s'
end
def ListS (mf : List Vl → M Vl) (M : Nat) : Prop := ∀ (s : Sto) (b : List Stm) (n d g : Nat) (Q : Vl → Sto → Prop) (E : Ex → Sto → Prop), n < M → Stm.oks g n b → Stm.cnts b ≤ 1000 → d ≤ 1000 - M →
  (∀ r s', s.length ≤ r → s'[r]? = some (.lst ((Stm.flats d b).map rowD)) → Fr [] s s' → Q (.ref r) s') → WE (mf [blk b, .int (d : Nat)]) s Q E
theorem listedS : ∀ M : Nat, M ≤ 1000 → ListS (R1 M 0) M
  | 0, _ => fun s b n d g Q E hn => by omega
  | M + 1, hM => fun s b n d g Q E hn ob hb hd k => by
    have ih := listedS M (by omega)
    show WE (fnM 5 (b_listed (R1 M)) _) _ _ _
    unfold b_listed
    simp
    show match blk b with | .tup xs => _ | _ => False
    simp only [blk]
    refine loopX_inv (LI s b d) ?_ ?_ ?_
    · exact ⟨none, none, rfl, by simp [Stm.flats], Fr.refl.push _⟩
    · rintro i v lo s1 hv ⟨x3, x4, rfl, e1, f1⟩
      obtain ⟨x, hx, rfl⟩ := vls_get hv
      have hxm := List.mem_of_getElem? hx
      have okx := Stm.oks_mem ob x hxm
      have cx := Stm.cnts_mem x hxm
      have ct := Stm.cnts_take (b := b) (i := i)
      have tl : (Stm.flats d (b.take i)).length ≤ 1000 := by rw [Stm.flats_len]; omega
      have e1l : ((Stm.flats d (b.take i)).map rowD).length < LIM := limC (by simp; omega)
      simp [kd_lst e1, oAppend_lst e1 e1l]
      have e2 : (s1.set s.length (.lst ((Stm.flats d (b.take i)).map rowD ++ [.tup [.int (d : Nat), x.vl]])))[s.length]? = some (.lst ((Stm.flats d (b.take i)).map rowD ++ [.tup [.int (d : Nat), x.vl]])) := get_set_self e1
      have f2 : Fr [] s (s1.set s.length (.lst ((Stm.flats d (b.take i)).map rowD ++ [.tup [.int (d : Nat), x.vl]]))) := f1.set (Or.inr (Nat.le_refl _))
      generalize (s1.set s.length (.lst ((Stm.flats d (b.take i)).map rowD ++ [.tup [.int (d : Nat), x.vl]]))) = s2 at e2 f2
      refine inner x ?_
      refine loopX_inv (LJ s b d i x) ?_ ?_ ?_
      · exact ⟨x4, rfl, by simpa [rowD] using e2, by simp, f2⟩
      · rintro j v lo s3 hv ⟨x4, rfl, e3, l3, f3⟩
        obtain ⟨b', hb', rfl⟩ := get_map hv
        have hbm := List.mem_of_getElem? hb'
        obtain ⟨n0, ob'⟩ := Stm.ok_ins okx b' hbm
        have cb := Stm.cnt_in (x := x) b' hbm
        have hj : j < 2 := by
          have := Stm.ins_len x
          have := (List.getElem?_eq_some_iff.mp hb').1
          omega
        have ed : (d : Int) + 1 = ((d + 1 : Nat) : Int) := by omega
        simp [kd_lst e3]
        rw [ed]
        refine ih s3 b' (n - 1) (d + 1) g _ _ (by omega) ob' (by omega) (by omega) fun r s4 hr e4 f4 => ?_
        have e5 := f4.at e3 (by simp)
        have l5 : (Stm.flats (d + 1) b').length ≤ 1000 := by rw [Stm.flats_len]; omega
        have hjm : j * 1000 ≤ 1000 := by omega
        have ll : ((Stm.flats d (b.take i)).map rowD ++ rowD (d, x) :: ((x.ins.take j).flatMap (Stm.flats (d + 1))).map rowD).length + ((Stm.flats (d + 1) b').map rowD).length ≤ LIM := limB (by simp only [List.length_append, List.length_cons, List.length_map]; omega)
        simp only [WE_aNil, oExtend_lst e5 e4 ll, WO_some]
        refine ⟨some (blk b'), rfl, ?_, ?_, (f3.trans f4).set (Or.inr (Nat.le_refl _))⟩
        · rw [get_set_self e5, take_succ_get hb', List.flatMap_append]
          simp
        · rw [take_succ_get hb', List.flatMap_append, List.length_append]
          have : ([b'].flatMap (Stm.flats (d + 1))).length = (Stm.flats (d + 1) b').length := by simp
          rw [this, Nat.succ_mul]
          omega
      · rintro lo s3 ⟨x4, rfl, e3, l3, f3⟩
        refine ⟨_, _, rfl, ?_, f3⟩
        rw [e3, List.length_map, List.take_length, take_succ_get hx, Stm.flats_app]
        simp [Stm.flats, Stm.flat_eq]
    · rintro lo s1 ⟨x3, x4, rfl, e1, f1⟩
      rw [vls_len, List.take_length] at e1
      simp
      exact k _ s1 (Nat.le_refl _) e1 f1
end K00

/-! PGF: weights -/
namespace K00
open PySem L2 Sm
def WeiS (mf : List Vl → M Vl) (M : Nat) : Prop := ∀ (s : Sto) (b : List Stm) (n g : Nat) (Q : Vl → Sto → Prop) (E : Ex → Sto → Prop), n < M → Stm.oks g n b →
  (∀ s', Fr [] s s' → Q (.int (Stm.wgts b : Nat)) s') → WE (mf [blk b]) s Q E
def GI (s : Sto) (b : List Stm) (i : Nat) (lo : Lo) (s' : Sto) : Prop := ∃ x2 x3 x4 : Option Vl, lo = [some (blk b), some (.int (Stm.wgts (b.take i) : Nat)), x2, x3, x4] ∧ Fr [] s s'
theorem wgt_ins (x : Stm) : x.wgt = 1 + (match x with | .rep k b => k * Stm.wgts b | _ => (x.ins.map Stm.wgts).sum) := by
  cases x <;> simp [Stm.wgt, Stm.ins]
  omega
theorem weiS : ∀ M : Nat, WeiS (R3 M 0) M
  | 0 => fun s b n g Q E hn => by omega
  | M + 1 => fun s b n g Q E hn ob k => by
    have ih := weiS M
    show WE (fnM 5 (b_weight_of (R3 M)) _) _ _ _
    unfold b_weight_of
    simp
    show match blk b with | .tup xs => _ | _ => False
    simp only [blk]
    refine loopX_inv (GI s b) ?_ ?_ ?_
    · exact ⟨none, none, none, by simp [Stm.wgts, blk], Fr.refl⟩
    · rintro i v lo s1 hv ⟨x2, x3, x4, rfl, f1⟩
      obtain ⟨x, hx, rfl⟩ := vls_get hv
      have hxm := List.mem_of_getElem? hx
      have okx := Stm.oks_mem ob x hxm
      simp
      refine inner x ?_
      refine lcX_idx (xs := x.ins.map blk) (ys := (x.ins.map fun b => ((Stm.wgts b : Nat) : Int)).map Vl.int) s1 rfl rfl (by have := Stm.ins_len x; simp; omega) (by simp) ?_ ?_
      · intro j bv y hb hy
        obtain ⟨b', hb', rfl⟩ := get_map hb
        obtain ⟨n0, ob'⟩ := Stm.ok_ins okx b' (List.mem_of_getElem? hb')
        rw [List.getElem?_map, List.getElem?_map, hb'] at hy
        obtain rfl : Vl.int ((Stm.wgts b' : Nat) : Int) = y := by simpa using hy
        refine ⟨[some (blk b), some (.int (Stm.wgts (b.take i) : Nat)), some x.vl, x3, some (blk b')], rfl, fun s' f => ?_⟩
        simp
        exact ih s' b' (n - 1) g _ _ (by omega) ob' fun s'' f' => ⟨rfl, f'⟩
      · intro s2 e2 f2
        simp [oSum_ints e2]
        have ew : Stm.wgts (b.take (i + 1)) = Stm.wgts (b.take i) + x.wgt := by rw [take_succ_get hx, Stm.wgts_app]; simp [Stm.wgts]
        have es : ((x.ins.map fun b => ((Stm.wgts b : Nat) : Int)).sum : Int) = (((x.ins.map Stm.wgts).sum : Nat) : Int) := by
          cases x <;> simp [Stm.ins]
        rw [es]
        have fin : ∀ v : Int, v = ((Stm.wgts (b.take (i + 1)) : Nat) : Int) → GI s b (i + 1) [some (blk b), some (.int v), some x.vl, some (.int (((x.ins.map Stm.wgts).sum : Nat) : Int)), x4] s2 := fun v hv => ⟨some x.vl, some (.int (((x.ins.map Stm.wgts).sum : Nat) : Int)), x4, by rw [hv], f1.trans f2⟩
        rw [ew, wgt_ins] at fin
        cases x with
        | rep m b' =>
          unfold Stm.ok at okx
          have hm : (-(2 ^ 64) < ((m : Nat) : Int) ∧ ((m : Nat) : Int) < 2 ^ 64) := by omega
          simp [Stm.vl, Stm.ins, opMul_int (Or.inl hm)]
          have := fin (((Stm.wgts (b.take i) : Nat) : Int) + (1 + (m : Int) * ((Stm.wgts b' : Nat) : Int))) (by simp)
          simpa [Stm.vl, Stm.ins] using this
        | _ =>
          have := fin _ rfl
          simpa [Stm.vl, Stm.ins] using this
    · rintro lo s1 ⟨x2, x3, x4, rfl, f1⟩
      rw [vls_len, List.take_length]
      simp
      exact k s1 f1
end K00

/-! PGG: statements_of, wishes_of, program_error -/
namespace K00
open PySem L2 Sm
section
variable {s : Sto} {Q : Vl → Sto → Prop} {E : Ex → Sto → Prop} {g n : Nat} {b : List Stm}
theorem statementsS {gv : Vl} (ob : Stm.oks g n b) (hn : n ≤ 10) (hb : Stm.cnts b ≤ 1000) (k : ∀ r s', s.length ≤ r → s'[r]? = some (.lst ((Stm.flats 0 b).map fun q => q.2.vl)) → Fr [] s s' → Q (.ref r) s') : WE (m_statements_of [.tup [gv, blk b]]) s Q E := by
  unfold m_statements_of b_statements_of
  have a1 : atI [gv, blk b] (1 : Int) = some (blk b) := atN (n := 1)
  simp [a1]
  refine listedS 12 (by omega) s b n 0 g _ _ (by omega) ob hb (by omega) fun r s1 hr e1 f1 => ?_
  simp [e1]
  refine lcL_p (j := r) s1 (fun v => match v with | .tup [_, x] => some x | _ => none) rfl rfl e1 (by rw [List.length_map, Stm.flats_len]; omega) ?_ ?_
  · intro v hv acc
    obtain ⟨q, _, rfl⟩ := List.mem_map.mp hv
    refine ⟨[some (.tup [gv, blk b]), some (.int (q.1 : Nat)), some q.2.vl], rfl, ?_⟩
    simp [rowD, WE_eq, WE0, tTrue, Sm.ret, eVar]
  · refine k _ _ (f1.le) ?_ (f1.push _)
    rw [get_last]
    congr 2
    rw [List.filterMap_map]
    induction Stm.flats 0 b with
    | nil => rfl
    | cons q l ih => simp [rowD, Function.comp] at ih ⊢; exact ih
theorem wishesS {gv : Vl} (ob : Stm.oks g n b) (hn : n ≤ 10) (hb : Stm.cnts b ≤ 60) (k : ∀ s', Fr [] s s' → Q (.tup ((sdT (wshL (Stm.flats 0 b))).map .str)) s') : WE (m_wishes_of [.tup [gv, blk b]]) s Q E := by
  unfold m_wishes_of b_wishes_of
  simp
  refine statementsS ob hn (by omega) fun r s1 hr e1 f1 => ?_
  rw [sscW_lst e1 (by rw [List.length_map, Stm.flats_len]; omega) (by simp) (pickW_wsh _)]
  simp [oTuple_lst (get_last (s := s1))]
  exact k _ (f1.push _)
end
theorem errorT {s : Sto} {Q : Vl → Sto → Prop} {g n : Nat} {b : List Stm} (hg : g ≤ 3) (ob : Stm.oks g n b) (hn : n ≤ 10) (sb : Stm.sats NmB WdB b) (fb : Stm.fits 5 b) (vb : VOks s (Stm.vls b)) (hb : Stm.cnts b ≤ 1000) (k : ∀ s', Fr [] s s' → Q (errP b) s') : WE (m_program_error [.tup [.int (g : Nat), blk b]]) s Q NoX := by
  unfold m_program_error b_program_error
  have v0 : VOk s (.tup [.int (g : Nat), blk b]) := by unfold VOk VOks; refine ⟨by unfold VOk; trivial, ?_⟩; unfold VOks; exact ⟨by unfold blk VOk; exact vb, by unfold VOks; trivial⟩
  have v1 : VOk s (blk b) := by unfold blk VOk; exact vb
  have a0 : atI [.int (g : Nat), blk b] (0 : Int) = some (.int (g : Nat)) := atN (n := 0)
  have a1 : atI [.int (g : Nat), blk b] (1 : Int) = some (blk b) := atN (n := 1)
  simp [oIsi_tuple v0, isTup, a0]
  refine isNumber (by unfold VOk; trivial) ?_
  have e0 : numV 0 3 (.int (g : Nat)) = true := by simp [numV]; omega
  have t1 : isTup (blk b) = true := rfl
  rw [e0]
  simp [a0, a1, oIsi_tuple v1, t1]
  have et := err_typed 5 b n 0 12 0 (by omega) (by omega) ob sb fb
  have q1 : (s ++ [Ob.lst []])[s.length]? = some (.lst []) := get_last
  have f1 : Fr [] s (s ++ [Ob.lst []]) := Fr.refl.push _
  have vb1 : VOks (s ++ [Ob.lst []]) (Stm.vls b) := vb.mono f1.ld _
  have hlt : s.length < (s ++ [Ob.lst []]).length := by simp
  generalize s ++ [Ob.lst []] = s1 at q1 f1 vb1 hlt
  have key := errS (g := (g : Nat)) 12 s1 (Stm.vls b) [] s.length 0
  simp only [List.length_nil] at key
  rw [et] at key
  refine key _ vb1 q1 (by omega) (by omega) (by simp; omega) fun fs s2 l2 q2 f2 => ?_
  have F2 : Fr [] s s2 := f1.trans' f2 fun i hi => by simp at hi; right; omega
  simp only [Nat.zero_add] at l2
  simp [errVl, q2, l2]
  have kk := fun s' f => k s' (F2.trans f)
  unfold errP at kk
  by_cases h1 : 30 < Stm.cnts b
  · have h1' : (30 : Int) < (Stm.cnts b : Nat) := by omega
    rw [if_pos h1] at kk
    rw [if_pos h1']
    exact kk s2 Fr.refl
  · have h1' : ¬ (30 : Int) < (Stm.cnts b : Nat) := by omega
    rw [if_neg h1] at kk
    rw [if_neg h1']
    refine weiS 12 s2 b n g _ _ (by omega) ob fun s3 f3 => ?_
    simp
    by_cases h2 : 200 < Stm.wgts b
    · have h2' : (200 : Int) < (Stm.wgts b : Nat) := by omega
      rw [if_pos h2] at kk
      rw [if_pos h2']
      exact kk s3 f3
    · have h2' : ¬ (200 : Int) < (Stm.wgts b : Nat) := by omega
      rw [if_neg h2] at kk
      rw [if_neg h2']
      refine wishesS ob hn (by omega) fun s4 f4 => ?_
      simp [sdT_len]
      by_cases h3 : 4 < (ddT (wshL (Stm.flats 0 b))).length
      · have h3' : (4 : Int) < ((ddT (wshL (Stm.flats 0 b))).length : Nat) := by omega
        rw [if_pos h3] at kk
        rw [if_pos h3']
        exact kk s4 (f3.trans f4)
      · have h3' : ¬ (4 : Int) < ((ddT (wshL (Stm.flats 0 b))).length : Nat) := by omega
        rw [if_neg h3] at kk
        rw [if_neg h3']
        exact kk s4 (f3.trans f4)
/-- a program with a wrong statement -/
theorem errorW {s : Sto} {Q : Vl → Sto → Prop} {g c : Nat} {w : Str} {xs : List Vl} (hg : g ≤ 3) (hv : VOks s xs) (he : errB (g : Nat) 12 0 0 xs = (c, some w)) (hc : c < 1000000) (k : ∀ s', Fr [] s s' → Q (.tup [.int (c : Nat), .str w]) s') : WE (m_program_error [.tup [.int (g : Nat), .tup xs]]) s Q NoX := by
  unfold m_program_error b_program_error
  have v1 : VOk s (.tup xs) := by unfold VOk; exact hv
  have v0 : VOk s (.tup [.int (g : Nat), .tup xs]) := by unfold VOk VOks; refine ⟨by unfold VOk; trivial, ?_⟩; unfold VOks; exact ⟨v1, by unfold VOks; trivial⟩
  have a0 : atI [.int (g : Nat), Vl.tup xs] (0 : Int) = some (.int (g : Nat)) := atN (n := 0)
  have a1 : atI [.int (g : Nat), Vl.tup xs] (1 : Int) = some (.tup xs) := atN (n := 1)
  simp [oIsi_tuple v0, isTup, a0]
  refine isNumber (by unfold VOk; trivial) ?_
  have e0 : numV 0 3 (.int (g : Nat)) = true := by simp [numV]; omega
  rw [e0]
  simp [a0, a1, oIsi_tuple v1, isTup]
  have q1 : (s ++ [Ob.lst []])[s.length]? = some (.lst []) := get_last
  have f1 : Fr [] s (s ++ [Ob.lst []]) := Fr.refl.push _
  have vb1 : VOks (s ++ [Ob.lst []]) xs := hv.mono f1.ld _
  have hlt : s.length < (s ++ [Ob.lst []]).length := by simp
  generalize s ++ [Ob.lst []] = s1 at q1 f1 vb1 hlt
  have key := errS (g := (g : Nat)) 12 s1 xs [] s.length 0
  simp only [List.length_nil] at key
  rw [he] at key
  refine key _ vb1 q1 (by omega) (by omega) hc fun fs s2 l2 q2 f2 => ?_
  have F2 : Fr [] s s2 := f1.trans' f2 fun i hi => by simp at hi; right; omega
  simp [errVl]
  exact k s2 F2
end K00

/-! K0F: the ends of a turn -/
namespace K00
open PySem L2 Sm
def lwT3 : SM := (sSeq (sSet 6 (eIfM (tVal (eCall (arg 2 m__law_is_row) (aCons (eVar 4) (aCons (eOp opIx (eVar 3) (eC (.int 2))) aNil)))) (eC .non) (eCB oTup (aCons (eC (.int 0)) (aCons (eC (.str "statement")) aNil)))))
  (sIf (tVal (eOp opNe (eCB oRepr (aCons (eCall (arg 1 m_program_error) (aCons (eCB oTup (aCons (eOp opIx (eVar 3) (eC (.int 2))) (aCons (eCB oTup (aCons (eVar 4) aNil)) aNil))) aNil)) aNil)) (eCB oRepr (aCons (eVar 6) aNil)))) (sRet (eC (.bl false))) sNil))
def lwT2 : SM := (sSeq (sIf (tAndM (tVal (eCB oIsi (aCons (eVar 4) (aCons (eC (.ty "tuple")) aNil)))) (tAndM (tVal (eOp opGt (eCB oLen (aCons (eVar 4) aNil)) (eC (.int 2)))) (tOrM (tVal (eOp opEqS (eOp opIx (eVar 4) (eC (.int 0))) (eC (.str "if")))) (tVal (eOp opEqS (eOp opIx (eVar 4) (eC (.int 0))) (eC (.str "repeat"))))))) (sSet 4 (eOp opAdd (eSl opSl (eVar 4) none (some (eC (.int 2)))) (eCB oTuple (aCons (eLcX (aTup (eSl opSl (eVar 4) (some (eC (.int 2))) none)) (glN 8) tTrue (eIfM (tVal (eCB oIsi (aCons (eVar 8) (aCons (eC (.ty "tuple")) aNil)))) (eCB oTup aNil) (eVar 8)) [8]) aNil)))) sNil)
  lwT3)
def lwT1 : SM := (sSeq (sForX (aRng (aCons (eCall (arg 2 m__law_draw) (aCons (eVar 1) (aCons (eC (.int 3)) aNil))) aNil)) (gNm 5)
  (sSet 4 (eIfM (tAndM (tVal (eCB oIsi (aCons (eVar 4) (aCons (eC (.ty "tuple")) aNil)))) (tVal (eOp opNeE (eVar 4) (eCB oTup aNil)))) (eCall (arg 4 m__law_bent) (aCons (eVar 1) (aCons (eVar 3) (aCons (eVar 4) (aCons (eC (.int 5)) aNil))))) (eCall (arg 2 m__law_odd) (aCons (eVar 1) (aCons (eVar 3) aNil))))))
  lwT2)
theorem law_eq : b_law = (sSeq (sSet 1 (eCall (arg 1 m__law_deck) (aCons (eVar 0) aNil)))
  (sSeq (sForX (aRng (aCons (eC (.int 12)) aNil)) (gNm 2)
  (sSeq (sSet 3 (eCall (arg 1 m__law_pool) (aCons (eVar 1) aNil)))
  (sSeq (sSet 4 (eCall (arg 2 m__law_row) (aCons (eVar 1) (aCons (eVar 3) aNil))))
  (sSeq (sIf (tVal (eOp opEq (eCall (arg 2 m__law_draw) (aCons (eVar 1) (aCons (eC (.int 3)) aNil))) (eC (.int 0)))) (sSeq (sSet 7 (eCall (arg 2 m__law_any_test) (aCons (eVar 1) (aCons (eVar 3) aNil))))
  (sSet 4 (eCall (arg 2 m__law_one) (aCons (eVar 1) (aCons (eCB oLst (aCons (eCB oTup (aCons (eC (.str "if")) (aCons (eVar 7) (aCons (eCB oTup aNil) (aCons (eCB oTup aNil) aNil))))) (aCons (eCB oTup (aCons (eC (.str "repeat")) (aCons (eCall (arg 2 m__law_draw) (aCons (eVar 1) (aCons (eC (.int 13)) aNil))) (aCons (eCB oTup aNil) aNil)))) (aCons (eCB oTup (aCons (eC (.str "ask")) (aCons (eVar 7) aNil))) aNil)))) aNil))))) sNil)
  lwT1))))
  (sRet (eC (.bl true))))) := rfl
theorem pnErr {v : Vl} (h : v = .non ∨ (∃ (c : Nat) (w : Str), v = .tup [.int (c : Nat), .str w] ∧ c < 1000000 ∧ (w = "statement" ∨ w = "nest"))) : ∃ x, ∀ s, oRepr [v] s = some (.str x, s) := by
  rcases h with rfl | ⟨c, w, rfl, hc, rfl | rfl⟩
  · exact Pn.non.repr (by omega) (by omega)
  · exact (Pn.tup2 (Pn.int (by omega)) Pn.lit).repr (by omega) (by omega)
  · exact (Pn.tup2 (Pn.int (by omega)) Pn.lit).repr (by omega) (by omega)
theorem anyX {α : Type} {m : M α} {s : Sto} {Q : α → Sto → Prop} {E : Ex → Sto → Prop} (h : WE m s Q NoX) : WE m s Q E := WE.mono h (fun _ _ z => z) (fun _ _ z => z.elim)
/-- one statement has no error -/
theorem errP_one {x : Stm} (h1 : x.cnt = 1) (h2 : x.wgt = 1) (h3 : Stm.flats 0 [x] = [(0, x)]) : errP [x] = .non := by
  have c : Stm.cnts [x] = 1 := by simp [Stm.cnts, h1]
  have w : Stm.wgts [x] = 1 := by simp [Stm.wgts, h2]
  have l : (ddT (wshL (Stm.flats 0 [x]))).length ≤ 4 := by
    rw [h3]
    have : (wshL [(0, x)]).length ≤ 1 := by
      unfold wshL
      rw [List.flatMap_cons, List.flatMap_nil, List.append_nil]
      cases x <;> simp [wshW]
    exact Nat.le_trans (ddT_le fun w hw => hw) (by omega)
  unfold errP
  rw [c, w, if_neg (by omega), if_neg (by omega), if_neg (by omega)]
theorem endS {s : Sto} {d l c p n w m : Nat} {N W : List Str} {g : Nat} {v : Vl} {K : RK} {x0 x2 x5 x6 x7 x8 : Option Vl} (D : Dk s d l c) (P : Pl s d l p n w N W g) (hv : GV s m v) (hm : m ≤ 100) (hb : stmV (g : Nat) v = true → ∀ b ∈ insV v, b = .tup [])
    (k : ∀ s' y6, Dk s' d l c → K.nx [x0, some (.ref d), x2, some (.ref p), some v, x5, y6, x7, x8] s') : WS lwT3 [x0, some (.ref d), x2, some (.ref p), some v, x5, x6, x7, x8] s K := by
  unfold lwT3
  have g4 := P.g4
  simp [P.top]
  refine anyX (lwRow hv.ok (fun xs e => ?_) fun s1 f1 => ?_)
  · subst e
    have := hv.un.1
    omega
  have P1 := P.fr0 f1
  have hv1 := hv.mono f1.ld (Nat.le_refl m)
  cases hs : stmV (g : Nat) v with
  | true =>
    obtain ⟨x, rfl, ok, sat, fit, cnt, wgt, fl⟩ := typed_of hs (hb hs)
    simp [P1.top]
    refine anyX (errorT (b := [x]) (n := 1) (by omega) ⟨ok, trivial⟩ (by omega) ⟨sat, trivial⟩ ⟨fit, trivial⟩ (by unfold Stm.vls Stm.vls VOks; exact ⟨hv1.ok, by unfold VOks; trivial⟩) (by simp [Stm.cnts, cnt]) fun s2 f2 => ?_)
    rw [errP_one cnt wgt fl]
    obtain ⟨y, hy⟩ := pnErr (v := .non) (.inl rfl)
    simp [hy]
    exact k _ _ (D.new (f1.trans f2))
  | false =>
    simp [P1.top]
    have he : errB (g : Nat) 12 0 0 [v] = (0, some ("statement" : Str)) := errB_wrong (by omega) hs
    refine anyX (errorW (c := 0) (by omega) (voks_cons hv1.ok voks_nil) he (by omega) fun s2 f2 => ?_)
    obtain ⟨y, hy⟩ := pnErr (v := .tup [.int ((0 : Nat) : Int), .str "statement"]) (.inr ⟨0, _, rfl, by omega, .inl rfl⟩)
    have hy' : ∀ s, oRepr [Vl.tup [.int 0, .str "statement"]] s = some (.str y, s) := hy
    simp [hy, hy']
    exact k _ _ (D.new (f1.trans f2))
end K00

/-! K0G: blocks without statements; bending -/
namespace K00
open PySem L2 Sm
theorem noIns {g : Int} {v : Vl} (h : stmV g v = true) (hn : ∀ h xs, v = .tup (.str h :: xs) → 2 ≤ xs.length → h ≠ "if" ∧ h ≠ "repeat") : insV v = [] := by
  obtain ⟨hd, xs, rfl⟩ := form_str h
  rw [insV_cons]
  by_cases e : hd = "if"
  · subst e
    rw [stm_if] at h
    match xs, h, hn with
    | [a, b, c], h, hn => exact absurd rfl (hn _ _ rfl (by simp)).1
  by_cases e2 : hd = "repeat"
  · subst e2
    rw [stm_repeat] at h
    match xs, h, hn with
    | [a, b], h, hn => exact absurd rfl (hn _ _ rfl (by simp)).2
  rw [if_neg e, if_neg e2]
def emptyT (v : Vl) : Vl := if isTup v = true then .tup [] else v
theorem emptied {g : Int} {h : Str} {t : Vl} {r : List Vl} (hh : h = "if" ∨ h = "repeat") (hs : stmV g (.tup (.str h :: t :: r.map emptyT)) = true) : ∀ b ∈ insV (.tup (.str h :: t :: r.map emptyT)), b = .tup [] := by
  intro b hb
  obtain ⟨ys, rfl⟩ := (insV_tup hs).2 b hb
  have e : insV (.tup (.str h :: t :: r.map emptyT)) = r.map emptyT := by
    rw [insV_cons]
    rcases hh with rfl | rfl
    · rw [if_pos rfl]; rfl
    · rw [if_neg (by decide), if_pos rfl]; rfl
  rw [e] at hb
  obtain ⟨z, _, ez⟩ := List.mem_map.mp hb
  unfold emptyT at ez
  split at ez
  · exact ez.symm
  · rename_i hz
    subst ez
    exact absurd rfl hz
section
variable {s : Sto} {d l c p n w m : Nat} {N W : List Str} {g : Nat} {v : Vl} {K : RK} {x0 x2 x5 x6 x7 x8 : Option Vl}
theorem blocksS (D : Dk s d l c) (P : Pl s d l p n w N W g) (hv : GV s m v) (hm : m ≤ 100)
    (k : ∀ s' y4 y6 y8, Dk s' d l c → K.nx [x0, some (.ref d), x2, some (.ref p), y4, x5, y6, x7, y8] s') : WS lwT2 [x0, some (.ref d), x2, some (.ref p), some v, x5, x6, x7, x8] s K := by
  unfold lwT2
  have stay : (∀ h xs, v = .tup (.str h :: xs) → 2 ≤ xs.length → h ≠ "if" ∧ h ≠ "repeat") → WS lwT3 [x0, some (.ref d), x2, some (.ref p), some v, x5, x6, x7, x8] s K := fun hn =>
    endS D P hv hm (fun hs b hb => by rw [noIns hs hn] at hb; cases hb) fun s' y6 D' => k s' _ y6 _ D'
  simp [oIsi_tuple hv.ok]
  cases v with
  | tup xs =>
    simp [isTup]
    by_cases h2 : (2 : Int) < (xs.length : Nat)
    · match xs, h2, hv, stay with
      | [], h2, _, _ => simp at h2
      | a :: [], h2, _, _ => simp at h2
      | a :: t :: r, h2, hv, stay =>
        have hu := hv.un
        have ha := hu.2 a (by simp)
        have a0 : atI (a :: t :: r) (0 : Int) = some a := atN (n := 0)
        have q1 : opEqS a (.str "if") s = _ := eqS_vok ha.ok
        have q2 : opEqS a (.str "repeat") s = _ := eqS_vok ha.ok
        have c1 : cutL (a :: t :: r) none (some 2) = [a, t] := cutL_nat (n := 2)
        have c2 : cutL (a :: t :: r) (some 2) none = r := cutL_from (n := 2)
        have hlen := hu.1
        have hr2 : (2 : Int) < (r.length : Int) + 1 + 1 := by simpa using h2
        simp [hr2, a0, q1, q2]
        have go : ∀ h : Str, a = .str h → (h = "if" ∨ h = "repeat") → ∀ (QS : Sto → Prop), (∀ s', s'[s.length]? = some (.lst (r.map emptyT)) → Fr [] s s' → QS s') →
            WL (lcX (glN 8) tTrue (eIfM (tVal (eCB oIsi (aCons (eVar 8) (aCons (eC (.ty "tuple")) aNil)))) (eCB oTup aNil) (eVar 8)) s.length (wipeL [x0, some (.ref d), x2, some (.ref p), some (.tup (a :: t :: r)), x5, x6, x7, x8] [8]) r (s ++ [Ob.lst []])) QS := fun h _ _ QS kq => by
          refine lcX_map (xs := r) s emptyT rfl rfl (by simp at hlen; omega) ?_ kq
          intro x hx
          refine ⟨[x0, some (.ref d), x2, some (.ref p), some (.tup (a :: t :: r)), x5, x6, x7, some x], rfl, fun s' f => ?_⟩
          have hx' := (hu.2 x (by simp [hx])).mono f.ld (Nat.le_refl m)
          simp [oIsi_tuple hx'.ok]
          unfold emptyT
          cases hi : isTup x <;> simp <;> exact Fr.refl
        have fin : ∀ h : Str, a = .str h → (h = "if" ∨ h = "repeat") → ∀ s', s'[s.length]? = some (.lst (r.map emptyT)) → Fr [] s s' → WO (opAdd (.tup [a, t]) (.tup (r.map emptyT)) s') (fun v s_2 => WS lwT3 [x0, some (.ref d), x2, some (.ref p), some v, x5, x6, x7, x8] s_2 K) := fun h eh hh s' e f => by
          rw [opAdd_tup (limB (by simp at hlen ⊢; omega))]
          simp only [WO_some]
          subst eh
          have hv' := hv.mono f.ld (Nat.le_refl m)
          refine endS (m := m) (D.new f) (P.fr0 f) ?_ hm (fun hs => emptied hh (by simpa using hs)) fun s'' y6 D' => k s'' _ y6 _ D'
          refine GV.tup (GVs.cons (hv'.un.2 _ (by simp)) (GVs.cons (hv'.un.2 _ (by simp)) ?_)) (by simpa using hlen)
          intro y hy
          simp at hy
          obtain ⟨z, hz, rfl⟩ := hy
          unfold emptyT
          split
          · exact GV.tup GVs.nil (by simp)
          · exact hv'.un.2 z (by simp [hz])
        cases a with
        | str h =>
          by_cases e1 : h = "if"
          · subst e1
            simp [eqStr, c1, c2]
            refine go _ rfl (.inl rfl) _ fun s' e f => ?_
            simp [oTuple_lst e]
            exact fin _ rfl (.inl rfl) s' e f
          by_cases e2 : h = "repeat"
          · subst e2
            simp [eqStr, c1, c2]
            refine go _ rfl (.inr rfl) _ fun s' e f => ?_
            simp [oTuple_lst e]
            exact fin _ rfl (.inr rfl) s' e f
          simp [eqStr, e1, e2]
          exact stay (by intro h' xs e; cases e; exact fun _ => ⟨e1, e2⟩)
        | _ => simp [eqStr]; exact stay (by intro h xs e; cases e)
    · simp [h2]
      refine stay ?_
      intro h ys e hl
      cases e
      simp at h2
      omega
  | _ => simp [isTup]; exact stay (by intro h xs e; cases e)
end
end K00

/-! L00: the law -/
namespace K00
open PySem L2 Sm
def BI (d l c p m : Nat) (s0 : Sto) (x0 x2 x6 x7 x8 : Option Vl) (i : Nat) (lo : Lo) (s' : Sto) : Prop := ∃ (v : Vl) (x5 : Option Vl), lo = [x0, some (.ref d), x2, some (.ref p), some v, x5, x6, x7, x8] ∧ GV s' (m + i) v ∧ Dk s' d l (c + i * 200) ∧ Fr [d, l] s0 s'
section
variable {s : Sto} {d l c p n w m : Nat} {N W : List Str} {g : Nat} {v : Vl} {K : RK} {x0 x2 x5 x6 x7 x8 : Option Vl}
theorem bendS (D : Dk s d l c) (P : Pl s d l p n w N W g) (hv : GV s 4 v) (hc : c + 2000 < CM)
    (k : ∀ s' x5 y4 y6 y8, Dk s' d l (c + 1000) → K.nx [x0, some (.ref d), x2, some (.ref p), y4, x5, y6, x7, y8] s') : WS lwT1 [x0, some (.ref d), x2, some (.ref p), some v, x5, x6, x7, x8] s K := by
  unfold lwT1
  simp
  refine draw D (by omega) (by omega) (by omega) fun r s1 hr D1 f1 => ?_
  simp
  rw [rngW_nat (by omega)]
  refine loopX_inv (BI d l (c + 1) p 4 s x0 x2 x6 x7 x8) ?_ ?_ ?_
  · exact ⟨v, x5, rfl, hv.mono (fr2 f1 D1) (by omega), D1.mono (by omega), f1⟩
  · rintro i z lo s2 hz ⟨v, y5, rfl, gv, D2, f2⟩
    obtain ⟨hi, rfl⟩ := rng_get hz
    have P2 := P.frD f2
    simp [oIsi_tuple gv.ok]
    cases v with
    | tup xs =>
      cases xs with
      | nil =>
        simp [isTup, opNeE_tup]
        refine odd D2 P2 (by omega) fun u s3 gu D3 f3 => ?_
        exact ⟨u, _, rfl, gu.mono (fun _ q => q) (by omega), D3.mono (by omega), f2.trans f3⟩
      | cons y ys =>
        simp [isTup, opNeE_tup]
        refine anyX (bentS 12 5 (by omega) s2 d l (c + 1 + i * 200) p n w N W g (4 + i) (y :: ys) _ D2 P2 gv (by simp) (by omega) (by omega) (by omega) fun u s3 gu D3 f3 => ?_)
        exact ⟨u, _, rfl, gu.mono (fun _ q => q) (by omega), D3.mono (by omega), f2.trans f3⟩
    | _ =>
      simp [isTup]
      refine odd D2 P2 (by omega) fun u s3 gu D3 f3 => ?_
      exact ⟨u, _, rfl, gu.mono (fun _ q => q) (by omega), D3.mono (by omega), f2.trans f3⟩
  · rintro lo s2 ⟨v, y5, rfl, gv, D2, f2⟩
    rw [rng_len] at gv D2
    exact blocksS (m := 4 + r) D2 (P.frD f2) gv (by omega) fun s' y4 y6 y8 D' => k s' _ y4 y6 y8 (D'.mono (by omega))
end
def LwI (ns : List Int) (d l : Nat) (i : Nat) (lo : Lo) (s' : Sto) : Prop := ∃ x2 x3 x4 x5 x6 x7 x8 : Option Vl, lo = [some (.scr ns), some (.ref d), x2, x3, x4, x5, x6, x7, x8] ∧ Dk s' d l (i * 5000)
theorem pure_law : ∀ ns : List Int, ns.length ≤ 63 → ∃ st, m_law [.scr ns] [] = .ok (.bl true) st := by
  intro ns hn
  have hCM : CM = 1000000000000000 := rfl
  have key : WE (m_law [.scr ns]) [] (fun v _ => v = .bl true) NoX := by
    unfold m_law
    rw [law_eq]
    simp
    refine deck hn fun d l s1 D1 f1 => ?_
    simp
    rw [show rngW [Vl.int 12] s1 _ = _ from rngW_nat (n := 12) (by omega)]
    refine loopX_inv (LwI ns d l) ?_ ?_ ?_
    · exact ⟨none, none, none, none, none, none, none, rfl, D1.mono (by omega)⟩
    · rintro i v lo s2 hv ⟨x2, x3, x4, x5, x6, x7, x8, rfl, D2⟩
      obtain ⟨hi, rfl⟩ := rng_get hv
      obtain ⟨c, hcv⟩ : ∃ c, c = i * 5000 := ⟨_, rfl⟩
      rw [← hcv] at D2
      have hc : c ≤ 60000 := by rw [hcv]; exact Nat.mul_le_mul_right 5000 (show i ≤ 12 by omega)
      have ei : (i + 1) * 5000 = c + 5000 := by rw [hcv, Nat.succ_mul]
      clear hcv
      simp
      refine pool D2 (by omega) fun p n w N W g s3 P3 _ _ _ D3 f3 => ?_
      simp
      refine row D3 P3 (by omega) fun x s4 ok _ _ _ P4 D4 f4 => ?_
      simp
      refine draw D4 (by omega) (by omega) (by omega) fun q s5 hq D5 f5 => ?_
      have P5 := P4.frD f5
      simp
      have fin : ∀ (v : Vl) (s' : Sto) (y5 y7 : Option Vl) (K : RK), GV s' 4 v → Dk s' d l (c + 300) → Pl s' d l p n w N W g → (∀ lo s, LwI ns d l (i + 1) lo s → K.nx lo s) → WS lwT1 [some (.scr ns), some (.ref d), some (.int (i : Nat)), some (.ref p), some v, y5, x6, y7, x8] s' K := fun v s' y5 y7 K gv D' P' hK =>
        bendS D' P' gv (by omega) fun s'' z5 z4 z6 z8 D'' => hK _ _ ⟨_, _, _, _, _, _, _, rfl, by rw [ei]; exact D''.mono (by omega)⟩
      by_cases h0 : q = 0
      · subst h0
        simp
        refine anyTest D5 P5 (by omega) fun t s6 tok _ P6 D6 f6 => ?_
        simp
        refine draw D6 (by omega) (by omega) (by omega) fun q2 s7 hq2 D7 f7 => ?_
        have P7 := P6.frD f7
        simp
        refine oneNew D7 (by simp) (by simp) (by omega) fun v s8 hv D8 f8 => ?_
        refine fin v s8 _ _ _ ?_ (D8.mono (by omega)) (P7.frD f8) fun lo s h => h
        have lit : ∀ y : Str, y.length ≤ 10 → GV s8 4 (.str y) := fun y hy => GV.str (by omega)
        have t0 : GV s8 4 (.tup []) := GV.tup GVs.nil (by simp)
        have gt : GV s8 4 t.vl := Tst.gv tok (by omega)
        simp only [List.mem_cons, List.not_mem_nil, or_false] at hv
        rcases hv with rfl | rfl | rfl
        · exact GV.tup (GVs.cons (lit _ (by decide)) (GVs.cons gt (GVs.cons t0 (GVs.cons t0 GVs.nil)))) (by simp)
        · exact GV.tup (GVs.cons (lit _ (by decide)) (GVs.cons GV.int (GVs.cons t0 GVs.nil))) (by simp)
        · exact GV.tup (GVs.cons (lit _ (by decide)) (GVs.cons gt GVs.nil)) (by simp)
      · have h0' : ¬ ((q : Int) = 0) := by omega
        simp [h0]
        exact fin x.vl s5 _ _ _ (Stm.gv ok (by omega)) (D5.mono (by omega)) P5 fun lo s h => h
    · rintro lo s2 ⟨x2, x3, x4, x5, x6, x7, x8, rfl, D2⟩
      simp
  obtain ⟨a, s', e, rfl⟩ := key.get
  exact ⟨s', e⟩
end K00

open PySem PySem.W PyProof.Rows
set_option maxRecDepth 100000 in
set_option maxHeartbeats 0 in
theorem PySem.Challenge.cw_maybegone_k00_single_statements_holds : PySem.Challenge.rw_maybegone_k00_single_statements.Holds := by
  w_on; o_law; k_head; (case hw => w_witness2)
  k_fill
  refine Sm.walk_G (l := PySem.Challenge.rw_maybegone_k00_single_statements) (n := 63) (k := 28) (x := "_law_script") (m := K00.m_law) rfl (by decide) rfl ⟨rfl, by decide, by decide⟩ (fun w h Y => PySem.W.kIn_of Y) ?F K00.pure_law
  case F =>
    intro w mg fa h KX G hmg
    refine' K00.all_mk KX G hmg ?aC_D_TEST_FORMS ?aC_D_FORMS ?aC_D_NO_NAMES ?a_is_number ?a_is_word ?a_is_name ?a_has_form ?a_is_part ?a_is_test ?a_inner_blocks ?a_listed ?a_first_error ?a_weight_of ?a_statements_of ?a_wishes_of ?a_program_error ?a__law_deck ?a__law_draw ?a__law_one ?a__law_kept ?a__law_name ?a__law_word ?a__law_pool ?a__law_any_test ?a__law_row ?a__law_is_name ?a__law_is_word ?a__law_is_number ?a__law_is_test ?a__law_is_row ?a__law_odd ?a__law_bent ?a_law ?l_is_number ?c_is_number ?k_is_number ?l_is_word ?c_is_word ?k_is_word ?l_is_name ?c_is_name ?k_is_name ?l_has_form ?c_has_form ?k_has_form ?l_is_part ?c_is_part ?k_is_part ?l_is_test ?c_is_test ?k_is_test ?l_inner_blocks ?c_inner_blocks ?k_inner_blocks ?l_listed ?c_listed ?k_listed ?l_first_error ?c_first_error ?k_first_error ?l_weight_of ?c_weight_of ?k_weight_of ?l_statements_of ?c_statements_of ?k_statements_of ?l_wishes_of ?c_wishes_of ?k_wishes_of ?l_program_error ?c_program_error ?k_program_error ?l__law_deck ?c__law_deck ?k__law_deck ?l__law_draw ?c__law_draw ?k__law_draw ?l__law_one ?c__law_one ?k__law_one ?l__law_kept ?c__law_kept ?k__law_kept ?l__law_name ?c__law_name ?k__law_name ?l__law_word ?c__law_word ?k__law_word ?l__law_pool ?c__law_pool ?k__law_pool ?l__law_any_test ?c__law_any_test ?k__law_any_test ?l__law_row ?c__law_row ?k__law_row ?l__law_is_name ?c__law_is_name ?k__law_is_name ?l__law_is_word ?c__law_is_word ?k__law_is_word ?l__law_is_number ?c__law_is_number ?k__law_is_number ?l__law_is_test ?c__law_is_test ?k__law_is_test ?l__law_is_row ?c__law_is_row ?k__law_is_row ?l__law_odd ?c__law_odd ?k__law_odd ?l__law_bent ?c__law_bent ?k__law_bent ?l_law ?c_law ?k_law ?lD_TEST_FORMS ?kl_TEST_FORMS ?kz_TEST_FORMS ?km_TEST_FORMS ?kn_TEST_FORMS_0 ?kn_TEST_FORMS_1 ?kn_TEST_FORMS_2 ?kn_TEST_FORMS_3 ?kn_TEST_FORMS_4 ?lD_FORMS ?kl_FORMS ?kz_FORMS ?km_FORMS ?kn_FORMS_0 ?kn_FORMS_1 ?kn_FORMS_2 ?kn_FORMS_3 ?kn_FORMS_4 ?kn_FORMS_5 ?kn_FORMS_6 ?kn_FORMS_7 ?kn_FORMS_8 ?kn_FORMS_9 ?kn_FORMS_10 ?kn_FORMS_11 ?kn_FORMS_12 ?lD_NO_NAMES ?tk_NO_NAMES ?v_DIGITS ?v_MAX_GIVENS ?v_MAX_NAME ?v_MAX_NEST ?v_MAX_PLACES ?v_MAX_TIMES ?v_MAX_WEIGHT ?v_MAX_WISHES ?v_MAX_WORD ?v_MOST_NOTS ?v_SMALL ?z_abs ?z_all ?z_bool ?z_int ?z_isinstance ?z_len ?z_list ?z_range ?z_repr ?z_sorted ?z_str ?z_sum ?z_tuple ?z_zip
    (case aC_D_TEST_FORMS => k_is)
    (case aC_D_FORMS => k_is)
    (case aC_D_NO_NAMES => k_is)
    (case a_is_number => k_is)
    (case a_is_word => k_is)
    (case a_is_name => k_is)
    (case a_has_form => k_is)
    (case a_is_part => k_is)
    (case a_is_test => k_is)
    (case a_inner_blocks => k_is)
    (case a_listed => k_is)
    (case a_first_error => k_is)
    (case a_weight_of => k_is)
    (case a_statements_of => k_is)
    (case a_wishes_of => k_is)
    (case a_program_error => k_is)
    (case a__law_deck => k_is)
    (case a__law_draw => k_is)
    (case a__law_one => k_is)
    (case a__law_kept => k_is)
    (case a__law_name => k_is)
    (case a__law_word => k_is)
    (case a__law_pool => k_is)
    (case a__law_any_test => k_is)
    (case a__law_row => k_is)
    (case a__law_is_name => k_is)
    (case a__law_is_word => k_is)
    (case a__law_is_number => k_is)
    (case a__law_is_test => k_is)
    (case a__law_is_row => k_is)
    (case a__law_odd => k_is)
    (case a__law_bent => k_is)
    (case a_law => k_is)
    (case l_is_number => k_is)
    (case c_is_number => k_is)
    (case k_is_number => k_is)
    (case l_is_word => k_is)
    (case c_is_word => k_is)
    (case k_is_word => k_is)
    (case l_is_name => k_is)
    (case c_is_name => k_is)
    (case k_is_name => k_is)
    (case l_has_form => k_is)
    (case c_has_form => k_is)
    (case k_has_form => k_is)
    (case l_is_part => k_is)
    (case c_is_part => k_is)
    (case k_is_part => k_is)
    (case l_is_test => k_is)
    (case c_is_test => k_is)
    (case k_is_test => k_is)
    (case l_inner_blocks => k_is)
    (case c_inner_blocks => k_is)
    (case k_inner_blocks => k_is)
    (case l_listed => k_is)
    (case c_listed => k_is)
    (case k_listed => k_is)
    (case l_first_error => k_is)
    (case c_first_error => k_is)
    (case k_first_error => k_is)
    (case l_weight_of => k_is)
    (case c_weight_of => k_is)
    (case k_weight_of => k_is)
    (case l_statements_of => k_is)
    (case c_statements_of => k_is)
    (case k_statements_of => k_is)
    (case l_wishes_of => k_is)
    (case c_wishes_of => k_is)
    (case k_wishes_of => k_is)
    (case l_program_error => k_is)
    (case c_program_error => k_is)
    (case k_program_error => k_is)
    (case l__law_deck => k_is)
    (case c__law_deck => k_is)
    (case k__law_deck => k_is)
    (case l__law_draw => k_is)
    (case c__law_draw => k_is)
    (case k__law_draw => k_is)
    (case l__law_one => k_is)
    (case c__law_one => k_is)
    (case k__law_one => k_is)
    (case l__law_kept => k_is)
    (case c__law_kept => k_is)
    (case k__law_kept => k_is)
    (case l__law_name => k_is)
    (case c__law_name => k_is)
    (case k__law_name => k_is)
    (case l__law_word => k_is)
    (case c__law_word => k_is)
    (case k__law_word => k_is)
    (case l__law_pool => k_is)
    (case c__law_pool => k_is)
    (case k__law_pool => k_is)
    (case l__law_any_test => k_is)
    (case c__law_any_test => k_is)
    (case k__law_any_test => k_is)
    (case l__law_row => k_is)
    (case c__law_row => k_is)
    (case k__law_row => k_is)
    (case l__law_is_name => k_is)
    (case c__law_is_name => k_is)
    (case k__law_is_name => k_is)
    (case l__law_is_word => k_is)
    (case c__law_is_word => k_is)
    (case k__law_is_word => k_is)
    (case l__law_is_number => k_is)
    (case c__law_is_number => k_is)
    (case k__law_is_number => k_is)
    (case l__law_is_test => k_is)
    (case c__law_is_test => k_is)
    (case k__law_is_test => k_is)
    (case l__law_is_row => k_is)
    (case c__law_is_row => k_is)
    (case k__law_is_row => k_is)
    (case l__law_odd => k_is)
    (case c__law_odd => k_is)
    (case k__law_odd => k_is)
    (case l__law_bent => k_is)
    (case c__law_bent => k_is)
    (case k__law_bent => k_is)
    (case l_law => k_is)
    (case c_law => k_is)
    (case k_law => k_is)
    (case lD_TEST_FORMS => k_is)
    (case kl_TEST_FORMS => exact ⟨⟨_, _, rfl, rfl⟩, ⟨_, _, rfl, rfl⟩, ⟨_, _, rfl, rfl⟩, ⟨_, _, rfl, rfl⟩, ⟨_, _, rfl, rfl⟩, trivial⟩)
    (case kz_TEST_FORMS => first | rfl | decide +kernel)
    (case km_TEST_FORMS => first | rfl | decide +kernel)
    (case kn_TEST_FORMS_0 => k_is)
    (case kn_TEST_FORMS_1 => k_is)
    (case kn_TEST_FORMS_2 => k_is)
    (case kn_TEST_FORMS_3 => k_is)
    (case kn_TEST_FORMS_4 => k_is)
    (case lD_FORMS => k_is)
    (case kl_FORMS => exact ⟨⟨_, _, rfl, rfl⟩, ⟨_, _, rfl, rfl⟩, ⟨_, _, rfl, rfl⟩, ⟨_, _, rfl, rfl⟩, ⟨_, _, rfl, rfl⟩, ⟨_, _, rfl, rfl⟩, ⟨_, _, rfl, rfl⟩, ⟨_, _, rfl, rfl⟩, ⟨_, _, rfl, rfl⟩, ⟨_, _, rfl, rfl⟩, ⟨_, _, rfl, rfl⟩, ⟨_, _, rfl, rfl⟩, ⟨_, _, rfl, rfl⟩, trivial⟩)
    (case kz_FORMS => first | rfl | decide +kernel)
    (case km_FORMS => first | rfl | decide +kernel)
    (case kn_FORMS_0 => k_is)
    (case kn_FORMS_1 => k_is)
    (case kn_FORMS_2 => k_is)
    (case kn_FORMS_3 => k_is)
    (case kn_FORMS_4 => k_is)
    (case kn_FORMS_5 => k_is)
    (case kn_FORMS_6 => k_is)
    (case kn_FORMS_7 => k_is)
    (case kn_FORMS_8 => k_is)
    (case kn_FORMS_9 => k_is)
    (case kn_FORMS_10 => k_is)
    (case kn_FORMS_11 => k_is)
    (case kn_FORMS_12 => k_is)
    (case lD_NO_NAMES => k_is)
    (case tk_NO_NAMES => exact ⟨(.cons ⟨_, rfl⟩ (.cons ⟨_, rfl⟩ (.cons ⟨_, rfl⟩ (.cons ⟨_, rfl⟩ (.cons ⟨_, rfl⟩ (.cons ⟨_, rfl⟩ (.cons ⟨_, rfl⟩ (.cons ⟨_, rfl⟩ (.cons ⟨_, rfl⟩ (.cons ⟨_, rfl⟩ (.cons ⟨_, rfl⟩ (.cons ⟨_, rfl⟩ (.cons ⟨_, rfl⟩ (.cons ⟨_, rfl⟩ (.cons ⟨_, rfl⟩ (.cons ⟨_, rfl⟩ (.cons ⟨_, rfl⟩ (.cons ⟨_, rfl⟩ (.cons ⟨_, rfl⟩ (.cons ⟨_, rfl⟩ (.cons ⟨_, rfl⟩  .nil))))))))))))))))))))), by decide⟩)
    (case v_DIGITS => k_is)
    (case v_MAX_GIVENS => k_is)
    (case v_MAX_NAME => k_is)
    (case v_MAX_NEST => k_is)
    (case v_MAX_PLACES => k_is)
    (case v_MAX_TIMES => k_is)
    (case v_MAX_WEIGHT => k_is)
    (case v_MAX_WISHES => k_is)
    (case v_MAX_WORD => k_is)
    (case v_MOST_NOTS => k_is)
    (case v_SMALL => k_is)
    (case z_abs => k_is)
    (case z_all => k_is)
    (case z_bool => k_is)
    (case z_int => k_is)
    (case z_isinstance => k_is)
    (case z_len => k_is)
    (case z_list => k_is)
    (case z_range => k_is)
    (case z_repr => k_is)
    (case z_sorted => k_is)
    (case z_str => k_is)
    (case z_sum => k_is)
    (case z_tuple => k_is)
    (case z_zip => k_is)
