import PyProof.Rows.All
import Wide.All
import OpenK.AllK
import Wide.FinOn
import HandS.ForMost
import HandS.ForExc
import HandS.CallSlots
import HandS.Wide
import HandS.Strs
import HandS.TupAny
import HandS.Deep
import HandS.Conv
import HandS.SortInts
import PyProof.ReprRoads
import HandS.Style
import HandS.ExcOwn
import HandS.ExcCtx
import HandS.SetFor
import HandS.New0
import HandS.Star
import HandS.Text
import HandS.More
import HandS.IsInst
import HandS.SetKeys
import KE.GoesMore
import HandS.Defaults
import HandS.NoneIn
import HandS.FStr
import HandS.Flow
import HandS.RaiseMore
import HandS.ExcField
import HandS.ExcSuper
import HandS.HotCalls
import KE.KExcInit
import HandS.TryOnly
import HandS.ExcInitHot
import KE.KSuper
import HandS.Nested
import HandS.ClsMeth
import PyProof.AttrMissHeap
import KE.KExcSuper
import HandS.SetBool
import PySem.Challenge.RW_maybegone_k48_rules_by_operators
import PyProof.ReprLen
set_option Elab.async false
set_option linter.all false
set_option maxRecDepth 100000
set_option maxHeartbeats 4000000
/-! S0: a pure world beside the abstract heap: values, objects, stores, results; how they stand for each other -/
namespace Sm
open PySem L2

/-- pure values: a tuple is its items, a mutable object is its number -/
inductive Vl where
  | non | bl (b : Bool) | int (i : Int) | str (x : Str) | tup (xs : List Vl) | ref (i : Nat) | scr (ns : List Int) | ty (n : String) | fn (i : Nat)
/-- mutable objects -/
inductive Ob where
  | lst (xs : List Vl)
  | dic (kvs : List (Key × Vl))
  | dit (kvs : List (List Key × Vl))
  | fdic (kvs : List (Key × Vl))
  | ins (c : Nat) (fs : List (Str × Vl))
  | set (xs : List Int)
abbrev Sto := List Ob
/-- an exception: its class, its fields (none: it has no dict) -/
structure Ex where
  c : Nat
  fs : Option (List (Str × Vl))
inductive Res (α : Type) where
  | ok (a : α) (s : Sto) | exc (e : Ex) (s : Sto) | fail
abbrev M (α : Type) := Sto → Res α
abbrev Lo := List (Option Vl)
def bnd {α β : Type} (m : M α) (f : α → M β) : M β := fun s => match m s with
  | .ok a s' => f a s'
  | .exc e s' => .exc e s'
  | .fail => .fail
def ret {α : Type} (a : α) : M α := fun s => .ok a s
def failM {α : Type} : M α := fun _ => .fail
def lift {α : Type} (f : Sto → Option (α × Sto)) : M α := fun s => match f s with
  | some (a, s') => .ok a s'
  | none => .fail

/-- the exception that an except suite handles: its slot, its address, its dict's address, its fields -/
structure XI where
  i : Nat
  a : Addr
  d : Addr
  ns : List Str
  xs : List Vl
/-- the tables: the written part, the classes, the defs held as values -/
structure Tb where
  K : PySem.W.Frag
  w : World
  cl : List Addr
  fns : List Addr
  xs : List XI := []

mutual
inductive RV (T : Tb) (ρ : List Addr) (H : Hp) : Vl → V → Prop
  | non : RV T ρ H .non .non
  | bl (b : Bool) : RV T ρ H (.bl b) (.bl b)
  | int (i : Int) : RV T ρ H (.int i) (.int i)
  | str (x : Str) : RV T ρ H (.str x) (.str x)
  | tup {a : Addr} {vs : List V} {xs : List Vl} : SqT T.K H a vs → RVs T ρ H xs vs → RV T ρ H (.tup xs) (.ref a)
  | ref {i : Nat} {a : Addr} : ρ[i]? = some a → RV T ρ H (.ref i) (.ref a)
  | scr {ns : List Int} {a : Addr} {o : Obj} : H a = some (.frz o (.lst (ns.map V.int))) → RV T ρ H (.scr ns) (.ref a)
  | scrK {ns : List Int} {a : Addr} : (∀ H' : Hp, SqL T.K H' a (ns.map V.int)) → RV T ρ H (.scr ns) (.ref a)
  | ty (n : String) : RV T ρ H (.ty n) (.ty n)
  | fn {i : Nat} {a : Addr} : T.fns[i]? = some a → RV T ρ H (.fn i) (.ref a)
inductive RVs (T : Tb) (ρ : List Addr) (H : Hp) : List Vl → List V → Prop
  | nil : RVs T ρ H [] []
  | cons {x : Vl} {v : V} {xs : List Vl} {vs : List V} : RV T ρ H x v → RVs T ρ H xs vs → RVs T ρ H (x :: xs) (v :: vs)
end

/-- more is known, nothing that cannot change has changed -/
structure Ext0 (T : Tb) (ρ : List Addr) (H : Hp) (ρ' : List Addr) (H' : Hp) : Prop where
  pre : ∀ (i : Nat) (a : Addr), ρ[i]? = some a → ρ'[i]? = some a
  tup : ∀ a vs, SqT T.K H a vs → SqT T.K H' a vs
  frz : ∀ a o u, H a = some (.frz o (.lst u)) → H' a = some (.frz o (.lst u))
  xd : ∀ a u, H a = some (.xd u) → H' a = some (.xd u)
structure Ext (T : Tb) (ρ : List Addr) (H : Hp) (ρ' : List Addr) (H' : Hp) : Prop extends Ext0 T ρ H ρ' H' where
  frd : ∀ a o u, H a = some (.frz o (.dK u)) → H' a = some (.frz o (.dK u))
theorem Ext.refl {T : Tb} {ρ : List Addr} {H : Hp} : Ext T ρ H ρ H := ⟨⟨fun _ _ h => h, fun _ _ h => h, fun _ _ _ h => h, fun _ _ h => h⟩, fun _ _ _ h => h⟩
theorem Ext.trans {T : Tb} {ρ ρ1 ρ2 : List Addr} {H H1 H2 : Hp} (a : Ext T ρ H ρ1 H1) (b : Ext T ρ1 H1 ρ2 H2) : Ext T ρ H ρ2 H2 :=
  ⟨⟨fun i x h => b.pre i x (a.pre i x h), fun x vs h => b.tup x vs (a.tup x vs h), fun x o u h => b.frz x o u (a.frz x o u h), fun x u h => b.xd x u (a.xd x u h)⟩, fun x o u h => b.frd x o u (a.frd x o u h)⟩

section
variable {T : Tb} {ρ ρ' : List Addr} {H H' : Hp}
mutual
theorem RV.mono0 (e : Ext0 T ρ H ρ' H') : ∀ {x : Vl} {v : V}, RV T ρ H x v → RV T ρ' H' x v
  | _, _, .non => .non
  | _, _, .bl b => .bl b
  | _, _, .int i => .int i
  | _, _, .str x => .str x
  | _, _, .tup h hs => .tup (e.tup _ _ h) (RVs.mono0 e hs)
  | _, _, .ref h => .ref (e.pre _ _ h)
  | _, _, .scr h => .scr (e.frz _ _ _ h)
  | _, _, .scrK h => .scrK h
  | _, _, .ty n => .ty n
  | _, _, .fn h => .fn h
theorem RVs.mono0 (e : Ext0 T ρ H ρ' H') : ∀ {xs : List Vl} {vs : List V}, RVs T ρ H xs vs → RVs T ρ' H' xs vs
  | _, _, .nil => .nil
  | _, _, .cons h hs => .cons (RV.mono0 e h) (RVs.mono0 e hs)
end
theorem RV.mono {x : Vl} {v : V} (h : RV T ρ H x v) (e : Ext T ρ H ρ' H') : RV T ρ' H' x v := h.mono0 e.toExt0
theorem RVs.mono {xs : List Vl} {vs : List V} (h : RVs T ρ H xs vs) (e : Ext T ρ H ρ' H') : RVs T ρ' H' xs vs := h.mono0 e.toExt0
theorem RVs.length : ∀ {xs : List Vl} {vs : List V}, RVs T ρ H xs vs → xs.length = vs.length
  | _, _, .nil => rfl
  | _, _, .cons _ hs => by
    rw [List.length_cons, List.length_cons, RVs.length hs]
theorem RVs.append : ∀ {xs ys : List Vl} {vs us : List V}, RVs T ρ H xs vs → RVs T ρ H ys us → RVs T ρ H (xs ++ ys) (vs ++ us)
  | _, _, _, _, .nil, h => h
  | _, _, _, _, .cons a b, h => .cons a (RVs.append b h)
theorem RVs.get : ∀ {xs : List Vl} {vs : List V} {i : Nat} {x : Vl}, RVs T ρ H xs vs → xs[i]? = some x → ∃ v, vs[i]? = some v ∧ RV T ρ H x v
  | _, _, _, _, .nil, e => by simp at e
  | _, _, 0, _, .cons a _, e => by simp at e; subst e; exact ⟨_, rfl, a⟩
  | _, _, i + 1, x, .cons _ b, e => by
    obtain ⟨v, h1, h2⟩ := RVs.get (i := i) (x := x) b (by simpa using e)
    exact ⟨v, by simpa using h1, h2⟩
theorem RVs.set {x : Vl} {v : V} (r : RV T ρ H x v) : ∀ {xs : List Vl} {vs : List V} (i : Nat), RVs T ρ H xs vs → RVs T ρ H (xs.set i x) (vs.set i v)
  | _, _, _, .nil => .nil
  | _, _, 0, .cons _ t => .cons r t
  | _, _, i + 1, .cons q t => .cons q (RVs.set r i t)
theorem RVs.take : ∀ {xs : List Vl} {vs : List V} (n : Nat), RVs T ρ H xs vs → RVs T ρ H (xs.take n) (vs.take n)
  | _, _, 0, _ => .nil
  | _, _, _ + 1, .nil => .nil
  | _, _, n + 1, .cons r t => .cons r (RVs.take n t)
theorem RVs.drop : ∀ {xs : List Vl} {vs : List V} (n : Nat), RVs T ρ H xs vs → RVs T ρ H (xs.drop n) (vs.drop n)
  | _, _, 0, r => r
  | _, _, _ + 1, .nil => .nil
  | _, _, n + 1, .cons _ t => RVs.drop n t
end

/-- an object of the store and what stands at its address -/
def RO (T : Tb) (ρ : List Addr) (H : Hp) : Ob → Addr → Prop
  | .lst xs, a => ∃ vs, H a = some (.lst vs) ∧ RVs T ρ H xs vs
  | .dic kvs, a => ∃ vs : List (Key × V), H a = some (.dK vs) ∧ vs.map (·.1) = kvs.map (·.1) ∧ RVs T ρ H (kvs.map (·.2)) (vs.map (·.2))
  | .dit kvs, a => ∃ vs : List (List Key × V), H a = some (.dT vs) ∧ vs.map (·.1) = kvs.map (·.1) ∧ RVs T ρ H (kvs.map (·.2)) (vs.map (·.2))
  | .fdic kvs, a => ∃ (o : Obj) (vs : List (Key × V)), H a = some (.frz o (.dK vs)) ∧ vs.map (·.1) = kvs.map (·.1) ∧ RVs T ρ H (kvs.map (·.2)) (vs.map (·.2))
  | .set xs, a => xs.Nodup ∧ ∃ S : Int → Bool, (∀ k, S k = true ↔ k ∈ xs) ∧ H a = some (SetO T.w a S xs.length)
  | .ins c fs, a => ∃ (C dx : Addr) (vs : List (Str × V)), T.cl[c]? = some C ∧ H a = some (.ins C dx vs) ∧ vs.map (·.1) = fs.map (·.1) ∧ RVs T ρ H (fs.map (·.2)) (vs.map (·.2))
/-- what never stands at a store's address -/
def Fixd : HO → Prop
  | .tup _ => True
  | .xd _ => True
  | .frz _ _ => True
  | _ => False
/-- what a store's address never holds -/
def FixT : HO → Prop
  | .tup _ => True
  | .xd _ => True
  | .frz _ (.lst _) => True
  | .frz _ (.tup _) => True
  | _ => False
theorem RO.some {T : Tb} {ρ : List Addr} {H : Hp} {o : Ob} {a : Addr} (h : RO T ρ H o a) : ∃ u, H a = some u ∧ ¬ FixT u := by
  cases o with
  | lst xs => obtain ⟨vs, h, _⟩ := h; exact ⟨_, h, fun z => z⟩
  | dic xs => obtain ⟨vs, h, _⟩ := h; exact ⟨_, h, fun z => z⟩
  | dit xs => obtain ⟨vs, h, _⟩ := h; exact ⟨_, h, fun z => z⟩
  | fdic xs => obtain ⟨o, vs, h, _⟩ := h; exact ⟨_, h, fun z => z⟩
  | set xs => obtain ⟨_, S, _, h⟩ := h; exact ⟨_, h, fun z => z⟩
  | ins c xs => obtain ⟨C, dx, vs, _, h, _⟩ := h; exact ⟨_, h, fun z => z⟩
theorem RO.mono {T : Tb} {ρ ρ' : List Addr} {H H' : Hp} {o : Ob} {a : Addr} (h : RO T ρ H o a) (e : Ext0 T ρ H ρ' H') (k : H' a = H a) : RO T ρ' H' o a := by
  cases o with
  | lst xs => obtain ⟨vs, h, r⟩ := h; exact ⟨vs, k.trans h, r.mono0 e⟩
  | dic xs => obtain ⟨vs, h, n, r⟩ := h; exact ⟨vs, k.trans h, n, r.mono0 e⟩
  | dit xs => obtain ⟨vs, h, n, r⟩ := h; exact ⟨vs, k.trans h, n, r.mono0 e⟩
  | fdic xs => obtain ⟨o, vs, h, n, r⟩ := h; exact ⟨o, vs, k.trans h, n, r.mono0 e⟩
  | set xs => obtain ⟨n, S, q, h⟩ := h; exact ⟨n, S, q, k.trans h⟩
  | ins c xs => obtain ⟨C, dx, vs, hc, h, n, r⟩ := h; exact ⟨C, dx, vs, hc, k.trans h, n, r.mono0 e⟩

structure Rel (T : Tb) (ρ : List Addr) (H : Hp) (s : Sto) : Prop where
  len : ρ.length = s.length
  nd : ρ.Nodup
  ob : ∀ (i : Nat) (a : Addr) (o : Ob), ρ[i]? = some a → s[i]? = some o → RO T ρ H o a

section
variable {T : Tb} {ρ ρ' : List Addr} {H H' : Hp} {s : Sto}
theorem Rel.at (r : Rel T ρ H s) {i : Nat} {o : Ob} (h : s[i]? = some o) : ∃ a, ρ[i]? = some a ∧ RO T ρ H o a := by
  have hi : i < ρ.length := by
    have := (List.getElem?_eq_some_iff.mp h).1
    rw [r.len]; exact this
  exact ⟨ρ[i], List.getElem?_eq_getElem hi, r.ob i _ o (List.getElem?_eq_getElem hi) h⟩
theorem Rel.tracked (r : Rel T ρ H s) {i : Nat} {a : Addr} (h : ρ[i]? = some a) : ∃ u, H a = some u ∧ ¬ FixT u := by
  have hi : i < s.length := by
    have := (List.getElem?_eq_some_iff.mp h).1
    rw [← r.len]; exact this
  exact (r.ob i a _ h (List.getElem?_eq_getElem hi)).some
theorem rd_ne {H : Hp} {a p : Addr} {u o : HO} (h : Rd H a u) (hp : H p = none) : Rd (upd H p o) a u := by
  rcases h with h | ⟨z, h⟩
  · exact .inl (by rw [upd_ne (ne_of_none h hp)]; exact h)
  · exact .inr ⟨z, by rw [upd_ne (ne_of_none h hp)]; exact h⟩
/-- a new address -/
theorem ext_upd {p : Addr} {o : HO} (hp : H p = none) : Ext T ρ H ρ (upd H p o) :=
  ⟨⟨fun _ _ h => h, fun a vs h => h.elim (fun q => .inl (rd_ne q hp)) .inr, fun a z u h => by rw [upd_ne (ne_of_none h hp)]; exact h, fun a u h => by rw [upd_ne (ne_of_none h hp)]; exact h⟩, fun a z u h => by rw [upd_ne (ne_of_none h hp)]; exact h⟩
theorem ext_push {p : Addr} : Ext T ρ H (ρ ++ [p]) H :=
  ⟨⟨fun i a h => by rw [List.getElem?_append_left (List.getElem?_eq_some_iff.mp h).1]; exact h, fun _ _ h => h, fun _ _ _ h => h, fun _ _ h => h⟩, fun _ _ _ h => h⟩
/-- a change where nothing fixed stands -/
theorem ext0_set {a : Addr} {u o : HO} (ha : H a = some u) (hu : ¬ FixT u) : Ext0 T ρ H ρ (upd H a o) := by
  refine ⟨fun _ _ h => h, fun b vs h => ?_, fun b z w h => ?_, fun b w h => ?_⟩
  · rcases h with (h | ⟨z, h⟩) | h
    · have : b ≠ a := fun e => by subst e; rw [h] at ha; cases ha; exact hu trivial
      exact .inl (.inl (by rw [upd_ne this]; exact h))
    · have : b ≠ a := fun e => by subst e; rw [h] at ha; cases ha; exact hu trivial
      exact .inl (.inr ⟨z, by rw [upd_ne this]; exact h⟩)
    · exact .inr h
  · have : b ≠ a := fun e => by subst e; rw [h] at ha; cases ha; exact hu trivial
    rw [upd_ne this]; exact h
  · have : b ≠ a := fun e => by subst e; rw [h] at ha; cases ha; exact hu trivial
    rw [upd_ne this]; exact h
theorem FixT.fixd {u : HO} (h : FixT u) : Fixd u := by
  cases u <;> first | exact trivial | exact h
theorem ext_set {a : Addr} {u o : HO} (ha : H a = some u) (hu : ¬ Fixd u) : Ext T ρ H ρ (upd H a o) :=
  ⟨ext0_set ha fun z => hu z.fixd, fun b z w h => by
    have : b ≠ a := fun e => by subst e; rw [h] at ha; cases ha; exact hu trivial
    rw [upd_ne this]; exact h⟩
/-- something that the store does not know is laid -/
theorem Rel.laid (r : Rel T ρ H s) {p : Addr} {o : HO} (hp : H p = none) : Rel T ρ (upd H p o) s :=
  ⟨r.len, r.nd, fun i a o h1 h2 => (r.ob i a o h1 h2).mono (ext_upd hp).toExt0 (by
    obtain ⟨u, hu, _⟩ := r.tracked h1
    exact upd_ne (ne_of_none hu hp))⟩
theorem getElem?_snoc {α : Type} {l : List α} {x y : α} {i : Nat} (h : (l ++ [x])[i]? = some y) : l[i]? = some y ∨ (i = l.length ∧ y = x) := by
  by_cases hi : i < l.length
  · rw [List.getElem?_append_left hi] at h; exact .inl h
  · rw [List.getElem?_append_right (by omega)] at h
    have h' := h
    have : i - l.length = 0 := by
      cases e : i - l.length with
      | zero => rfl
      | succ n => rw [e] at h; simp at h
    rw [this] at h
    simp at h
    exact .inr ⟨by omega, h.symm⟩
/-- a new object -/
theorem Rel.new (r : Rel T ρ H s) {p : Addr} {o : HO} {b : Ob} (hp : H p = none) (hb : RO T (ρ ++ [p]) (upd H p o) b p) : Rel T (ρ ++ [p]) (upd H p o) (s ++ [b]) := by
  refine ⟨by rw [List.length_append, List.length_append, r.len]; rfl, ?_, fun i a o' h1 h2 => ?_⟩
  · rw [List.nodup_append]
    refine ⟨r.nd, by simp, fun x hx y hy => ?_⟩
    simp at hy
    subst hy
    obtain ⟨i, hi⟩ := List.getElem?_of_mem hx
    obtain ⟨u, hu, _⟩ := r.tracked hi
    exact ne_of_none hu hp
  · rcases getElem?_snoc h1 with q1 | ⟨e1, e2⟩
    · rcases getElem?_snoc h2 with q2 | ⟨e3, e4⟩
      · obtain ⟨u, hu, _⟩ := r.tracked q1
        exact (r.ob i a o' q1 q2).mono ((ext_upd hp).trans ext_push).toExt0 (upd_ne (ne_of_none hu hp))
      · exfalso
        have := (List.getElem?_eq_some_iff.mp q1).1
        have := r.len
        omega
    · rcases getElem?_snoc h2 with q2 | ⟨e3, e4⟩
      · exfalso
        have := (List.getElem?_eq_some_iff.mp q2).1
        have := r.len
        omega
      · subst e2 e4
        exact hb
theorem Rel.newExt (r : Rel T ρ H s) {p : Addr} {o : HO} (hp : H p = none) : Ext T ρ H (ρ ++ [p]) (upd H p o) := (ext_upd hp).trans ext_push
theorem Rel.newRef (r : Rel T ρ H s) {p : Addr} {H1 : Hp} : RV T (ρ ++ [p]) H1 (.ref s.length) (.ref p) :=
  .ref (by rw [← r.len, List.getElem?_append_right (Nat.le_refl _)]; simp)
/-- an object changed -/
theorem Rel.set (r : Rel T ρ H s) {i : Nat} {a : Addr} {o : HO} {b : Ob} (ha : ρ[i]? = some a) (hb : RO T ρ (upd H a o) b a) : Rel T ρ (upd H a o) (s.set i b) := by
  obtain ⟨u, hu, nf⟩ := r.tracked ha
  refine ⟨by rw [List.length_set]; exact r.len, r.nd, fun j c o' h1 h2 => ?_⟩
  by_cases e : j = i
  · subst e
    have ec : c = a := Option.some.inj (h1.symm.trans ha)
    subst ec
    have hl : j < s.length := by rw [← r.len]; exact (List.getElem?_eq_some_iff.mp h1).1
    rw [List.getElem?_set_self hl] at h2
    cases h2
    exact hb
  · rw [List.getElem?_set_ne (fun z => e z.symm)] at h2
    have nc : c ≠ a := fun z => by
      subst z
      exact e (nodup_at r.nd h1 ha)
    exact (r.ob j c o' h1 h2).mono (ext0_set hu nf) (upd_ne nc)
where
  nodup_at {α : Type} {l : List α} {x : α} {i j : Nat} (nd : l.Nodup) (a : l[i]? = some x) (b : l[j]? = some x) : i = j := by
    exact (List.getElem?_inj (List.getElem?_eq_some_iff.mp a).1 nd).mp (a.trans b.symm)
theorem Rel.setExt (r : Rel T ρ H s) {i : Nat} {a : Addr} {o u : HO} (ha : ρ[i]? = some a) (hu : H a = some u) (nf : ¬ Fixd u := by exact fun z => z) : Ext T ρ H ρ (upd H a o) := ext_set hu nf
end

/-- the frame's slots -/
structure RL (T : Tb) (ρ : List Addr) (H : Hp) (lo : Lo) (σ : St) : Prop where
  len : lo.length = σ.length
  at_ : ∀ (i : Nat) (x : Vl), lo[i]? = some (some x) → ∃ v, σ[i]? = some (some v) ∧ RV T ρ H x v
  xc : ∀ p ∈ T.xs, lo[p.i]? = some none → σ[p.i]? = some (some (.ref p.a)) ∧ ∃ vs : List (Str × V), H p.d = some (.xd vs) ∧ vs.map (·.1) = p.ns ∧ RVs T ρ H p.xs (vs.map (·.2))
theorem RL.mono {T : Tb} {ρ ρ' : List Addr} {H H' : Hp} {lo : Lo} {σ : St} (r : RL T ρ H lo σ) (e : Ext T ρ H ρ' H') : RL T ρ' H' lo σ :=
  ⟨r.len, fun i x h => let ⟨v, h1, h2⟩ := r.at_ i x h; ⟨v, h1, h2.mono e⟩, fun p hp h => let ⟨h1, vs, h2, h3, h4⟩ := r.xc p hp h; ⟨h1, vs, e.xd _ _ h2, h3, h4.mono e⟩⟩
theorem RL.set {T : Tb} {ρ : List Addr} {H : Hp} {lo : Lo} {σ : St} (r : RL T ρ H lo σ) {x : Vl} {v : V} (i : Nat) (h : RV T ρ H x v) : RL T ρ H (lo.set i (some x)) (σ.set i (some v)) := by
  refine ⟨by rw [List.length_set, List.length_set]; exact r.len, fun j y hj => ?_, fun p hp hj => ?_⟩
  rotate_left
  · by_cases e : p.i = i
    · exfalso
      rw [e] at hj
      by_cases hl : i < lo.length
      · rw [List.getElem?_set_self hl] at hj; cases hj
      · rw [List.getElem?_eq_none (by rw [List.length_set]; omega)] at hj; cases hj
    · rw [List.getElem?_set_ne (fun z => e z.symm)] at hj ⊢
      exact r.xc p hp hj
  by_cases e : j = i
  · subst e
    have hl : j < lo.length := by have := (List.getElem?_eq_some_iff.mp hj).1; rw [List.length_set] at this; exact this
    rw [List.getElem?_set_self hl] at hj
    cases hj
    exact ⟨v, List.getElem?_set_self (by rw [← r.len]; exact hl), h⟩
  · rw [List.getElem?_set_ne (fun z => e z.symm)] at hj
    obtain ⟨w, h1, h2⟩ := r.at_ j y hj
    exact ⟨w, by rw [List.getElem?_set_ne (fun z => e z.symm)]; exact h1, h2⟩

/-- an exception as it is handed on -/
def PoX (T : Tb) (W : XK) (ρ : List Addr) (H : Hp) (e : Ex) (s : Sto) : Prop :=
  ∀ (ρ' : List Addr) (H' : Hp) (C : Addr), Ext T ρ H ρ' H' → Rel T ρ' H' s → T.cl[e.c]? = some C →
    match e.fs with
    | none => W (.ref C) none H'
    | some fs => ∀ (d : Addr) (vs : List (Str × V)), H' d = some (.xd vs) → vs.map (·.1) = fs.map (·.1) → RVs T ρ' H' (fs.map (·.2)) (vs.map (·.2)) → W (.ref C) (some d) H'
/-- what is asked behind a computation -/
def Po {α β : Type} (R : List Addr → Hp → α → β → Prop) (T : Tb) (W : XK) (ρ : List Addr) (H : Hp) (r : Res α) (Q : β → Hp → Prop) : Prop := match r with
  | .ok a s => ∀ (ρ' : List Addr) (H' : Hp) (b : β), Ext T ρ H ρ' H' → Rel T ρ' H' s → R ρ' H' a b → Q b H'
  | .exc e s => PoX T W ρ H e s
  | .fail => False
theorem Po.mono {α β : Type} {R : List Addr → Hp → α → β → Prop} {T : Tb} {W : XK} {ρ ρ' : List Addr} {H H' : Hp} {r : Res α} {Q : β → Hp → Prop} (p : Po R T W ρ H r Q) (e : Ext T ρ H ρ' H') : Po R T W ρ' H' r Q := by
  cases r with
  | ok a s => exact fun ρ2 H2 b e2 => p ρ2 H2 b (e.trans e2)
  | exc x s => exact fun ρ2 H2 C e2 => p ρ2 H2 C (e.trans e2)
  | fail => exact p
/-- the reading of a computation -/
def tG {α β : Type} (R : List Addr → Hp → α → β → Prop) (T : Tb) (W : WX) (m : Lo → M α) : St → Hp → (β → Hp → Prop) → Prop := fun σ H Q =>
  ∃ (ρ : List Addr) (s : Sto) (lo : Lo), Rel T ρ H s ∧ RL T ρ H lo σ ∧ Po R T (fun c d H' => W c d σ H') ρ H (m lo s) Q
abbrev tE (T : Tb) (W : WX) (m : Lo → M Vl) : TE := tG (RV T) T W m
abbrev tA (T : Tb) (W : WX) (m : Lo → M (List Vl)) : TA := tG (RVs T) T W m
abbrev RB : List Addr → Hp → Bool → Bool → Prop := fun _ _ a b => a = b
abbrev tT (T : Tb) (W : WX) (m : Lo → M Bool) : TT := tG RB T W m
/-- the state behind a part -/
structure Bh {α β : Type} (R : List Addr → Hp → α → β → Prop) (T : Tb) (σ : St) (H : Hp) (b : β) (k : List Addr → Sto → Lo → α → Prop) : Prop where
  ex : ∃ (ρ : List Addr) (s : Sto) (lo : Lo) (a : α), Rel T ρ H s ∧ RL T ρ H lo σ ∧ R ρ H a b ∧ k ρ s lo a
/-- THE step: a part, then the rest -/
theorem tG_bnd {α β γ δ : Type} {R : List Addr → Hp → α → β → Prop} {R' : List Addr → Hp → γ → δ → Prop} {T : Tb} {W : WX} {m : Lo → M α} {f : Lo → α → M γ} {σ : St} {H : Hp} {Q : δ → Hp → Prop} {Q' : β → Hp → Prop}
    (h : tG R' T W (fun lo => bnd (m lo) (f lo)) σ H Q)
    (k : ∀ (ρ : List Addr) (s : Sto) (lo : Lo) (a : α) (b : β) (H1 : Hp), Rel T ρ H1 s → RL T ρ H1 lo σ → R ρ H1 a b → Po R' T (fun c d H' => W c d σ H') ρ H1 (f lo a s) Q → Q' b H1) : tG R T W m σ H Q' := by
  obtain ⟨ρ, s, lo, r, rl, p⟩ := h
  refine ⟨ρ, s, lo, r, rl, ?_⟩
  have p : Po R' T _ ρ H (bnd (m lo) (f lo) s) Q := p
  unfold bnd at p
  cases e : m lo s with
  | ok a s1 =>
    rw [e] at p
    exact fun ρ' H' b x r' hb => k ρ' s1 lo a b H' r' (rl.mono x) hb (p.mono x)
  | exc z s1 =>
    rw [e] at p
    exact p
  | fail =>
    rw [e] at p
    exact p
end Sm

/-! S1: expressions: names, constants, operators, tests, displays -/
namespace Sm
open PySem L2

theorem pe_mono {X : Cx} {e : Expr} {t t' : TE} (h : PE X e t) (k : ∀ σ H Q, t' σ H Q → t σ H Q) : PE X e t' := ⟨fun pins s σ H Q I q => h.run pins s σ H Q I (k σ H Q q)⟩
theorem pt_mono {X : Cx} {e : Expr} {t t' : TT} (h : PT X e t) (k : ∀ σ H Q, t' σ H Q → t σ H Q) : PT X e t' := ⟨fun pins s σ H Q I q => h.run pins s σ H Q I (k σ H Q q)⟩
theorem pw_mono {X : Cx} {e : Expr} {t t' : TT} (h : PW X e t) (k : ∀ σ H Q, t' σ H Q → t σ H Q) : PW X e t' := ⟨fun w pins s σ H Q I q => h.run w pins s σ H Q I (k σ H Q q)⟩
theorem pa_mono {X : Cx} {es : List Expr} {t t' : TA} (h : PA X es t) (k : ∀ σ H Q, t' σ H Q → t σ H Q) : PA X es t' := ⟨fun p pins s σ H Q I q => h.run p pins s σ H Q I (k σ H Q q)⟩

/-! ### the combinators -/
abbrev EM := Lo → M Vl
abbrev TM := Lo → M Bool
abbrev AM := Lo → M (List Vl)
abbrev O1 := Vl → Sto → Option (Vl × Sto)
abbrev O2 := Vl → Vl → Sto → Option (Vl × Sto)
abbrev OC := List Vl → Sto → Option (Vl × Sto)
abbrev OMt := Vl → List Vl → Sto → Option (Vl × Sto)
def eVar (i : Nat) : EM := fun lo s => match lo[i]? with
  | some (some v) => .ok v s
  | _ => .fail
def eC (v : Vl) : EM := fun _ s => .ok v s
def eOp1 (f : O1) (a : EM) : EM := fun lo => bnd (a lo) fun x => lift (f x)
def eOp (f : O2) (a b : EM) : EM := fun lo => bnd (a lo) fun x => bnd (b lo) fun y => lift (f x y)
def aNil : AM := fun _ s => .ok [] s
def aCons (a : EM) (r : AM) : AM := fun lo => bnd (a lo) fun x => bnd (r lo) fun xs => ret (x :: xs)
def eCB (f : OC) (a : AM) : EM := fun lo => bnd (a lo) fun xs => lift (f xs)
def eMt (f : OMt) (o : EM) (a : AM) : EM := fun lo => bnd (o lo) fun x => bnd (a lo) fun xs => lift (f x xs)
def tVal (a : EM) : TM := fun lo => bnd (a lo) fun x => match x with
  | .bl b => ret b
  | _ => failM
def tAndM (a b : TM) : TM := fun lo => bnd (a lo) fun x => match x with
  | true => b lo
  | false => ret false
def tOrM (a b : TM) : TM := fun lo => bnd (a lo) fun x => match x with
  | true => ret true
  | false => b lo
def tNotM (a : TM) : TM := fun lo => bnd (a lo) fun x => ret (!x)
def eAndM (a b : EM) : EM := fun lo => bnd (a lo) fun x => match x with
  | .bl true => b lo
  | .bl false => ret (.bl false)
  | _ => failM
def eOrM (a b : EM) : EM := fun lo => bnd (a lo) fun x => match x with
  | .bl false => b lo
  | .bl true => ret (.bl true)
  | _ => failM
def eNotM (a : EM) : EM := fun lo => bnd (a lo) fun x => match x with
  | .bl b => ret (.bl (!b))
  | _ => failM
def eIfM (t : TM) (a b : EM) : EM := fun lo => bnd (t lo) fun x => match x with
  | true => a lo
  | false => b lo
abbrev LIM : Nat := 16777216
theorem lim_eq : sizeLine = LIM := sizeLine_eq
def oTup : OC := fun xs s => if xs.length ≤ LIM then some (.tup xs, s) else none
def oLst : OC := fun xs s => if xs.length ≤ LIM then some (.ref s.length, s ++ [.lst xs]) else none

/-! ### behind an operation -/
def Aft (T : Tb) (ρ : List Addr) (H : Hp) (s : Sto) (v : Vl) (Q : VK) : Prop := ∀ (ρ' : List Addr) (H' : Hp) (z : V), Ext T ρ H ρ' H' → Rel T ρ' H' s → RV T ρ' H' v z → Q z H'
section
variable {T : Tb} {ρ : List Addr} {H : Hp} {s s' : Sto} {v : Vl} {Q : VK}
theorem Aft.here (k : Aft T ρ H s v Q) (r : Rel T ρ H s) {z : V} (h : RV T ρ H v z) : Q z H := k ρ H z .refl r h
theorem Aft.tup {xs : List Vl} {vs : List V} (k : Aft T ρ H s (.tup xs) Q) (r : Rel T ρ H s) (h : RVs T ρ H xs vs) {p : Addr} (hp : H p = none) : Q (.ref p) (upd H p (.tup vs)) :=
  k ρ _ _ (ext_upd hp) (r.laid hp) (.tup (SqT.of upd_same) (h.mono (ext_upd hp)))
theorem Aft.new {b : Ob} {o : HO} (k : Aft T ρ H (s ++ [b]) (.ref s.length) Q) (r : Rel T ρ H s) {p : Addr} (hp : H p = none) (hb : RO T (ρ ++ [p]) (upd H p o) b p) : Q (.ref p) (upd H p o) :=
  k _ _ _ (r.newExt hp) (r.new hp hb) r.newRef
theorem Aft.lst {xs : List Vl} {vs : List V} (k : Aft T ρ H (s ++ [.lst xs]) (.ref s.length) Q) (r : Rel T ρ H s) (h : RVs T ρ H xs vs) {p : Addr} (hp : H p = none) : Q (.ref p) (upd H p (.lst vs)) :=
  k.new r hp ⟨vs, upd_same, h.mono (r.newExt hp)⟩
theorem Aft.set {i : Nat} {b : Ob} {o u : HO} {a : Addr} {v : Vl} {z : V} (k : Aft T ρ H (s.set i b) v Q) (r : Rel T ρ H s) (ha : ρ[i]? = some a) (hu : H a = some u) (nf : ¬ Fixd u) (hb : RO T ρ (upd H a o) b a) (hv : RV T ρ H v z) : Q z (upd H a o) :=
  k _ _ _ (r.setExt ha hu nf) (r.set ha hb) (hv.mono (r.setExt ha hu nf))
end
def rO1 (T : Tb) (f : O1) : V → Hp → VK → Prop := fun x H Q => ∃ ρ s a v s', Rel T ρ H s ∧ RV T ρ H a x ∧ f a s = some (v, s') ∧ Aft T ρ H s' v Q
def rO (T : Tb) (f : O2) : R2 := fun x y H Q => ∃ ρ s a b v s', Rel T ρ H s ∧ RV T ρ H a x ∧ RV T ρ H b y ∧ f a b s = some (v, s') ∧ Aft T ρ H s' v Q
def rC (T : Tb) (f : OC) : List V → Hp → VK → Prop := fun xs H Q => ∃ ρ s as v s', Rel T ρ H s ∧ RVs T ρ H as xs ∧ f as s = some (v, s') ∧ Aft T ρ H s' v Q
def rMt (T : Tb) (f : OMt) : V → List V → Hp → VK → Prop := fun x xs H Q => ∃ ρ s a as v s', Rel T ρ H s ∧ RV T ρ H a x ∧ RVs T ρ H as xs ∧ f a as s = some (v, s') ∧ Aft T ρ H s' v Q
theorem po_lift {T : Tb} {W : XK} {ρ : List Addr} {H : Hp} {s : Sto} {f : Sto → Option (Vl × Sto)} {Q : VK} (p : Po (RV T) T W ρ H (lift f s) Q) : ∃ v s', f s = some (v, s') ∧ Aft T ρ H s' v Q := by
  unfold lift at p
  cases e : f s with
  | none => rw [e] at p; exact p.elim
  | some q =>
    obtain ⟨v, s'⟩ := q
    rw [e] at p
    exact ⟨v, s', rfl, p⟩
theorem po_ret {α β : Type} {R : List Addr → Hp → α → β → Prop} {T : Tb} {W : XK} {ρ : List Addr} {H : Hp} {s : Sto} {a : α} {Q : β → Hp → Prop} (p : Po R T W ρ H (ret a s) Q) (r : Rel T ρ H s) {b : β} (h : R ρ H a b) : Q b H := p ρ H b .refl r h
theorem po_bnd {α β γ δ : Type} {R : List Addr → Hp → α → β → Prop} {R' : List Addr → Hp → γ → δ → Prop} {T : Tb} {W : WX} {m : Lo → M α} {f : α → M γ} {ρ : List Addr} {s : Sto} {lo : Lo} {σ : St} {H : Hp} {Q : δ → Hp → Prop} {Q' : β → Hp → Prop}
    (r : Rel T ρ H s) (rl : RL T ρ H lo σ) (p : Po R' T (fun c d H' => W c d σ H') ρ H (bnd (m lo) f s) Q)
    (k : ∀ (ρ' : List Addr) (s' : Sto) (a : α) (b : β) (H' : Hp), Ext T ρ H ρ' H' → Rel T ρ' H' s' → RL T ρ' H' lo σ → R ρ' H' a b → Po R' T (fun c d H' => W c d σ H') ρ' H' (f a s') Q → Q' b H') : tG R T W m σ H Q' := by
  refine ⟨ρ, s, lo, r, rl, ?_⟩
  unfold bnd at p
  cases e : m lo s with
  | ok a s1 =>
    rw [e] at p
    exact fun ρ' H' b x r' hb => k ρ' s1 a b H' x r' (rl.mono x) hb (p.mono x)
  | exc z s1 => rw [e] at p; exact p
  | fail => rw [e] at p; exact p

section
variable {X : Cx} {T : Tb} {W : WX} {a b c e : Expr} {es : List Expr} {ma mb mc me : EM} {ta tb : TM} {mr : AM} {pos : Pos}
theorem ce_var (i : Nat) {x : Str} (hN : X.N[i]? = some x := by rfl) (hv : Vis X.env.scope x := by first | exact Or.inl rfl | exact Or.inr (Or.inl rfl) | exact Or.inr (Or.inr rfl)) (hd : (x == ("__debug__" : Str)) = false := by decide)
    (hcd : (x == ("__classdict__" : Str)) = false := by decide) : PE X (.Name x pos) (tE T W (eVar i)) :=
  pe_mono (pe_var hN hv hd hcd) fun σ H Q h => by
    obtain ⟨ρ, s, lo, r, rl, p⟩ := h
    have p : Po (RV T) T _ ρ H (eVar i lo s) Q := p
    unfold eVar at p
    split at p
    · rename_i v hv
      obtain ⟨z, h1, h2⟩ := rl.at_ i v hv
      exact ⟨z, h1, p ρ H z .refl r h2⟩
    · exact p.elim
theorem ce_of {v : Vl} {z : V} (h : PE X e (tC z)) (hv : ∀ ρ H, RV T ρ H v z) : PE X e (tE T W (eC v)) :=
  pe_mono h fun σ H Q h => by
    obtain ⟨ρ, s, lo, r, rl, p⟩ := h
    exact p ρ H z .refl r (hv ρ H)
theorem ce_int {i j} : PE X (.Constant (.int i) j pos) (tE T W (eC (.int i))) := ce_of pe_int fun _ _ => .int i
theorem ce_bl {i j} : PE X (.Constant (.bool i) j pos) (tE T W (eC (.bl i))) := ce_of pe_bl fun _ _ => .bl i
theorem ce_non {j} : PE X (.Constant .none j pos) (tE T W (eC .non)) := ce_of pe_non fun _ _ => .non
theorem ce_str {i j} : PE X (.Constant (.str i) j pos) (tE T W (eC (.str i))) := ce_of pe_str fun _ _ => .str i
/-- two parts and an operation of their values -/
theorem top_le {f : O2} {σ : St} {H : Hp} {Q : VK} (h : tE T W (eOp f ma mb) σ H Q) : tOp (rO T f) (tE T W ma) (tE T W mb) σ H Q :=
  tG_bnd (f := fun lo x => bnd (mb lo) fun y => lift (f x y)) h fun ρ s lo x z H1 r rl hx p =>
    po_bnd (m := mb) r rl p fun ρ' s' y z' H' ext r' rl' hy p' => by
      obtain ⟨v, s2, e, k⟩ := po_lift p'
      exact ⟨ρ', s', x, y, v, s2, r', hx.mono ext, hy, e, k⟩
theorem ce_op {op : Operator} {f : O2} (ho : OpR X (binaryOp op) (rO T f)) (ha : PE X a (tE T W ma)) (hb : PE X b (tE T W mb)) : PE X (.BinOp a op b pos) (tE T W (eOp f ma mb)) :=
  pe_mono (pe_op ho ha hb) fun _ _ _ h => top_le h
theorem ce_cmp {op : CmpOp} {f : O2} (ho : OpR X (compareOp op) (rO T f)) (ha : PE X a (tE T W ma)) (hb : PE X b (tE T W mb)) (hm : behindInMarks op b = false := by first | exact nomark _ | rfl) : PE X (.Compare a [op] [b] pos) (tE T W (eOp f ma mb)) :=
  pe_mono (pe_cmpR ho ha hb hm) fun _ _ _ h => top_le h
theorem ce_ix {f : O2} (ho : IxR X (rO T f)) (ha : PE X a (tE T W ma)) (hb : PE X b (tE T W mb)) (hs : PlainIx b := by exact fun _ _ => rfl) : PE X (.Subscript a b pos) (tE T W (eOp f ma mb)) :=
  pe_mono (pe_ix ho ha hb hs) fun _ _ _ h => top_le h
theorem ce_un {op : UnaryOp} {f : O1} (ho : UnR X (unaryOp op) (rO1 T f)) (ha : PE X a (tE T W ma)) : PE X (.UnaryOp op a pos) (tE T W (eOp1 f ma)) :=
  pe_mono (pe_un ho ha) fun σ H Q h =>
    tG_bnd (f := fun lo x => lift (f x)) h fun ρ s lo x z H1 r rl hx p => by
      obtain ⟨v, s2, e, k⟩ := po_lift p
      exact ⟨ρ, s, x, v, s2, r, hx, e, k⟩
/-! ### tests -/
theorem tval_le {σ : St} {H : Hp} {Q : Bool → Hp → Prop} (h : tT T W (tVal ma) σ H Q) : tE T W ma σ H fun x H1 => ∃ k, x = .bl k ∧ Q k H1 :=
  tG_bnd h fun ρ s lo x z H1 r rl hx p => by
    cases hx with
    | bl k => exact ⟨k, rfl, p ρ H1 k .refl r rfl⟩
    | _ => exact p.elim
theorem ct_val (h : PE X e (tE T W me)) (he : ∀ whole, isTrue e X.env whole = (do let v ← whole; standAt e.pos; holding [v] (truthy v)) := by intro _; rfl) : PT X e (tT T W (tVal me)) :=
  pt_mono (pt_val h he) fun _ _ _ h => tval_le h
theorem ct_cmp {op : CmpOp} {f : O2} (ho : OpR X (compareOp op) (rO T f)) (ha : PE X a (tE T W ma)) (hb : PE X b (tE T W mb)) (hm : behindInMarks op b = false := by first | exact nomark _ | rfl) : PT X (.Compare a [op] [b] pos) (tT T W (tVal (eOp f ma mb))) :=
  pt_mono (pt_cmpR ho ha hb hm) fun _ _ _ h => top_le (tval_le h)
theorem ct_not (h : PT X a (tT T W ta)) : PT X (.UnaryOp .Not a pos) (tT T W (tNotM ta)) :=
  pt_mono (pt_not h) fun _ _ _ h => tG_bnd h fun ρ s lo x z H1 r rl hx p => by
    cases hx
    exact po_ret (R := RB) p r rfl
theorem cw_and1 (ha : PT X a (tT T W ta)) : PW X (.BoolOp .And [a] pos) (tT T W ta) := pw_and1 ha
theorem cw_or1 (ha : PT X a (tT T W ta)) : PW X (.BoolOp .Or [a] pos) (tT T W ta) := pw_or1 ha
theorem cw_and (ha : PT X a (tT T W ta)) (hb : PW X (.BoolOp .And (b :: es) pos) (tT T W tb)) : PW X (.BoolOp .And (a :: b :: es) pos) (tT T W (tAndM ta tb)) :=
  pw_mono (pw_and ha hb) fun _ _ _ h => tG_bnd h fun ρ s lo x z H1 r rl hx p => by
    cases hx
    cases x with
    | true => exact ⟨ρ, s, lo, r, rl, p⟩
    | false => exact po_ret (R := RB) p r rfl
theorem cw_or (ha : PT X a (tT T W ta)) (hb : PW X (.BoolOp .Or (b :: es) pos) (tT T W tb)) : PW X (.BoolOp .Or (a :: b :: es) pos) (tT T W (tOrM ta tb)) :=
  pw_mono (pw_or ha hb) fun _ _ _ h => tG_bnd h fun ρ s lo x z H1 r rl hx p => by
    cases hx
    cases x with
    | false => exact ⟨ρ, s, lo, r, rl, p⟩
    | true => exact po_ret (R := RB) p r rfl
/-! ### and, or, not, if as values -/
theorem ce_if (hc : PT X c (tT T W ta)) (ha : PE X a (tE T W ma)) (hb : PE X b (tE T W mb)) : PE X (.IfExp c a b pos) (tE T W (eIfM ta ma mb)) :=
  pe_mono (pe_ifExp hc ha hb) fun _ _ _ h => tG_bnd h fun ρ s lo x z H1 r rl hx p => by
    cases hx
    cases x with
    | true => exact ⟨ρ, s, lo, r, rl, p⟩
    | false => exact ⟨ρ, s, lo, r, rl, p⟩
/-! ### argument lists, displays -/
theorem ca_nil : PA X [] (tA T W aNil) := pa_mono pa_nil fun σ H Q h => by
  obtain ⟨ρ, s, lo, r, rl, p⟩ := h
  exact p ρ H [] .refl r .nil
theorem ca_cons (ha : PE X e (tE T W me)) (hr : PA X es (tA T W mr)) (hs : starEach (e :: es) X.env = (false, eval e X.env) :: starEach es X.env := by rfl) : PA X (e :: es) (tA T W (aCons me mr)) :=
  pa_mono (pa_cons ha hr hs) fun _ _ _ h => tG_bnd (R := RV T) h fun ρ s lo x z H1 r rl hx p =>
    po_bnd (R := RVs T) (m := mr) r rl p fun ρ' s' xs zs H' ext r' rl' hxs p' => po_ret (R := RVs T) p' r' (.cons (hx.mono ext) hxs)
theorem tcb_le {f : OC} {σ : St} {H : Hp} {Q : VK} (h : tE T W (eCB f mr) σ H Q) : tA T W mr σ H fun vs H1 => rC T f vs H1 Q :=
  tG_bnd (R := RVs T) h fun ρ s lo xs zs H1 r rl hx p => by
    obtain ⟨v, s2, e, k⟩ := po_lift p
    exact ⟨ρ, s, xs, v, s2, r, hx, e, k⟩
theorem ce_tup {x1} (h : PA X es (tA T W mr)) : PE X (.Tuple es x1 pos) (tE T W (eCB oTup mr)) :=
  pe_mono (pe_tup h) fun _ _ _ h => tG_bnd (R := RVs T) h fun ρ s lo xs zs H1 r rl hx p => by
    obtain ⟨v, s2, e, k⟩ := po_lift p
    unfold oTup at e
    split at e
    · rename_i hl
      cases e
      exact ⟨by rw [← hx.length, lim_eq]; exact hl, fun q hq => k.tup r hx hq⟩
    · cases e
theorem ce_lst (h : PA X es (tA T W mr)) : PE X (.List es pos) (tE T W (eCB oLst mr)) :=
  pe_mono (pe_lst h) fun _ _ _ h => tG_bnd (R := RVs T) h fun ρ s lo xs zs H1 r rl hx p => by
    obtain ⟨v, s2, e, k⟩ := po_lift p
    unfold oLst at e
    split at e
    · rename_i hl
      cases e
      exact ⟨by rw [← hx.length, lim_eq]; exact hl, fun q hq => k.lst r hx hq⟩
    · cases e
/-! ### built-ins by name; methods of built-in types -/
theorem ce_callB {x : Str} {p : Pos} {id : String} {f : OC} (hc : CallR X (.builtin id) (rC T f)) (hg : Gl X x) (hm : X.mg x = none) (hv : bootBuiltins x = some (.builtin id)) (ha : PA X (e :: es) (tA T W mr)) (hn : x ≠ "__name__" := by decide) (hdb : (x == ("__debug__" : Str)) = false := by decide)
    (he : starEach (e :: es) X.env = (false, eval e X.env) :: starEach es X.env := by rfl) (hpl : (backTo pos (starEach es X.env)).any (·.1) = false := by rfl) : PE X (.Call (.Name x p) (e :: es) [] pos) (tE T W (eCB f mr)) :=
  pe_mono (pe_callB hc hg hm hv ha hn hdb he hpl) fun _ _ _ h => tcb_le h
theorem ce_callTy {x : Str} {p : Pos} {id : String} {f : OC} (hc : CallR X (.type id) (rC T f)) (hg : Gl X x) (hm : X.mg x = none) (hv : bootBuiltins x = some (.type id)) (ha : PA X (e :: es) (tA T W mr)) (hn : x ≠ "__name__" := by decide) (hdb : (x == ("__debug__" : Str)) = false := by decide)
    (he : starEach (e :: es) X.env = (false, eval e X.env) :: starEach es X.env := by rfl) (hpl : (backTo pos (starEach es X.env)).any (·.1) = false := by rfl) : PE X (.Call (.Name x p) (e :: es) [] pos) (tE T W (eCB f mr)) :=
  pe_mono (pe_callTy hc hg hm hv ha hn hdb he hpl) fun _ _ _ h => tcb_le h
end
end Sm

/-! S2: operators on values -/
namespace Sm
open PySem L2

/-! ### values that are known by their form -/
section
variable {T : Tb} {ρ : List Addr} {H : Hp} {z : V}
theorem RV.nonE (h : RV T ρ H .non z) : z = .non := by cases h; rfl
theorem RV.blE {b : Bool} (h : RV T ρ H (.bl b) z) : z = .bl b := by cases h; rfl
theorem RV.intE {i : Int} (h : RV T ρ H (.int i) z) : z = .int i := by cases h; rfl
theorem RV.strE {x : Str} (h : RV T ρ H (.str x) z) : z = .str x := by cases h; rfl
theorem RV.refE {i : Nat} (h : RV T ρ H (.ref i) z) : ∃ a, z = .ref a ∧ ρ[i]? = some a := by cases h; exact ⟨_, rfl, by assumption⟩
theorem RV.tupE {xs : List Vl} (h : RV T ρ H (.tup xs) z) : ∃ a vs, z = .ref a ∧ SqT T.K H a vs ∧ RVs T ρ H xs vs := by cases h; exact ⟨_, _, rfl, by assumption, by assumption⟩
theorem RV.scrE {ns : List Int} (h : RV T ρ H (.scr ns) z) : ∃ a, z = .ref a ∧ SqL T.K H a (ns.map V.int) := by
  cases h with
  | scr h => exact ⟨_, rfl, .inl (.inr ⟨_, h⟩)⟩
  | scrK h => exact ⟨_, rfl, h H⟩
theorem Rel.lst {s : Sto} {i : Nat} {xs : List Vl} {a : Addr} (r : Rel T ρ H s) (h : s[i]? = some (.lst xs)) (ha : ρ[i]? = some a) : ∃ vs, H a = some (.lst vs) ∧ RVs T ρ H xs vs := r.ob i a _ ha h
theorem Rel.dic {s : Sto} {i : Nat} {kvs : List (Key × Vl)} {a : Addr} (r : Rel T ρ H s) (h : s[i]? = some (.dic kvs)) (ha : ρ[i]? = some a) :
    ∃ vs : List (Key × V), H a = some (.dK vs) ∧ vs.map (·.1) = kvs.map (·.1) ∧ RVs T ρ H (kvs.map (·.2)) (vs.map (·.2)) := r.ob i a _ ha h
end

/-! ### ints -/
def opSub : O2
  | .int i, .int j, s => some (.int (i - j), s)
  | _, _, _ => none
def opMul : O2
  | .int i, .int j, s => if (-(2 ^ 64) < i ∧ i < 2 ^ 64) ∨ (-(2 ^ 64) < j ∧ j < 2 ^ 64) then some (.int (i * j), s) else none
  | .ref i, .int k, s => match s[i]? with
    | some (.lst xs) => if 0 ≤ k ∧ k < 2 ^ 60 ∧ xs.length * k.toNat ≤ LIM then some (.ref s.length, s ++ [.lst (List.replicate k.toNat xs).flatten]) else none
    | _ => none
  | _, _, _ => none
def opFdiv : O2
  | .int i, .int j, s => if 0 < j ∧ j < 1267650600228229401496703205376 then some (.int (i / j), s) else none
  | _, _, _ => none
def opMod : O2
  | .int i, .int j, s => if 0 < j then some (.int (i % j), s) else none
  | _, _, _ => none
def opPow : O2
  | .int i, .int j, s => if 0 ≤ j ∧ j ≤ 1000000 ∧ i.natAbs < 2 ^ 64 then some (.int (i ^ j.toNat), s) else none
  | _, _, _ => none
def opAdd : O2
  | .int i, .int j, s => some (.int (i + j), s)
  | .str x, .str y, s => if x.length + y.length ≤ LIM then some (.str (x ++ y), s) else none
  | .tup xs, .tup ys, s => if xs.length + ys.length ≤ LIM then some (.tup (xs ++ ys), s) else none
  | .ref i, .ref j, s => match s[i]?, s[j]? with
    | some (.lst xs), some (.lst ys) => if xs.length + ys.length ≤ LIM then some (.ref s.length, s ++ [.lst (xs ++ ys)]) else none
    | _, _ => none
  | _, _, _ => none
def opLt : O2
  | .int i, .int j, s => some (.bl (decide (i < j)), s)
  | _, _, _ => none
def opLe : O2
  | .int i, .int j, s => some (.bl (decide (i ≤ j)), s)
  | _, _, _ => none
def opGt : O2
  | .int i, .int j, s => some (.bl (decide (j < i)), s)
  | _, _, _ => none
def opGe : O2
  | .int i, .int j, s => some (.bl (decide (j ≤ i)), s)
  | _, _, _ => none
def isNon : Vl → Bool
  | .non => true
  | _ => false
def opIsN : O2
  | x, .non, s => some (.bl (isNon x), s)
  | _, _, _ => none
def opNotN : O2
  | x, .non, s => some (.bl (!isNon x), s)
  | _, _, _ => none
def opNeg : O1
  | .int i, s => some (.int (-i), s)
  | _, _ => none
section
variable {X : Cx} {T : Tb}
theorem OpR.imp {f : Value → Value → Sem Value} {r r' : R2} (h : OpR X f r) (k : ∀ x y H Q, r' x y H Q → r x y H Q) : OpR X f r' := fun pins s σ H x y v u Q I rx ry q => h pins s σ H x y v u Q I rx ry (k x y H Q q)
theorem oi {f : Value → Value → Sem Value} {C : Int → Int → Prop} {g : Int → Int → Vl} {gv : Int → Int → V} {op : O2} (hg : ∀ ρ H i j, RV T ρ H (g i j) (gv i j)) (h : OpR X f (rI C gv))
    (hop : ∀ a b s v s', op a b s = some (v, s') → ∃ i j, a = .int i ∧ b = .int j ∧ C i j ∧ v = g i j ∧ s' = s) : OpR X f (rO T op) := OpR.imp h fun x y H Q q => by
  obtain ⟨ρ, s, a, b, v, s', r, ha, hb, e, k⟩ := q
  obtain ⟨i, j, rfl, rfl, c, rfl, rfl⟩ := hop a b s v s' e
  exact ⟨i, j, ha.intE, hb.intE, c, k.here r (hg ρ H i j)⟩
theorem oi0 {f : Value → Value → Sem Value} {g : Int → Int → Vl} {gv : Int → Int → V} {op : O2} (hg : ∀ ρ H i j, RV T ρ H (g i j) (gv i j)) (h : OpR X f (rI0 gv))
    (hop : ∀ a b s v s', op a b s = some (v, s') → ∃ i j, a = .int i ∧ b = .int j ∧ v = g i j ∧ s' = s) : OpR X f (rO T op) := OpR.imp h fun x y H Q q => by
  obtain ⟨ρ, s, a, b, v, s', r, ha, hb, e, k⟩ := q
  obtain ⟨i, j, rfl, rfl, rfl, rfl⟩ := hop a b s v s' e
  exact ⟨i, j, ha.intE, hb.intE, k.here r (hg ρ H i j)⟩
theorem o_sub : OpR X (binaryOp .Sub) (rO T opSub) := oi0 (g := fun i j => .int (i - j)) (fun _ _ i j => .int _) op_sub fun a b s v s' e => by
  cases a <;> cases b <;> simp [opSub] at e
  exact ⟨_, _, rfl, rfl, e.1.symm, e.2.symm⟩
theorem o_lt : OpR X (compareOp .Lt) (rO T opLt) := oi0 (g := fun i j => .bl (decide (i < j))) (fun _ _ i j => .bl _) op_lt fun a b s v s' e => by
  cases a <;> cases b <;> simp [opLt] at e
  exact ⟨_, _, rfl, rfl, e.1.symm, e.2.symm⟩
theorem o_le : OpR X (compareOp .LtE) (rO T opLe) := oi0 (g := fun i j => .bl (decide (i ≤ j))) (fun _ _ i j => .bl _) op_le fun a b s v s' e => by
  cases a <;> cases b <;> simp [opLe] at e
  exact ⟨_, _, rfl, rfl, e.1.symm, e.2.symm⟩
theorem o_gt : OpR X (compareOp .Gt) (rO T opGt) := oi0 (g := fun i j => .bl (decide (j < i))) (fun _ _ i j => .bl _) op_gt fun a b s v s' e => by
  cases a <;> cases b <;> simp [opGt] at e
  exact ⟨_, _, rfl, rfl, e.1.symm, e.2.symm⟩
theorem o_ge : OpR X (compareOp .GtE) (rO T opGe) := oi0 (g := fun i j => .bl (decide (j ≤ i))) (fun _ _ i j => .bl _) op_ge fun a b s v s' e => by
  cases a <;> cases b <;> simp [opGe] at e
  exact ⟨_, _, rfl, rfl, e.1.symm, e.2.symm⟩
theorem o_fdiv : OpR X (binaryOp .FloorDiv) (rO T opFdiv) := oi (C := CDivW) (g := fun i j => .int (i / j)) (fun _ _ i j => .int _) op_fdivW fun a b s v s' e => by
  cases a <;> cases b <;> simp [opFdiv] at e
  exact ⟨_, _, rfl, rfl, wide_div (b := 100) e.1.1 (by have := e.1.1; have := e.1.2; omega) (by decide) (by decide), e.2.1.symm, e.2.2.symm⟩
theorem o_mod : OpR X (binaryOp .Mod) (rO T opMod) := oi (C := fun _ j => 0 < j) (g := fun i j => .int (i % j)) (fun _ _ i j => .int _) op_mod fun a b s v s' e => by
  cases a <;> cases b <;> simp [opMod] at e
  exact ⟨_, _, rfl, rfl, e.1, e.2.1.symm, e.2.2.symm⟩
theorem o_pow : OpR X (binaryOp .Pow) (rO T opPow) := oi (C := CPow) (g := fun i j => .int (i ^ j.toNat)) (fun _ _ i j => .int _) op_pow fun a b s v s' e => by
  cases a <;> cases b <;> simp only [opPow] at e <;> try cases e
  split at e
  · rename_i h
    cases e
    exact ⟨_, _, rfl, rfl, h, rfl, rfl⟩
  · cases e
theorem o_neg : UnR X (unaryOp .USub) (rO1 T opNeg) := fun pins s σ H x v Q I rx q => by
  obtain ⟨ρ, st, a, w, s', r, ha, e, k⟩ := q
  cases a <;> simp [opNeg] at e
  obtain ⟨rfl, rfl⟩ := e
  exact un_neg pins s σ H x v Q I rx ⟨_, ha.intE, k.here r (.int _)⟩
theorem o_add (hK : X.K = T.K := by rfl) : OpR X (binaryOp .Add) (rO T opAdd) := fun pins s σ H x y v u Q I rx ry q => by
  obtain ⟨ρ, st, a, b, w, s', r, ha, hb, e, k⟩ := q
  cases a <;> cases b <;> simp only [opAdd] at e <;> try cases e
  · exact op_add pins s σ H x y v u Q I rx ry ⟨_, _, ha.intE, hb.intE, k.here r (.int _)⟩
  · split at e
    · rename_i h
      cases e
      exact op_add_str pins s σ H x y v u Q I rx ry ⟨_, _, ha.strE, hb.strE, by rw [lim_eq]; exact h, k.here r (.str _)⟩
    · cases e
  · split at e
    · rename_i xs ys h
      cases e
      obtain ⟨p, vs, rfl, h1, h2⟩ := ha.tupE
      obtain ⟨p', vs', rfl, h1', h2'⟩ := hb.tupE
      refine op_catA pins s σ H _ _ v u Q I rx ry ⟨p, p', vs, vs', rfl, rfl, by rw [hK]; exact h1, by rw [hK]; exact h1', by rw [← h2.length, ← h2'.length, lim_eq]; exact h, ?_, ?_, ?_⟩
      · intro e
        subst e
        cases h2
        exact k.here r (.tup h1' h2')
      · intro _ e
        subst e
        cases h2'
        rw [List.append_nil] at k
        exact k.here r (.tup h1 h2)
      · intro _ _ q hq
        exact k.tup r (h2.append h2') hq
    · cases e
  · rename_i i j
    split at e
    · rename_i xs ys h1 h2
      split at e
      · rename_i h
        cases e
        obtain ⟨p, rfl, hp⟩ := ha.refE
        obtain ⟨p', rfl, hp'⟩ := hb.refE
        obtain ⟨vs, g1, g2⟩ := r.lst h1 hp
        obtain ⟨vs', g1', g2'⟩ := r.lst h2 hp'
        exact op_cat pins s σ H _ _ v u Q I rx ry ⟨p, p', vs, vs', rfl, rfl, g1, g1', by rw [← g2.length, ← g2'.length, lim_eq]; exact h, fun q hq => k.lst r (g2.append g2') hq⟩
      · cases e
    · cases e
theorem RVs.rep {ρ : List Addr} {H : Hp} {xs : List Vl} {vs : List V} (h : RVs T ρ H xs vs) : ∀ n : Nat, RVs T ρ H (List.replicate n xs).flatten (List.replicate n vs).flatten
  | 0 => .nil
  | n + 1 => by
    rw [List.replicate_succ, List.replicate_succ, List.flatten_cons, List.flatten_cons]
    exact h.append (RVs.rep h n)
theorem o_mul : OpR X (binaryOp .Mult) (rO T opMul) := fun pins s σ H x y v u Q I rx ry q => by
  obtain ⟨ρ, st, a, b, w, s', r, ha, hb, e, k⟩ := q
  cases a <;> cases b <;> simp only [opMul] at e <;> try cases e
  · split at e
    · rename_i h
      cases e
      exact op_mul pins s σ H x y v u Q I rx ry ⟨_, _, ha.intE, hb.intE, h, k.here r (.int _)⟩
    · cases e
  · split at e
    · rename_i xs h1
      split at e
      · rename_i h
        cases e
        obtain ⟨p, rfl, hp⟩ := ha.refE
        obtain ⟨vs, g1, g2⟩ := r.lst h1 hp
        have hz := h.2.1
        exact op_rep pins s σ H _ _ v u Q I rx ry ⟨p, _, vs, rfl, hb.intE, g1, by omega, by omega, by rw [← g2.length, lim_eq]; exact h.2.2, fun q hq => k.lst r (g2.rep _) hq⟩
      · cases e
    · cases e
end

/-! ### data -/
def mapO {α β : Type} (f : α → Option β) : List α → Option (List β)
  | [] => some []
  | x :: xs => match f x, mapO f xs with
    | some y, some ys => some (y :: ys)
    | _, _ => none
def toD : Nat → Sto → Vl → Option PyData
  | 0, _, _ => none
  | n + 1, s, v => match v with
    | .non => some .none
    | .bl b => some (.bool b)
    | .int i => some (.int i)
    | .str x => some (.str x)
    | .tup xs => (mapO (toD n s) xs).map .tuple
    | .ref i => match s[i]? with
      | some (.lst xs) => (mapO (toD n s) xs).map .list
      | _ => none
    | _ => none
section
variable {T : Tb} {ρ : List Addr} {H : Hp} {s : Sto}
theorem toDs_dp {f : Vl → Option PyData} {n : Nat} (hf : ∀ v z d, RV T ρ H v z → f v = some d → Dp T.K H z d ∧ d.depth ≤ n) : ∀ {xs : List Vl} {vs : List V} {ds : List PyData}, RVs T ρ H xs vs → mapO f xs = some ds → DpAll T.K H vs ds ∧ PyData.depthAll ds ≤ n
  | _, _, _, .nil, e => by
    simp only [mapO] at e
    cases e
    exact ⟨.nil, by simp only [PyData.depthAll]; omega⟩
  | _, _, _, .cons h hs, e => by
    simp only [mapO] at e
    split at e
    · rename_i y ys e1 e2
      cases e
      obtain ⟨a1, a2⟩ := hf _ _ _ h e1
      obtain ⟨b1, b2⟩ := toDs_dp hf hs e2
      refine ⟨.cons a1 b1, ?_⟩
      simp only [PyData.depthAll]
      omega
    · cases e
theorem toD_dp (r : Rel T ρ H s) : ∀ (n : Nat) (v : Vl) (z : V) (d : PyData), RV T ρ H v z → toD n s v = some d → Dp T.K H z d ∧ d.depth ≤ n
  | 0, _, _, _, _, e => by cases e
  | n + 1, v, z, d, h, e => by
    have ih := toD_dp r n
    cases v <;> simp only [toD] at e <;> try cases e
    · rw [h.nonE]; exact ⟨.non, by simp only [PyData.depth]; omega⟩
    · rw [h.blE]; exact ⟨.bl _, by simp only [PyData.depth]; omega⟩
    · rw [h.intE]; exact ⟨.int _, by simp only [PyData.depth]; omega⟩
    · rw [h.strE]; exact ⟨.str _, by simp only [PyData.depth]; omega⟩
    · rename_i xs
      cases e1 : mapO (toD n s) xs with
      | none => rw [e1] at e; cases e
      | some ds =>
        rw [e1] at e
        cases e
        obtain ⟨a, vs, rfl, h1, h2⟩ := h.tupE
        obtain ⟨b1, b2⟩ := toDs_dp ih h2 e1
        exact ⟨.tup h1 b1, by simp only [PyData.depth]; omega⟩
    · rename_i i
      split at e
      · rename_i xs hx
        cases e1 : mapO (toD n s) xs with
        | none => rw [e1] at e; cases e
        | some ds =>
          rw [e1] at e
          cases e
          obtain ⟨a, rfl, ha⟩ := h.refE
          obtain ⟨vs, h1, h2⟩ := r.lst hx ha
          obtain ⟨b1, b2⟩ := toDs_dp ih h2 e1
          exact ⟨.lst (SqL.of h1) b1, by simp only [PyData.depth]; omega⟩
      · cases e
end
/-- == -/
def eqS : Vl → Vl → Option Bool
  | .non, .non => some true
  | .int i, .int j => some (i == j)
  | .bl i, .bl j => some (i == j)
  | .str i, .str j => some (i == j)
  | .non, .int _ => some false
  | .non, .str _ => some false
  | .int _, .non => some false
  | .int _, .str _ => some false
  | .str _, .non => some false
  | .str _, .int _ => some false
  | _, _ => none
def eqM (a b : Vl) (s : Sto) : Option Bool := match eqS a b with
  | some k => some k
  | none => match toD 40 s a, toD 40 s b with
    | some d, some e => if d.canLay0 && e.canLay0 then some (PyData.eqv d e) else none
    | _, _ => none
def opEq : O2 := fun a b s => match eqM a b s with
  | some k => some (.bl k, s)
  | none => none
def opNe : O2 := fun a b s => match eqM a b s with
  | some k => some (.bl (!k), s)
  | none => none
section
variable {X : Cx} {T : Tb}
theorem eqS_ok {ρ : List Addr} {H : Hp} {a b : Vl} {x y : V} {k : Bool} (ha : RV T ρ H a x) (hb : RV T ρ H b y) (e : eqS a b = some k) : scal x y = true ∧ decide (x = y) = k := by
  cases ha <;> cases hb <;> simp only [eqS] at e <;> try cases e
  all_goals (refine ⟨rfl, ?_⟩)
  all_goals first
    | (rw [dec_int]; done)
    | (rw [dec_bl]; done)
    | (rw [dec_str]; done)
    | simp
theorem sh40 {d : PyData} (h : d.canLay0 = true) (h2 : d.depth ≤ 40) : SeqAt.shaped d = true := by
  unfold SeqAt.shaped
  rw [h, decide_eq_true (by omega)]
  rfl
theorem o_eq (hu : X.A.units + 64 < cLine) (hK : X.K = T.K := by rfl) : OpR X (compareOp .Eq) (rO T opEq) := fun pins s σ H x y v u Q I rx ry q => by
  obtain ⟨ρ, st, a, b, w, s', r, ha, hb, e, k⟩ := q
  unfold opEq at e
  split at e
  · rename_i c hc
    cases e
    unfold eqM at hc
    split at hc
    · rename_i c' hs
      cases hc
      obtain ⟨h1, h2⟩ := eqS_ok ha hb hs
      exact op_eq pins s σ H x y v u Q I rx ry ⟨h1, by rw [h2]; exact k.here r (.bl _)⟩
    · split at hc
      · rename_i d e hd he
        split at hc
        · rename_i hl
          cases hc
          obtain ⟨l1, l2⟩ := Bool.and_eq_true_iff.mp hl
          obtain ⟨p1, p2⟩ := toD_dp r 40 a x d ha hd
          obtain ⟨q1, q2⟩ := toD_dp r 40 b y e hb he
          exact op_eqD hu pins s σ H x y v u Q I rx ry ⟨d, e, by rw [hK]; exact p1, by rw [hK]; exact q1, sh40 l1 p2, sh40 l2 q2, k.here r (.bl _)⟩
        · cases hc
      · cases hc
  · cases e
theorem o_ne (hu : X.A.units + 64 < cLine) (hK : X.K = T.K := by rfl) : OpR X (compareOp .NotEq) (rO T opNe) := fun pins s σ H x y v u Q I rx ry q => by
  obtain ⟨ρ, st, a, b, w, s', r, ha, hb, e, k⟩ := q
  unfold opNe at e
  split at e
  · rename_i c hc
    cases e
    unfold eqM at hc
    split at hc
    · rename_i c' hs
      cases hc
      obtain ⟨h1, h2⟩ := eqS_ok ha hb hs
      exact op_ne pins s σ H x y v u Q I rx ry ⟨h1, by rw [h2]; exact k.here r (.bl _)⟩
    · split at hc
      · rename_i d e hd he
        split at hc
        · rename_i hl
          cases hc
          obtain ⟨l1, l2⟩ := Bool.and_eq_true_iff.mp hl
          obtain ⟨p1, p2⟩ := toD_dp r 40 a x d ha hd
          obtain ⟨q1, q2⟩ := toD_dp r 40 b y e hb he
          exact op_neD hu pins s σ H x y v u Q I rx ry ⟨d, e, by rw [hK]; exact p1, by rw [hK]; exact q1, sh40 l1 p2, sh40 l2 q2, k.here r (.bl _)⟩
        · cases hc
      · cases hc
  · cases e
end
end Sm

/-! S3: subscripts, slices, in, stores, built-in calls, methods of built-in types -/
namespace Sm
open PySem L2

/-! ### dicts as lists of pairs -/
section
variable {κ : Type} [DecidableEq κ]
def look (kvs : List (κ × Vl)) (k : κ) : Option Vl := match kvs with
  | [] => none
  | p :: r => if p.1 = k then some p.2 else look r k
def hasK (kvs : List (κ × Vl)) (k : κ) : Bool := match kvs with
  | [] => false
  | p :: r => if p.1 = k then true else hasK r k
/-- in its place, or at the end -/
def put (kvs : List (κ × Vl)) (k : κ) (v : Vl) : List (κ × Vl) := match kvs with
  | [] => [(k, v)]
  | p :: r => if p.1 = k then (k, v) :: r else p :: put r k v
variable {T : Tb} {ρ : List Addr} {H : Hp}
theorem look_ok {k : κ} : ∀ {kvs : List (κ × Vl)} {vs : List (κ × V)}, vs.map (·.1) = kvs.map (·.1) → RVs T ρ H (kvs.map (·.2)) (vs.map (·.2)) →
    (look kvs k = none → valV vs k = none) ∧ ∀ v, look kvs k = some v → ∃ z, valV vs k = some z ∧ RV T ρ H v z
  | [], [], _, _ => ⟨fun _ => rfl, fun v e => by simp [look] at e⟩
  | [], _ :: _, e, _ => by simp at e
  | _ :: _, [], e, _ => by simp at e
  | p :: r, q :: t, e, h => by
    simp only [List.map_cons, List.cons.injEq] at e
    rw [List.map_cons, List.map_cons] at h
    cases h with
    | cons h1 h2 =>
      have ih := look_ok (k := k) e.2 h2
      by_cases hk : p.1 = k
      · have hq : q.1 = k := e.1.trans hk
        rw [valV_pos hq]
        refine ⟨fun z => ?_, fun v z => ?_⟩
        · simp only [look, if_pos hk] at z; cases z
        · simp only [look, if_pos hk] at z; cases z; exact ⟨_, rfl, h1⟩
      · have hq : ¬ q.1 = k := fun z => hk (e.1.symm.trans z)
        rw [valV_neg hq]
        simp only [look, if_neg hk]
        exact ih
theorem hasK_look (kvs : List (κ × Vl)) (k : κ) : hasK kvs k = (look kvs k).isSome := by
  induction kvs with
  | nil => rfl
  | cons p r ih =>
    unfold hasK look
    by_cases h : p.1 = k
    · rw [if_pos h, if_pos h]; rfl
    · rw [if_neg h, if_neg h]; exact ih
theorem hasK_ok {k : κ} {kvs : List (κ × Vl)} {vs : List (κ × V)} (e : vs.map (·.1) = kvs.map (·.1)) (h : RVs T ρ H (kvs.map (·.2)) (vs.map (·.2))) : hasK kvs k = (valV vs k).isSome := by
  rw [hasK_look]
  obtain ⟨h1, h2⟩ := look_ok (k := k) e h
  cases q : look kvs k with
  | none => rw [h1 q]; rfl
  | some v => obtain ⟨z, hz, _⟩ := h2 v q; rw [hz]; rfl
theorem putK_cons_eq {k : κ} {q : κ × V} {t : List (κ × V)} {z : V} (nd : q.1 = k) (hn : valV t k = none) : putK (q :: t) k z = (k, z) :: t := by
  unfold putK
  rw [if_pos (by simp [nd])]
  rw [List.map_cons, if_pos nd, nd]
  congr 1
  rw [List.map_congr_left (g := id)]
  · simp
  · intro p hp
    have : ¬ p.1 = k := fun e => by
      have h2 : (valV t k).isSome = true := by
        rw [← valV_any]
        exact List.any_eq_true.mpr ⟨p, hp, by simp [e]⟩
      rw [hn] at h2; cases h2
    rw [if_neg this]; rfl
theorem putK_cons_ne {k : κ} {q : κ × V} {t : List (κ × V)} {z : V} (h : ¬ q.1 = k) : putK (q :: t) k z = q :: putK t k z := by
  unfold putK
  rw [List.any_cons, decide_eq_false h, Bool.false_or]
  split
  · rw [List.map_cons, if_neg h]
  · rfl
theorem put_ok {k : κ} {v : Vl} {z : V} (hv : RV T ρ H v z) : ∀ {kvs : List (κ × Vl)} {vs : List (κ × V)}, (vs.map (·.1)).Nodup → vs.map (·.1) = kvs.map (·.1) → RVs T ρ H (kvs.map (·.2)) (vs.map (·.2)) →
    (putK vs k z).map (·.1) = (put kvs k v).map (·.1) ∧ RVs T ρ H ((put kvs k v).map (·.2)) ((putK vs k z).map (·.2))
  | [], [], _, _, _ => ⟨rfl, .cons hv .nil⟩
  | [], _ :: _, _, e, _ => by simp at e
  | _ :: _, [], _, e, _ => by simp at e
  | p :: r, q :: t, nd, e, h => by
    simp only [List.map_cons, List.cons.injEq] at e
    rw [List.map_cons, List.nodup_cons] at nd
    rw [List.map_cons, List.map_cons] at h
    cases h with
    | cons h1 h2 =>
      by_cases hk : p.1 = k
      · have hq : q.1 = k := e.1.trans hk
        have hn : valV t k = none := by
          cases w : valV t k with
          | none => rfl
          | some u =>
            exfalso
            have h3 : (t.any fun kv => decide (kv.1 = k)) = true := by rw [valV_any, w]; rfl
            obtain ⟨p', hp, e'⟩ := List.any_eq_true.mp h3
            exact nd.1 (by rw [hq, ← of_decide_eq_true e']; exact List.mem_map_of_mem hp)
        rw [putK_cons_eq hq hn]
        simp only [put, if_pos hk]
        exact ⟨by simp [e.2], .cons hv h2⟩
      · have hq : ¬ q.1 = k := fun z => hk (e.1.symm.trans z)
        rw [putK_cons_ne hq]
        simp only [put, if_neg hk]
        obtain ⟨a, b⟩ := put_ok hv nd.2 e.2 h2
        exact ⟨by simp [e.1, a], .cons h1 b⟩
end
def keyOf : Vl → Option Key
  | .int i => some (.inl i)
  | .str x => some (.inr x)
  | _ => none
def keyVl : Key → Vl
  | .inl i => .int i
  | .inr x => .str x
section
variable {T : Tb} {ρ : List Addr} {H : Hp}
theorem keyOf_ok {a : Vl} {x : V} {k : Key} (h : RV T ρ H a x) (e : keyOf a = some k) : x = kV k := by
  cases a <;> simp [keyOf] at e
  · subst e; exact h.intE
  · subst e; exact h.strE
theorem keyVl_ok (k : Key) : RV T ρ H (keyVl k) (kV k) := by
  cases k with
  | inl i => exact .int i
  | inr x => exact .str x
theorem RVs.at : ∀ {xs : List Vl} {vs : List V} {i : Int} {x : Vl}, RVs T ρ H xs vs → atI xs i = some x → ∃ v, atI vs i = some v ∧ RV T ρ H x v := fun {xs vs i x} h e => by
  unfold atI at e ⊢
  rw [← h.length]
  cases q : ixN xs.length i with
  | none => rw [q] at e; cases e
  | some j =>
    rw [q] at e
    exact h.get e
end
/-- the dict's keys are unlike: by the abstract heap -/
theorem dk_nodup {X : Cx} {pins : List (Addr × Obj)} {σ : St} {H : Hp} {s : Shared} {a : Addr} {vs : List (Key × V)} (I : Inv X pins σ H s) (h : H a = some (.dK vs)) : (vs.map (·.1)).Nodup := by
  obtain ⟨_, _, us, rel, dd⟩ := dk_of I.hok h
  have e := rel.keys
  rw [e]
  obtain ⟨_, _, _, _, _, _, _, _, nd⟩ := dd
  exact nd
/-! ### subscripts -/
def opIx : O2
  | .tup xs, .int i, s => (atI xs i).map fun v => (v, s)
  | .scr ns, .int i, s => (atI ns i).map fun v => (.int v, s)
  | .str x, .int i, s => if x.length ≤ LIM then (atI x.cps.toList i).map fun c => (.str ⟨#[c]⟩, s) else none
  | .ref j, y, s => match s[j]? with
    | some (.lst xs) => match y with
      | .int i => (atI xs i).map fun v => (v, s)
      | _ => none
    | some (.dic kvs) => match keyOf y with
      | some k => (look kvs k).map fun v => (v, s)
      | none => none
    | _ => none
  | _, _, _ => none
section
variable {X : Cx} {T : Tb}
theorem o_ix (hu : X.A.units + 1 < cLine) (hK : X.K = T.K := by rfl) : IxR X (rO T opIx) := fun value slice pins s σ H x y v u Q I rx ry q hs => by
  obtain ⟨ρ, st, a, b, w, s', r, ha, hb, e, k⟩ := q
  cases a with
  | tup xs =>
    cases b <;> simp only [opIx] at e <;> try cases e
    obtain ⟨z, hz, e⟩ := Option.map_eq_some_iff.mp e
    cases e
    obtain ⟨p, vs, rfl, h1, h2⟩ := ha.tupE
    obtain ⟨z', h3, h4⟩ := h2.at hz
    exact ix_tup value slice pins s σ H _ y v u Q I rx ry ⟨p, vs, _, z', rfl, hb.intE, by rw [hK]; exact h1, h3, k.here r h4⟩ hs
  | scr ns =>
    cases b <;> simp only [opIx] at e <;> try cases e
    obtain ⟨z, hz, e⟩ := Option.map_eq_some_iff.mp e
    cases e
    obtain ⟨p, rfl, h1⟩ := ha.scrE
    refine ix_list value slice pins s σ H _ y v u Q I rx ry ⟨p, _, _, .int z, rfl, hb.intE, by rw [hK]; exact h1, ?_, k.here r (.int z)⟩ hs
    unfold atI at hz ⊢
    rw [List.length_map]
    cases q : ixN ns.length _ with
    | none => rw [q] at hz; cases hz
    | some j =>
      rw [q] at hz
      have hz : ns[j]? = some z := hz
      show (ns.map V.int)[j]? = some (V.int z)
      rw [List.getElem?_map, hz]; rfl
  | str t =>
    cases b <;> simp only [opIx] at e <;> try cases e
    split at e
    · rename_i hl
      obtain ⟨z, hz, e⟩ := Option.map_eq_some_iff.mp e
      cases e
      exact ix_str value slice pins s σ H x y v u Q I rx ry ⟨t, _, z, ha.strE, hb.intE, by rw [lim_eq]; exact hl, hz, k.here r (.str _)⟩ hs
    · cases e
  | ref j =>
    obtain ⟨p, rfl, hp⟩ := ha.refE
    simp only [opIx] at e
    split at e
    · rename_i xs hx
      split at e
      · obtain ⟨z, hz, e⟩ := Option.map_eq_some_iff.mp e
        cases e
        obtain ⟨vs, h1, h2⟩ := r.lst hx hp
        obtain ⟨z', h3, h4⟩ := h2.at hz
        exact ix_list value slice pins s σ H _ y v u Q I rx ry ⟨p, vs, _, z', rfl, hb.intE, SqL.of h1, h3, k.here r h4⟩ hs
      · cases e
    · rename_i kvs hx
      split at e
      · rename_i key hk
        obtain ⟨z, hz, e⟩ := Option.map_eq_some_iff.mp e
        cases e
        obtain ⟨vs, h1, h2, h3⟩ := r.dic hx hp
        obtain ⟨z', h4, h5⟩ := (look_ok (k := key) h2 h3).2 _ hz
        have ey := keyOf_ok hb hk
        subst ey
        have g : DGet H p (kV key) (some z') := by rw [← h4]; exact DGet.k h1
        obtain rfl : v = Value.ref p := rx
        exact PyProof.Rows.tail_any (dict_typeIs I g) PySem.F.slot_dict_getitem.lookup (d_getItem hu I g ry fun w' s3 I3 rw' => ⟨z', H, I3, rw', k.here r h5⟩) hs
      · cases e
    · cases e
  | _ => simp only [opIx] at e; cases e
end
/-! ### slices -/
def cutL {α : Type} (xs : List α) (lo hi : Option Int) : List α := (xs.drop (HT.sIx xs.length 0 lo)).take (HT.sIx xs.length xs.length hi - HT.sIx xs.length 0 lo)
abbrev OSl := Vl → Option Int → Option Int → Sto → Option (Vl × Sto)
def opSl : OSl
  | .tup xs, lo, hi, s => some (.tup (cutL xs lo hi), s)
  | .scr ns, lo, hi, s => some (.ref s.length, s ++ [.lst ((cutL ns lo hi).map Vl.int)])
  | .str x, lo, hi, s => if x.length ≤ LIM then some (.str (cutS x lo hi), s) else none
  | .ref j, lo, hi, s => match s[j]? with
    | some (.lst xs) => some (.ref s.length, s ++ [.lst (cutL xs lo hi)])
    | _ => none
  | _, _, _, _ => none
def oPart : Option EM → Lo → M (Option Int)
  | none, _ => ret none
  | some m, lo => bnd (m lo) fun x => match x with
    | .int i => ret (some i)
    | _ => failM
def eSl (f : OSl) (a : EM) (l h : Option EM) : EM := fun lo => bnd (a lo) fun x => bnd (oPart l lo) fun i => bnd (oPart h lo) fun j => lift (f x i j)
theorem cutL_map {α β : Type} (f : α → β) (xs : List α) (lo hi : Option Int) : cutL (xs.map f) lo hi = (cutL xs lo hi).map f := by
  unfold cutL
  rw [List.length_map, List.map_take, List.map_drop]
def rSl (T : Tb) (f : OSl) : V → Option Int → Option Int → Hp → VK → Prop := fun x lo hi H Q => ∃ ρ s a v s', Rel T ρ H s ∧ RV T ρ H a x ∧ f a lo hi s = some (v, s') ∧ Aft T ρ H s' v Q
section
variable {X : Cx} {T : Tb} {W : WX}
theorem RVs.cut {ρ : List Addr} {H : Hp} {xs : List Vl} {vs : List V} (h : RVs T ρ H xs vs) (lo hi : Option Int) : RVs T ρ H (cutL xs lo hi) (cutV vs lo hi) := by
  unfold cutL cutV
  rw [h.length]
  exact (h.drop _).take _
theorem RVs.ints {ρ : List Addr} {H : Hp} : ∀ ns : List Int, RVs T ρ H (ns.map Vl.int) (ns.map V.int)
  | [] => .nil
  | n :: ns => .cons (.int n) (RVs.ints ns)
theorem o_sl (hK : X.K = T.K := by rfl) : SlR X (rSl T opSl) := fun pins s σ H x v vl vu lo hi sl Q I rx hs pl pu q => by
  obtain ⟨ρ, st, a, w, s', r, ha, e, k⟩ := q
  cases a with
  | tup xs =>
    simp only [opSl] at e
    cases e
    obtain ⟨p, vs, rfl, h1, h2⟩ := ha.tupE
    refine sl_tupA pins s σ H _ v vl vu lo hi sl Q I rx hs pl pu ⟨p, vs, rfl, by rw [hK]; exact h1, fun hw => ?_, fun _ q hq => k.tup r (h2.cut lo hi) hq⟩
    have : cutL xs lo hi = xs := by
      unfold cutL
      rw [h2.length, hw.1, hw.2]
      rw [List.drop_zero, Nat.sub_zero, ← h2.length, List.take_length]
    rw [this] at k
    exact k.here r (.tup h1 h2)
  | scr ns =>
    simp only [opSl] at e
    cases e
    obtain ⟨p, rfl, h1⟩ := ha.scrE
    refine sl_list pins s σ H _ v vl vu lo hi sl Q I rx hs pl pu ⟨p, _, rfl, by rw [hK]; exact h1, fun q hq => ?_⟩
    refine k.lst r ?_ hq
    rw [← cutL_map]
    exact RVs.cut (RVs.ints ns) lo hi
  | str t =>
    simp only [opSl] at e
    split at e
    · rename_i hl
      cases e
      exact sl_str pins s σ H x v vl vu lo hi sl Q I rx hs pl pu ⟨t, ha.strE, by rw [lim_eq]; exact hl, k.here r (.str _)⟩
    · cases e
  | ref j =>
    simp only [opSl] at e
    split at e
    · rename_i xs hx
      cases e
      obtain ⟨p, rfl, hp⟩ := ha.refE
      obtain ⟨vs, h1, h2⟩ := r.lst hx hp
      exact sl_list pins s σ H _ v vl vu lo hi sl Q I rx hs pl pu ⟨p, vs, rfl, SqL.of h1, fun q hq => k.lst r (h2.cut lo hi) hq⟩
    · cases e
  | _ => simp only [opSl] at e; cases e
/-- a slice's part -/
abbrev tO (T : Tb) (W : WX) (m : Option EM) : TO := tG (fun _ _ a b => a = b) T W (oPart m)
theorem co_none : PO X none (tO T W none) := ⟨fun pins s σ H Q I h => po_none.run pins s σ H Q I (by
  obtain ⟨ρ, st, lo, r, rl, p⟩ := h
  exact p ρ H none .refl r rfl)⟩
theorem co_some {e : Expr} {me : EM} (he : PE X e (tE T W me)) : PO X (some e) (tO T W (some me)) := ⟨fun pins s σ H Q I h => (po_some he).run pins s σ H Q I (by
  refine tG_bnd (R := RV T) h fun ρ st lo x z H1 r rl hx p => ?_
  cases hx with
  | int i => exact ⟨i, rfl, p ρ H1 (some i) .refl r rfl⟩
  | _ => exact p.elim)⟩
theorem ce_slice {e : Expr} {l h : Option Expr} {me : EM} {ml mh : Option EM} {pos p2 : Pos} {f : OSl} (hr : SlR X (rSl T f)) (he : PE X e (tE T W me)) (hl : PO X l (tO T W ml)) (hh : PO X h (tO T W mh)) : PE X (.Subscript e (.Slice l h none p2) pos) (tE T W (eSl f me ml mh)) :=
  pe_mono (pe_slice hr he hl hh) fun σ H Q q => tG_bnd (R := RV T) q fun ρ s lo x z H1 r rl hx p =>
    po_bnd (R := fun _ _ a b => a = b) (m := oPart ml) r rl p fun ρ1 s1 i i' H2 ext1 r1 rl1 hi p1 =>
      po_bnd (R := fun _ _ a b => a = b) (m := oPart mh) r1 rl1 p1 fun ρ2 s2 j j' H3 ext2 r2 rl2 hj p2 => by
        subst hi hj
        obtain ⟨v, s3, e, k⟩ := po_lift p2
        exact ⟨ρ2, s2, x, v, s3, r2, hx.mono (ext1.trans ext2), e, k⟩
end
/-! ### in -/
def flat : Vl → Bool
  | .non => true
  | .bl _ => true
  | .int _ => true
  | .str _ => true
  | _ => false
def eqF : Vl → Vl → Bool
  | .non, .non => true
  | .bl a, .bl b => a == b
  | .bl a, .int b => (if a then 1 else 0) == b
  | .int a, .bl b => a == (if b then 1 else 0)
  | .int a, .int b => a == b
  | .str a, .str b => a == b
  | _, _ => false
def inF (x : Vl) (xs : List Vl) : Bool := xs.any fun y => eqF y x
def inM (x y : Vl) (s : Sto) : Option Bool := match y with
  | .tup ys => if flat x && ys.all flat then some (inF x ys) else none
  | .str b => match x with
    | .str a => match a.cps.toList with
      | [c] => some (decide (c ∈ b.cps.toList))
      | _ => none
    | _ => none
  | .ref j => match s[j]? with
    | some (.lst ys) => if flat x && ys.all flat then some (inF x ys) else none
    | some (.dic kvs) => match keyOf x with
      | some k => some (hasK kvs k)
      | none => none
    | _ => none
  | _ => none
def opIn : O2 := fun x y s => match inM x y s with
  | some b => some (.bl b, s)
  | none => none
def opNotIn : O2 := fun x y s => match inM x y s with
  | some b => some (.bl (!b), s)
  | none => none
section
variable {X : Cx} {T : Tb} {ρ : List Addr} {H : Hp}
theorem flat_ok {a : Vl} {x : V} (h : RV T ρ H a x) (f : flat a = true) : flatV x = true := by
  cases h <;> simp [flat] at f <;> rfl
theorem eqF_ok {a b : Vl} {x y : V} (h : RV T ρ H a x) (g : RV T ρ H b y) (fa : flat a = true) (fb : flat b = true) : eqV x y = eqF a b := by
  cases h <;> simp [flat] at fa <;> cases g <;> simp [flat] at fb <;> rfl
theorem flats_ok : ∀ {xs : List Vl} {vs : List V}, RVs T ρ H xs vs → xs.all flat = true → vs.all flatV = true
  | _, _, .nil, _ => rfl
  | _, _, .cons h hs, e => by
    rw [List.all_cons, Bool.and_eq_true_iff] at e
    rw [List.all_cons, flat_ok h e.1, flats_ok hs e.2]; rfl
theorem inF_ok {a : Vl} {x : V} (h : RV T ρ H a x) (f : flat a = true) : ∀ {xs : List Vl} {vs : List V}, RVs T ρ H xs vs → xs.all flat = true → inV x vs = inF a xs
  | _, _, .nil, _ => rfl
  | _, _, .cons g hs, e => by
    rw [List.all_cons, Bool.and_eq_true_iff] at e
    have ih := inF_ok h f hs e.2
    unfold inV inF at ih ⊢
    rw [List.any_cons, List.any_cons, ih, eqF_ok g h e.1 f]
/-- the four kinds, told apart -/
theorem inM_cases {s : Sto} {a b : Vl} {x y : V} {c : Bool} (r : Rel T ρ H s) (ha : RV T ρ H a x) (hb : RV T ρ H b y) (e : inM a b s = some c) :
    (∃ p vs, y = .ref p ∧ (SqL T.K H p vs ∨ SqT T.K H p vs) ∧ flatV x = true ∧ vs.all flatV = true ∧ inV x vs = c) ∨ (∃ (n : Nat) (z : Str), x = .str ⟨#[n]⟩ ∧ y = .str z ∧ decide (n ∈ z.cps.toList) = c) ∨
    ∃ p o, y = .ref p ∧ DGet H p x o ∧ o.isSome = c := by
  cases b with
  | tup ys =>
    simp only [inM] at e
    split at e
    · rename_i hf
      cases e
      obtain ⟨f1, f2⟩ := Bool.and_eq_true_iff.mp hf
      obtain ⟨p, vs, rfl, h1, h2⟩ := hb.tupE
      exact .inl ⟨p, vs, rfl, .inr h1, flat_ok ha f1, flats_ok h2 f2, inF_ok ha f1 h2 f2⟩
    · cases e
  | str z =>
    simp only [inM] at e
    cases a <;> simp only at e <;> try cases e
    rename_i t
    split at e
    · rename_i c' hc
      cases e
      refine .inr (.inl ⟨c', z, ?_, hb.strE, rfl⟩)
      rw [ha.strE]
      obtain ⟨⟨l⟩⟩ := t
      have hc : l = [c'] := hc
      subst hc; rfl
    · cases e
  | ref j =>
    obtain ⟨p, rfl, hp⟩ := hb.refE
    simp only [inM] at e
    split at e
    · rename_i ys hx
      split at e
      · rename_i hf
        cases e
        obtain ⟨f1, f2⟩ := Bool.and_eq_true_iff.mp hf
        obtain ⟨vs, h1, h2⟩ := r.lst hx hp
        exact .inl ⟨p, vs, rfl, .inl (SqL.of h1), flat_ok ha f1, flats_ok h2 f2, inF_ok ha f1 h2 f2⟩
      · cases e
    · rename_i kvs hx
      split at e
      · rename_i k hk
        cases e
        obtain ⟨vs, h1, h2, h3⟩ := r.dic hx hp
        have ey := keyOf_ok ha hk
        subst ey
        exact .inr (.inr ⟨p, _, rfl, DGet.k h1, (hasK_ok h2 h3).symm⟩)
      · cases e
    · cases e
  | _ => simp only [inM] at e; cases e
theorem o_in (hu : X.A.units + 1 < cLine) (hK : X.K = T.K := by rfl) : OpR X (compareOp .In) (rO T opIn) := fun pins s σ H x y v u Q I rx ry q => by
  obtain ⟨ρ, st, a, b, w, s', r, ha, hb, e, k⟩ := q
  unfold opIn at e
  split at e
  · rename_i c hc
    cases e
    rcases inM_cases r ha hb hc with ⟨p, vs, rfl, h1, h2, h3, h4⟩ | ⟨n, z, rfl, rfl, h4⟩ | ⟨p, o, rfl, g, h4⟩
    · exact op_in_seq pins s σ H x _ v u Q I rx ry ⟨p, vs, rfl, by rw [hK]; exact h1, h2, h3, by rw [if_neg (by decide), h4]; exact k.here r (.bl _)⟩
    · exact op_in_sign pins s σ H _ _ v u Q I rx ry ⟨n, z, rfl, rfl, by rw [h4]; exact k.here r (.bl _)⟩
    · obtain rfl : u = Value.ref p := ry
      exact d_in hu I g rx fun s3 I3 => ⟨.bl o.isSome, H, I3, rfl, by rw [h4]; exact k.here r (.bl _)⟩
  · cases e
theorem o_notIn (hu : X.A.units + 1 < cLine) (hK : X.K = T.K := by rfl) : OpR X (compareOp .NotIn) (rO T opNotIn) := fun pins s σ H x y v u Q I rx ry q => by
  obtain ⟨ρ, st, a, b, w, s', r, ha, hb, e, k⟩ := q
  unfold opNotIn at e
  split at e
  · rename_i c hc
    cases e
    rcases inM_cases r ha hb hc with ⟨p, vs, rfl, h1, h2, h3, h4⟩ | ⟨n, z, rfl, rfl, h4⟩ | ⟨p, o, rfl, g, h4⟩
    · exact op_notIn_seq pins s σ H x _ v u Q I rx ry ⟨p, vs, rfl, by rw [hK]; exact h1, h2, h3, by rw [if_pos rfl, h4]; exact k.here r (.bl _)⟩
    · exact op_notIn_sign pins s σ H _ _ v u Q I rx ry ⟨n, z, rfl, rfl, by rw [h4]; exact k.here r (.bl _)⟩
    · obtain rfl : u = Value.ref p := ry
      exact d_notIn hu I g rx fun s3 I3 => ⟨.bl (!o.isSome), H, I3, rfl, by rw [h4]; exact k.here r (.bl _)⟩
  · cases e
end
end Sm

/-! S4: built-in calls and methods of built-in types -/
namespace Sm
open PySem L2
section
variable {T : Tb} {ρ : List Addr} {H : Hp}
theorem RVs.one {a : Vl} {xs : List V} (h : RVs T ρ H [a] xs) : ∃ x, xs = [x] ∧ RV T ρ H a x := by
  cases h with
  | cons h1 h2 => cases h2; exact ⟨_, rfl, h1⟩
theorem RVs.two {a b : Vl} {xs : List V} (h : RVs T ρ H [a, b] xs) : ∃ x y, xs = [x, y] ∧ RV T ρ H a x ∧ RV T ρ H b y := by
  cases h with
  | cons h1 h2 =>
    obtain ⟨y, rfl, h3⟩ := h2.one
    exact ⟨_, y, rfl, h1, h3⟩
theorem RVs.zero {xs : List V} (h : RVs T ρ H [] xs) : xs = [] := by cases h; rfl
def asInt : Vl → Option Int
  | .int i => some i
  | _ => none
def asBl : Vl → Option Bool
  | .bl i => some i
  | _ => none
def asStr : Vl → Option Str
  | .str i => some i
  | _ => none
theorem asInts_ok : ∀ {xs : List Vl} {vs : List V} {ns : List Int}, RVs T ρ H xs vs → mapO asInt xs = some ns → vs = ns.map V.int
  | _, _, _, .nil, e => by simp [mapO] at e; subst e; rfl
  | _, _, _, .cons h hs, e => by
    simp only [mapO] at e
    split at e
    · rename_i y ys e1 e2
      cases e
      have := asInts_ok hs e2
      subst this
      cases h <;> simp [asInt] at e1
      subst e1; rfl
    · cases e
theorem asBls_ok : ∀ {xs : List Vl} {vs : List V} {ns : List Bool}, RVs T ρ H xs vs → mapO asBl xs = some ns → vs = ns.map V.bl
  | _, _, _, .nil, e => by simp [mapO] at e; subst e; rfl
  | _, _, _, .cons h hs, e => by
    simp only [mapO] at e
    split at e
    · rename_i y ys e1 e2
      cases e
      have := asBls_ok hs e2
      subst this
      cases h <;> simp [asBl] at e1
      subst e1; rfl
    · cases e
end
theorem mapO_ints (ns : List Int) : mapO asInt (ns.map Vl.int) = some ns := by
  induction ns with
  | nil => rfl
  | cons n ns ih => simp only [List.map_cons, mapO, asInt, ih]
theorem mapO_bls (ns : List Bool) : mapO asBl (ns.map Vl.bl) = some ns := by
  induction ns with
  | nil => rfl
  | cons n ns ih => simp only [List.map_cons, mapO, asBl, ih]
theorem mapO_strs (ns : List Str) : mapO asStr (ns.map Vl.str) = some ns := by
  induction ns with
  | nil => rfl
  | cons n ns ih => simp only [List.map_cons, mapO, asStr, ih]
/-! ### sorting ints -/
def insS (x : Int) : List Int → List Int
  | [] => [x]
  | y :: ys => if x ≤ y then x :: y :: ys else y :: insS x ys
def srt : List Int → List Int
  | [] => []
  | x :: xs => insS x (srt xs)
theorem insS_perm (x : Int) : ∀ ys : List Int, (insS x ys).Perm (x :: ys)
  | [] => .refl _
  | y :: ys => by
    unfold insS
    split
    · exact .refl _
    · exact (List.Perm.cons y (insS_perm x ys)).trans (List.Perm.swap x y ys)
theorem srt_perm : ∀ xs : List Int, (srt xs).Perm xs
  | [] => .refl _
  | x :: xs => (insS_perm x (srt xs)).trans (List.Perm.cons x (srt_perm xs))
theorem insS_mem {x z : Int} {ys : List Int} : z ∈ insS x ys ↔ z = x ∨ z ∈ ys := by
  rw [(insS_perm x ys).mem_iff, List.mem_cons]
theorem insS_sorted (x : Int) : ∀ ys : List Int, ys.Pairwise (· ≤ ·) → (insS x ys).Pairwise (· ≤ ·)
  | [], _ => List.pairwise_singleton _ _
  | y :: ys, h => by
    unfold insS
    split
    · rename_i hle
      refine List.pairwise_cons.mpr ⟨fun z hz => ?_, h⟩
      rcases List.mem_cons.mp hz with rfl | hz
      · exact hle
      · exact Int.le_trans hle ((List.pairwise_cons.mp h).1 z hz)
    · rename_i hle
      refine List.pairwise_cons.mpr ⟨fun z hz => ?_, insS_sorted x ys (List.pairwise_cons.mp h).2⟩
      rcases insS_mem.mp hz with rfl | hz
      · omega
      · exact (List.pairwise_cons.mp h).1 z hz
theorem srt_sorted : ∀ xs : List Int, (srt xs).Pairwise (· ≤ ·)
  | [] => List.Pairwise.nil
  | x :: xs => insS_sorted x _ (srt_sorted xs)
theorem srt_eq {xs ys : List Int} (p : ys.Perm xs) (h : ys.Pairwise (· ≤ ·)) : ys = srt xs := PySem.W.ksm_same (p.trans (srt_perm xs).symm) h (srt_sorted xs)
/-! ### calls -/
def lenM (x : Vl) (s : Sto) : Option Nat := match x with
  | .tup xs => some xs.length
  | .scr ns => some ns.length
  | .str z => if z.length ≤ LIM then some z.length else none
  | .ref j => match s[j]? with
    | some (.lst xs) => some xs.length
    | some (.dic kvs) => some kvs.length
    | _ => none
  | _ => none
def oLen : OC
  | [x], s => (lenM x s).map fun n => (.int n, s)
  | _, _ => none
def oAbs : OC
  | [.int i], s => some (.int (if i < 0 then -i else i), s)
  | _, _ => none
def oInt : OC
  | [.int i], s => some (.int i, s)
  | [.bl b], s => some (.int (if b then 1 else 0), s)
  | _, _ => none
def oStr : OC
  | [.int i], s => if i.natAbs.log2 < 1920 then some (.str (toString i), s) else none
  | _, _ => none
def oMax : OC
  | [.int i, .int j], s => some (.int (if j > i then j else i), s)
  | _, _ => none
def oMin : OC
  | [.int i, .int j], s => some (.int (if j < i then j else i), s)
  | _, _ => none
def oTuple : OC
  | [.tup xs], s => some (.tup xs, s)
  | [.ref j], s => match s[j]? with
    | some (.lst xs) => some (.tup xs, s)
    | _ => none
  | _, _ => none
def oList : OC
  | [.tup xs], s => some (.ref s.length, s ++ [.lst xs])
  | [.ref j], s => match s[j]? with
    | some (.lst xs) => some (.ref s.length, s ++ [.lst xs])
    | some (.dic kvs) => some (.ref s.length, s ++ [.lst (kvs.map fun kv => keyVl kv.1)])
    | _ => none
  | _, _ => none
def lstOf (x : Vl) (s : Sto) : Option (List Vl) := match x with
  | .ref j => match s[j]? with
    | some (.lst xs) => some xs
    | _ => none
  | _ => none
def oSum : OC
  | [x], s => match lstOf x s with
    | some xs => (mapO asInt xs).map fun ns => (.int ns.sum, s)
    | none => none
  | _, _ => none
def oAll : OC
  | [x], s => match lstOf x s with
    | some xs => (mapO asBl xs).map fun ns => (.bl (ns.all id), s)
    | none => none
  | _, _ => none
def oAny : OC
  | [x], s => match lstOf x s with
    | some xs => (mapO asBl xs).map fun ns => (.bl (ns.any id), s)
    | none => none
  | _, _ => none
def oSorted : OC
  | [x], s => match lstOf x s with
    | some xs => (mapO asInt xs).map fun ns => (.ref s.length, s ++ [.lst ((srt ns).map Vl.int)])
    | none => none
  | _, _ => none
def oRepr : OC
  | [x], s => match toD 40 s x with
    | some d => if d.showable && decide (d.shown.length ≤ LIM) then some (.str d.shown, s) else none
    | none => none
  | _, _ => none
section
variable {X : Cx} {T : Tb}
theorem CallR.imp {f : Value} {r r' : List V → Hp → VK → Prop} (h : CallR X f r) (k : ∀ xs H Q, r' xs H Q → r xs H Q) : CallR X f r' := fun pins s σ H xs us Q I rs q => h pins s σ H xs us Q I rs (k xs H Q q)
theorem d_lenC {H : Hp} {a : Addr} {kvs : List (Key × V)} : ∀ (pins : List (Addr × Obj)) (s : Shared) (σ : St) (xs : List V) (us : List Value) (Q : VK), Inv X pins σ H s → Vals xs us → xs = [.ref a] → H a = some (.dK kvs) → Q (.int kvs.length) H →
    wpAny (model X.prog X.w) X.A (call (.builtin "len") us) (EP X pins σ Q) X.xe s := fun pins s σ xs us Q I r e h q => by
  subst e
  cases r with
  | cons r1 r2 =>
    cases r2
    obtain rfl := r1
    exact d_len I (.inl h) fun t s' I' => ⟨.int _, H, I', ⟨t, rfl⟩, q⟩
theorem c_len (hK : X.K = T.K := by rfl) : CallR X (.builtin "len") (rC T oLen) := fun pins s σ H xs us Q I rs q => by
  obtain ⟨ρ, st, as, w, s', r, ha, e, k⟩ := q
  unfold oLen at e
  split at e
  · rename_i x
    obtain ⟨z, rfl, hz⟩ := ha.one
    obtain ⟨n, hn, e⟩ := Option.map_eq_some_iff.mp e
    cases e
    have fin := k.here r (.int (n : Int))
    cases x with
    | tup ys =>
      obtain ⟨p, vs, rfl, h1, h2⟩ := hz.tupE
      cases hn
      rw [h2.length] at fin
      exact call_len_seq pins s σ H _ us Q I rs ⟨p, vs, rfl, .inr (by rw [hK]; exact h1), fin⟩
    | scr ns =>
      obtain ⟨p, rfl, h1⟩ := hz.scrE
      cases hn
      exact call_len_seq pins s σ H _ us Q I rs ⟨p, _, rfl, .inl (by rw [hK]; exact h1), by rw [List.length_map]; exact fin⟩
    | str t =>
      simp only [lenM] at hn
      split at hn
      · rename_i hl
        cases hn
        exact call_len pins s σ H _ us Q I rs ⟨_, _, rfl, by rw [hz.strE]; exact ⟨by rw [lim_eq]; exact hl, rfl⟩, fin⟩
      · cases hn
    | ref j =>
      obtain ⟨p, rfl, hp⟩ := hz.refE
      simp only [lenM] at hn
      split at hn
      · rename_i ys hx
        cases hn
        obtain ⟨vs, h1, h2⟩ := r.lst hx hp
        rw [h2.length] at fin
        exact call_len_seq pins s σ H _ us Q I rs ⟨p, vs, rfl, .inl (SqL.of h1), fin⟩
      · rename_i kvs hx
        cases hn
        obtain ⟨vs, h1, h2, h3⟩ := r.dic hx hp
        have : kvs.length = vs.length := by have := congrArg List.length h2; simpa using this.symm
        rw [this] at fin
        exact d_lenC pins s σ _ us Q I rs rfl h1 fin
      · cases hn
    | _ => cases hn
  · cases e
theorem c_abs : CallR X (.builtin "abs") (rC T oAbs) := CallR.imp call_abs fun xs H Q q => by
  obtain ⟨ρ, st, as, w, s', r, ha, e, k⟩ := q
  unfold oAbs at e
  split at e
  · obtain ⟨z, rfl, hz⟩ := ha.one
    cases e
    exact ⟨_, by rw [hz.intE], k.here r (.int _)⟩
  · cases e
theorem c_int : CallR X (.type "int") (rC T oInt) := CallR.imp call_int1 fun xs H Q q => by
  obtain ⟨ρ, st, as, w, s', r, ha, e, k⟩ := q
  unfold oInt at e
  split at e
  · obtain ⟨z, rfl, hz⟩ := ha.one
    cases e
    exact .inl ⟨_, by rw [hz.intE], k.here r (.int _)⟩
  · obtain ⟨z, rfl, hz⟩ := ha.one
    cases e
    exact .inr ⟨_, by rw [hz.blE], k.here r (.int _)⟩
  · cases e
theorem c_max (hc : X.calm = true := by rfl) : CallR X (.builtin "max") (rC T oMax) := CallR.imp (call_max2 hc) fun xs H Q q => by
  obtain ⟨ρ, st, as, w, s', r, ha, e, k⟩ := q
  unfold oMax at e
  split at e
  · obtain ⟨z, z', rfl, hz, hz'⟩ := ha.two
    cases e
    exact ⟨_, _, by rw [hz.intE, hz'.intE], k.here r (.int _)⟩
  · cases e
theorem c_tuple (hK : X.K = T.K := by rfl) : CallR X (.type "tuple") (rC T oTuple) := CallR.imp call_tuple_of fun xs H Q q => by
  obtain ⟨ρ, st, as, w, s', r, ha, e, k⟩ := q
  unfold oTuple at e
  split at e
  · obtain ⟨z, rfl, hz⟩ := ha.one
    cases e
    obtain ⟨p, vs, rfl, h1, h2⟩ := hz.tupE
    exact ⟨p, vs, rfl, .inr ⟨by rw [hK]; exact h1, k.here r (.tup h1 h2)⟩⟩
  · split at e
    · rename_i xs hx
      cases e
      obtain ⟨z, rfl, hz⟩ := ha.one
      obtain ⟨p, rfl, hp⟩ := hz.refE
      obtain ⟨vs, h1, h2⟩ := r.lst hx hp
      exact ⟨p, vs, rfl, .inl ⟨SqL.of h1, fun q hq => k.tup r h2 hq⟩⟩
    · cases e
  · cases e
theorem keys_ok {ρ : List Addr} {H : Hp} : ∀ {kvs : List (Key × Vl)} {vs : List (Key × V)}, vs.map (·.1) = kvs.map (·.1) → RVs T ρ H (kvs.map fun kv => keyVl kv.1) (vs.map fun kv => kV kv.1)
  | [], [], _ => .nil
  | [], _ :: _, e => by simp at e
  | _ :: _, [], e => by simp at e
  | p :: r, q :: t, e => by
    simp only [List.map_cons, List.cons.injEq] at e
    rw [List.map_cons, List.map_cons, e.1]
    exact .cons (keyVl_ok _) (keys_ok e.2)
theorem c_list (hc : X.calm = true := by rfl) (hK : X.K = T.K := by rfl) : CallR X (.type "list") (rC T oList) := fun pins s σ H xs us Q I rs q => by
  obtain ⟨ρ, st, as, w, s', r, ha, e, k⟩ := q
  unfold oList at e
  split at e
  · obtain ⟨z, rfl, hz⟩ := ha.one
    cases e
    obtain ⟨p, vs, rfl, h1, h2⟩ := hz.tupE
    exact call_list_of pins s σ H _ us Q I rs ⟨p, vs, rfl, .inr (by rw [hK]; exact h1), fun q hq => k.lst r h2 hq⟩
  · obtain ⟨z, rfl, hz⟩ := ha.one
    obtain ⟨p, rfl, hp⟩ := hz.refE
    split at e
    · rename_i xs hx
      cases e
      obtain ⟨vs, h1, h2⟩ := r.lst hx hp
      exact call_list_of pins s σ H _ us Q I rs ⟨p, vs, rfl, .inl (SqL.of h1), fun q hq => k.lst r h2 hq⟩
    · rename_i kvs hx
      cases e
      obtain ⟨vs, h1, h2, h3⟩ := r.dic hx hp
      exact call_list_dK hc pins s σ H _ us Q I rs ⟨p, vs, rfl, h1, fun q hq => k.lst r (keys_ok h2) hq⟩
    · cases e
  · cases e
theorem lstOf_ok {ρ : List Addr} {H : Hp} {s : Sto} {x : Vl} {z : V} {xs : List Vl} (r : Rel T ρ H s) (hz : RV T ρ H x z) (e : lstOf x s = some xs) : ∃ p vs, z = .ref p ∧ H p = some (.lst vs) ∧ RVs T ρ H xs vs := by
  unfold lstOf at e
  split at e
  · split at e
    · rename_i ys hx
      cases e
      obtain ⟨p, rfl, hp⟩ := hz.refE
      obtain ⟨vs, h1, h2⟩ := r.lst hx hp
      exact ⟨p, vs, rfl, h1, h2⟩
    · cases e
  · cases e
theorem c_all (hc : X.calm = true := by rfl) : CallR X (.builtin "all") (rC T oAll) := CallR.imp (cr_all hc) fun xs H Q q => by
  obtain ⟨ρ, st, as, w, s', r, ha, e, k⟩ := q
  unfold oAll at e
  split at e
  · split at e
    · rename_i x xs hx
      obtain ⟨z, rfl, hz⟩ := ha.one
      obtain ⟨ns, hn, e⟩ := Option.map_eq_some_iff.mp e
      cases e
      obtain ⟨p, vs, rfl, h1, h2⟩ := lstOf_ok r hz hx
      rw [asBls_ok h2 hn] at h1
      exact ⟨p, ns, rfl, SqL.of h1, k.here r (.bl _)⟩
    · cases e
  · cases e
theorem c_sorted : CallR X (.builtin "sorted") (rC T oSorted) := CallR.imp cr_sortedI fun xs H Q q => by
  obtain ⟨ρ, st, as, w, s', r, ha, e, k⟩ := q
  unfold oSorted at e
  split at e
  · split at e
    · rename_i x xs hx
      obtain ⟨z, rfl, hz⟩ := ha.one
      obtain ⟨ns, hn, e⟩ := Option.map_eq_some_iff.mp e
      cases e
      obtain ⟨p, vs, rfl, h1, h2⟩ := lstOf_ok r hz hx
      rw [asInts_ok h2 hn] at h1
      refine ⟨p, ns, rfl, SqL.of h1, fun ns' q hp hs hq => ?_⟩
      rw [srt_eq hp hs]
      exact k.lst r (RVs.ints _) hq
    · cases e
  · cases e
/-- repr of data -/
theorem dp_noDict {K : PySem.W.Frag} {H : Hp} : ∀ (d : PyData) (v : V), Dp K H v d → d.hasDict = false
  | .none, _, _ => by simp only [PyData.hasDict]
  | .bool _, _, _ => by simp only [PyData.hasDict]
  | .int _, _, _ => by simp only [PyData.hasDict]
  | .str _, _, _ => by simp only [PyData.hasDict]
  | .list ds, _, .lst _ h => by
    simp only [PyData.hasDict]
    exact go ds _ h
  | .tuple ds, _, .tup _ h => by
    simp only [PyData.hasDict]
    exact go ds _ h
where
  go {K : PySem.W.Frag} {H : Hp} : ∀ (ds : List PyData) (vs : List V), DpAll K H vs ds → PyData.hasDictAll ds = false
  | [], _, _ => by simp only [PyData.hasDictAll]
  | d :: ds, _, .cons h hs => by
    simp only [PyData.hasDictAll]
    rw [dp_noDict d _ h, go ds _ hs]
    rfl
theorem c_repr (hg : X.A.guards = some []) (hu : X.A.units + 64 < cLine) (hK : X.K = T.K := by rfl) : CallR X (.builtin "repr") (rC T oRepr) := fun pins s σ H xs us Q I rs q => by
  obtain ⟨ρ, st, as, w, s', r, ha, e, k⟩ := q
  unfold oRepr at e
  split at e
  · rename_i x
    split at e
    · rename_i d hd
      split at e
      · rename_i hb
        cases e
        obtain ⟨hs, hl⟩ := Bool.and_eq_true_iff.mp hb
        have hl := of_decide_eq_true hl
        obtain ⟨z, rfl, hz⟩ := ha.one
        obtain ⟨p1, p2⟩ := toD_dp r 40 x z d hz hd
        have nd := dp_noDict d z p1
        have fin := k.here r (.str d.shown)
        cases rs with
        | cons r1 r2 =>
          cases r2
          rename_i u
          rw [← hK] at p1
          obtain ⟨bs, rd⟩ := Dp.reads I d z u p1 r1
          cases p1 with
          | non =>
            obtain rfl := r1
            simp only [PyData.shown] at fin
            exact PySem.P.repr_of_none ⟨.str _, H, I.tok _, ⟨_, rfl⟩, fin⟩
          | bl b =>
            obtain rfl := r1
            simp only [PyData.shown] at fin
            refine PySem.P.repr_of_bool ⟨.str _, H, I.tok _, ⟨_, rfl⟩, fin⟩
          | int i =>
            obtain ⟨t, rfl⟩ := r1
            simp only [PyData.shown] at fin
            simp only [PyData.showable] at hs
            exact PySem.P.repr_of_int (of_decide_eq_true hs) ⟨.str _, H, I.tok _, ⟨_, rfl⟩, fin⟩
          | str y =>
            obtain ⟨t, rfl⟩ := r1
            simp only [PyData.shown] at fin hl
            exact PySem.P.repr_of_str ⟨.str _, H, I.tok _, ⟨_, rfl⟩, fin⟩ (by rw [lim_eq]; exact hl)
          | lst g1 g2 =>
            obtain rfl := r1
            exact repr_of_reads' rd hs (fun z => by rw [nd] at z; cases z) hg (by omega) (fun _ _ e => e) (fun h' u tk hk => ⟨.str _, H, I.kept (t' := tk) hk, ⟨_, rfl⟩, fin⟩) (by rw [lim_eq]; exact hl)
          | tup g1 g2 =>
            obtain rfl := r1
            exact repr_of_reads' rd hs (fun z => by rw [nd] at z; cases z) hg (by omega) (fun _ _ e => e) (fun h' u tk hk => ⟨.str _, H, I.kept (t' := tk) hk, ⟨_, rfl⟩, fin⟩) (by rw [lim_eq]; exact hl)
      · cases e
    · cases e
  · cases e
end
/-! ### methods of built-in types -/
inductive Kd where
  | list | dict | str
def kd (k : Kd) (x : Vl) (s : Sto) : Bool := match k, x with
  | .str, .str _ => true
  | .list, .ref j => match s[j]? with
    | some (.lst _) => true
    | _ => false
  | .dict, .ref j => match s[j]? with
    | some (.dic _) => true
    | _ => false
  | _, _ => false
def Kd.nm : Kd → String
  | .list => "list"
  | .dict => "dict"
  | .str => "str"
def eBm (t : Kd) (f : OMt) (o : EM) (a : AM) : EM := fun lo => bnd (o lo) fun x s => match kd t x s with
  | true => bnd (a lo) (fun xs => lift (f x xs)) s
  | false => .fail
def eBm0 (t : Kd) (f : OMt) (o : EM) : EM := fun lo => bnd (o lo) fun x s => match kd t x s with
  | true => lift (f x []) s
  | false => .fail
def oAppend : OMt
  | .ref j, [v], s => match s[j]? with
    | some (.lst xs) => if xs.length < LIM then some (.non, s.set j (.lst (xs ++ [v]))) else none
    | _ => none
  | _, _, _ => none
def oExtend : OMt
  | .ref j, [.ref i], s => match s[j]?, s[i]? with
    | some (.lst xs), some (.lst ys) => if xs.length + ys.length ≤ LIM then some (.non, s.set j (.lst (xs ++ ys))) else none
    | _, _ => none
  | .ref j, [.tup ys], s => match s[j]? with
    | some (.lst xs) => if xs.length + ys.length ≤ LIM then some (.non, s.set j (.lst (xs ++ ys))) else none
    | _ => none
  | _, _, _ => none
def oPop : OMt
  | .ref j, [], s => match s[j]? with
    | some (.lst xs) => match xs[xs.length - 1]? with
      | some v => some (v, s.set j (.lst xs.dropLast))
      | none => none
    | _ => none
  | _, _, _ => none
section
variable {X : Cx} {T : Tb} {W : WX} {o e : Expr} {es : List Expr} {mo : EM} {ma : AM} {name : Str} {apos cpos : Pos} {id : String} {f : OMt} {t : Kd}
theorem kd_ok {ρ : List Addr} {H : Hp} {s : Sto} {x : Vl} {z : V} (r : Rel T ρ H s) (hz : RV T ρ H x z) (h : kd t x s = true) : tyV X.K t.nm z H := by
  cases t <;> cases x <;> simp only [kd] at h <;> try cases h
  · split at h
    · rename_i hx
      obtain ⟨p, rfl, hp⟩ := hz.refE
      obtain ⟨vs, h1, h2⟩ := r.lst hx hp
      exact .inl ⟨rfl, vs, SqL.of h1⟩
    · cases h
  · split at h
    · rename_i hx
      obtain ⟨p, rfl, hp⟩ := hz.refE
      obtain ⟨vs, h1, h2⟩ := r.dic hx hp
      exact .inr (.inr (.inl ⟨rfl, .inl ⟨vs, h1⟩⟩))
    · cases h
  · rw [hz.strE]; exact rfl
theorem ce_bm (pa : PlainAttrs t.nm) (slot : Slot t.nm name id) (hty : typeOf (.builtin id) = pure (.type "method_descriptor")) (hm : MtR X id (rMt T f)) (ho : PE X o (tE T W mo)) (ha : PA X (e :: es) (tA T W ma))
    (hbase : attributeBase o name X.env (eval o X.env) = eval o X.env := by rfl)
    (hfew : ((backTo cpos (starEach (e :: es) X.env)).all (fun x => !x.1) && (backToKw cpos (keywordEach [] X.env)).all (fun x => x.1.isSome)
      && decide ((e :: es).length + ([] : List Keyword).length + (if ([] : List Keyword).isEmpty then 0 else 1) < 30)) = true := by rfl)
    (hline : (apos.endLine == cpos.line) = true := by rfl) (hs : starEach (e :: es) X.env = (false, eval e X.env) :: starEach es X.env := by rfl) (hplain : (backTo cpos (starEach es X.env)).any (·.1) = false := by rfl) :
    PE X (.Call (.Attribute o name apos) (e :: es) [] cpos) (tE T W (eBm t f mo ma)) :=
  pe_mono (pe_bm pa slot hty hm ho ha hbase hfew hline hs hplain) fun σ H Q h => tG_bnd (R := RV T) h fun ρ s lo x z H1 r rl hx p => by
    cases hk : kd t x s with
    | false => simp only [hk] at p; exact p.elim
    | true =>
      simp only [hk] at p
      refine ⟨kd_ok r hx hk, po_bnd (R := RVs T) (m := ma) r rl p fun ρ' s' xs zs H' ext r' rl' hxs p' => ?_⟩
      obtain ⟨v, s3, e, k⟩ := po_lift p'
      exact ⟨ρ', s', x, xs, v, s3, r', hx.mono ext, hxs, e, k⟩
theorem MtR.imp {r r' : V → List V → Hp → VK → Prop} (h : MtR X id r) (k : ∀ x xs H Q, r' x xs H Q → r x xs H Q) : MtR X id r' := fun pins s σ H x xs v us Q I rx rs q => h pins s σ H x xs v us Q I rx rs (k x xs H Q q)
theorem m_append : MtR X "list.append" (rMt T oAppend) := MtR.imp mt_append fun x xs H Q q => by
  obtain ⟨ρ, st, a, as, w, s', r, ha, hs, e, k⟩ := q
  unfold oAppend at e
  split at e
  · split at e
    · rename_i v s j ys hx
      split at e
      · rename_i hl
        cases e
        obtain ⟨p, rfl, hp⟩ := ha.refE
        obtain ⟨z, rfl, hz⟩ := hs.one
        obtain ⟨vs, h1, h2⟩ := r.lst hx hp
        refine ⟨p, vs, z, rfl, rfl, h1, by rw [← h2.length, lim_eq]; exact hl, ?_⟩
        exact k.set r hp h1 (fun z => z) ⟨_, upd_same, (h2.append (.cons hz .nil)).mono (r.setExt hp h1)⟩ .non
      · cases e
    · cases e
  · cases e
/-- extend by a tuple -/
theorem list_extend_tup (l : Addr) (items : Array Value) (n : Nat) (b : Addr) (items2 : Array Value) (n2 : Nat) (od : Option Addr) (sl : Array (Option Value)) (hs0 : ¬(!items.isEmpty && Builtin.List.listTooLong (items.size + items2.size)) = true) (hs1 : items.size ≤ sizeLine) (hs2 : items.size + items2.size ≤ sizeLine + 1) :
    PySem.Meets (Builtin.«list.extend» ⟨[.ref l, .ref b], []⟩) (fun _ R s => s.heap.get? l = some { cls := .type "list", dict := none, data := .seq items n, slots := #[] } ∧ s.heap.get? b = some { cls := .type "tuple", dict := od, data := .seq items2 n2, slots := sl } ∧ R (.ok (.ret Value.none)) { s with heap := s.heap.update l (Obj.mapSeq fun x => x ++ items2), toks := s.toks }) :=
  .of_wp fun prog w A R s h => by
    obtain ⟨hp, g, d, tk, os⟩ := s; obtain ⟨hl, hb, h⟩ := h; have f1 := PySem.AutoSeq1.idx_int; have f2 := PySem.AutoSeq1.sub_tuple_tuple; have f3 := PySem.AutoSeq1.sub_list_list; have f4 := PySem.AutoSeq1.sub_tuple_list; have f5 := PySem.AutoSeq1.sub_list_tuple
    have hz' : (items ++ items2).size ≤ sizeLine + 1 := by rw [Array.size_append]; exact hs2
    wp_walk using (wpAny_updateSeq hl rfl (hz := hs1) (_hz' := hz')), PySem.AutoSeq1.wpAny_loadPart' hl, PySem.AutoSeq1.wpAny_loadPart' hb; exact ⟨_, rfl, h⟩
def rExtT (K : PySem.W.Frag) : V → List V → Hp → VK → Prop := fun x vs H Q => ∃ l b xs zs, x = .ref l ∧ vs = [.ref b] ∧ H l = some (.lst xs) ∧ SqT K H b zs ∧ xs.length + zs.length ≤ sizeLine ∧ Q .non (upd H l (.lst (xs ++ zs)))
theorem mt_extendT : MtM X "list.extend" (rExtT X.K) := by
  intro pins s σ H x vs v us Q I rx rv h
  obtain ⟨l, b, xs, zs, rfl, rfl, hH, hB, hz, q⟩ := h
  cases rx
  obtain ⟨u, rfl, ru⟩ := rv.one
  cases ru
  obtain ⟨z, its, n, r, hl, e⟩ := I.lstM hH
  obtain ⟨its2, r2, ⟨o, h1, h2, n2, h3⟩, z2⟩ := I.tuple hB
  have hl2 := r2.length
  obtain ⟨oc, od, dt, sl⟩ := o
  simp only at h2 h3
  subst h2 h3
  have hsz : its.toArray.size + its2.toArray.size ≤ sizeLine := by rw [List.size_toArray, List.size_toArray]; omega
  have hlong : ¬ (!its.toArray.isEmpty && Builtin.List.listTooLong (its.toArray.size + its2.toArray.size)) = true := by
    rw [notLongL hsz, Bool.and_false]
    exact Bool.false_ne_true
  refine PySem.call_meets PySem.F.slot_list_extend ⟨_, e, rfl⟩ PySem.F.entry_list_extend (PySem.F.args_list_extend_2 _ _)
    (list_extend_tup l its.toArray n b its2.toArray n2 od sl hlong (by rw [List.size_toArray]; omega) (by omega)) ⟨e, h1, ?_⟩
  refine ⟨.non, _, I.lset (its' := its ++ its2) hH e (by simp) (r.append r2) ?_, rfl, q⟩
  rw [List.length_append]
  omega
theorem m_extend (hK : X.K = T.K := by rfl) : MtR X "list.extend" (rMt T oExtend) := by
  intro pins s σ H x vs v us Q I rx rv h
  obtain ⟨ρ, st, a, as, w, s', r, ha, hs, e, k⟩ := h
  unfold oExtend at e
  split at e
  · split at e
    · rename_i ys zs hx hy
      split at e
      · rename_i hl
        cases e
        obtain ⟨p, rfl, hp⟩ := ha.refE
        obtain ⟨z, rfl, hz⟩ := hs.one
        obtain ⟨q, rfl, hq⟩ := hz.refE
        obtain ⟨vs, h1, h2⟩ := r.lst hx hp
        obtain ⟨us, h3, h4⟩ := r.lst hy hq
        refine mt_extend pins s σ H _ _ v _ Q I rx rv ⟨p, q, vs, us, rfl, rfl, h1, h3, by rw [← h2.length, ← h4.length, lim_eq]; exact hl, ?_⟩
        exact k.set r hp h1 (fun z => z) ⟨_, upd_same, (h2.append h4).mono (r.setExt hp h1)⟩ .non
      · cases e
    · cases e
  · split at e
    · rename_i ys hx
      split at e
      · rename_i hl
        cases e
        obtain ⟨p, rfl, hp⟩ := ha.refE
        obtain ⟨z, rfl, hz⟩ := hs.one
        obtain ⟨q, us, rfl, hq, h4⟩ := hz.tupE
        obtain ⟨vs, h1, h2⟩ := r.lst hx hp
        refine mt_extendT pins s σ H _ _ v _ Q I rx rv ⟨p, q, vs, us, rfl, rfl, h1, by rw [hK]; exact hq, by rw [← h2.length, ← h4.length, lim_eq]; exact hl, ?_⟩
        exact k.set r hp h1 (fun z => z) ⟨_, upd_same, (h2.append h4).mono (r.setExt hp h1)⟩ .non
      · cases e
    · cases e
  · cases e
theorem RVs.dropLast {ρ : List Addr} {H : Hp} {xs : List Vl} {vs : List V} (h : RVs T ρ H xs vs) : RVs T ρ H xs.dropLast vs.dropLast := by
  rw [List.dropLast_eq_take, List.dropLast_eq_take, h.length]
  exact h.take _
end
end Sm

/-! S5: statements -/
namespace Sm
open PySem L2

inductive RS where
  | nx (lo : Lo) (s : Sto) | rt (v : Vl) (s : Sto) | bk (lo : Lo) (s : Sto) | ct (lo : Lo) (s : Sto) | exc (e : Ex) (lo : Lo) (s : Sto) | fail
abbrev SM := Lo → Sto → RS
def bndS {α : Type} (m : Lo → M α) (f : Lo → α → Sto → RS) : SM := fun lo s => match m lo s with
  | .ok a s' => f lo a s'
  | .exc e s' => .exc e lo s'
  | .fail => .fail
def sNil : SM := fun lo s => .nx lo s
def sSeq (a b : SM) : SM := fun lo s => match a lo s with
  | .nx lo' s' => b lo' s'
  | .rt v s' => .rt v s'
  | .bk lo' s' => .bk lo' s'
  | .ct lo' s' => .ct lo' s'
  | .exc e lo' s' => .exc e lo' s'
  | .fail => .fail
def sExpr (e : EM) : SM := bndS e fun lo _ s => .nx lo s
def sRet (e : EM) : SM := bndS e fun _ v s => .rt v s
def sRetN : SM := fun _ s => .rt .non s
def sSet (i : Nat) (e : EM) : SM := bndS e fun lo v s => .nx (lo.set i (some v)) s
def sIf (t : TM) (a b : SM) : SM := bndS t fun lo c s => match c with
  | true => a lo s
  | false => b lo s
def sBreak : SM := fun lo s => .bk lo s
def sCont : SM := fun lo s => .ct lo s
/-- a, b = e1, e2 and three -/
def sPar (i j : Nat) (a : AM) : SM := bndS a fun lo vs s => match vs with
  | [v, w] => .nx ((lo.set i (some v)).set j (some w)) s
  | _ => .fail
def sPar3 (i j l : Nat) (a : AM) : SM := bndS a fun lo vs s => match vs with
  | [v, w, x] => .nx (((lo.set i (some v)).set j (some w)).set l (some x)) s
  | _ => .fail

/-- what is asked behind a statement -/
def PoXS (T : Tb) (W : WX) (ρ : List Addr) (H : Hp) (e : Ex) (lo : Lo) (s : Sto) : Prop :=
  ∀ (ρ' : List Addr) (H' : Hp) (σ' : St) (C : Addr), Ext T ρ H ρ' H' → Rel T ρ' H' s → RL T ρ' H' lo σ' → T.cl[e.c]? = some C →
    match e.fs with
    | none => W (.ref C) none σ' H'
    | some fs => ∀ (d : Addr) (vs : List (Str × V)), H' d = some (.xd vs) → vs.map (·.1) = fs.map (·.1) → RVs T ρ' H' (fs.map (·.2)) (vs.map (·.2)) → W (.ref C) (some d) σ' H'
def PoN (T : Tb) (ρ : List Addr) (H : Hp) (lo : Lo) (s : Sto) (Q : St → Hp → Prop) : Prop := ∀ (ρ' : List Addr) (H' : Hp) (σ' : St), Ext T ρ H ρ' H' → Rel T ρ' H' s → RL T ρ' H' lo σ' → Q σ' H'
def PoS (T : Tb) (W : WX) (ρ : List Addr) (H : Hp) (r : RS) (D : Ends) : Prop := match r with
  | .nx lo s => PoN T ρ H lo s D.nx
  | .rt v s => ∀ (ρ' : List Addr) (H' : Hp) (z : V), Ext T ρ H ρ' H' → Rel T ρ' H' s → RV T ρ' H' v z → D.rt z H'
  | .bk lo s => PoN T ρ H lo s D.bk
  | .ct lo s => PoN T ρ H lo s D.ct
  | .exc e lo s => PoXS T W ρ H e lo s
  | .fail => False
theorem PoN.mono {T : Tb} {ρ ρ' : List Addr} {H H' : Hp} {lo : Lo} {s : Sto} {Q : St → Hp → Prop} (p : PoN T ρ H lo s Q) (e : Ext T ρ H ρ' H') : PoN T ρ' H' lo s Q := fun ρ2 H2 σ2 e2 => p ρ2 H2 σ2 (e.trans e2)
theorem PoS.mono {T : Tb} {W : WX} {ρ ρ' : List Addr} {H H' : Hp} {r : RS} {D : Ends} (p : PoS T W ρ H r D) (e : Ext T ρ H ρ' H') : PoS T W ρ' H' r D := by
  cases r with
  | nx lo s => exact PoN.mono (lo := lo) p e
  | rt v s => exact fun ρ2 H2 z e2 => p ρ2 H2 z (e.trans e2)
  | bk lo s => exact PoN.mono (lo := lo) p e
  | ct lo s => exact PoN.mono (lo := lo) p e
  | exc x lo s => exact fun ρ2 H2 σ2 C e2 => p ρ2 H2 σ2 C (e.trans e2)
  | fail => exact p
def tS (T : Tb) (W : WX) (m : SM) : TS := fun D σ H => ∃ (ρ : List Addr) (s : Sto) (lo : Lo), Rel T ρ H s ∧ RL T ρ H lo σ ∧ PoS T W ρ H (m lo s) D
theorem ps_mono {X : Cx} {e : Stmt} {t t' : TS} (h : PS X e t) (k : ∀ D σ H, t' D σ H → t D σ H) : PS X e t' := ⟨fun pins s σ H D I q => h.run pins s σ H D I (k D σ H q)⟩
theorem pss_mono {X : Cx} {e : List Stmt} {t t' : TS} (h : PSs X e t) (k : ∀ D σ H, t' D σ H → t D σ H) : PSs X e t' := ⟨fun pins s σ H D I q => h.run pins s σ H D I (k D σ H q)⟩
/-- a part of a statement, then the rest -/
theorem poS_bnd {α β : Type} {R : List Addr → Hp → α → β → Prop} {T : Tb} {W : WX} {m : Lo → M α} {f : Lo → α → Sto → RS} {ρ : List Addr} {s : Sto} {lo : Lo} {σ : St} {H : Hp} {D : Ends} {Q' : β → Hp → Prop}
    (r : Rel T ρ H s) (rl : RL T ρ H lo σ) (p : PoS T W ρ H (bndS m f lo s) D)
    (k : ∀ (ρ' : List Addr) (s' : Sto) (a : α) (b : β) (H' : Hp), Ext T ρ H ρ' H' → Rel T ρ' H' s' → RL T ρ' H' lo σ → R ρ' H' a b → PoS T W ρ' H' (f lo a s') D → Q' b H') : tG R T W m σ H Q' := by
  refine ⟨ρ, s, lo, r, rl, ?_⟩
  unfold bndS at p
  cases e : m lo s with
  | ok a s1 =>
    rw [e] at p
    exact fun ρ' H' b x r' hb => k ρ' s1 a b H' x r' (rl.mono x) hb (p.mono x)
  | exc z s1 =>
    rw [e] at p
    exact fun ρ' H' C x r' hC => p ρ' H' σ C x r' (rl.mono x) hC
  | fail => rw [e] at p; exact p
theorem tS_bnd {α β : Type} {R : List Addr → Hp → α → β → Prop} {T : Tb} {W : WX} {m : Lo → M α} {f : Lo → α → Sto → RS} {σ : St} {H : Hp} {D : Ends} {Q' : β → Hp → Prop} (h : tS T W (bndS m f) D σ H)
    (k : ∀ (ρ : List Addr) (s : Sto) (lo : Lo) (a : α) (b : β) (H' : Hp), Rel T ρ H' s → RL T ρ H' lo σ → R ρ H' a b → PoS T W ρ H' (f lo a s) D → Q' b H') : tG R T W m σ H Q' := by
  obtain ⟨ρ, s, lo, r, rl, p⟩ := h
  exact poS_bnd r rl p fun ρ' s' a b H' _ r' rl' hb p' => k ρ' s' lo a b H' r' rl' hb p'
section
variable {X : Cx} {T : Tb} {W : WX} {e c : Expr} {st : Stmt} {rest a b : List Stmt} {me : EM} {mt : TM} {ms mr ma mb : SM} {pos : Pos}
theorem cs_nil : PSs X [] (tS T W sNil) := pss_mono pss_nil fun D σ H h => by
  obtain ⟨ρ, s, lo, r, rl, p⟩ := h
  exact p ρ H σ .refl r rl
theorem cs_cons (h1 : PS X st (tS T W ms)) (h2 : PSs X rest (tS T W mr)) : PSs X (st :: rest) (tS T W (sSeq ms mr)) := pss_mono (pss_cons h1 h2) fun D σ H h => by
  obtain ⟨ρ, s, lo, r, rl, p⟩ := h
  refine ⟨ρ, s, lo, r, rl, ?_⟩
  unfold sSeq at p
  cases e : ms lo s with
  | nx lo' s' =>
    rw [e] at p
    exact fun ρ' H' σ' x r' rl' => ⟨ρ', s', lo', r', rl', p.mono x⟩
  | rt v s' => rw [e] at p; exact p
  | bk lo' s' => rw [e] at p; exact p
  | ct lo' s' => rw [e] at p; exact p
  | exc z lo' s' => rw [e] at p; exact p
  | fail => rw [e] at p; exact p
theorem cs_one (h1 : PS X st (tS T W ms)) : PSs X [st] (tS T W ms) := pss_one h1
theorem cs_expr (he : PE X e (tE T W me)) (hs : swapsWith e none pos.line X.env = pure false := by rfl) : PS X (.Expr e pos) (tS T W (sExpr me)) := ps_mono (ps_expr he hs) fun D σ H h =>
  tS_bnd (R := RV T) h fun ρ s lo x z H' r rl hx p => p ρ H' σ .refl r rl
theorem cs_ret (he : PE X e (tE T W me)) : PS X (.Return (some e) pos) (tS T W (sRet me)) := ps_mono (ps_ret he) fun D σ H h =>
  tS_bnd (R := RV T) h fun ρ s lo x z H' r rl hx p => p ρ H' z .refl r hx
theorem cs_if (hc : PT X c (tT T W mt)) (ha : PSs X a (tS T W ma)) (hb : PSs X b (tS T W mb)) : PS X (.If c a b pos) (tS T W (sIf mt ma mb)) := ps_mono (ps_if hc ha hb) fun D σ H h =>
  tS_bnd (R := RB) h fun ρ s lo x z H' r rl hx p => by
    cases hx
    cases x with
    | true => exact ⟨ρ, s, lo, r, rl, p⟩
    | false => exact ⟨ρ, s, lo, r, rl, p⟩
theorem tasg_le {i : Nat} {D : Ends} {σ : St} {H : Hp} (h : tS T W (sSet i me) D σ H) : tAsg (tE T W me) (gName i) D σ H :=
  tS_bnd (R := RV T) h fun ρ s lo x z H' r rl hx p => p ρ H' _ .refl r (rl.set i hx)
theorem cs_set {i : Nat} {x : Str} {pos' : Pos} (hN : X.N.Nodup) (hi : X.N[i]? = some x) (hx : Loc X.env.scope x) (he : PE X e (tE T W me)) (hs : swapsWith e (some (.Name x pos')) pos.line X.env = pure false := by rfl) (hf : X.fn x = true ∨ X.env.scope.names.lookup x = some .local := by first | exact .inl rfl | exact .inr rfl | assumption) :
    PS X (.Assign [.Name x pos'] e pos) (tS T W (sSet i me)) := ps_mono (ps_set hN hi hx he hs hf) fun D σ H h => tasg_le h
theorem cs_par {i j : Nat} {x y : Str} {a b : Expr} {ma : AM} {px py pt : Pos} {kt k2 pt2} (hc : X.calm = true) (hN : X.N.Nodup) (hi : X.N[i]? = some x) (hj : X.N[j]? = some y) (hij : i ≠ j)
    (hx : X.env.scope.names.lookup x = some .local) (hy : X.env.scope.names.lookup y = some .local) (ha : PA X [a, b] (tA T W ma))
    (hw : swappedStores [.Tuple [.Name x px, .Name y py] kt pt] (.Tuple [a, b] k2 pt2) X.env = pure (some [x, y]))
    (hs : swapsWithSole [.Tuple [.Name x px, .Name y py] kt pt] (.Tuple [a, b] k2 pt2) pos.line X.env = pure false := by rfl) :
    PS X (.Assign [.Tuple [.Name x px, .Name y py] kt pt] (.Tuple [a, b] k2 pt2) pos) (tS T W (sPar i j ma)) := ps_mono (ps_par hc hN hi hj hij hx hy ha hw hs) fun D σ H h =>
  tS_bnd (R := RVs T) h fun ρ s lo vs zs H' r rl hx p => by
    cases hx with
    | nil => exact p.elim
    | cons h1 h2 =>
      cases h2 with
      | nil => exact p.elim
      | cons h2 h3 =>
        cases h3 with
        | nil => exact ⟨_, _, rfl, p ρ H' _ .refl r ((rl.set i h1).set j h2)⟩
        | cons h3 h4 => exact p.elim
end

/-! ### targets -/
abbrev GM := Vl → Lo → M Lo
def gNm (i : Nat) : GM := fun v lo s => .ok (lo.set i (some v)) s
abbrev OSet := Vl → Vl → Vl → Sto → Option Sto
def liftU (f : Sto → Option Sto) (lo : Lo) : M Lo := fun s => match f s with
  | some s' => .ok lo s'
  | none => .fail
def gSb (f : OSet) (o i : EM) : GM := fun v lo => bnd (o lo) fun x => bnd (i lo) fun y => liftU (f x y v) lo
def gNms (js : List Nat) (vs : List Vl) (lo : Lo) : Option Lo := match js, vs with
  | [], [] => some lo
  | j :: js, v :: vs => gNms js vs (lo.set j (some v))
  | _, _ => none
/-- names in brackets -/
def gTp (js : List Nat) : GM := fun v lo s => match v with
  | .tup xs => match gNms js xs lo with
    | some lo' => .ok lo' s
    | none => .fail
  | _ => .fail
/-- the readings of targets -/
abbrev RLo (T : Tb) : List Addr → Hp → Lo → St → Prop := fun ρ H lo σ => RL T ρ H lo σ
def tGt (T : Tb) (W : WX) (g : GM) : TG := fun z σ H Q => ∃ (ρ : List Addr) (s : Sto) (lo : Lo) (v : Vl), Rel T ρ H s ∧ RL T ρ H lo σ ∧ RV T ρ H v z ∧ Po (RLo T) T (fun c d H' => W c d σ H') ρ H (g v lo s) Q
def sAsg (g : GM) (e : EM) : SM := bndS e fun lo v s => match g v lo s with
  | .ok lo' s' => .nx lo' s'
  | .exc x s' => .exc x lo s'
  | .fail => .fail
theorem pg_mono {X : Cx} {e : Expr} {t t' : TG} (h : PG X e t) (k : ∀ v σ H Q, t' v σ H Q → t v σ H Q) : PG X e t' := ⟨fun pins s σ H v u Q I r q => h.run pins s σ H v u Q I r (k v σ H Q q)⟩
def opSet : OSet
  | .ref j, y, v, s => match s[j]? with
    | some (.lst xs) => match y with
      | .int i => match ixN xs.length i with
        | some n => some (s.set j (.lst (xs.set n v)))
        | none => none
      | _ => none
    | some (.dic kvs) => match keyOf y with
      | some k => if kvs.length < LIM then some (s.set j (.dic (put kvs k v))) else none
      | none => none
    | _ => none
  | _, _, _, _ => none
def rSt (T : Tb) (f : OSet) : TSet := fun o i v H Q => ∃ ρ s a b c s', Rel T ρ H s ∧ RV T ρ H a o ∧ RV T ρ H b i ∧ RV T ρ H c v ∧ f a b c s = some s' ∧ ∀ (ρ' : List Addr) (H' : Hp), Ext T ρ H ρ' H' → Rel T ρ' H' s' → Q H'
section
variable {X : Cx} {T : Tb} {W : WX} {o i e tg : Expr} {mo mi me : EM} {g : GM} {f : OSet} {pos : Pos}
theorem cg_name {n : Nat} {x : Str} (hN : X.N.Nodup) (hi : X.N[n]? = some x) (hx : Loc X.env.scope x) (hf : X.fn x = true ∨ X.env.scope.names.lookup x = some .local := by first | exact .inl rfl | exact .inr rfl | assumption) : PG X (.Name x pos) (tGt T W (gNm n)) :=
  pg_mono (pg_name hN hi hx hf) fun v σ H Q h => by
    obtain ⟨ρ, s, lo, x, r, rl, hx, p⟩ := h
    exact p ρ H _ .refl r (rl.set n hx)
theorem cg_sub (ho : PE X o (tE T W mo)) (hi : PE X i (tE T W mi)) (hs : PSet X (rSt T f)) (k : PG X (.Subscript o i pos) (gSub (tE T W mo) (tE T W mi) (rSt T f))) : PG X (.Subscript o i pos) (tGt T W (gSb f mo mi)) :=
  pg_mono k fun v σ H Q h => by
    obtain ⟨ρ, s, lo, x, r, rl, hx, p⟩ := h
    refine po_bnd (R := RV T) (m := mo) r rl p fun ρ1 s1 a z H1 ext1 r1 rl1 ha p1 => po_bnd (R := RV T) (m := mi) r1 rl1 p1 fun ρ2 s2 b y H2 ext2 r2 rl2 hb p2 => ?_
    unfold liftU at p2
    cases e : f a b x s2 with
    | none => rw [e] at p2; exact p2.elim
    | some s3 =>
      rw [e] at p2
      exact ⟨ρ2, s2, a, b, x, s3, r2, ha.mono ext2, hb, hx.mono (ext1.trans ext2), e, fun ρ3 H3 e3 r3 => p2 ρ3 H3 σ e3 r3 (rl2.mono e3)⟩
theorem cs_asg (he : PE X e (tE T W me)) (hg : PG X tg (tGt T W g)) (hs : swapsWithSole [tg] e pos.line X.env = pure false := by rfl) (hw : swappedStores [tg] e X.env = pure none := by rfl)
    (h1 : (assignEach [tg] X.env).map (·.2) = [assign tg X.env] := by rfl) : PS X (.Assign [tg] e pos) (tS T W (sAsg g me)) := ps_mono (ps_asg he hg hs hw h1) fun D σ H h =>
  tS_bnd (R := RV T) h fun ρ s lo x z H' r rl hx p => ⟨ρ, s, lo, x, r, rl, hx, by
    cases e : g x lo s with
    | ok lo' s' =>
      rw [e] at p
      exact fun ρ2 H2 σ2 e2 r2 rl2 => p ρ2 H2 σ2 e2 r2 rl2
    | exc y s' =>
      rw [e] at p
      exact fun ρ2 H2 C e2 r2 hC => p ρ2 H2 σ C e2 r2 (rl.mono e2) hC
    | fail => rw [e] at p; exact p⟩
theorem p_set (hu : X.A.units + 1 < cLine) : PSet X (rSt T opSet) := by
  intro pins s σ H ov iv v ou iu u Q I ro ri rv h
  obtain ⟨ρ, st, a, b, c, s', r, ha, hb, hc, e, k⟩ := h
  unfold opSet at e
  split at e
  · rename_i j y w s0
    obtain ⟨p, rfl, hp⟩ := ha.refE
    split at e
    · rename_i xs hx
      split at e
      · rename_i i
        split at e
        · rename_i n hn
          cases e
          obtain ⟨vs, h1, h2⟩ := r.lst hx hp
          refine set_list pins s σ H _ _ v ou iu u Q I ro ri rv ⟨p, vs, i, n, rfl, hb.intE, h1, by rw [← h2.length]; exact hn, ?_⟩
          exact k ρ _ (r.setExt hp h1) (r.set hp ⟨_, upd_same, (h2.set hc n).mono (r.setExt hp h1)⟩)
        · cases e
      · cases e
    · rename_i kvs hx
      split at e
      · rename_i key hk
        split at e
        · rename_i hl
          cases e
          obtain ⟨vs, h1, h2, h3⟩ := r.dic hx hp
          have ey := keyOf_ok hb hk
          subst ey
          have hlen : vs.length = kvs.length := by have := congrArg List.length h2; simpa using this
          have nd := dk_nodup I h1
          obtain ⟨q1, q2⟩ := put_ok (k := key) hc nd h2 h3
          obtain rfl : ou = Value.ref p := ro
          refine d_setItem hu I (DPut.k (v := v) h1 (by rw [hlen, lim_eq]; exact hl)) ri rv fun s4 I4 => ⟨_, I4, ?_⟩
          exact k ρ _ (r.setExt hp h1) (r.set hp ⟨_, upd_same, q1, q2.mono (r.setExt hp h1)⟩)
        · cases e
      · cases e
    · cases e
  · cases e
end
end Sm

/-! S6: loops and comprehensions -/
namespace Sm
open PySem L2

/-- the i-th item of what is walked: an item, the end, or nothing known -/
abbrev NX := Nat → Sto → Option (Option Vl)
def nxFix (xs : List Vl) : NX := fun i _ => some xs[i]?
def nxLst (j : Nat) : NX := fun i s => match s[j]? with
  | some (.lst xs) => some xs[i]?
  | _ => none
def nxEnum (j : Nat) : NX := fun i s => match s[j]? with
  | some (.lst xs) => match xs[i]? with
    | some v => some (some (.tup [.int (i : Nat), v]))
    | none => some none
  | _ => none
/-- an iterator of the model yields what nx says -/
def ItOk (T : Tb) (J : It) (nx : NX) (ρ : List Addr) (H : Hp) : Prop := ∀ (ρ1 : List Addr) (H1 : Hp) (s : Sto) (i : Nat), Ext T ρ H ρ1 H1 → Rel T ρ1 H1 s → match nx i s with
  | some (some v) => J.go i H1 ∧ ∀ x H2, J.yld i H1 x H2 → Ext T ρ1 H1 ρ1 H2 ∧ Rel T ρ1 H2 s ∧ RV T ρ1 H2 v x
  | some none => J.stop i H1
  | none => True
theorem ItOk.mono {T : Tb} {J : It} {nx : NX} {ρ ρ' : List Addr} {H H' : Hp} (h : ItOk T J nx ρ H) (e : Ext T ρ H ρ' H') : ItOk T J nx ρ' H' := fun ρ1 H1 s i e1 r => h ρ1 H1 s i (e.trans e1) r
abbrev IM := Lo → M NX
abbrev tI (T : Tb) (W : WX) (m : IM) : TI := fun σ H R => tG (fun ρ H nx J => ItOk T J nx ρ H) T W m σ H R
/-- the loop, by fuel -/
def loopN (nx : NX) (g : GM) (b : SM) : Nat → Nat → SM
  | 0, _, _, _ => .fail
  | n + 1, i, lo, s => match nx i s with
    | none => .fail
    | some none => .nx lo s
    | some (some v) => match g v lo s with
      | .fail => .fail
      | .exc e s' => .exc e lo s'
      | .ok lo' s' => match b lo' s' with
        | .nx lo2 s2 => loopN nx g b n (i + 1) lo2 s2
        | .ct lo2 s2 => loopN nx g b n (i + 1) lo2 s2
        | .bk lo2 s2 => .nx lo2 s2
        | .rt v2 s2 => .rt v2 s2
        | .exc e lo2 s2 => .exc e lo2 s2
        | .fail => .fail
def sFor (n : Nat) (m : IM) (g : GM) (b : SM) : SM := bndS m fun lo nx s => loopN nx g b n 0 lo s
/-- the same over items that are known -/
def loopX (g : GM) (b : SM) : List Vl → SM
  | [], lo, s => .nx lo s
  | v :: vs, lo, s => match g v lo s with
    | .fail => .fail
    | .exc e s' => .exc e lo s'
    | .ok lo' s' => match b lo' s' with
      | .nx lo2 s2 => loopX g b vs lo2 s2
      | .ct lo2 s2 => loopX g b vs lo2 s2
      | .bk lo2 s2 => .nx lo2 s2
      | .rt v2 s2 => .rt v2 s2
      | .exc e lo2 s2 => .exc e lo2 s2
      | .fail => .fail
def sForX (m : AM) (g : GM) (b : SM) : SM := bndS m fun lo xs s => loopX g b xs lo s
theorem loopX_eq (g : GM) (b : SM) (all : List Vl) : ∀ (n i : Nat) (lo : Lo) (s : Sto), all.length - i < n → loopN (nxFix all) g b n i lo s = loopX g b (all.drop i) lo s := by
  intro n
  induction n with
  | zero => intro i lo s h; omega
  | succ n ih =>
    intro i lo s h
    unfold loopN
    simp only [nxFix]
    cases e : all[i]? with
    | none =>
      have : all.length ≤ i := List.getElem?_eq_none_iff.mp e
      rw [List.drop_eq_nil_of_le this]
      rfl
    | some v =>
      obtain ⟨hi, hv⟩ := List.getElem?_eq_some_iff.mp e
      rw [List.drop_eq_getElem_cons hi, hv]
      simp only [loopX]
      cases g v lo s with
      | fail => rfl
      | exc e s' => rfl
      | ok lo' s' =>
        simp only
        cases b lo' s' with
        | nx lo2 s2 => exact ih (i + 1) lo2 s2 (by omega)
        | ct lo2 s2 => exact ih (i + 1) lo2 s2 (by omega)
        | bk lo2 s2 => rfl
        | rt v2 s2 => rfl
        | exc e lo2 s2 => rfl
        | fail => rfl
section
variable {X : Cx} {T : Tb} {W : WX} {tg iter : Expr} {body : List Stmt} {m : IM} {ma : AM} {g : GM} {b : SM} {pos : Pos}
theorem loop_le {n : Nat} {D : Ends} {σ : St} {H : Hp} (h : tS T W (sFor n m g b) D σ H) : tFor (tI T W m) (tGt T W g) (tS T W b) D σ H :=
  tS_bnd (R := fun ρ H nx J => ItOk T J nx ρ H) h fun ρ0 s0 lo0 nx J H0 r0 rl0 ok p0 => by
    refine ⟨fun i k σ H => ∃ ρ s lo, Rel T ρ H s ∧ RL T ρ H lo σ ∧ ItOk T J nx ρ H ∧ PoS T W ρ H (loopN nx g b k i lo s) D, ⟨n, ρ0, s0, lo0, r0, rl0, ok, p0⟩, ?_⟩
    rintro i k σ1 H1 ⟨ρ, s, lo, r, rl, ok, p⟩
    cases k with
    | zero => exact p.elim
    | succ k =>
      unfold loopN at p
      have q := ok ρ H1 s i .refl r
      cases e : nx i s with
      | none => simp only [e] at p; exact p.elim
      | some o =>
        simp only [e] at p q
        cases o with
        | none => exact .inl ⟨q, p ρ H1 σ1 .refl r rl⟩
        | some v =>
          obtain ⟨go, yl⟩ := q
          refine .inr ⟨go, fun σ' H' => ∃ ρ s lo, Rel T ρ H' s ∧ RL T ρ H' lo σ' ∧ ItOk T J nx ρ H' ∧ PoS T W ρ H' (loopN nx g b k (i + 1) lo s) D, fun σ' H' h => ⟨k, Nat.lt_succ_self k, h⟩, fun x H2 y => ?_⟩
          obtain ⟨x1, r2, hv⟩ := yl x H2 y
          refine ⟨ρ, s, lo, v, r2, rl.mono x1, hv, ?_⟩
          have p := p.mono x1
          cases e2 : g v lo s with
          | fail => simp only [e2] at p; exact p
          | exc z s' => simp only [e2] at p; exact fun ρ' H' C x r' hC => p ρ' H' σ1 C x r' (rl.mono (x1.trans x)) hC
          | ok lo' s' =>
            simp only [e2] at p
            intro ρ3 H3 σ3 x3 r3 rl3
            refine ⟨ρ3, s', lo', r3, rl3, ?_⟩
            have p := p.mono x3
            have ok3 := ok.mono (x1.trans x3)
            cases e3 : b lo' s' with
            | nx lo2 s2 => simp only [e3] at p; exact fun ρ4 H4 σ4 x4 r4 rl4 => ⟨ρ4, s2, lo2, r4, rl4, ok3.mono x4, p.mono x4⟩
            | ct lo2 s2 => simp only [e3] at p; exact fun ρ4 H4 σ4 x4 r4 rl4 => ⟨ρ4, s2, lo2, r4, rl4, ok3.mono x4, p.mono x4⟩
            | bk lo2 s2 => simp only [e3] at p; exact p
            | rt v2 s2 => simp only [e3] at p; exact p
            | exc z lo2 s2 => simp only [e3] at p; exact p
            | fail => simp only [e3] at p; exact p
theorem cs_for (n : Nat) (hp : PassesOwn (model X.prog X.w) X.A X.env X.xe) (hc : X.calm = true) (hi : PI X tg iter (tI T W m)) (hg : PG X tg (tGt T W g)) (hb : PSs X body (tS T W b))
    (hs : ∀ x, foldedSetIterable iter X.env x = pure x := by intro _; rfl) : PS X (.For tg iter body [] pos) (tS T W (sFor n m g b)) := ps_mono (ps_for hp hc hi hg hb hs) fun D σ H h => loop_le h
/-- what is walked as a list that is known -/
def iFix (ma : AM) : IM := fun lo => bnd (ma lo) fun xs => ret (nxFix xs)
theorem cs_forX (hp : PassesOwn (model X.prog X.w) X.A X.env X.xe) (hc : X.calm = true) (hi : PI X tg iter (tI T W (iFix ma))) (hg : PG X tg (tGt T W g)) (hb : PSs X body (tS T W b))
    (hs : ∀ x, foldedSetIterable iter X.env x = pure x := by intro _; rfl) : PS X (.For tg iter body [] pos) (tS T W (sForX ma g b)) := ps_mono (ps_for hp hc hi hg hb hs) fun D σ H h => by
  obtain ⟨ρ, s, lo, r, rl, p⟩ := h
  unfold sForX bndS at p
  cases e : ma lo s with
  | ok xs s' =>
    refine loop_le (n := xs.length + 1) ⟨ρ, s, lo, r, rl, ?_⟩
    have : sFor (xs.length + 1) (iFix ma) g b lo s = loopX g b xs lo s' := by
      unfold sFor bndS iFix bnd
      rw [e]
      simp only [ret]
      rw [loopX_eq g b xs (xs.length + 1) 0 lo s' (by omega), List.drop_zero]
    rw [this]
    rw [e] at p
    exact p
  | exc z s' =>
    refine loop_le (n := 1) ⟨ρ, s, lo, r, rl, ?_⟩
    have : sFor 1 (iFix ma) g b lo s = .exc z lo s' := by
      unfold sFor bndS iFix bnd
      rw [e]
    rw [this]
    rw [e] at p
    exact p
  | fail =>
    rw [e] at p
    exact p.elim
theorem pi_mono {tg iter : Expr} {t t' : TI} (h : PI X tg iter t) (k : ∀ σ H R, t' σ H R → t σ H R) : PI X tg iter t' := ⟨fun pins s σ H R I q => h.run pins s σ H R I (k σ H R q)⟩
/-- over a tuple -/
def aTup (e : EM) : AM := fun lo => bnd (e lo) fun x => match x with
  | .tup xs => ret xs
  | _ => failM
/-- over range(n), range(a, b) -/
def rng (lo : Int) (n : Nat) : List Vl := (List.range n).map fun i => Vl.int (lo + (i : Nat))
def aRng (a : AM) : AM := fun lo => bnd (a lo) fun xs => match xs with
  | [.int n] => if -(2 ^ 62) ≤ n ∧ n < 2 ^ 62 then ret (rng 0 n.toNat) else failM
  | _ => failM
def aRng2 (a : AM) : AM := fun lo => bnd (a lo) fun xs => match xs with
  | [.int i, .int j] => if -(2 ^ 62) ≤ i ∧ i < 2 ^ 62 ∧ -(2 ^ 62) ≤ j ∧ j < 2 ^ 62 then ret (rng i (j - i).toNat) else failM
  | _ => failM
/-- over a list, enumerate(list): the list's number -/
def iLst (e : EM) : IM := fun lo => bnd (e lo) fun x => match x with
  | .ref j => fun s => match s[j]? with
    | some (.lst _) => .ok (nxLst j) s
    | _ => .fail
  | _ => failM
def iEnm (a : AM) : IM := fun lo => bnd (a lo) fun xs => match xs with
  | [.ref j] => fun s => match s[j]? with
    | some (.lst _) => .ok (nxEnum j) s
    | _ => .fail
  | _ => failM
theorem bnd_bnd {α β γ : Type} (m : M α) (f : α → M β) (g : β → M γ) : bnd (bnd m f) g = bnd m fun x => bnd (f x) g := by
  funext s
  unfold bnd
  cases m s <;> rfl
theorem ci_tup {e : Expr} {me : EM} (he : PE X e (tE T W me)) (hK : X.K = T.K := by rfl) : PI X tg e (tI T W (iFix (aTup me))) := pi_mono (pi_tup he) fun σ H R h => by
  obtain ⟨ρ, s, lo, r, rl, p⟩ := h
  refine po_bnd (R := RV T) (m := me) (f := fun x => bnd (match x with | .tup xs => ret xs | _ => failM) fun xs => ret (nxFix xs)) (R' := fun ρ H nx J => ItOk T J nx ρ H) (Q := R) r rl ?_ fun ρ1 s1 x z H1 ext1 r1 rl1 hx p1 => ?_
  · unfold iFix aTup at p
    unfold bnd at p ⊢
    cases e : me lo s <;> rw [e] at p <;> exact p
  · cases hx with
    | tup h1 h2 =>
      rename_i a vs xs
      refine ⟨a, rfl, ⟨vs, by rw [hK]; exact h1⟩, p1 ρ1 H1 _ .refl r1 ?_⟩
      intro ρ2 H2 s2 i e2 r2
      have h1' := e2.tup _ _ h1
      have h2' := h2.mono e2
      rw [← hK] at h1'
      simp only [nxFix]
      cases e : xs[i]? with
      | none =>
        have : xs.length ≤ i := List.getElem?_eq_none_iff.mp e
        exact ⟨vs, h1', by rw [← h2'.length]; exact this⟩
      | some v =>
        obtain ⟨z, hz, rz⟩ := h2'.get e
        refine ⟨⟨vs, z, h1', hz⟩, fun x H3 y => ?_⟩
        obtain ⟨rfl, y⟩ := y
        have := y vs h1'
        rw [hz] at this
        cases this
        exact ⟨.refl, r2, rz⟩
    | _ => exact p1.elim
end
end Sm

/-! S7: what is walked; while; comprehensions -/
namespace Sm
open PySem L2
section
variable {X : Cx} {T : Tb} {W : WX} {tg : Expr} {pos p : Pos}
theorem ok_rng {lo : Int} {n : Nat} {ρ : List Addr} {H : Hp} : ItOk T (Itr lo n) (nxFix (rng lo n)) ρ H := by
  intro ρ1 H1 s i e r
  simp only [nxFix, rng]
  by_cases h : i < n
  · rw [List.getElem?_map, List.getElem?_range h]
    refine ⟨h, fun x H2 y => ?_⟩
    obtain ⟨rfl, rfl⟩ := y
    exact ⟨.refl, r, .int _⟩
  · rw [List.getElem?_eq_none (by simp; omega)]
    exact Nat.le_of_not_lt h
theorem ci_rng1 {a : Expr} {ma : AM} (hg : Gl X "range") (hm : X.mg "range" = none) (ha : PA X [a] (tA T W ma)) (hs : starEach [a] X.env = [(false, eval a X.env)] := by rfl) : PI X tg (.Call (.Name "range" p) [a] [] pos) (tI T W (iFix (aRng ma))) :=
  pi_mono (pi_range1 hg hm ha hs) fun σ H R h => by
    obtain ⟨ρ, s, lo, r, rl, q⟩ := h
    unfold iFix aRng at q
    rw [bnd_bnd] at q
    refine po_bnd (R := RVs T) (m := ma) r rl q fun ρ1 s1 xs zs H1 ext1 r1 rl1 hx p1 => ?_
    split at p1
    · rename_i n
      split at p1
      · rename_i hn
        obtain ⟨z, rfl, hz⟩ := hx.one
        exact ⟨n, by rw [hz.intE], hn.1, hn.2, p1 ρ1 H1 _ .refl r1 ok_rng⟩
      · exact p1.elim
    · exact p1.elim
theorem ci_lst {e : Expr} {me : EM} (he : PE X e (tE T W me)) (hK : X.K = T.K := by rfl) : PI X tg e (tI T W (iLst me)) := pi_mono (pi_list he) fun σ H R h => by
  obtain ⟨ρ, s, lo, r, rl, q⟩ := h
  refine po_bnd (R := RV T) (m := me) r rl q fun ρ1 s1 x z H1 ext1 r1 rl1 hx p1 => ?_
  cases hx with
  | ref ha =>
    rename_i j a
    simp only at p1
    split at p1
    · rename_i xs hj
      obtain ⟨vs, h1, h2⟩ := r1.lst hj ha
      refine ⟨a, rfl, ⟨vs, SqL.of h1⟩, p1 ρ1 H1 _ .refl r1 ?_⟩
      intro ρ2 H2 s2 i e2 r2
      have ha2 := e2.pre _ _ ha
      unfold nxLst
      cases e : s2[j]? with
      | none => trivial
      | some o =>
        cases o with
        | lst ys =>
          obtain ⟨us, g1, g2⟩ := r2.lst e ha2
          simp only
          cases e3 : ys[i]? with
          | none => exact ⟨us, SqL.of g1, by rw [← g2.length]; exact List.getElem?_eq_none_iff.mp e3⟩
          | some v =>
            obtain ⟨w, hw, rw'⟩ := g2.get e3
            refine ⟨⟨us, w, SqL.of g1, hw⟩, fun x H3 y => ?_⟩
            obtain ⟨rfl, y⟩ := y
            have := y us (SqL.of g1)
            rw [hw] at this
            cases this
            exact ⟨.refl, r2, rw'⟩
        | _ => trivial
    · exact p1.elim
  | _ => exact p1.elim
end
/-! ### while -/
def loopW (t : TM) (b : SM) : Nat → SM
  | 0, _, _ => .fail
  | n + 1, lo, s => match t lo s with
    | .fail => .fail
    | .exc e s' => .exc e lo s'
    | .ok false s' => .nx lo s'
    | .ok true s' => match b lo s' with
      | .nx lo2 s2 => loopW t b n lo2 s2
      | .ct lo2 s2 => loopW t b n lo2 s2
      | .bk lo2 s2 => .nx lo2 s2
      | .rt v2 s2 => .rt v2 s2
      | .exc e lo2 s2 => .exc e lo2 s2
      | .fail => .fail
section
variable {X : Cx} {T : Tb} {W : WX} {c : Expr} {body : List Stmt} {mt : TM} {b : SM} {pos : Pos}
theorem cs_while (n : Nat) (hp : PassesOwn (model X.prog X.w) X.A X.env X.xe) (hc : PT X c (tT T W mt)) (hb : PSs X body (tS T W b)) : PS X (.While c body [] pos) (tS T W (loopW mt b n)) :=
  ps_mono (ps_while hp hc hb) fun D σ H h => by
    obtain ⟨ρ, s, lo, r, rl, p⟩ := h
    refine ⟨fun k σ H => ∃ ρ s lo, Rel T ρ H s ∧ RL T ρ H lo σ ∧ PoS T W ρ H (loopW mt b k lo s) D, ⟨n, ρ, s, lo, r, rl, p⟩, ?_⟩
    rintro k σ1 H1 ⟨ρ, s, lo, r, rl, p⟩
    cases k with
    | zero => exact p.elim
    | succ k =>
      unfold loopW at p
      refine ⟨ρ, s, lo, r, rl, ?_⟩
      cases e : mt lo s with
      | fail => simp only [e] at p; exact p
      | exc z s' => simp only [e] at p; exact fun ρ' H' C x r' hC => p ρ' H' σ1 C x r' (rl.mono x) hC
      | ok c s' =>
        intro ρ2 H2 c' x2 r2 ec
        cases ec
        cases c with
        | false =>
          simp only [e] at p
          exact p ρ2 H2 σ1 x2 r2 (rl.mono x2)
        | true =>
          simp only [e] at p
          refine ⟨fun σ' H' => ∃ ρ s lo, Rel T ρ H' s ∧ RL T ρ H' lo σ' ∧ PoS T W ρ H' (loopW mt b k lo s) D, fun σ' H' h => ⟨k, Nat.lt_succ_self k, h⟩, ρ2, s', lo, r2, rl.mono x2, ?_⟩
          have p := p.mono x2
          cases e3 : b lo s' with
          | nx lo2 s2 => simp only [e3] at p; exact fun ρ4 H4 σ4 x4 r4 rl4 => ⟨ρ4, s2, lo2, r4, rl4, p.mono x4⟩
          | ct lo2 s2 => simp only [e3] at p; exact fun ρ4 H4 σ4 x4 r4 rl4 => ⟨ρ4, s2, lo2, r4, rl4, p.mono x4⟩
          | bk lo2 s2 => simp only [e3] at p; exact p
          | rt v2 s2 => simp only [e3] at p; exact p
          | exc z lo2 s2 => simp only [e3] at p; exact p
          | fail => simp only [e3] at p; exact p
end
/-! ### targets of several names -/
def gNs : List Nat → TGs
  | [] => gNil
  | j :: js => gCons (gName j) (gNs js)
section
variable {X : Cx} {T : Tb} {W : WX} {pos : Pos}
theorem gNs_ok {ρ : List Addr} {H : Hp} {Q : St → Hp → Prop} : ∀ {js : List Nat} {xs : List Vl} {vs : List V} {lo lo' : Lo} {σ : St}, RVs T ρ H xs vs → RL T ρ H lo σ → gNms js xs lo = some lo' → (∀ σ', RL T ρ H lo' σ' → Q σ' H) → gNs js vs σ H Q
  | [], [], _, _, _, _, .nil, rl, e, k => by
    cases e
    exact ⟨rfl, k _ rl⟩
  | [], _ :: _, _, _, _, _, _, _, e, _ => by cases e
  | _ :: _, [], _, _, _, _, _, _, e, _ => by cases e
  | j :: js, x :: xs, _, lo, lo', σ, .cons h hs, rl, e, k => ⟨_, _, rfl, gNs_ok hs (rl.set j h) (show gNms js xs (lo.set j (some x)) = some lo' from e) k⟩
theorem gNms_len : ∀ {js : List Nat} {xs : List Vl} {lo lo' : Lo}, gNms js xs lo = some lo' → xs.length = js.length
  | [], [], _, _, _ => rfl
  | [], _ :: _, _, _, e => by cases e
  | _ :: _, [], _, _, e => by cases e
  | j :: js, x :: xs, lo, lo', e => by
    rw [List.length_cons, List.length_cons, gNms_len (show gNms js xs (lo.set j (some x)) = some lo' from e)]
theorem cg_tup {es : List Expr} {k : Nat} {js : List Nat} (h : PG X (.Tuple es k pos) (gTup X.K js.length (gNs js))) (hK : X.K = T.K := by rfl) : PG X (.Tuple es k pos) (tGt T W (gTp js)) := pg_mono h fun z σ H Q h => by
  obtain ⟨ρ, s, lo, v, r, rl, hv, p⟩ := h
  unfold gTp at p
  split at p
  · rename_i xs
    split at p
    · rename_i lo' e
      obtain ⟨a, vs, rfl, h1, h2⟩ := hv.tupE
      exact ⟨a, vs, rfl, by rw [hK]; exact h1, by rw [← h2.length]; exact gNms_len e, gNs_ok h2 rl e fun σ' rl' => p ρ H σ' .refl r rl'⟩
    · exact p.elim
  · exact p.elim
end
/-! ### comprehensions -/
def wipeL (lo : Lo) : List Nat → Lo
  | [] => lo
  | v :: vs => (wipeL lo vs).set v none
abbrev GL := Vl → Lo → Option Lo
def glN (j : Nat) : GL := fun v lo => some (lo.set j (some v))
def glT (js : List Nat) : GL := fun v lo => match v with
  | .tup xs => gNms js xs lo
  | _ => none
def tTrue : TM := fun _ => ret true
/-- one turn: kept or not -/
def lcStep (t : TM) (e : EM) (d : Nat) (lo : Lo) (s : Sto) : Option Sto := match t lo s with
  | .ok false s1 => some s1
  | .ok true s1 => match e lo s1 with
    | .ok y s2 => match s2[d]? with
      | some (.lst acc) => if acc.length < LIM then some (s2.set d (.lst (acc ++ [y]))) else none
      | _ => none
    | _ => none
  | _ => none
def lcN (nx : NX) (g : GL) (t : TM) (e : EM) (d : Nat) (lo : Lo) : Nat → Nat → Sto → Option Sto
  | 0, _, _ => none
  | n + 1, i, s => match nx i s with
    | none => none
    | some none => some s
    | some (some v) => match g v lo with
      | none => none
      | some lo' => match lcStep t e d lo' s with
        | none => none
        | some s' => lcN nx g t e d lo n (i + 1) s'
def lcX (g : GL) (t : TM) (e : EM) (d : Nat) (lo : Lo) : List Vl → Sto → Option Sto
  | [], s => some s
  | v :: vs, s => match g v lo with
    | none => none
    | some lo' => match lcStep t e d lo' s with
      | none => none
      | some s' => lcX g t e d lo vs s'
def eLc (n : Nat) (m : IM) (g : GL) (t : TM) (e : EM) (vs : List Nat) : EM := fun lo => bnd (m lo) fun nx s => match lcN nx g t e s.length (wipeL lo vs) n 0 (s ++ [.lst []]) with
  | some s' => .ok (.ref s.length) s'
  | none => .fail
def eLcX (m : AM) (g : GL) (t : TM) (e : EM) (vs : List Nat) : EM := fun lo => bnd (m lo) fun xs s => match lcX g t e s.length (wipeL lo vs) xs (s ++ [.lst []]) with
  | some s' => .ok (.ref s.length) s'
  | none => .fail
theorem lcX_eq (g : GL) (t : TM) (e : EM) (d : Nat) (lo : Lo) (all : List Vl) : ∀ (n i : Nat) (s : Sto), all.length - i < n → lcN (nxFix all) g t e d lo n i s = lcX g t e d lo (all.drop i) s := by
  intro n
  induction n with
  | zero => intro i s h; omega
  | succ n ih =>
    intro i s h
    unfold lcN
    simp only [nxFix]
    cases h1 : all[i]? with
    | none =>
      have : all.length ≤ i := List.getElem?_eq_none_iff.mp h1
      rw [List.drop_eq_nil_of_le this]
      rfl
    | some v =>
      obtain ⟨hi, hv⟩ := List.getElem?_eq_some_iff.mp h1
      rw [List.drop_eq_getElem_cons hi, hv]
      simp only [lcX]
      cases g v lo with
      | none => rfl
      | some lo' =>
        simp only
        cases lcStep t e d lo' s with
        | none => rfl
        | some s' => exact ih (i + 1) s' (by omega)
theorem wipe_get (σ : St) (i : Nat) : ∀ vs : List Nat, (wipe σ vs)[i]? = if i ∈ vs ∧ i < σ.length then some none else σ[i]?
  | [] => by simp [wipe]
  | v :: vs => by
    unfold wipe
    rw [List.getElem?_set, wipe_get σ i vs, wipe_length]
    by_cases h : v = i
    · subst h
      by_cases h2 : v < σ.length
      · rw [if_pos rfl, if_pos h2, if_pos ⟨List.mem_cons_self .., h2⟩]
      · rw [if_pos rfl, if_neg h2, if_neg (fun z => h2 z.2)]
        rw [List.getElem?_eq_none (by omega)]
    · rw [if_neg h]
      by_cases h3 : i ∈ vs ∧ i < σ.length
      · rw [if_pos h3, if_pos ⟨List.mem_cons_of_mem _ h3.1, h3.2⟩]
      · rw [if_neg h3, if_neg]
        rintro ⟨a, b⟩
        rcases List.mem_cons.mp a with q | q
        · exact h q.symm
        · exact h3 ⟨q, b⟩
theorem wipe_set {σ : St} {vs : List Nat} {j : Nat} {x : Option V} (hj : j ∈ vs) : wipe (σ.set j x) vs = wipe σ vs := by
  apply List.ext_getElem?
  intro i
  rw [wipe_get, wipe_get, List.length_set]
  by_cases h : i ∈ vs ∧ i < σ.length
  · rw [if_pos h, if_pos h]
  · rw [if_neg h, if_neg h]
    by_cases e : j = i
    · subst e
      have : ¬ j < σ.length := fun z => h ⟨hj, z⟩
      rw [List.getElem?_eq_none (by rw [List.length_set]; omega), List.getElem?_eq_none (by omega)]
    · rw [List.getElem?_set_ne e]
theorem wipe_wipe (σ : St) (vs : List Nat) : wipe (wipe σ vs) vs = wipe σ vs := by
  apply List.ext_getElem?
  intro i
  rw [wipe_get, wipe_get, wipe_length]
  split <;> rfl
section
variable {X : Cx} {T : Tb} {W : WX} {pos : Pos}
abbrev WF : WX := fun _ _ _ _ => False
theorem RL.wipe {ρ : List Addr} {H : Hp} {lo : Lo} {σ : St} (hx : T.xs = []) (rl : RL T ρ H lo σ) : ∀ vs : List Nat, RL T ρ H (wipeL lo vs) (wipe σ vs)
  | [] => rl
  | v :: vs => by
    have ih := RL.wipe hx rl vs
    unfold wipeL L2.wipe
    refine ⟨by rw [List.length_set, List.length_set]; exact ih.len, fun i x h => ?_, fun p hp => by rw [hx] at hp; simp at hp⟩
    by_cases e : v = i
    · subst e
      by_cases hv : v < (wipeL lo vs).length
      · rw [List.getElem?_set_self hv] at h; cases h
      · rw [List.getElem?_eq_none (by rw [List.length_set]; omega)] at h; cases h
    · rw [List.getElem?_set_ne e] at h ⊢
      exact ih.at_ i x h
/-- how a comprehension's target stores: the reading gt and the pure gl agree, and stay within the own slots -/
def TgOk (T : Tb) (gt : TG) (gl : GL) (vs : List Nat) : Prop := ∀ (ρ : List Addr) (H : Hp) (lo lo' : Lo) (σ : St) (v : Vl) (z : V) (Q : St → Hp → Prop), RL T ρ H lo (wipe σ vs) → RV T ρ H v z → gl v lo = some lo' →
  (∀ σ', RL T ρ H lo' σ' → L2.wipe σ' vs = L2.wipe σ vs → Q σ' H) → gt z (L2.wipe σ vs) H Q
theorem tg_name {j : Nat} {vs : List Nat} (hj : j ∈ vs) : TgOk T (gName j) (glN j) vs := fun ρ H lo lo' σ v z Q rl hv e k => by
  cases e
  exact k _ (rl.set j hv) (by rw [wipe_set hj, wipe_wipe])
theorem gNs_w {ρ : List Addr} {H : Hp} {Q : St → Hp → Prop} {ws : List Nat} {σ0 : St} : ∀ {js : List Nat} {xs : List Vl} {vs : List V} {lo lo' : Lo} {σ : St}, (∀ j ∈ js, j ∈ ws) → RVs T ρ H xs vs → RL T ρ H lo σ → L2.wipe σ ws = σ0 → gNms js xs lo = some lo' → (∀ σ', RL T ρ H lo' σ' → L2.wipe σ' ws = σ0 → Q σ' H) → gNs js vs σ H Q
  | [], [], _, _, _, _, _, .nil, rl, hw, e, k => by
    cases e
    exact ⟨rfl, k _ rl hw⟩
  | [], _ :: _, _, _, _, _, _, _, _, _, e, _ => by cases e
  | _ :: _, [], _, _, _, _, _, _, _, _, e, _ => by cases e
  | j :: js, x :: xs, _, lo, lo', σ, hj, .cons h hs, rl, hw, e, k => ⟨_, _, rfl, gNs_w (fun i hi => hj i (List.mem_cons_of_mem _ hi)) hs (rl.set j h) (by rw [wipe_set (hj j (List.mem_cons_self ..))]; exact hw) (show gNms js xs (lo.set j (some x)) = some lo' from e) k⟩
theorem tg_tup {js vs : List Nat} {K : PySem.W.Frag} (hj : ∀ j ∈ js, j ∈ vs) (hK : K = T.K) : TgOk T (gTup K js.length (gNs js)) (glT js) vs := fun ρ H lo lo' σ v z Q rl hv e k => by
  unfold glT at e
  split at e
  · rename_i xs
    obtain ⟨a, us, rfl, h1, h2⟩ := hv.tupE
    exact ⟨a, us, rfl, by rw [hK]; exact h1, by rw [← h2.length]; exact gNms_len e, gNs_w hj h2 rl (wipe_wipe σ vs) e k⟩
  · cases e
theorem lc_le {n : Nat} {m : IM} {gl : GL} {gt : TG} {mt : TM} {me : EM} {vs : List Nat} {σ : St} {H : Hp} {Q : VK} (hx : T.xs = []) (hg : TgOk T gt gl vs) (h : tE T W (eLc n m gl mt me vs) σ H Q) : tLc (tI T W m) gt (tT T WF mt) (tE T WF me) vs σ H Q :=
  tG_bnd (R := fun ρ H nx J => ItOk T J nx ρ H) h fun ρ0 s0 lo0 nx J H0 r0 rl0 ok0 p0 => by
    intro D hD
    have xD : Ext T ρ0 H0 (ρ0 ++ [D]) (upd H0 D (.lst [])) := r0.newExt hD
    have rD : Rel T (ρ0 ++ [D]) (upd H0 D (.lst [])) (s0 ++ [.lst []]) := r0.new hD ⟨[], upd_same, .nil⟩
    have aD : (ρ0 ++ [D])[s0.length]? = some D := by rw [← r0.len, List.getElem?_append_right (Nat.le_refl _)]; simp
    cases e0 : lcN nx gl mt me s0.length (wipeL lo0 vs) n 0 (s0 ++ [.lst []]) with
    | none => rw [e0] at p0; exact p0.elim
    | some s9 =>
      rw [e0] at p0
      refine ⟨fun i k H => ∃ ρ s, Ext T (ρ0 ++ [D]) (upd H0 D (.lst [])) ρ H ∧ Rel T ρ H s ∧ lcN nx gl mt me s0.length (wipeL lo0 vs) k i s = some s9, ⟨n, _, _, .refl, rD, e0⟩, ?_⟩
      rintro i k H1 ⟨ρ, s, x, r, e⟩
      have hd := x.pre _ _ aD
      cases k with
      | zero => cases e
      | succ k =>
        unfold lcN at e
        have q := ok0 ρ H1 s i (xD.trans x) r
        cases e1 : nx i s with
        | none => simp only [e1] at e; cases e
        | some o =>
          simp only [e1] at e q
          cases o with
          | none =>
            cases e
            exact .inl ⟨q, p0 ρ H1 (.ref D) (xD.trans x) r (.ref hd)⟩
          | some v =>
            obtain ⟨go, yl⟩ := q
            cases e2 : gl v (wipeL lo0 vs) with
            | none => simp only [e2] at e; cases e
            | some lo' =>
              simp only [e2] at e
              cases e3 : lcStep mt me s0.length lo' s with
              | none => simp only [e3] at e; cases e
              | some s' =>
                simp only [e3] at e
                refine .inr ⟨go, fun H => ∃ ρ, Ext T (ρ0 ++ [D]) (upd H0 D (.lst [])) ρ H ∧ Rel T ρ H s', fun H' ⟨ρ', x', r'⟩ => ⟨k, Nat.lt_succ_self k, ρ', s', x', r', e⟩, fun z H2 y => ?_⟩
                obtain ⟨x1, r2, hv⟩ := yl z H2 y
                have x2 := x.trans x1
                refine hg ρ H2 (wipeL lo0 vs) lo' σ v z _ (RL.wipe hx (rl0.mono (xD.trans x2)) vs) hv e2 fun σ' rl' hw => ⟨hw, ?_⟩
                unfold lcStep at e3
                refine ⟨ρ, s, lo', r2, rl', ?_⟩
                cases e4 : mt lo' s with
                | fail => simp only [e4] at e3; cases e3
                | exc z s1 => simp only [e4] at e3; cases e3
                | ok c s1 =>
                  intro ρ3 H3 c' x3 r3 ec
                  cases ec
                  cases c with
                  | false =>
                    simp only [e4] at e3
                    cases e3
                    exact ⟨ρ3, x2.trans x3, r3⟩
                  | true =>
                    simp only [e4] at e3
                    refine ⟨ρ3, s1, lo', r3, rl'.mono x3, ?_⟩
                    cases e5 : me lo' s1 with
                    | fail => simp only [e5] at e3; cases e3
                    | exc z s2 => simp only [e5] at e3; cases e3
                    | ok w s2 =>
                      simp only [e5] at e3
                      intro ρ4 H4 zw x4 r4 hw4
                      split at e3
                      · rename_i acc hacc
                        split at e3
                        · rename_i hl
                          cases e3
                          have hd4 := (x1.trans (x3.trans x4)).pre _ _ hd
                          obtain ⟨us, g1, g2⟩ := r4.lst hacc hd4
                          refine ⟨us, g1, by rw [← g2.length, lim_eq]; exact hl, ρ4, (x2.trans (x3.trans x4)).trans (r4.setExt hd4 g1), r4.set hd4 ⟨_, upd_same, (g2.append (.cons hw4 .nil)).mono (r4.setExt hd4 g1)⟩⟩
                        · cases e3
                      · cases e3
/-- the tests of a comprehension -/
theorem cts_nil : PTs X [] (tT T WF tTrue) := ⟨fun pins s σ H Q I h => pts_nil.run pins s σ H Q I (by
  obtain ⟨ρ, st, lo, r, rl, p⟩ := h
  exact p ρ H true .refl r rfl)⟩
theorem cts_one {c : Expr} {mt : TM} (h : PT X c (tT T WF mt)) : PTs X [c] (tT T WF mt) := pts_one h
theorem lcx_le {ma : AM} {gl : GL} {gt : TG} {mt : TM} {me : EM} {vs : List Nat} {σ : St} {H : Hp} {Q : VK} (hx : T.xs = []) (hg : TgOk T gt gl vs) (h : tE T W (eLcX ma gl mt me vs) σ H Q) : tLc (tI T W (iFix ma)) gt (tT T WF mt) (tE T WF me) vs σ H Q := by
  obtain ⟨ρ, s, lo, r, rl, p⟩ := h
  unfold eLcX bnd at p
  cases e : ma lo s with
  | ok xs s' =>
    refine lc_le (n := xs.length + 1) hx hg ⟨ρ, s, lo, r, rl, ?_⟩
    have : eLc (xs.length + 1) (iFix ma) gl mt me vs lo s = (match lcX gl mt me s'.length (wipeL lo vs) xs (s' ++ [.lst []]) with | some s2 => .ok (.ref s'.length) s2 | none => .fail) := by
      unfold eLc iFix bnd
      simp only [e, ret]
      rw [lcX_eq gl mt me s'.length (wipeL lo vs) xs (xs.length + 1) 0 _ (by omega), List.drop_zero]
    rw [this]
    simp only [e] at p
    exact p
  | exc z s' =>
    refine lc_le (n := 1) hx hg ⟨ρ, s, lo, r, rl, ?_⟩
    have : eLc 1 (iFix ma) gl mt me vs lo s = .exc z s' := by
      unfold eLc iFix bnd
      simp only [e]
    rw [this]
    simp only [e] at p
    exact p
  | fail => simp only [e] at p; exact p.elim
end
end Sm

/-! S8: comprehensions as expressions; defs and their calls; attributes -/
namespace Sm
open PySem PySem.Spec PyProof.Rows L2
section
variable {X : Cx} {T : Tb} {W : WX} {elt tg iter : Expr} {ifs : List Expr} {scope : Scope} {own : List (Str × Nat)} {pos spos py : Pos} {m : IM} {ma : AM} {gt : TG} {gl : GL} {mt : TM} {me : EM}
theorem ce_lc (n : Nat) (hc : X.calm = true) (hN : X.N.Nodup) (hi : PI X tg iter (tI T W m)) (ok : BlkOk X.N X.env.scope scope own) (ho : TgOk T gt gl (own.map (·.2)))
    (hg : ∀ s H C cl fp, PG (X.blk s H scope (compEnvC scope cl C X.env) fp) tg gt) (ht : ∀ s H C cl fp, PTs (X.blk s H scope (compEnvC scope cl C X.env) fp) ifs (tT T WF mt))
    (he : ∀ s H C cl fp, PE (X.blk s H scope (compEnvC scope cl C X.env) fp) elt (tE T WF me)) (hs : ∀ x, foldedSetIterable iter X.env x = pure x := by intro _; rfl) (hx : T.xs = [] := by rfl) :
    PE X (.ListComp elt [⟨tg, iter, ifs, 0⟩] scope pos) (tE T W (eLc n m gl mt me (own.map (·.2)))) := pe_mono (pe_lc hc hN hi ok hg ht he hs) fun _ _ _ h => lc_le hx ho h
theorem ce_lcX (hc : X.calm = true) (hN : X.N.Nodup) (hi : PI X tg iter (tI T W (iFix ma))) (ok : BlkOk X.N X.env.scope scope own) (ho : TgOk T gt gl (own.map (·.2)))
    (hg : ∀ s H C cl fp, PG (X.blk s H scope (compEnvC scope cl C X.env) fp) tg gt) (ht : ∀ s H C cl fp, PTs (X.blk s H scope (compEnvC scope cl C X.env) fp) ifs (tT T WF mt))
    (he : ∀ s H C cl fp, PE (X.blk s H scope (compEnvC scope cl C X.env) fp) elt (tE T WF me)) (hs : ∀ x, foldedSetIterable iter X.env x = pure x := by intro _; rfl) (hx : T.xs = [] := by rfl) :
    PE X (.ListComp elt [⟨tg, iter, ifs, 0⟩] scope pos) (tE T W (eLcX ma gl mt me (own.map (·.2)))) := pe_mono (pe_lc hc hN hi ok hg ht he hs) fun _ _ _ h => lcx_le hx ho h
theorem cs_setLcX {i : Nat} {y : Str} (hc : X.calm = true) (hN : X.N.Nodup) (hy : X.N[i]? = some y) (hyl : X.env.scope.names.lookup y = some .local)
    (hsw : swapsWith (.ListComp elt [⟨tg, iter, ifs, 0⟩] scope pos) (some (.Name y py)) spos.line X.env = pure true) (hi : PI X tg iter (tI T W (iFix ma))) (ok : BlkOk X.N X.env.scope scope own) (ho : TgOk T gt gl (own.map (·.2)))
    (hg : ∀ s H C cl fp, PG (X.blk s H scope (compEnvC scope cl C X.env) fp) tg gt) (ht : ∀ s H C cl fp, PTs (X.blk s H scope (compEnvC scope cl C X.env) fp) ifs (tT T WF mt))
    (he : ∀ s H C cl fp, PE (X.blk s H scope (compEnvC scope cl C X.env) fp) elt (tE T WF me)) (hs : ∀ x, foldedSetIterable iter X.env x = pure x := by intro _; rfl) (hx : T.xs = [] := by rfl) :
    PS X (.Assign [.Name y py] (.ListComp elt [⟨tg, iter, ifs, 0⟩] scope pos) spos) (tS T W (sSet i (eLcX ma gl mt me (own.map (·.2))))) := ps_mono (ps_setLc hc hN hy hyl hsw hi ok hg ht he hs) fun _ _ _ h => lcx_le hx ho (tasg_le h)
end

/-! ### defs -/
/-- a def's promise where no repr runs around -/
structure FnG (P : Program) (w : World) (K : PySem.W.Frag) (mg : Str → Option Value) (base : Heap) (k : Nat) (f : Addr) (fd : FuncData) (ps : List Str) (sp : Sp) : Prop where
  len : ∀ vs H Q E, sp vs H Q E → vs.length = ps.length
  run : ∀ (A : Around) (outer : List Env) (s : Shared) (H : Hp) (args : Args) (us : List Value) (vs : List V) (Q : VK) (E : XK), Room k A → A.guards = some [] → Env0 P w K mg base A outer s H → BindsTo s fd args (ps.zip us) → Vals vs us → sp vs H Q E →
    codeAny (model P w) A (.call (.ref f) args) (CR (L2N.CX P w) outer P w H s Q E) s
theorem FnG.mono {P : Program} {w : World} {K : PySem.W.Frag} {mg : Str → Option Value} {base : Heap} {j k : Nat} {f : Addr} {fd : FuncData} {ps : List Str} {sp : Sp} (F : FnG P w K mg base j f fd ps sp) (h : j ≤ k) : FnG P w K mg base k f fd ps sp :=
  ⟨F.len, fun A outer s H args us vs Q E hr => F.run A outer s H args us vs Q E (hr.mono h)⟩
/-- a def by its body -/
theorem fnG_of {P : Program} {w : World} {K : PySem.W.Frag} {mg : Str → Option Value} {base : Heap} {k : Nat} {x qual : Str} {st : Stmt} {f : Addr} {fd : FuncData} {N ps : List Str} {sp : Sp} (F : Fun K x qual st f fd) (S : FnScope N ps (defScope st)) (len : ∀ vs H Q E, sp vs H Q E → vs.length = ps.length)
    (hbody : ∀ (cdv : Value) (A : Around) (outer : List Env) (s : Shared) (H : Hp) (vs : List V) (Q : VK) (E : XK), Room k (A.deeper (envOfC qual (defScope st) s.heap.objs.size f cdv)) → A.guards = some [] → sp vs H Q E →
      ∃ t, PSs (cxOf (L2N.CX P w) P w K mg base N qual (defScope st) f cdv A outer s H E) (defBody st) t ∧ t { nx := fun _ H' => Q .non H', rt := Q } (L2.start N vs) H) : FnG P w K mg base (k + 1) f fd ps sp := by
  obtain ⟨oc, od, kV, doc, pm, an, cdv, ct, osl, rfl, lk, hcd⟩ := F.ex
  refine ⟨len, fun A outer s H args us vs Q E hr hg e0 hb r hsp => ?_⟩
  have inK : K.In s.heap := e0.mod.kin.keeps fun b o e => (e0.bs b o e).1
  have nl : s.heap.NoLimit := e0.mod.nolimit.keeps fun b o e => (e0.bs b o e).1
  have kinds : ∀ y ∈ ps.zip us, (defScope st).names.lookup y.1 = some .local ∨ ((defScope st).names.lookup y.1 = some .cell ∧ ((cellsFrom (s.heap.objs.size + 1) (defScope st).names []).lookup y.1).isSome = true) := by
    rintro ⟨n, v⟩ hy
    exact (S.par n (List.of_mem_zip hy).1).imp id fun q => ⟨q, PySem.W.cellsFrom_some _ _ _ (.inl q)⟩
  refine codeAny_call_function hr.depth (inK _ _ lk) rfl S.co S.gen rfl (PySem.W.codeRec_of inK hcd) (hb _ _ _ _ (wpAny_newFunctionEnv_cells S.kind kinds fun env he s1 y => ?_))
  subst he
  refine ⟨nl.keeps y.toInCall.keep, codeAny_func ?_⟩
  obtain ⟨t, ht, hq⟩ := hbody cdv A outer s H vs Q E (hr.deeper _) hg hsp
  refine wpAny_mono (ht.run [] s1 (L2.start N vs) H _ (inv_start S hr.hd e0 (len _ _ _ _ hsp) r y) hq) (fun fl s' hs => ?_) fun e s' hs => hs
  cases fl with
  | ret u => obtain ⟨v, σ', H', J, rv, q⟩ := hs; exact ⟨v, H', J.os, J.bare, J.base, J.hok, rv, q⟩
  | next => obtain ⟨σ', H', J, q⟩ := hs; exact ⟨V.non, H', J.os, J.bare, J.base, J.hok, rfl, q⟩
  | brk => obtain ⟨_, _, _, q⟩ := hs; exact q.elim
  | cont => obtain ⟨_, _, _, q⟩ := hs; exact q.elim
/-- the promise of a pure function -/
def SpM (T : Tb) (n : Nat) (m : List Vl → M Vl) : Sp := fun vs H Q E => ∃ (ρ : List Addr) (s : Sto) (as : List Vl), Rel T ρ H s ∧ RVs T ρ H as vs ∧ as.length = n ∧ Po (RV T) T E ρ H (m as s) Q
/-- a body as a function; n: how many names -/
def fnM (n : Nat) (b : SM) : List Vl → M Vl := fun as s => match b (as.map some ++ List.replicate (n - as.length) none) s with
  | .nx _ s' => .ok .non s'
  | .rt v s' => .ok v s'
  | .exc e _ s' => .exc e s'
  | _ => .fail
theorem rl_start {T : Tb} {ρ : List Addr} {H : Hp} {as : List Vl} {vs : List V} {N : List Str} (hx : T.xs = []) (h : RVs T ρ H as vs) : RL T ρ H (as.map some ++ List.replicate (N.length - as.length) none) (L2.start N vs) := by
  refine ⟨?_, fun i x e => ?_, fun p hp => by rw [hx] at hp; simp at hp⟩
  · unfold L2.start
    simp only [List.length_append, List.length_map, List.length_replicate, h.length]
  · by_cases hi : i < as.length
    · rw [List.getElem?_append_left (by simpa using hi), List.getElem?_map] at e
      cases q : as[i]? with
      | none => rw [q] at e; cases e
      | some y =>
        rw [q] at e
        cases e
        obtain ⟨z, h1, h2⟩ := h.get q
        refine ⟨z, ?_, h2⟩
        unfold L2.start
        rw [List.getElem?_append_left (by rw [List.length_map, ← h.length]; exact hi), List.getElem?_map, h1]; rfl
    · rw [List.getElem?_append_right (by simpa using hi), List.getElem?_replicate] at e
      split at e <;> cases e
theorem fn_body {T : Tb} {N : List Str} {n : Nat} {b : SM} {vs : List V} {H : Hp} {Q : VK} {E : XK} (hx : T.xs = []) (h : SpM T n (fnM N.length b) vs H Q E) : tS T (fun c d _ H' => E c d H') b { nx := fun _ H' => Q .non H', rt := Q } (L2.start N vs) H := by
  obtain ⟨ρ, s, as, r, hv, hl, p⟩ := h
  refine ⟨ρ, s, _, r, rl_start hx hv, ?_⟩
  unfold fnM at p
  cases e : b (as.map some ++ List.replicate (N.length - as.length) none) s with
  | nx lo s' => rw [e] at p; exact fun ρ' H' σ' x r' _ => p ρ' H' .non x r' .non
  | rt v s' => rw [e] at p; exact p
  | exc z lo s' => rw [e] at p; exact fun ρ' H' σ' C x r' _ hC => p ρ' H' C x r' hC
  | bk lo s' => rw [e] at p; exact p.elim
  | ct lo s' => rw [e] at p; exact p.elim
  | fail => rw [e] at p; exact p.elim
/-- a def of the text computes the pure function of its body -/
theorem fn_sim {P : Program} {w : World} {K : PySem.W.Frag} {mg : Str → Option Value} {base : Heap} {k n : Nat} {x qual : Str} {st : Stmt} {f : Addr} {fd : FuncData} {N ps : List Str} {T : Tb} {b : SM} (F : Fun K x qual st f fd) (S : FnScope N ps (defScope st)) (hn : n = ps.length)
    (body : ∀ (cdv : Value) (A : Around) (outer : List Env) (s : Shared) (H : Hp) (E : XK), Room k (A.deeper (envOfC qual (defScope st) s.heap.objs.size f cdv)) → A.guards = some [] →
      PSs (cxOf (L2N.CX P w) P w K mg base N qual (defScope st) f cdv A outer s H E) (defBody st) (tS T (fun c d _ H' => E c d H') b)) (hx : T.xs = [] := by rfl) : FnG P w K mg base (k + 1) f fd ps (SpM T n (fnM N.length b)) :=
  fnG_of F S (fun vs H Q E ⟨ρ, s, as, r, hv, hl, p⟩ => by rw [← hv.length, hl, hn]) fun cdv A outer s H vs Q E hr hg h => ⟨_, body cdv A outer s H E hr hg, fn_body hx h⟩

/-! ### calls of defs -/
section
variable {X : Cx} {T : Tb} {W : WX} {k n : Nat} {f : Addr} {fd : FuncData} {ps : List Str} {mf : List Vl → M Vl} {x : Str} {p pos apos : Pos} {e o : Expr} {es : List Expr} {ma : AM} {mo : EM} {ds : List Value} {dvs : List V} {das : List Vl}
def eCall (mf : List Vl → M Vl) (a : AM) : EM := fun lo => bnd (a lo) mf
/-- with defaults das behind the arguments -/
def eCallD (mf : List Vl → M Vl) (das : List Vl) (a : AM) : EM := fun lo => bnd (a lo) fun as => mf (as ++ das)
theorem run_G {sp : Sp} {pins : List (Addr × Obj)} {σ : L2.St} {H : Hp} {s : Shared} {Q : VK} {us : List Value} {vs : List V} (F : FnG X.prog X.w X.K X.mg X.base k f fd ps sp) (hr : Room k X.A) (hg : X.A.guards = some []) (hb : Binds X.K fd ps ds) (hd : Vals dvs ds) (tk : L2N.Takes X W)
    (I : Inv X pins σ H s) (r : Vals vs us) (h : sp (vs ++ dvs) H Q fun c d H' => W c d σ H') : wpAny (model X.prog X.w) X.A (call (.ref f) us) (EP X pins σ Q) X.xe s := by
  have r2 : Vals (vs ++ dvs) (us ++ ds) := r.append hd
  refine wpAny_call (codeAny_mono (F.run X.A X.stack s H ⟨us, []⟩ (us ++ ds) (vs ++ dvs) Q _ hr hg I.env0 (hb s us I.kIn (by rw [← r2.length]; exact F.len _ _ _ _ h)) r2 h) fun z s' hq => ?_)
  cases z with
  | error y => exact tk y s' (L2N.XE.of_call I (fun _ _ _ q => q) hq)
  | ok fl =>
    cases fl with
    | ret u => exact I.after hq
    | next => exact hq.elim
    | brk => exact hq.elim
    | cont => exact hq.elim
theorem spM_of {ρ : List Addr} {s : Sto} {as : List Vl} {vs : List V} {H : Hp} {Q : VK} {E : XK} (r : Rel T ρ H s) (hv : RVs T ρ H as vs) (hl : as.length = n) (p : Po (RV T) T E ρ H (mf as s) Q) : SpM T n mf vs H Q E := ⟨ρ, s, as, r, hv, hl, p⟩
/-- the number of arguments is checked in the pure function -/
def arg (n : Nat) (mf : List Vl → M Vl) : List Vl → M Vl := fun as s => if as.length = n then mf as s else .fail
theorem ce_call (F : FnG X.prog X.w X.K X.mg X.base k f fd ps (SpM T n mf)) (hr : Room k X.A) (hgd : X.A.guards = some []) (hg : Gl X x) (hm : X.mg x = some (.ref f)) (hk : PySem.W.keepIn X.K (.ref f) = true) (hb : Binds X.K fd ps []) (tk : L2N.Takes X W) (ha : PA X (e :: es) (tA T W ma))
    (hdb : (x == ("__debug__" : Str)) = false := by decide) (he : starEach (e :: es) X.env = (false, eval e X.env) :: starEach es X.env := by rfl) (hpl : (backTo pos (starEach es X.env)).any (·.1) = false := by rfl) :
    PE X (.Call (.Name x p) (e :: es) [] pos) (tE T W (eCall (arg n mf) ma)) := by
  refine ⟨fun pins s σ H Q I h => wpAny_Call_Name_kw (ld_glob I hg hm ?_ hdb)⟩
  have h : tA T W ma σ H fun vs H1 => SpM T n mf (vs ++ []) H1 Q fun c d H' => W c d σ H' := tG_bnd (R := RVs T) h fun ρ s lo xs zs H1 r rl hx q => by
    unfold arg at q
    split at q
    · rename_i hl
      rw [List.append_nil]
      exact spM_of r hx hl q
    · exact q.elim
  refine PySem.W.callWith_K (h₀ := X.base) I.ok.mod.kin hk (thn (ha.run pos pins s σ H _ I h) fun us s1 ⟨vs, H1, I1, r, q⟩ => ⟨I1.kIn, ?_⟩) he hpl
  exact run_G F hr hgd hb .nil tk I1 r q
end
end Sm

/-! S9: the end of a law: from the pure function of the law to the row -/
namespace Sm
open PySem PySem.Spec PyProof.Rows L2
/-- nothing is tracked but the script -/
def H0 (K : PySem.W.Frag) (a : Addr) (ob : Obj) (ns : List Int) : Hp := fun b => if b = a ∧ (K.lookup a).isNone = true then some (.frz ob (.lst (ns.map V.int))) else none
theorem H0_some {K : PySem.W.Frag} {a b : Addr} {ob : Obj} {ns : List Int} {u : HO} (h : H0 K a ob ns b = some u) : b = a ∧ K.lookup a = none ∧ u = .frz ob (.lst (ns.map V.int)) := by
  unfold H0 at h
  split at h
  · rename_i q
    cases h
    refine ⟨q.1, ?_, rfl⟩
    cases e : K.lookup a with
    | none => rfl
    | some o => rw [e] at q; exact absurd q.2 (by simp)
  · cases h
theorem law_G {P : Program} {w : World} {T : Tb} {mg mb : Str → Option Value} {k : Nat} {fa a : Addr} {fd : FuncData} {x : Str} {m : List Vl → M Vl} {s₁ : Shared} {vs : List Value} {ns : List Int} {st : Sto}
    (KX : T.K.In s₁.heap) (hns : s₁.heap.Ns mainGlobals mg) (hb : s₁.heap.Ns builtinsNs mb) (hbb : ∀ x : Str, x ≠ "__name__" → mb x = bootBuiltins x) (hlim : s₁.heap.NoLimit) (hg : s₁.gens = #[])
    (ha : s₁.heap.get? a = some { cls := .type "list", data := .seq vs.toArray }) (hi : IntsAre vs ns) (hl : ns.length ≤ sizeLine) (hr : Room k callerA)
    (F : ∀ base : Heap, T.K.In base → base.Ns mainGlobals mg → FnG P w T.K mg base k fa fd [x] (SpM T 1 m)) (hbind : ∀ (s : Shared) (u : Value), BindsTo s fd ⟨[u], []⟩ [(x, u)])
    (hm : m [.scr ns] [] = .ok (.bl true) st) :
    codeAny (model P w) callerA (.call (.ref fa) ⟨[.ref a], []⟩) (fun r s' => r = .ok (.ret (.bool true)) ∧ OldK s₁.heap s'.heap ∧ s'.os = s₁.os ∧ AllBare s'.gens) s₁ := by
  have rv := vals_ints hi
  let ob : Obj := { cls := .type "list", data := .seq vs.toArray }
  let H := H0 T.K a ob ns
  have out : ∀ {b : Addr} {o : Obj}, s₁.heap.get? b = some o → b ≠ a → (hidT s₁.heap H).get? b = some o := fun {b o} e n => hidT_get e (by
    cases q : H b with
    | none => rfl
    | some u => exact absurd (H0_some q).1 n)
  have nd : ∀ {b : Addr} {m : Str → Option Value}, s₁.heap.Ns b m → (hidT s₁.heap H).Ns b m := fun {b m} ⟨o, es, ep, e, d, r⟩ => ⟨o, es, ep, out e (fun z => by
    subst z
    rw [ha] at e
    cases e
    have d : Data.seq vs.toArray _ = Data.dict es ep := d
    cases d), d, r⟩
  have inB : T.K.In (hidT s₁.heap H) := fun b o e => hidT_get (KX b o e) (by
    cases q : H b with
    | none => rfl
    | some u =>
      obtain ⟨rfl, h2, _⟩ := H0_some q
      rw [h2] at e
      cases e)
  have md : Mod T.K mg (hidT s₁.heap H) := ⟨inB, nd hns, ⟨mb, nd hb, hbb⟩, let ⟨mc, h1, h2⟩ := hlim; ⟨mc, nd h1, h2⟩⟩
  have hok : HOk P w H s₁.heap := fun b u q => by
    obtain ⟨rfl, h2, rfl⟩ := H0_some q
    exact ⟨ha, by rw [List.length_map]; exact hl, vs, _, rv, ha⟩
  have e0 : Env0 P w T.K mg (hidT s₁.heap H) callerA [] s₁ H := ⟨rfl, md, fun b o e => of_hidT e, Nat.le_of_eq (hidT_size _ _), trivial, fun b hb => absurd hb (List.not_mem_nil), hok, .of_eq hg⟩
  have rs : RV T [] H (.scr ns) (.ref a) := by
    cases q : T.K.lookup a with
    | none => exact .scr (o := ob) (by show H0 T.K a ob ns a = _; unfold H0; rw [if_pos ⟨rfl, by rw [q]; rfl⟩])
    | some o =>
      have e := KX a o q
      rw [ha] at e
      cases e
      exact .scrK fun H' => .inr ⟨_, vs.toArray, _, q, rfl, rfl, rfl, by rw [List.size_toArray, ← rv.length, List.length_map]; exact hl, by simpa using rv⟩
  have sp : SpM T 1 m [.ref a] H (fun v _ => v = .bl true) fun _ _ _ => False := ⟨[], [], [.scr ns], ⟨rfl, List.nodup_nil, fun i a o h _ => by simp at h⟩, .cons rs .nil, rfl, by
    rw [hm]
    exact fun ρ' H' z _ _ hz => hz.blE⟩
  refine codeAny_mono ((F _ inB (nd hns)).run callerA [] s₁ H ⟨[.ref a], []⟩ [.ref a] [.ref a] _ _ hr rfl e0 (hbind s₁ (.ref a)) (.cons rfl .nil) sp) fun r s' h => ?_
  cases r with
  | error e =>
    obtain ⟨_, _, _, _, _, _, _, _, _, _, _, _, z⟩ := h
    exact z.elim
  | ok fl =>
    cases fl with
    | next => exact h.elim
    | brk => exact h.elim
    | cont => exact h.elim
    | ret u =>
      obtain ⟨v, H', os, bare, un, hok', r', q⟩ := h
      have q : v = .bl true := q
      subst q
      obtain rfl : u = Value.bool true := r'
      refine ⟨rfl, OldK.of_keep fun b o e => ?_, os, bare⟩
      cases q : H b with
      | none => exact un.keep b o e q (fun z => absurd z (List.not_mem_nil)) (List.not_mem_nil)
      | some u =>
        obtain ⟨rfl, h2, rfl⟩ := H0_some q
        have z2 := un.frzs b _ _ q
        obtain ⟨e2, _⟩ := hok' b _ z2
        rw [ha] at e
        cases e
        exact e2
/-- the goal that the head leaves, from the law's pure function -/
theorem walk_G {l : PySem.W.OpenLaw} {n k : Nat} {q : Program} {loose : List Str} {XP : (Str → Option Value) → Heap → Prop} {YP : World → Heap → Prop} {d : DefRec} {K : Params → PySem.W.Frag} {x : Str} {m : List Vl → M Vl}
    (hn : l.most = some n) (hn2 : n ≤ sizeLine) (hdf : d.params.defaults = []) (hr : Room k callerA) (hY : ∀ (w : World) (h : Heap), YP w h → (K w.params).In h)
    (F : ∀ (w : World) (mg : Str → Option Value) (fa : Addr) (h : Heap), (K w.params).In h → h.Ns mainGlobals mg → mg d.name = some (.ref fa) → ∃ (T : Tb) (fd : FuncData), T.K = K w.params ∧ (∀ (s : Shared) (u : Value), BindsTo s fd ⟨[u], []⟩ [(x, u)]) ∧
        ∀ base : Heap, T.K.In base → base.Ns mainGlobals mg → FnG l.prog w T.K mg base k fa fd [x] (SpM T 1 m))
    (hm : ∀ ns : List Int, ns.length ≤ n → ∃ st, m [.scr ns] [] = .ok (.bl true) st) :
    PySem.W.WalkO q loose XP YP l.row.toRowW d [] (fun f vs => PySem.call f vs) := by
  refine Att.attach_call hn hdf fun w s₀ s₁ mg mb fa o pm cd doc a vs ns G Y ho hd hcd hmg hobj hints hlen hg => ?_
  obtain ⟨T, fd, eT, hb, hF⟩ := F w mg fa _ (hY w _ Y) G.T.g hmg
  obtain ⟨st, e⟩ := hm ns hlen
  exact law_G (by rw [eT]; exact hY w _ Y) G.T.g G.T.b G.T.builtins G.T.nolimit hg hobj hints (Nat.le_trans hlen hn2) hr hF hb e
end Sm

/-! S10: objects: fields, methods, making -/
namespace Sm
open PySem PySem.Spec PyProof.Rows L2
def putS (f : Str) (v : Vl) : List (Str × Vl) → List (Str × Vl)
  | [] => [(f, v)]
  | (g, x) :: r => if g = f then (g, v) :: r else (g, x) :: putS f v r
def getS (fs : List (Str × Vl)) (f : Str) : Option Vl := match fs with
  | [] => none
  | (g, x) :: r => if g = f then some x else getS r f
section
variable {T : Tb} {ρ : List Addr} {H : Hp}
theorem lookup_step {α : Type} (f g : Str) (x : α) (r : List (Str × α)) : List.lookup f ((g, x) :: r) = if g = f then some x else List.lookup f r := by
  by_cases h : g = f
  · subst h
    rw [if_pos rfl]
    simp [List.lookup]
  · rw [if_neg h]
    have : (f == g) = false := by
      cases e : (f == g) with
      | false => rfl
      | true => exact absurd (eq_of_beq e).symm h
    simp [List.lookup, this]
theorem getS_ok {f : Str} : ∀ {fs : List (Str × Vl)} {vs : List (Str × V)}, vs.map (·.1) = fs.map (·.1) → RVs T ρ H (fs.map (·.2)) (vs.map (·.2)) →
    (getS fs f = none → vs.lookup f = none) ∧ ∀ v, getS fs f = some v → ∃ z, vs.lookup f = some z ∧ RV T ρ H v z
  | [], [], _, _ => ⟨fun _ => rfl, fun v e => by simp [getS] at e⟩
  | [], _ :: _, e, _ => by simp at e
  | _ :: _, [], e, _ => by simp at e
  | (g, x) :: r, (g', z) :: t, e, h => by
    simp only [List.map_cons, List.cons.injEq] at e
    rw [List.map_cons, List.map_cons] at h
    obtain ⟨e1, e2⟩ := e
    subst e1
    cases h with
    | cons h1 h2 =>
      have ih := getS_ok (f := f) e2 h2
      rw [lookup_step]
      unfold getS
      by_cases hk : g' = f
      · rw [if_pos hk, if_pos hk]
        refine ⟨(fun q => nomatch q), fun v q => ?_⟩
        cases q
        exact ⟨z, rfl, h1⟩
      · rw [if_neg hk, if_neg hk]
        exact ih
theorem putS_ok {f : Str} {v : Vl} {z : V} (hv : RV T ρ H v z) : ∀ {fs : List (Str × Vl)} {vs : List (Str × V)}, vs.map (·.1) = fs.map (·.1) → RVs T ρ H (fs.map (·.2)) (vs.map (·.2)) →
    (putF f z vs).map (·.1) = (putS f v fs).map (·.1) ∧ RVs T ρ H ((putS f v fs).map (·.2)) ((putF f z vs).map (·.2))
  | [], [], _, _ => ⟨rfl, .cons hv .nil⟩
  | [], _ :: _, e, _ => by simp at e
  | _ :: _, [], e, _ => by simp at e
  | (g, x) :: r, (g', y) :: t, e, h => by
    simp only [List.map_cons, List.cons.injEq] at e
    rw [List.map_cons, List.map_cons] at h
    obtain ⟨e1, e2⟩ := e
    subst e1
    cases h with
    | cons h1 h2 =>
      unfold putF putS
      by_cases hk : g' = f
      · rw [if_pos hk, if_pos hk]
        exact ⟨by simp [e2], .cons hv h2⟩
      · rw [if_neg hk, if_neg hk]
        obtain ⟨a, b⟩ := putS_ok hv e2 h2
        exact ⟨by simp [a], .cons h1 b⟩
theorem Rel.ins {s : Sto} {i c : Nat} {fs : List (Str × Vl)} {a : Addr} (r : Rel T ρ H s) (h : s[i]? = some (.ins c fs)) (ha : ρ[i]? = some a) :
    ∃ (C dx : Addr) (vs : List (Str × V)), T.cl[c]? = some C ∧ H a = some (.ins C dx vs) ∧ vs.map (·.1) = fs.map (·.1) ∧ RVs T ρ H (fs.map (·.2)) (vs.map (·.2)) := r.ob i a _ ha h
end
/-- e.f, of an object of one of the classes cs -/
def eFld (cs : List Nat) (f : Str) (o : EM) : EM := fun lo => bnd (o lo) fun x s => match x with
  | .ref j => match s[j]? with
    | some (.ins c fs) => if c ∈ cs then match getS fs f with
        | some v => .ok v s
        | none => .fail
      else .fail
    | _ => .fail
  | _ => .fail
/-- e.f = v -/
def setFld (cs : List Nat) (f : Str) (x v : Vl) (s : Sto) : Option Sto := match x with
  | .ref j => match s[j]? with
    | some (.ins c fs) => if c ∈ cs ∧ fs.length < 1000 then some (s.set j (.ins c (putS f v fs))) else none
    | _ => none
  | _ => none
def sFldM (cs : List Nat) (f : Str) (o e : EM) : SM := bndS e fun lo v s => bndS o (fun lo x s => match setFld cs f x v s with
  | some s' => .nx lo s'
  | none => .fail) lo s
/-- the classes cs have no attribute f of their own -/
def FldOk (T : Tb) (cs : List Nat) (f : Str) : Prop := ∀ c ∈ cs, ∀ C, T.cl[c]? = some C → Cls T.K C ∧ NoAttr T.K C f
/-- o.m(..): the method by the object's class -/
abbrev MTab := Nat → Option (List Vl → M Vl)
def eMeth (m : Str) (tab : MTab) (o : EM) (a : AM) : EM := fun lo => bnd (o lo) fun x s => match x with
  | .ref j => match s[j]? with
    | some (.ins c fs) => match tab c, getS fs m with
      | some mf, none => bnd (a lo) (fun as => mf (.ref j :: as)) s
      | _, _ => .fail
    | _ => .fail
  | _ => .fail
section
variable {X : Cx} {T : Tb} {W : WX} {o e value : Expr} {es : List Expr} {f : Str} {pos pos' apos : Pos} {mo me : EM} {ma : AM} {cs : List Nat}
theorem ce_fld (ok : FldOk T cs f) (he : PE X e (tE T W me)) (hb : attributeBase e f X.env (eval e X.env) = eval e X.env := by rfl) (hK : X.K = T.K := by rfl) : PE X (.Attribute e f pos) (tE T W (eFld cs f me)) :=
  pe_mono (pe_fld he hb) fun σ H Q h => tG_bnd (R := RV T) h fun ρ s lo x z H1 r rl hx p => by
    cases hx with
    | ref ha =>
      simp only at p
      split at p
      · rename_i c fs hj
        split at p
        · rename_i hc
          split at p
          · rename_i v hv
            obtain ⟨C, dx, vs, h1, h2, h3, h4⟩ := r.ins hj ha
            obtain ⟨w, h5, h6⟩ := (getS_ok (f := f) h3 h4).2 v hv
            obtain ⟨k1, k2⟩ := ok c hc C h1
            rw [hK]
            exact ⟨_, C, dx, vs, w, rfl, h2, k1, k2, h5, p ρ H1 w .refl r h6⟩
          · exact p.elim
        · exact p.elim
      · exact p.elim
    | _ => exact p.elim
theorem cs_fld (ok : FldOk T cs f) (ho : PE X o (tE T W mo)) (hv : PE X value (tE T W me)) (hs : swapsWith value (some (.Attribute o f pos')) pos.line X.env = pure false := by rfl) (hK : X.K = T.K := by rfl) :
    PS X (.Assign [.Attribute o f pos'] value pos) (tS T W (sFldM cs f mo me)) := ps_mono (ps_fld ho hv hs) fun D σ H h =>
  tS_bnd (R := RV T) h fun ρ s lo v z H1 r rl hv p => poS_bnd (R := RV T) r rl p fun ρ' s' x y H' ext r' rl' hx p' => by
    unfold setFld at p'
    cases hx with
    | ref ha =>
      simp only at p'
      split at p'
      · rename_i sf e
        split at e
        · rename_i c fs hj
          split at e
          · rename_i hc
            cases e
            obtain ⟨C, dx, vs, h1, h2, h3, h4⟩ := r'.ins hj ha
            obtain ⟨k1, k2⟩ := ok c hc.1 C h1
            obtain ⟨g1, g2⟩ := putS_ok (f := f) (hv.mono ext) h3 h4
            have hlen : vs.length = fs.length := by have := congrArg List.length h3; simpa using this
            rw [hK]
            refine ⟨_, C, dx, vs, rfl, h2, k1, k2, by rw [hlen]; exact hc.2, ?_⟩
            exact p' ρ' _ σ (r'.setExt ha h2) (r'.set ha ⟨C, dx, _, h1, upd_same, g1, g2.mono (r'.setExt ha h2)⟩) (rl'.mono (r'.setExt ha h2))
          · cases e
        · cases e
      · exact p'.elim
    | _ => exact p'.elim
/-- the methods m of the classes of tab -/
def MethOk (X : Cx) (T : Tb) (m : Str) (k n : Nat) (tab : MTab) : Prop := ∀ c mf, tab c = some mf → ∀ C, T.cl[c]? = some C → ∃ (f : Addr) (fd : FuncData) (ps : List Str), Cls T.K C ∧ Meth T.K C m f ∧ FnG X.prog X.w X.K X.mg X.base k f fd ps (SpM T (n + 1) mf) ∧ Binds X.K fd ps []
def tabA (n : Nat) (tab : MTab) : MTab := fun c => (tab c).map (arg (n + 1))
theorem ce_meth {m : Str} {k n : Nat} {tab : MTab} {pl : Sem Bool} (ok : MethOk X T m k n tab) (hr : Room k X.A) (hgd : X.A.guards = some []) (tk : L2N.Takes X W) (ho : PE X o (tE T W mo)) (ha : PA X (e :: es) (tA T W ma))
    (hst : starEach (e :: es) X.env = (false, eval e X.env) :: starEach es X.env := by rfl) (hpl : (backTo pos (starEach es X.env)).any (·.1) = false := by rfl)
    (ht : eval (.Call (.Attribute o m apos) (e :: es) [] pos) X.env = (do let ov ← eval o X.env; standAt apos.atName; let (f, first) ← holding [ov] (getMethod ov m pl); callWith pos f first (backTo pos (starEach (e :: es) X.env)) (backToKw pos (keywordEach [] X.env))) := by rfl)
    (hK : X.K = T.K := by rfl) : PE X (.Call (.Attribute o m apos) (e :: es) [] pos) (tE T W (eMeth m (tabA n tab) mo ma)) := by
  refine ⟨fun pins s σ H Q I h => ?_⟩
  have h : tE T W mo σ H fun x H1 => ∃ (a C dx f : Addr) (fs : List (Str × V)) (mf : List Vl → M Vl) (fd : FuncData) (ps : List Str), x = .ref a ∧ H1 a = some (.ins C dx fs) ∧ Cls T.K C ∧ Meth T.K C m f ∧ fs.lookup m = none ∧ FnG X.prog X.w X.K X.mg X.base k f fd ps (SpM T (n + 1) mf) ∧ Binds X.K fd ps [] ∧
      tA T W ma σ H1 fun vs H2 => SpM T (n + 1) mf (.ref a :: vs ++ []) H2 Q fun c d H' => W c d σ H' := tG_bnd (R := RV T) h fun ρ s lo x z H1 r rl hx p => by
    cases hx with
    | ref hρ =>
      rename_i j a
      simp only at p
      split at p
      · rename_i c fs hj
        split at p
        · rename_i mf hm hg
          unfold tabA at hm
          obtain ⟨mf0, hm0, rfl⟩ := Option.map_eq_some_iff.mp hm
          obtain ⟨C, dx, vs, h1, h2, h3, h4⟩ := r.ins hj hρ
          obtain ⟨f, fd, ps, k1, k2, k3, k4⟩ := ok c mf0 hm0 C h1
          refine ⟨a, C, dx, f, vs, mf0, fd, ps, rfl, h2, k1, k2, (getS_ok (f := m) h3 h4).1 hg, k3, k4, po_bnd (R := RVs T) (m := ma) r rl p fun ρ' s' as zs H' ext r' rl' has p' => ?_⟩
          unfold arg at p'
          split at p'
          · rename_i hl
            rw [List.append_nil]
            exact spM_of r' (.cons (.ref (ext.pre _ _ hρ)) has) hl p'
          · exact p'.elim
        · exact p.elim
      · exact p.elim
    | _ => exact p.elim
  refine PySem.W.methodCall_KW (pl := pl) (thn (ho.run pins s σ H _ I h) fun u s1 ⟨x, H1, I1, rx, a, C, dx, f, fs, mf, fd, ps, ex, ea, cl, mt, l, F, hb, q⟩ => ?_) ht
  subst ex
  obtain rfl : u = Value.ref a := rx
  rw [← hK] at cl mt
  refine getmeth_ok I1 ea cl mt l ?_
  refine PySem.W.callWith_K (first := [.ref a]) (h₀ := X.base) I.ok.mod.kin mt.kp (thn (ha.run pos pins s1 σ H1 _ I1 q) fun us s2 ⟨vs, H2, I2, r, q2⟩ => ⟨I2.kIn, ?_⟩) hst hpl
  exact run_G (us := .ref a :: us) (vs := .ref a :: vs) F hr hgd hb .nil tk I2 (.cons rfl r) q2
end
/-! ### making -/
/-- C(..): a new object of class c, then __init__ -/
def eMake (c : Nat) (mi : List Vl → M Vl) (a : AM) : EM := fun lo => bnd (a lo) fun as s => match mi (.ref s.length :: as) (s ++ [.ins c []]) with
  | .ok .non s' => .ok (.ref s.length) s'
  | .ok _ _ => .fail
  | .exc e s' => .exc e s'
  | .fail => .fail
theorem under_guards {A : Around} {C : Addr} {us : List Value} (h : A.guards = some []) : (A.under (.builtin "type.__call__" ⟨.ref C :: us, []⟩)).guards = some [] := by
  simp [Around.under, Code.guards, Code.isGuard, guardIds, pushGuards, h]
section
variable {X : Cx} {T : Tb} {W : WX} {e : Expr} {es : List Expr} {p pos : Pos} {ma : AM} {C f : Addr} {fd : FuncData} {ps : List Str} {k n c : Nat} {mi : List Vl → M Vl} {x : Str}
theorem run_mk {pins : List (Addr × Obj)} {σ : L2.St} {H : Hp} {s : Shared} {Q : VK} {us : List Value} {vs : List V} (M : Mk X.K C f) (F : FnG X.prog X.w X.K X.mg X.base k f fd ps (SpM T (n + 1) mi)) (hr : Room (k + 1) X.A) (hgd : X.A.guards = some []) (hb : Binds X.K fd ps []) (tk : L2N.Takes X W) (hc : T.cl[c]? = some C)
    (I : Inv X pins σ H s) (r : Vals vs us)
    (h : ∃ (ρ : List Addr) (st : Sto) (as : List Vl), Rel T ρ H st ∧ RVs T ρ H as vs ∧ as.length = n ∧ Po (RV T) T (fun c d H' => W c d σ H') ρ H (match mi (.ref st.length :: as) (st ++ [.ins c []]) with
      | .ok .non s' => .ok (.ref st.length) s'
      | .ok _ _ => .fail
      | .exc e s' => .exc e s'
      | .fail => (.fail : Res Vl)) Q) : wpAny (model X.prog X.w) X.A (call (.ref C) us) (EP X pins σ Q) X.xe s := by
  obtain ⟨ρ, st, as, rel, has, hl, p⟩ := h
  have f1 : H (s.heap.objs.size + 1) = none := I.hok.fresh (Nat.le_succ _)
  have f0 : H s.heap.objs.size = none := I.hok.fresh (Nat.le_refl _)
  have ne : s.heap.objs.size + 1 ≠ s.heap.objs.size := Nat.succ_ne_self _
  have I2 := Inv.made (C := C) I
  have r2 : Vals (V.ref (s.heap.objs.size + 1) :: vs) (Value.ref (s.heap.objs.size + 1) :: us) := .cons rfl r
  -- the new object in the pure store
  have relD : Rel T ρ (upd H s.heap.objs.size (.own (s.heap.objs.size + 1))) st := rel.laid f0
  have f1' : upd H s.heap.objs.size (.own (s.heap.objs.size + 1)) (s.heap.objs.size + 1) = none := by rw [upd_ne ne]; exact f1
  have ext : Ext T ρ H (ρ ++ [s.heap.objs.size + 1]) (upd (upd H s.heap.objs.size (.own (s.heap.objs.size + 1))) (s.heap.objs.size + 1) (.ins C s.heap.objs.size [])) := (ext_upd f0).trans (relD.newExt f1')
  have relN : Rel T (ρ ++ [s.heap.objs.size + 1]) (upd (upd H s.heap.objs.size (.own (s.heap.objs.size + 1))) (s.heap.objs.size + 1) (.ins C s.heap.objs.size [])) (st ++ [.ins c []]) := relD.new f1' ⟨C, _, [], hc, upd_same, rfl, .nil⟩
  have sp : SpM T (n + 1) mi (V.ref (s.heap.objs.size + 1) :: vs) (upd (upd H s.heap.objs.size (.own (s.heap.objs.size + 1))) (s.heap.objs.size + 1) (.ins C s.heap.objs.size [])) (fun v H2 => v = .non ∧ Q (.ref (s.heap.objs.size + 1)) H2) fun c d H' => W c d σ H' := by
    refine ⟨_, _, .ref st.length :: as, relN, .cons rel.newRef (has.mono ext), by rw [List.length_cons, hl], ?_⟩
    cases e : mi (.ref st.length :: as) (st ++ [.ins c []]) with
    | fail => rw [e] at p; exact p
    | exc z s' => rw [e] at p; exact fun ρ' H' D x' => p ρ' H' D (ext.trans x')
    | ok v s' =>
      rw [e] at p
      intro ρ' H' z x' r' hz
      cases v <;> try exact p.elim
      exact ⟨hz.nonE, p ρ' H' _ (ext.trans x') r' (.ref (x'.pre _ _ (by rw [← rel.len, List.getElem?_append_right (Nat.le_refl _)]; simp)))⟩
  refine wpAny_call (make_map (f := f) I.kIn M.makes M.init (beq_iff_eq.mp M.fn) (codeAny_mono (F.run _ X.stack _ _ ⟨Value.ref (s.heap.objs.size + 1) :: us, []⟩ _ _ _ _ (hr.make C us []) (under_guards hgd) (I2.env0.make C us []) (by
    have := hb _ (Value.ref (s.heap.objs.size + 1) :: us) I2.kIn (by rw [List.append_nil, ← r2.length]; exact F.len _ _ _ _ sp)
    rw [List.append_nil] at this
    exact this) r2 sp) fun z s' hq => ?_))
  cases z with
  | error y => exact tk y s' (L2N.XE.of_call I2 (fun _ _ _ q => q) hq)
  | ok fl =>
    cases fl with
    | ret u =>
      obtain ⟨v, H', I3, rv, ev, q3⟩ := I2.after hq
      subst ev
      exact ⟨rv, ⟨V.ref (s.heap.objs.size + 1), H', I3, rfl, q3⟩⟩
    | next => exact hq.elim
    | brk => exact hq.elim
    | cont => exact hq.elim
def argI (n : Nat) (mf : List Vl → M Vl) : List Vl → M Vl := fun as s => if as.length = n + 1 then mf as s else .fail
theorem ce_make (M : Mk X.K C f) (F : FnG X.prog X.w X.K X.mg X.base k f fd ps (SpM T (n + 1) mi)) (hr : Room (k + 1) X.A) (hgd : X.A.guards = some []) (hg : Gl X x) (hm : X.mg x = some (.ref C)) (hb : Binds X.K fd ps []) (tk : L2N.Takes X W) (hc : T.cl[c]? = some C) (ha : PA X (e :: es) (tA T W ma))
    (hdb : (x == ("__debug__" : Str)) = false := by decide) (he : starEach (e :: es) X.env = (false, eval e X.env) :: starEach es X.env := by rfl) (hpl : (backTo pos (starEach es X.env)).any (·.1) = false := by rfl) :
    PE X (.Call (.Name x p) (e :: es) [] pos) (tE T W (eMake c (argI n mi) ma)) := by
  refine ⟨fun pins s σ H Q I h => wpAny_Call_Name_kw (ld_glob I hg hm ?_ hdb)⟩
  have h : tA T W ma σ H fun vs H1 => ∃ (ρ : List Addr) (st : Sto) (as : List Vl), Rel T ρ H1 st ∧ RVs T ρ H1 as vs ∧ as.length = n ∧ Po (RV T) T (fun c d H' => W c d σ H') ρ H1 (match mi (.ref st.length :: as) (st ++ [.ins c []]) with
      | .ok .non s' => .ok (.ref st.length) s'
      | .ok _ _ => .fail
      | .exc e s' => .exc e s'
      | .fail => (.fail : Res Vl)) Q := tG_bnd (R := RVs T) h fun ρ s lo xs zs H1 r rl hx q => by
    unfold argI at q
    split at q
    · rename_i q1
      split at q1
      · rename_i hl
        refine ⟨ρ, s, xs, r, hx, by simpa using hl, ?_⟩
        rw [q1]
        exact q
      · cases q1
    · exact q.elim
    · rename_i q1
      split at q1
      · rename_i hl
        refine ⟨ρ, s, xs, r, hx, by simpa using hl, ?_⟩
        rw [q1]
        exact q
      · cases q1
    · exact q.elim
  refine PySem.W.callWith_K (h₀ := X.base) I.ok.mod.kin M.kp (thn (ha.run pos pins s σ H _ I h) fun us s1 ⟨vs, H1, I1, r, q⟩ => ⟨I1.kIn, ?_⟩) he hpl
  exact run_mk M F hr hgd hb tk hc I1 r q
end
end Sm

/-! S11: sets of ints: set(list), sorted(set) -/
namespace L2
open PySem PySem.Spec PyProof.Rows
abbrev set0 (w : World) : Obj := { cls := .type "set", dict := none, data := .set #[] 0 (.fresh 0 0 (!w.params.followText "set-order")) }
section
variable {P : Program} {w : World} {A : Around} {E : Value → Shared → Prop} {s : Shared}
/-- set(l), l a list of ints -/
theorem call_set_lst {l : Addr} {items : Array Value} (ns : List Int) {Q : Value → Shared → Prop} (hh : A.handled = none) (hl : s.heap.IsList l items) (hit : IntsAre items.toList ns) (hb : ns.length + 1 < scanBound)
    (h : ∀ (h' : Heap) (tk c : Nat), SetR w h' s.heap.objs.size (fun j => decide (j ∈ ns)) c → (∀ b o, s.heap.get? b = some o → h'.get? b = some o) → Q (.ref s.heap.objs.size) { s with heap := h', toks := tk }) :
    wpAny (model P w) A (call (.type "set") [.ref l]) Q E s := by
  have hz : items.size = ns.length := by rw [← Array.length_toList]; exact hit.length
  obtain ⟨c, tl, hmro⟩ := F.called_set.mro
  have hmade := F.called_set.made
  have hsub := F.called_set.sub
  have h1 := F.called_set.notType
  have h2 := F.called_set.canCreate
  have hct := F.typeCall_set_1 (.ref l)
  refine wpAny_call (codeAny_of_tree (show wpAny _ _ (callAny (.type "set") _) _ _ _ from wpAny_pure ⟨Code.quiet_builtin _ (by decide +kernel), codeAny_builtin F.entry_type_call ?_⟩))
  rw [Around.under_plain (weight_type_call_type "set" [.ref l] []) rfl]
  repeat (any_goals (first | assumption | wp_step))
  refine codeAny_mono (code_set_led1 (.ref l) (E := E) (Q₁ := fun obj s₁ => obj = .ref s.heap.objs.size ∧ s₁ = { s with heap := s.heap.push (set0 w) }) ⟨rfl, rfl⟩) fun r s₁ hr => ?_
  cases r with
  | error e => exact hr
  | ok fl =>
    cases fl with
    | ret obj =>
      obtain ⟨rfl, rfl⟩ := hr
      have hS : (s.heap.push (set0 w)).get? s.heap.objs.size = some (set0 w) := Heap.get?_push_size _ rfl
      have hT : Shared.TypeIs { s with heap := s.heap.push (set0 w) } (.ref s.heap.objs.size) "set" := ⟨_, hS, rfl⟩
      have hli := F.called_set.init.lookup
      have hbi := F.called_set.init.bind (.ref s.heap.objs.size)
      repeat (any_goals (first | assumption | wp_step))
      refine codeAny_mono (codeAny_call_builtin (R := wants (fun r s₂ => r = .none ∧ ∃ h' tk c, s₂ = { s with heap := h', toks := tk } ∧ SetR w h' s.heap.objs.size (fun j => decide (j ∈ ns)) c ∧ ∀ b o, s.heap.get? b = some o → h'.get? b = some o) E) F.called_set.init.plain F.entry_set_init (check_set_init_1 hT ?_)) fun r₂ s₂ hr₂ => ?_
      · obtain ⟨⟨oc, od, oda, osl⟩, ho, hc, nl, hd⟩ := hl
        obtain rfl : oc = _ := hc
        obtain rfl : oda = _ := hd
        have hS2 := F.sub_list_set
        have hF2 := F.sub_list_frozenset
        have hne : (Value.type "list" == Value.type "dict") = false := by decide
        have ho' := Heap.get?_push_of_some (set0 w) ho
        have hl1 : (s.heap.push (set0 w)).IsList l items := ⟨_, ho', rfl, nl, rfl⟩
        unfold Builtin.«set.__init__» noKeywords Builtin.Frozenset.updateFrom
        generalize hPI : pyIter = PI
        wp_walk
        subst hPI
        refine wpAny_pyIter_list hl1 (wpAny_bind (wpAny_runValue ?_))
        have lS : l < s.heap.objs.size := Heap.lt_size ho
        have eS : (s.heap.push (set0 w)).objs.size = s.heap.objs.size + 1 := Heap.size_push ..
        refine set_update_ints ((Walks.list (A := A.in1.in1.in1) (by simp [hh]) (s.heap.push (set0 w)).objs.size l (by rw [eS]; exact Nat.ne_of_lt (Nat.lt_succ_of_lt lS)) items).toS) s.heap.objs.size (by rw [eS]; simp only [List.mem_cons, List.not_mem_nil, or_false, not_or]; exact ⟨Nat.ne_of_lt (Nat.lt_succ_self _), Nat.ne_of_gt lS⟩) ns hz hb (fun i v hv => ?_) (items.size - 0) 0 _ (by omega) (Nat.zero_le _)
          ⟨⟨_, Heap.get?_push_size _ rfl, rfl, rfl⟩, (hl1.push _)⟩ ⟨0, Nat.le_refl 0, setR_new_at (Heap.get?_push_of_some _ hS)⟩ fun s' c' hm hc' hS' => ?_
        · have hi : i < ns.length := by rw [← hz]; exact (Array.getElem?_eq_some_iff.mp hv).1
          obtain ⟨t, e⟩ := PyProof.Rows.IntsAre.int_at hit i v (by rw [Array.getElem?_toList]; exact hv)
          exact ⟨ns[i], t, List.getElem?_eq_getElem hi, by rw [e, List.getD_eq_getElem?_getD, List.getElem?_eq_getElem hi] <;> rfl⟩
        · obtain ⟨h', g2, d', tk', os'⟩ := s'
          obtain rfl : g2 = s.gens := hm.gens
          obtain rfl : d' = s.drawn := hm.drawn
          obtain rfl : os' = s.os := hm.os
          refine wpAny_pure (show wpAny _ _ (ret Value.none) _ _ _ from wpAny_pure ⟨rfl, h', tk', c', rfl, hS', fun b o e => ?_⟩)
          have lb : b < s.heap.objs.size := Heap.lt_size e
          exact hm.heap b o (by rw [eS]; simp only [List.mem_cons, List.not_mem_nil, or_false, not_or]; exact ⟨Nat.ne_of_lt lb, Nat.ne_of_lt (Nat.lt_succ_of_lt lb)⟩) (Heap.get?_push_of_some _ (Heap.get?_push_of_some _ e))
      · cases r₂ with
        | error e => exact hr₂
        | ok fl₂ =>
          cases fl₂ with
          | ret r =>
            obtain ⟨rfl, h', tk, c', rfl, hS', hk'⟩ := hr₂
            repeat (any_goals (first | assumption | wp_step))
            exact h _ _ _ hS' hk'
          | _ => exact hr₂.elim
    | _ => exact hr.elim
end
theorem nodup_len {α : Type} [DecidableEq α] : ∀ (a b : List α), a.Nodup → b.Nodup → (∀ x, x ∈ a ↔ x ∈ b) → a.length = b.length := fun a b ha hb h => by
  exact ((List.perm_ext_iff_of_nodup ha hb).mpr h).length_eq
theorem SetR.size {w : World} {h : Heap} {a : Addr} {S : Int → Bool} {n : Nat} (R : SetR w h a S n) {xs : List Int} (nd : xs.Nodup) (hS : ∀ k, S k = true ↔ k ∈ xs) : n = xs.length := by
  obtain ⟨o, es, ep, t, h1, h2, h3, h4, h5, h6, h7, h8, h9, _⟩ := R
  rw [← h9, ← Array.length_toList, ← List.length_map (f := keyOf) (as := es.toList)]
  exact nodup_len _ _ h5 nd fun x => (h6 x).symm.trans (hS x)
end L2
namespace Sm
open PySem PySem.Spec PyProof.Rows L2
/-- the unlike ones of a list, each at its last place -/
def ddup : List Int → List Int
  | [] => []
  | x :: xs => if x ∈ xs then ddup xs else x :: ddup xs
theorem mem_ddup {x : Int} : ∀ {xs : List Int}, x ∈ ddup xs ↔ x ∈ xs
  | [] => Iff.rfl
  | y :: ys => by
    unfold ddup
    split
    · rename_i h
      rw [mem_ddup, List.mem_cons]
      exact ⟨.inr, fun q => q.elim (fun z => by rw [z]; exact h) id⟩
    · rw [List.mem_cons, List.mem_cons, mem_ddup]
theorem ddup_nodup : ∀ xs : List Int, (ddup xs).Nodup
  | [] => List.nodup_nil
  | y :: ys => by
    unfold ddup
    split
    · exact ddup_nodup ys
    · rename_i h
      exact List.nodup_cons.mpr ⟨fun z => h (mem_ddup.mp z), ddup_nodup ys⟩
def oSet : OC
  | [x], s => match lstOf x s with
    | some xs => match mapO asInt xs with
      | some ns => if ns.length < 4000 then some (.ref s.length, s ++ [.set (ddup ns)]) else none
      | none => none
    | none => none
  | _, _ => none
/-- sorted of a list or of a set of ints -/
def oSortS : OC
  | [.ref j], s => match s[j]? with
    | some (.lst xs) => (mapO asInt xs).map fun ns => (.ref s.length, s ++ [.lst ((srt ns).map Vl.int)])
    | some (.set xs) => if xs.length < 64 then some (.ref s.length, s ++ [.lst ((srt xs).map Vl.int)]) else none
    | _ => none
  | _, _ => none
section
variable {X : Cx} {T : Tb}
theorem c_set (hc : X.calm = true := by rfl) (hw : X.w = T.w := by rfl) : CallR X (.type "set") (rC T oSet) := fun pins s σ H xs us Q I rs q => by
  obtain ⟨ρ, st, as, v, s', r, ha, e, k⟩ := q
  unfold oSet at e
  split at e
  · split at e
    · rename_i x ys hx
      split at e
      · rename_i ns hn
        split at e
        · rename_i hl
          cases e
          obtain ⟨z, rfl, hz⟩ := ha.one
          obtain ⟨p, vs, rfl, h1, h2⟩ := lstOf_ok r hz hx
          have ev := asInts_ok h2 hn
          subst ev
          obtain ⟨its, rv, pl, hsz⟩ := I.list (SqL.of h1)
          cases rs with
          | cons r1 r2 =>
            cases r2
            obtain rfl := r1
            refine call_set_lst ns (I.ok.hd hc) pl.isList (by simpa using rv.ints) (by unfold scanBound; omega) fun h' tk c R hk => ?_
            have hp : H s.heap.objs.size = none := I.hok.fresh (Nat.le_refl _)
            have hsize : c = (ddup ns).length := R.size (ddup_nodup ns) fun j => by rw [mem_ddup]; exact decide_eq_true_iff
            subst hsize
            have I' := I.laid (a := s.heap.objs.size) (t' := tk) hk (Nat.le_refl _) (setO_new (P := X.prog) (H := upd H s.heap.objs.size (SetO X.w s.heap.objs.size (fun j => decide (j ∈ ns)) (ddup ns).length)) R)
            refine ⟨.ref s.heap.objs.size, _, I', rfl, ?_⟩
            rw [hw]
            exact k.new r hp ⟨ddup_nodup ns, _, fun j => by rw [mem_ddup]; exact decide_eq_true_iff, upd_same⟩
        · cases e
      · cases e
    · cases e
  · cases e
theorem lt_le {l : List Int} (h : l.Pairwise (· < ·)) : l.Pairwise (· ≤ ·) := h.imp fun q => Int.le_of_lt q
theorem lt_nodup {l : List Int} (h : l.Pairwise (· < ·)) : l.Nodup := h.imp fun q => Int.ne_of_lt q
theorem c_sortS (hc : X.calm = true := by rfl) (hw : X.w = T.w := by rfl) : CallR X (.builtin "sorted") (rC T oSortS) := fun pins s σ H xs us Q I rs q => by
  obtain ⟨ρ, st, as, v, s', r, ha, e, k⟩ := q
  unfold oSortS at e
  split at e
  · rename_i s0 j
    split at e
    · rename_i ys hy
      exact c_sorted pins s σ H xs us Q I rs ⟨ρ, _, [.ref j], v, s', r, ha, by simp only [oSorted, lstOf, hy]; exact e, k⟩
    · rename_i ys hy
      split at e
      · rename_i hl
        cases e
        obtain ⟨z, rfl, hz⟩ := ha.one
        obtain ⟨p, rfl, hp⟩ := hz.refE
        obtain ⟨nd, S, hS, hH⟩ := r.ob _ _ _ hp hy
        refine cr_sortedSet hc pins s σ H _ us Q I rs ⟨p, S, _, rfl, by rw [hw]; exact hH, hl, fun ns q h1 h2 h3 hq => ?_⟩
        have : ns = srt ys := srt_eq ((List.perm_ext_iff_of_nodup (lt_nodup h1) nd).mpr fun a => (h2 a).trans (hS a)) (lt_le h1)
        rw [this]
        exact k.lst r (RVs.ints _) hq
      · cases e
    · cases e
  · cases e
end
end Sm

/-! S12: dicts: displays, their values walked and listed -/
namespace Sm
open PySem PySem.Spec PyProof.Rows L2
def eDict0 : EM := fun _ s => .ok (.ref s.length) (s ++ [.dic []])
/-- the pairs of a display -/
def dpM : List (EM × EM) → Lo → M (List (Vl × Vl))
  | [], _ => ret []
  | (k, v) :: r, lo => bnd (k lo) fun x => bnd (v lo) fun y => bnd (dpM r lo) fun ps => ret ((x, y) :: ps)
def keyP (p : Vl × Vl) : Option (Key × Vl) := match keyOf p.1 with
  | some k => some (k, p.2)
  | none => none
def mergeP (kvs more : List (Key × Vl)) : List (Key × Vl) := more.foldl (fun acc kv => put acc kv.1 kv.2) kvs
def eDict (ps : List (EM × EM)) : EM := fun lo s => match dpM ps lo (s ++ [.dic []]) with
  | .ok prs s' => match s'[s.length]?, mapO keyP prs with
    | some (.dic []), some kvs => if kvs.length ≤ 15 then .ok (.ref s.length) (s'.set s.length (.dic (mergeP [] kvs))) else .fail
    | _, _ => .fail
  | .exc e s' => .exc e s'
  | .fail => .fail
def RP (T : Tb) : List Addr → Hp → List (Vl × Vl) → List (V × V) → Prop := fun ρ H ps qs => RVs T ρ H (ps.map (·.1)) (qs.map (·.1)) ∧ RVs T ρ H (ps.map (·.2)) (qs.map (·.2))
section
variable {X : Cx} {T : Tb} {W : WX} {pos : Pos}
theorem ce_dict0 : PE X (.Dict [] [] pos) (tE T W eDict0) := pe_mono pe_dnewK fun σ H Q h => by
  obtain ⟨ρ, s, lo, r, rl, p⟩ := h
  exact fun q hq => p (ρ ++ [q]) _ _ (r.newExt hq) (r.new (b := .dic []) hq ⟨[], upd_same, rfl, .nil⟩) r.newRef
/-! ### the values of a dict, walked in a comprehension: it is locked meanwhile -/
def nxVals (j : Nat) : NX := fun i s => match s[j]? with
  | some (.fdic kvs) => match kvs[i]? with
    | some kv => some (some kv.2)
    | none => some none
  | _ => none
def iVal (e : EM) : IM := fun lo => bnd (e lo) fun x => match x with
  | .ref j => fun s => match s[j]? with
    | some (.fdic _) => .ok (nxVals j) s
    | _ => .fail
  | _ => failM
/-- c run while the dict of e is locked -/
def eLock (e c : EM) : EM := fun lo s => match e lo s with
  | .ok (.ref j) _ => match s[j]? with
    | some (.dic kvs) => match c lo (s.set j (.fdic kvs)) with
      | .ok v s' => match s'[j]? with
        | some (.fdic _) => .ok v (s'.set j (.dic kvs))
        | _ => .fail
      | _ => .fail
    | _ => .fail
  | _ => .fail
/-- list(d.values()) -/
def eListVals (e : EM) : EM := fun lo => bnd (e lo) fun x s => match x with
  | .ref j => match s[j]? with
    | some (.dic kvs) => .ok (.ref s.length) (s ++ [.lst (kvs.map (·.2))])
    | _ => .fail
  | _ => .fail
end
end Sm

/-! S18: walls (code that the pure program never reaches), recursion -/
namespace Sm
open PySem L2
section
variable {X : Cx} {T : Tb} {W : WX}
def eFail : EM := fun _ => failM
def sFail : SM := fun _ _ => .fail
end
def mFail : List Vl → M Vl := fun _ => failM
theorem fnG_fail {P : Program} {w : World} {K : PySem.W.Frag} {mg : Str → Option Value} {base : Heap} {k n : Nat} {f : Addr} {fd : FuncData} {ps : List Str} {T : Tb} : FnG P w K mg base k f fd ps (SpM T n mFail) :=
  ⟨fun vs H Q E ⟨_, _, _, _, _, _, p⟩ => p.elim, fun A outer s H args us vs Q E _ _ _ _ _ ⟨_, _, _, _, _, _, p⟩ => p.elim⟩
end Sm

/-! S19: making objects of classes without an __init__ -/
namespace Sm
open PySem L2 PySem.W
structure MkB (K : PySem.W.Frag) (C : Addr) : Prop where
  makes : PySem.W.makesIn K C = true
  init : PySem.W.findIn K (.ref C) "__init__" = some (some (.builtin "object.__init__"))
  top : PySem.W.mroIn K C (.type "object") = some true
  kp : PySem.W.keepIn K (.ref C) = true
/-- object.__init__ of a new object -/
theorem oiK {K : PySem.W.Frag} {P : Program} {w : World} {A : Around} {C y : Addr} {o : Obj} {R : Result → Shared → Prop} {s : Shared} (B : MkB K C) (X : K.In s.heap) (ho : s.heap.get? y = some o) (hc : o.cls = .ref C) (q : R (.ok (.ret (.ref y))) s) :
    codeAny (model P w) A (.call (.builtin "object.__init__") ⟨[.ref y], []⟩) (PySem.W.InitBack y R) s := by
  have t1 : Looks (model P w) s.heap (typeOf (.ref y)) (.ref C) := NwA.type_at ho hc
  have t2 : Looks (model P w) s.heap (isInstance (.ref y) (.type "object")) true := t1.andThen (looks_mroIn X B.top)
  refine codeAny_call_builtin oi_plain entry_oi (@check_slot (model P w) _ _ _ "object.__init__" "object" "__init__" (.ref y) [] [] _ oi_kind oi_split t2 (NwA.oi_args_any (.ref y) [] []) ?_)
  obtain ⟨hh, g, d, t, os⟩ := s
  rw [oi_run]
  exact wpAny_pure (And.intro rfl q)
def eMakeB (c : Nat) : EM := fun _ s => .ok (.ref s.length) (s ++ [.ins c []])
theorem ce_makeB {X : Cx} {T : Tb} {W : WX} {p pos : Pos} {C : Addr} {c : Nat} {x : Str} (B : MkB X.K C) (hg : Gl X x) (hm : X.mg x = some (.ref C)) (hc : T.cl[c]? = some C)
    (hdb : (x == ("__debug__" : Str)) = false := by decide) : PE X (.Call (.Name x p) [] [] pos) (tE T W (eMakeB c)) := by
  refine ⟨fun pins s σ H Q I h => wpAny_Call_Name_kw (ld_glob I hg hm ?_ hdb)⟩
  obtain ⟨ρ, st, lo, rel, rl, q⟩ := h
  refine PySem.W.callWith_K0 I.kIn B.kp ?_
  have f1 : H (s.heap.objs.size + 1) = none := I.hok.fresh (Nat.le_succ _)
  have f0 : H s.heap.objs.size = none := I.hok.fresh (Nat.le_refl _)
  have ne : s.heap.objs.size + 1 ≠ s.heap.objs.size := Nat.succ_ne_self _
  have I2 := Inv.made (C := C) I
  have relD : Rel T ρ (upd H s.heap.objs.size (.own (s.heap.objs.size + 1))) st := rel.laid f0
  have f1' : upd H s.heap.objs.size (.own (s.heap.objs.size + 1)) (s.heap.objs.size + 1) = none := by rw [upd_ne ne]; exact f1
  have ext : Ext T ρ H (ρ ++ [s.heap.objs.size + 1]) (upd (upd H s.heap.objs.size (.own (s.heap.objs.size + 1))) (s.heap.objs.size + 1) (.ins C s.heap.objs.size [])) := (ext_upd f0).trans (relD.newExt f1')
  have relN : Rel T (ρ ++ [s.heap.objs.size + 1]) (upd (upd H s.heap.objs.size (.own (s.heap.objs.size + 1))) (s.heap.objs.size + 1) (.ins C s.heap.objs.size [])) (st ++ [.ins c []]) := relD.new f1' ⟨C, _, [], hc, upd_same, rfl, .nil⟩
  have hQ := q _ _ (V.ref (s.heap.objs.size + 1)) ext relN rel.newRef
  refine wpAny_call (make_map0 I.kIn B.makes B.init (fun self => Looks.of_pure (oi_bind self)) (oiK (o := PySem.W.instObj C s.heap.objs.size) B I2.kIn ?_ rfl ?_))
  · exact Heap.get?_push_size (h := s.heap.push PySem.W.emptyDict) (o := PySem.W.instObj C s.heap.objs.size) rfl |> fun e => by
      have l : (s.heap.push PySem.W.emptyDict).objs.size = s.heap.objs.size + 1 := by simp [Heap.push]
      rw [l] at e
      exact e
  · exact ⟨V.ref (s.heap.objs.size + 1), _, I2, rfl, hQ⟩
end Sm

/-! S22: defs with a star parameter, objects made by such an __init__; objects that are called -/
namespace Sm
open PySem PySem.Spec PyProof.Rows L2
/-- a def's promise at any number of arguments -/
def FnV (P : Program) (w : World) (K : PySem.W.Frag) (mg : Str → Option Value) (base : Heap) (k : Nat) (f : Addr) (sp : Sp) : Prop :=
  ∀ (A : Around) (outer : List Env) (s : Shared) (H : Hp) (us : List Value) (vs : List V) (Q : VK) (E : XK), Room k A → A.guards = some [] → Env0 P w K mg base A outer s H → Vals vs us → sp vs H Q E →
    codeAny (model P w) A (.call (.ref f) ⟨us, []⟩) (CR (L2N.CX P w) outer P w H s Q E) s
theorem FnV.mono {P : Program} {w : World} {K : PySem.W.Frag} {mg : Str → Option Value} {base : Heap} {j k : Nat} {f : Addr} {sp : Sp} (F : FnV P w K mg base j f sp) (h : j ≤ k) : FnV P w K mg base k f sp := fun A outer s H us vs Q E hr => F A outer s H us vs Q E (hr.mono h)
def SpV (T : Tb) (m : List Vl → M Vl) : Sp := fun vs H Q E => ∃ (ρ : List Addr) (s : Sto) (as : List Vl), Rel T ρ H s ∧ RVs T ρ H as vs ∧ Po (RV T) T E ρ H (m as s) Q
/-- n parameters, the rest a tuple -/
def starM (n : Nat) (mf : List Vl → M Vl) : List Vl → M Vl := fun as s => if n ≤ as.length ∧ as.length ≤ LIM then mf (as.take n ++ [.tup (as.drop n)]) s else .fail
/-- how a def with a star parameter binds -/
def BindV (fd : FuncData) (ps : List Str) (pv : Str) : Prop := ∀ us rest : List Value, us.length = ps.length → bindArgs fd ⟨us ++ rest, []⟩ = (newTuple rest >>= fun t => pure (ps.zip us ++ [(pv, t)]))
theorem cxUpN {P : Program} {w : World} : StX.CXUp (L2N.CX P w) := by
  rintro out s H s2 H2 E e s' un kp ho ⟨a, B, H', cls, d, ea, fl, hok, ub, na, os, ag, he⟩
  have fr : ∀ b o, s.heap.get? b = some o → H b = none → H2 b = none := fun b o q n => un.free b o q n (by simp)
  refine ⟨a, B, H', cls, d, ea, fl, hok, ⟨fun b o q n hb => ub.keep b o (kp b o q) (fr b o q n) hb, fun b o q hb => ub.slot b o (kp b o q) hb, fun b o q n => ub.free b o (kp b o q) (fr b o q n), fun b o q hb => ub.there b o (kp b o q) hb, fun b xs q => ub.tups b xs (un.tups b xs q), fun b o xs q => ub.frzs b o xs (un.frzs b o xs q), fun b ps q => ?_⟩, na, os.trans ho, ag, he⟩
  obtain ⟨m1, e1⟩ := un.tbls b ps q
  obtain ⟨m2, e2⟩ := ub.tbls b _ e1
  exact ⟨m1 ++ m2, by rw [e2, Array.append_assoc]⟩
theorem Fun.bindV {K : PySem.W.Frag} {x qual : Str} {st : Stmt} {f : Addr} {fd : FuncData} {ps : List Str} {pv : Str} (F : Fun K x qual st f fd)
    (h : ∀ (kV doc pm : Value) (an : Option Addr) (cdv ct : Value) (us rest : List Value), us.length = ps.length → bindArgs (PySem.W.fnOf x qual (defArgs st) (defBody st) (defScope st) .none kV doc pm an cdv ct) ⟨us ++ rest, []⟩ = (newTuple rest >>= fun t => pure (ps.zip us ++ [(pv, t)]))) : BindV fd ps pv := by
  obtain ⟨oc, od, kV, doc, pm, an, cdv, ct, osl, rfl, lk, hcd⟩ := F.ex
  exact h kV doc pm an cdv ct
theorem fn_simV {P : Program} {w : World} {K : PySem.W.Frag} {mg : Str → Option Value} {base : Heap} {k n : Nat} {x qual : Str} {st : Stmt} {f : Addr} {fd : FuncData} {N ps : List Str} {pv : Str} {T : Tb} {b : SM} (F : Fun K x qual st f fd) (S : FnScope N (ps ++ [pv]) (defScope st)) (hn : n = ps.length) (hb : BindV fd ps pv)
    (body : ∀ (cdv : Value) (A : Around) (outer : List Env) (s : Shared) (H : Hp) (E : XK), Room k (A.deeper (envOfC qual (defScope st) s.heap.objs.size f cdv)) → A.guards = some [] →
      PSs (cxOf (L2N.CX P w) P w K mg base N qual (defScope st) f cdv A outer s H E) (defBody st) (tS T (fun c d _ H' => E c d H') b)) (hx : T.xs = [] := by rfl) : FnV P w K mg base (k + 1) f (SpV T (starM n (fnM N.length b))) := by
  obtain ⟨oc, od, kV, doc, pm, an, cdv, ct, osl, rfl, lk, hcd⟩ := F.ex
  intro A outer s H us vs Q E hr hg e0 r ⟨ρ, sto, as, rel, has, p⟩
  unfold starM at p
  split at p
  · rename_i hl
    have hvl : as.length = vs.length := has.length
    have hsp : vs.take n ++ vs.drop n = vs := List.take_append_drop n vs
    have r' : Vals (vs.take n ++ vs.drop n) us := by rw [hsp]; exact r
    obtain ⟨u1, u2, eu, r1, r2⟩ := StX.vals_split r'
    subst eu
    have hlw : (vs.take n).length = ps.length := by rw [List.length_take]; omega
    have hl1 : u1.length = ps.length := by rw [← r1.length]; exact hlw
    have hz : (vs.drop n).length ≤ sizeLine := by rw [List.length_drop, lim_eq]; omega
    have hl2 : u2.length ≤ sizeLine := by rw [← r2.length]; exact hz
    have hnn : H s.heap.objs.size = Option.none := e0.hok.fresh (Nat.le_refl _)
    refine StX.run_bnd lk hcd S hr e0 (G := fun xs H2 => ∃ p, H p = Option.none ∧ xs = vs.take n ++ [V.ref p] ∧ H2 = upd H p (.tup (vs.drop n))) (fun A' Ex Q' h => ?_) fun s2 H2 xs ⟨a, hp, ex, eH⟩ hr' => ?_
    · rw [hb u1 u2 hl1]
      refine wpAny_bind (wpAny_newTuple (wpAny_pure ?_) hl2)
      have new : ObjOk P w (upd H s.heap.objs.size (.tup (vs.drop n))) (s.heap.push ({ cls := .type "tuple", data := .seq u2.toArray } : Obj)) s.heap.objs.size (.tup (vs.drop n)) := ⟨hz, u2, r2, ⟨_, Heap.get?_push_size _ rfl, rfl, _, rfl⟩⟩
      have un := StX.un_laid (fs := frs outer) (s := s) (o := ({ cls := .type "tuple", data := .seq u2.toArray } : Obj)) (u := .tup (vs.drop n)) hnn
      have z := h _ _ (vs.take n ++ [V.ref s.heap.objs.size]) (u1 ++ [Value.ref s.heap.objs.size]) (StX.env0_laid e0 new) un rfl (fun e s' => cxUpN outer s H _ _ E e s' un (fun b o q => Heap.get?_push_of_some _ q) rfl) (r1.append (.cons rfl .nil))
        (by rw [List.length_append, List.length_append, hlw] <;> rfl) ⟨_, hnn, rfl, rfl⟩
      rw [List.zip_append hl1.symm] at z
      exact z
    · subst ex eH
      refine ⟨_, body cdv A outer s2 _ E hr' hg, fn_body (n := n + 1) hx ?_⟩
      have ext : Ext T ρ H ρ (upd H a (.tup (vs.drop n))) := ext_upd hp
      exact ⟨ρ, sto, as.take n ++ [.tup (as.drop n)], rel.laid hp, ((has.take n).mono ext).append (.cons (.tup (.inl (.inl upd_same)) ((has.drop n).mono ext)) .nil), by simp; omega, p.mono ext⟩
  · exact p.elim
section
variable {X : Cx} {T : Tb} {W : WX} {e : Expr} {es : List Expr} {p pos : Pos} {ma : AM} {C f : Addr} {k c : Nat} {mi : List Vl → M Vl} {x : Str}
theorem run_mkV {pins : List (Addr × Obj)} {σ : L2.St} {H : Hp} {s : Shared} {Q : VK} {us : List Value} {vs : List V} (M : Mk X.K C f) (F : FnV X.prog X.w X.K X.mg X.base k f (SpV T mi)) (hr : Room (k + 1) X.A) (hgd : X.A.guards = some []) (tk : L2N.Takes X W) (hc : T.cl[c]? = some C)
    (I : Inv X pins σ H s) (r : Vals vs us)
    (h : ∃ (ρ : List Addr) (st : Sto) (as : List Vl), Rel T ρ H st ∧ RVs T ρ H as vs ∧ Po (RV T) T (fun c d H' => W c d σ H') ρ H (match mi (.ref st.length :: as) (st ++ [.ins c []]) with
      | .ok .non s' => .ok (.ref st.length) s'
      | .ok _ _ => .fail
      | .exc e s' => .exc e s'
      | .fail => (.fail : Res Vl)) Q) : wpAny (model X.prog X.w) X.A (call (.ref C) us) (EP X pins σ Q) X.xe s := by
  obtain ⟨ρ, st, as, rel, has, p⟩ := h
  have f1 : H (s.heap.objs.size + 1) = none := I.hok.fresh (Nat.le_succ _)
  have f0 : H s.heap.objs.size = none := I.hok.fresh (Nat.le_refl _)
  have ne : s.heap.objs.size + 1 ≠ s.heap.objs.size := Nat.succ_ne_self _
  have I2 := Inv.made (C := C) I
  have r2 : Vals (V.ref (s.heap.objs.size + 1) :: vs) (Value.ref (s.heap.objs.size + 1) :: us) := .cons rfl r
  have relD : Rel T ρ (upd H s.heap.objs.size (.own (s.heap.objs.size + 1))) st := rel.laid f0
  have f1' : upd H s.heap.objs.size (.own (s.heap.objs.size + 1)) (s.heap.objs.size + 1) = none := by rw [upd_ne ne]; exact f1
  have ext : Ext T ρ H (ρ ++ [s.heap.objs.size + 1]) (upd (upd H s.heap.objs.size (.own (s.heap.objs.size + 1))) (s.heap.objs.size + 1) (.ins C s.heap.objs.size [])) := (ext_upd f0).trans (relD.newExt f1')
  have relN : Rel T (ρ ++ [s.heap.objs.size + 1]) (upd (upd H s.heap.objs.size (.own (s.heap.objs.size + 1))) (s.heap.objs.size + 1) (.ins C s.heap.objs.size [])) (st ++ [.ins c []]) := relD.new f1' ⟨C, _, [], hc, upd_same, rfl, .nil⟩
  have sp : SpV T mi (V.ref (s.heap.objs.size + 1) :: vs) (upd (upd H s.heap.objs.size (.own (s.heap.objs.size + 1))) (s.heap.objs.size + 1) (.ins C s.heap.objs.size [])) (fun v H2 => v = .non ∧ Q (.ref (s.heap.objs.size + 1)) H2) fun c d H' => W c d σ H' := by
    refine ⟨_, _, .ref st.length :: as, relN, .cons rel.newRef (has.mono ext), ?_⟩
    cases e : mi (.ref st.length :: as) (st ++ [.ins c []]) with
    | fail => rw [e] at p; exact p
    | exc z s' => rw [e] at p; exact fun ρ' H' D x' => p ρ' H' D (ext.trans x')
    | ok v s' =>
      rw [e] at p
      intro ρ' H' z x' r' hz
      cases v <;> try exact p.elim
      exact ⟨hz.nonE, p ρ' H' _ (ext.trans x') r' (.ref (x'.pre _ _ (by rw [← rel.len, List.getElem?_append_right (Nat.le_refl _)]; simp)))⟩
  refine wpAny_call (make_map (f := f) I.kIn M.makes M.init (beq_iff_eq.mp M.fn) (codeAny_mono (F _ X.stack _ _ (Value.ref (s.heap.objs.size + 1) :: us) _ _ _ (hr.make C us []) (under_guards hgd) (I2.env0.make C us []) r2 sp) fun z s' hq => ?_))
  cases z with
  | error y => exact tk y s' (L2N.XE.of_call I2 (fun _ _ _ q => q) hq)
  | ok fl =>
    cases fl with
    | ret u =>
      obtain ⟨v, H', I3, rv, ev, q3⟩ := I2.after hq
      subst ev
      exact ⟨rv, ⟨V.ref (s.heap.objs.size + 1), H', I3, rfl, q3⟩⟩
    | next => exact hq.elim
    | brk => exact hq.elim
    | cont => exact hq.elim
theorem ce_makeV (M : Mk X.K C f) (F : FnV X.prog X.w X.K X.mg X.base k f (SpV T mi)) (hr : Room (k + 1) X.A) (hgd : X.A.guards = some []) (hg : Gl X x) (hm : X.mg x = some (.ref C)) (tk : L2N.Takes X W) (hc : T.cl[c]? = some C) (ha : PA X (e :: es) (tA T W ma))
    (hdb : (x == ("__debug__" : Str)) = false := by decide) (he : starEach (e :: es) X.env = (false, eval e X.env) :: starEach es X.env := by rfl) (hpl : (backTo pos (starEach es X.env)).any (·.1) = false := by rfl) :
    PE X (.Call (.Name x p) (e :: es) [] pos) (tE T W (eMake c mi ma)) := by
  refine ⟨fun pins s σ H Q I h => wpAny_Call_Name_kw (ld_glob I hg hm ?_ hdb)⟩
  have h : tA T W ma σ H fun vs H1 => ∃ (ρ : List Addr) (st : Sto) (as : List Vl), Rel T ρ H1 st ∧ RVs T ρ H1 as vs ∧ Po (RV T) T (fun c d H' => W c d σ H') ρ H1 (match mi (.ref st.length :: as) (st ++ [.ins c []]) with
      | .ok .non s' => .ok (.ref st.length) s'
      | .ok _ _ => .fail
      | .exc e s' => .exc e s'
      | .fail => (.fail : Res Vl)) Q := tG_bnd (R := RVs T) h fun ρ s lo xs zs H1 r rl hx q => ⟨ρ, s, xs, r, hx, q⟩
  refine PySem.W.callWith_K (h₀ := X.base) I.ok.mod.kin M.kp (thn (ha.run pos pins s σ H _ I h) fun us s1 ⟨vs, H1, I1, r, q⟩ => ⟨I1.kIn, ?_⟩) he hpl
  exact run_mkV M F hr hgd tk hc I1 r q
theorem ce_makeV0 (M : Mk X.K C f) (F : FnV X.prog X.w X.K X.mg X.base k f (SpV T mi)) (hr : Room (k + 1) X.A) (hgd : X.A.guards = some []) (hg : Gl X x) (hm : X.mg x = some (.ref C)) (tk : L2N.Takes X W) (hc : T.cl[c]? = some C)
    (hdb : (x == ("__debug__" : Str)) = false := by decide) : PE X (.Call (.Name x p) [] [] pos) (tE T W (eMake c mi aNil)) := by
  refine ⟨fun pins s σ H Q I h => wpAny_Call_Name_kw (ld_glob I hg hm ?_ hdb)⟩
  obtain ⟨ρ, st, lo, r, rl, q⟩ := h
  exact PySem.W.callWith_K0 I.kIn M.kp (run_mkV (us := []) (vs := []) M F hr hgd tk hc I .nil ⟨ρ, st, [], r, .nil, q⟩)
end
/-! ### objects that are called -/
def eCallO (tab : MTab) (o : EM) (a : AM) : EM := fun lo => bnd (o lo) fun x s => match x with
  | .ref j => bnd (a lo) (fun as s => match s[j]? with
    | some (.ins c fs) => match tab c with
      | some mf => mf (.ref j :: as) s
      | none => .fail
    | _ => .fail) s
  | _ => .fail
def CallOk (X : Cx) (T : Tb) (k n : Nat) (tab : MTab) : Prop := ∀ c mf, tab c = some mf → ∀ C, T.cl[c]? = some C → ∃ (f : Addr) (fd : FuncData) (ps : List Str), StX.CallO T.K C f ∧ FnG X.prog X.w X.K X.mg X.base k f fd ps (SpM T (n + 1) mf) ∧ Binds X.K fd ps []
section
variable {X : Cx} {T : Tb} {W : WX} {k n : Nat} {f : Addr} {fd : FuncData} {ps : List Str} {mf : List Vl → M Vl} {pos : Pos} {e o : Expr} {es : List Expr} {ma : AM} {mo : EM} {ds : List Value} {dvs : List V}
theorem code_G {sp : Sp} {pins : List (Addr × Obj)} {σ : L2.St} {H : Hp} {s : Shared} {Q : VK} {us : List Value} {vs : List V} (F : FnG X.prog X.w X.K X.mg X.base k f fd ps sp) (hr : Room k X.A) (hg : X.A.guards = some []) (hb : Binds X.K fd ps ds) (hd : Vals dvs ds) (tk : L2N.Takes X W)
    (I : Inv X pins σ H s) (r : Vals vs us) (h : sp (vs ++ dvs) H Q fun c d H' => W c d σ H') :
    codeAny (model X.prog X.w) X.A (.call (.ref f) ⟨us, []⟩) (fun r s' => match r with | .ok (.ret v) => EP X pins σ Q v s' | .ok _ => False | .error e => X.xe e s') s := by
  have r2 : Vals (vs ++ dvs) (us ++ ds) := r.append hd
  refine codeAny_mono (F.run X.A X.stack s H ⟨us, []⟩ (us ++ ds) (vs ++ dvs) Q _ hr hg I.env0 (hb s us I.kIn (by rw [← r2.length]; exact F.len _ _ _ _ h)) r2 h) fun z s' hq => ?_
  cases z with
  | error y => exact tk y s' (L2N.XE.of_call I (fun _ _ _ q => q) hq)
  | ok fl =>
    cases fl with
    | ret u => exact I.after hq
    | next => exact hq.elim
    | brk => exact hq.elim
    | cont => exact hq.elim
theorem ce_callO {tab : MTab} (ok : CallOk X T k n tab) (hr : Room k X.A) (hgd : X.A.guards = some []) (tk : L2N.Takes X W) (ho : PE X o (tE T W mo)) (ha : PA X (e :: es) (tA T W ma))
    (ht : eval (.Call o (e :: es) [] pos) X.env = (do callWith pos (← eval o X.env) [] (backTo pos (starEach (e :: es) X.env)) (backToKw pos (keywordEach [] X.env))) := by rfl)
    (he : starEach (e :: es) X.env = (false, eval e X.env) :: starEach es X.env := by rfl) (hpl : (backTo pos (starEach es X.env)).any (·.1) = false := by rfl) (hK : X.K = T.K := by rfl) :
    PE X (.Call o (e :: es) [] pos) (tE T W (eCallO (tabA n tab) mo ma)) := by
  refine ⟨fun pins s σ H Q I h => ?_⟩
  have h : tE T W mo σ H fun x H1 => ∃ a, x = V.ref a ∧ tA T W ma σ H1 fun vs H2 => ∃ (C dx f : Addr) (fs : List (Str × V)) (mf : List Vl → M Vl) (fd : FuncData) (ps : List Str), H2 a = some (.ins C dx fs) ∧ StX.CallO T.K C f ∧ FnG X.prog X.w X.K X.mg X.base k f fd ps (SpM T (n + 1) mf) ∧ Binds X.K fd ps [] ∧
      SpM T (n + 1) mf (.ref a :: vs ++ []) H2 Q fun c d H' => W c d σ H' := tG_bnd (R := RV T) h fun ρ s lo x z H1 r rl hx p => by
    cases hx with
    | ref hρ =>
      rename_i j a
      refine ⟨a, rfl, po_bnd (R := RVs T) (m := ma) r rl p fun ρ' s' as zs H' ext r' rl' has p' => ?_⟩
      split at p'
      · rename_i c fs hj
        split at p'
        · rename_i mf hm
          unfold tabA at hm
          obtain ⟨mf0, hm0, rfl⟩ := Option.map_eq_some_iff.mp hm
          obtain ⟨C, dx, vs, h1, h2, h3, h4⟩ := r'.ins hj (ext.pre _ _ hρ)
          obtain ⟨f, fd, ps, k2, k3, k4⟩ := ok c mf0 hm0 C h1
          refine ⟨C, dx, f, vs, mf0, fd, ps, h2, k2, k3, k4, ?_⟩
          unfold arg at p'
          split at p'
          · rename_i hl
            rw [List.append_nil]
            exact spM_of r' (.cons (.ref (ext.pre _ _ hρ)) has) hl p'
          · exact p'.elim
        · exact p'.elim
      · exact p'.elim
    | _ => exact p.elim
  refine Call_ (thn (ho.run pins s σ H _ I h) fun u s1 ⟨y, H1, I1, ry, a, ey, q⟩ => ?_) ht
  subst ey
  obtain rfl : u = Value.ref a := ry
  refine StX.callO_with (thn (ha.run pos pins s1 σ H1 _ I1 q) fun us s2 ⟨vs, H2, I2, r, C, dx, f, fs, mf, fd, ps, hi, co, F, hb, q2⟩ => ?_) he hpl
  obtain ⟨ox, od, J, hd⟩ := StX.insC_at (C := C) I2 (.inr ⟨dx, fs, hi⟩)
  rw [← hK] at co
  exact ⟨⟨C, ox, od, J, hd⟩, wpAny_call (PySem.W.kco_code I2.kIn J hd co.at_ co.fn co.fi (code_G (us := .ref a :: us) (vs := .ref a :: vs) F hr hgd hb .nil tk I2 (.cons rfl r) q2))⟩
end
end Sm

/-! S20: str.join, dict(d), sorted(d) -/
namespace Sm
open PySem L2
section
variable {X : Cx} {T : Tb}
/-- x.join(list of strs) -/
def oJoin : OMt
  | .str a, [x], s => match lstOf x s with
    | some xs => match mapO asStr xs with
      | some ys => if (ys.map (·.length)).sum + ys.length * a.length ≤ LIM then some (.str (Txt.join a ys), s) else none
      | none => none
    | none => none
  | _, _, _ => none
/-- dict(d) -/
def oDict : OC
  | [.ref j], s => match s[j]? with
    | some (.dic kvs) => some (.ref s.length, s ++ [.dic kvs])
    | _ => none
  | _, _ => none
end
end Sm

/-! S21: texts in order; sorted of lists, sets and dicts -/
namespace Sm
open PySem L2 PySem.Spec
theorem lt_irr : ∀ a : List Nat, ltCps a a = false
  | [] => rfl
  | x :: a => by simp [ltCps, lt_irr a]
theorem lt_anti : ∀ a b : List Nat, ltCps a b = false → ltCps b a = false → a = b
  | [], [], _, _ => rfl
  | [], _ :: _, h, _ => by simp [ltCps] at h
  | _ :: _, [], _, h => by simp [ltCps] at h
  | x :: a, y :: b, h1, h2 => by
    simp [ltCps] at h1 h2
    have e : x = y := Nat.le_antisymm h2.1 h1.1
    subst e
    rw [lt_anti a b (h1.2 rfl) (h2.2 rfl)]
/-- a ≤ b is: not b < a -/
theorem le_trans3 : ∀ a b c : List Nat, ltCps b a = false → ltCps c b = false → ltCps c a = false
  | [], _, [], _, _ => rfl
  | [], [], _ :: _, _, _ => by simp [ltCps]
  | [], _ :: _, _ :: _, _, _ => by simp [ltCps]
  | _ :: _, [], _, h, _ => by simp [ltCps] at h
  | _ :: _, _ :: _, [], _, h => by simp [ltCps] at h
  | x :: a, y :: b, z :: c, h1, h2 => by
    simp [ltCps] at h1 h2 ⊢
    refine ⟨by omega, fun e => ?_⟩
    have e1 : y = x := by omega
    have e2 : z = y := by omega
    exact le_trans3 a b c (h1.2 e1) (h2.2 e2)
abbrev leS (a b : Str) : Prop := ltCps b.cps.toList a.cps.toList = false
def insT (x : Str) : List Str → List Str
  | [] => [x]
  | y :: ys => if ltCps y.cps.toList x.cps.toList then y :: insT x ys else x :: y :: ys
def srtT : List Str → List Str
  | [] => []
  | x :: xs => insT x (srtT xs)
/-- all keys texts -/
def strKeys : List (Key × Vl) → Option (List Str)
  | [] => some []
  | (.inr x, _) :: r => (strKeys r).map (x :: ·)
  | _ => none
/-- sorted of ints (list, set), of texts (list, keys of a dict) -/
def oSort : OC
  | [.ref j], s => match s[j]? with
    | some (.lst xs) => match mapO asInt xs with
      | some ns => some (.ref s.length, s ++ [.lst ((srt ns).map Vl.int)])
      | none => match mapO asStr xs with
        | some zs => if zs.length < 64 then some (.ref s.length, s ++ [.lst ((srtT zs).map Vl.str)]) else none
        | none => none
    | some (.set xs) => if xs.length < 64 then some (.ref s.length, s ++ [.lst ((srt xs).map Vl.int)]) else none
    | some (.dic kvs) => match strKeys kvs with
      | some ks => if ks.length < 64 then some (.ref s.length, s ++ [.lst ((srtT ks).map Vl.str)]) else none
      | none => none
    | _ => none
  | _, _ => none
theorem RVs.strs {T : Tb} {ρ : List Addr} {H : Hp} : ∀ zs : List Str, RVs T ρ H (zs.map Vl.str) (zs.map V.str)
  | [] => .nil
  | z :: zs => .cons (.str z) (RVs.strs zs)
section
variable {X : Cx} {T : Tb}
end
end Sm

/-! S25: targets within targets, op=, chains of comparisons, isinstance, get, setdefault, dict(pairs), len of own objects -/
namespace Sm
open PySem L2
/-! ### targets -/
def gAll : List GM → List Vl → Lo → Sto → Option (Lo × Sto)
  | [], [], lo, s => some (lo, s)
  | g :: gs, v :: vs, lo, s => match g v lo s with
    | .ok lo' s' => gAll gs vs lo' s'
    | _ => none
  | _, _, _, _ => none
def gTs (gs : List GM) : GM := fun v lo s => match v with
  | .tup xs => match gAll gs xs lo s with
    | some (lo', s') => .ok lo' s'
    | none => .fail
  | _ => .fail
def tGts (T : Tb) (gs : List GM) : TGs := fun zs σ H Q => ∃ (ρ : List Addr) (s : Sto) (lo : Lo) (vs : List Vl) (lo' : Lo) (s' : Sto), Rel T ρ H s ∧ RL T ρ H lo σ ∧ RVs T ρ H vs zs ∧ gAll gs vs lo s = some (lo', s') ∧ PoN T ρ H lo' s' Q
theorem gAll_len : ∀ {gs : List GM} {vs : List Vl} {lo : Lo} {s : Sto} {r : Lo × Sto}, gAll gs vs lo s = some r → vs.length = gs.length
  | [], [], _, _, _, _ => rfl
  | [], _ :: _, _, _, _, h => by cases h
  | _ :: _, [], _, _, _, h => by cases h
  | g :: gs, v :: vs, lo, s, r, h => by
    unfold gAll at h
    split at h
    · rw [List.length_cons, List.length_cons, gAll_len h]
    · cases h
section
variable {X : Cx} {T : Tb} {W : WX} {e : Expr} {es : List Expr} {g : GM} {gs : List GM} {pos : Pos} {kk : Nat}
end
/-! ### x op= e -/
def sAug (i : Nat) (f : O2) (e : EM) : SM := fun lo s => match lo[i]? with
  | some (some x) => bndS e (fun lo v s => match f x v s with
    | some (z, s') => .nx (lo.set i (some z)) s'
    | none => .fail) lo s
  | _ => .fail
def opIAdd : O2 := fun a b s => match a, b with
  | .int i, .int j => some (.int (i + j), s)
  | .str i, .str j => if i.length + j.length ≤ LIM then some (.str (i ++ j), s) else none
  | _, _ => none
def opISub : O2 := fun a b s => match a, b with
  | .int i, .int j => some (.int (i - j), s)
  | _, _ => none
section
variable {X : Cx} {T : Tb} {W : WX} {e : Expr} {me : EM} {f : O2} {op : Operator} {pos pos' : Pos}
end
/-- o.f op= e -/
def sFldA (cs : List Nat) (f : Str) (op : O2) (o e : EM) : SM := bndS o fun lo x s => match x with
  | .ref j => match s[j]? with
    | some (.ins c fs) => if c ∈ cs then match getS fs f with
        | some v => bndS e (fun lo y s => match op v y s with
          | some (z, s') => match setFld cs f (.ref j) z s' with
            | some s2 => match s'[j]? with
              | some (.ins c' _) => if c' = c then .nx lo s2 else .fail
              | _ => .fail
            | none => .fail
          | none => .fail) lo s
        | none => .fail
      else .fail
    | _ => .fail
  | _ => .fail
section
variable {X : Cx} {T : Tb} {W : WX} {o value : Expr} {mo me : EM} {op : O2} {oper : Operator} {cs : List Nat} {f : Str} {pos tpos : Pos}
end
/-! ### a op b op' c -/
def eChain (f f' : O2) (a b c : EM) : EM := fun lo => bnd (a lo) fun x => bnd (b lo) fun y => bnd (lift (f x y)) fun z => match z with
  | .bl true => bnd (c lo) fun w => lift (f' y w)
  | .bl false => ret (.bl false)
  | _ => failM
section
variable {X : Cx} {T : Tb} {W : WX} {a b c : Expr} {ma mb mc : EM} {f f' : O2} {op op' : CmpOp} {pos : Pos}
end
/-! ### isinstance(x, T) -/
def tyN (x : Vl) (s : Sto) : Option String := match x with
  | .non => some "NoneType"
  | .bl _ => some "bool"
  | .int _ => some "int"
  | .str _ => some "str"
  | .tup _ => some "tuple"
  | .ref j => match s[j]? with
    | some (.lst _) => some "list"
    | some (.dic _) => some "dict"
    | some (.dit _) => some "dict"
    | _ => none
  | _ => none
def isB (t n : String) : Option Bool :=
  if n = "int" then (if t = "int" ∨ t = "bool" then some true else some false)
  else if n = "bool" ∨ n = "str" ∨ n = "tuple" ∨ n = "list" ∨ n = "dict" then some (decide (t = n)) else none
def oIsi : OC
  | [x, .ty n], s => match tyN x s with
    | some t => match isB t n with
      | some b => some (.bl b, s)
      | none => none
    | none => none
  | _, _ => none
section
variable {X : Cx} {T : Tb} {W : WX}
end
/-! ### d.get(k), d.get(k, x), d.setdefault(k, x) -/
def isDic (j : Nat) (s : Sto) : Bool := match s[j]? with
  | some (.dic _) => true
  | _ => false
def eDGet1 (d k : EM) : EM := fun lo => bnd (d lo) fun x s => match x with
  | .ref j => if isDic j s then bnd (k lo) (fun y s => match s[j]?, keyOf y with
    | some (.dic kvs), some key => .ok ((look kvs key).getD .non) s
    | _, _ => .fail) s else .fail
  | _ => .fail
def eDGet2 (d k v : EM) : EM := fun lo => bnd (d lo) fun x s => match x with
  | .ref j => if isDic j s then bnd (k lo) (fun y => bnd (v lo) fun z s => match s[j]?, keyOf y with
    | some (.dic kvs), some key => .ok ((look kvs key).getD z) s
    | _, _ => .fail) s else .fail
  | _ => .fail
def eDSet (d k v : EM) : EM := fun lo => bnd (d lo) fun x s => match x with
  | .ref j => if isDic j s then bnd (k lo) (fun y => bnd (v lo) fun z s => match s[j]?, keyOf y with
    | some (.dic kvs), some key => if kvs.length < LIM then (match look kvs key with
      | some w => .ok w s
      | none => .ok z (s.set j (.dic (put kvs key z)))) else .fail
    | _, _ => .fail) s else .fail
  | _ => .fail
theorem put_none {κ : Type} [DecidableEq κ] {k : κ} {v : Vl} : ∀ {kvs : List (κ × Vl)}, look kvs k = none → put kvs k v = kvs ++ [(k, v)]
  | [], _ => rfl
  | p :: r, h => by
    unfold look at h
    split at h
    · cases h
    · rename_i q
      unfold put
      rw [if_neg q, put_none h]
      rfl
section
variable {X : Cx} {T : Tb} {W : WX} {o e f : Expr} {apos cpos : Pos} {md mk mv : EM}
end
end Sm

/-! S26: len of own objects, dict(list of pairs), min and max of a list of ints -/
namespace Sm
open PySem L2 PySem.W
section
variable {prog : Program} {w : World} {A : Around} {E : Value → Shared → Prop} {s : Shared} {K : Frag} {x C f : Addr} {ox : Obj} {od : Option Obj}
end
structure LenO (K : PySem.W.Frag) (C f : Addr) : Prop where
  at_ : PySem.W.findIn K (.ref C) "__len__" = some (some (.ref f))
  fn : PySem.W.isFn K (.ref f) = true
def eLenO (tab : MTab) (o : EM) : EM := fun lo => bnd (o lo) fun x s => match x with
  | .ref j => match s[j]? with
    | some (.ins c fs) => match tab c with
      | some mf => match mf [.ref j] s with
        | .ok (.int n) s' => if 0 ≤ n ∧ n < 2 ^ 62 then .ok (.int n) s' else .fail
        | .exc e s' => .exc e s'
        | _ => .fail
      | none => .fail
    | _ => .fail
  | _ => .fail
def LenOk (X : Cx) (T : Tb) (k : Nat) (tab : MTab) : Prop := ∀ c mf, tab c = some mf → ∀ C, T.cl[c]? = some C → ∃ (f : Addr) (fd : FuncData) (ps : List Str), LenO T.K C f ∧ FnG X.prog X.w X.K X.mg X.base k f fd ps (SpM T 1 mf) ∧ Binds X.K fd ps []
section
variable {X : Cx} {T : Tb} {W : WX} {k : Nat} {p pos : Pos} {o : Expr} {mo : EM}
end
/-! ### dict(list of pairs), min, max -/
def asPr : Vl → Option (Key × Vl)
  | .tup [k, v] => match keyOf k with
    | some key => some (key, v)
    | none => none
  | _ => none
def oDictP : OC
  | [x], s => match lstOf x s with
    | some xs => match mapO asPr xs with
      | some kvs => some (.ref s.length, s ++ [.dic (mergeP [] kvs)])
      | none => none
    | none => none
  | _, _ => none
section
variable {X : Cx} {T : Tb}
end
end Sm

/-! S27: enumerate(tuple); min and max of a list of ints -/
namespace Sm
open PySem L2 PyProof.Rows
open AutoSeq1 (wpAny_loadPart')
section
variable {prog : Program} {w : World} {A : Around} {E : Value → Shared → Prop} {s : Shared}
end
def IteT (K : PySem.W.Frag) (a : Addr) (n : Nat) : It where
  go := fun i H => ∃ (xs : List V) (x : V), SqT K H a xs ∧ xs[i]? = some x ∧ xs.length = n
  yld := fun i H v H' => ∃ T x, v = .ref T ∧ H T = none ∧ H' = upd H T (.tup [.int (i : Nat), x]) ∧ ∀ xs, SqT K H a xs → xs[i]? = some x
  stop := fun i H => ∃ xs : List V, SqT K H a xs ∧ xs.length = n ∧ n ≤ i
theorem IsTup.tuple {h : Heap} {a : Addr} {its : Array Value} (x : IsTup h a its) : h.IsTuple a its := x
def iEnumT (K : PySem.W.Frag) (ta : TA) : TI := fun σ H R => ta σ H fun vs H1 => ∃ a xs, vs = [.ref a] ∧ SqT K H1 a xs ∧ R (IteT K a xs.length) H1
/-! ### its reading -/
def enmL (xs : List Vl) : List Vl := xs.zipIdx.map fun p => .tup [.int (p.2 : Nat), p.1]
def aEnm (e : AM) : AM := fun lo => bnd (e lo) fun as => match as with
  | [.tup xs] => ret (enmL xs)
  | _ => failM
section
variable {X : Cx} {T : Tb} {W : WX} {p pos : Pos}
end
/-! ### min, max of a list of ints -/
def maxL : List Int → Int
  | [] => 0
  | [x] => x
  | x :: xs => max x (maxL xs)
def minL : List Int → Int
  | [] => 0
  | [x] => x
  | x :: xs => min x (minL xs)
def oMaxL : OC
  | [x], s => match lstOf x s with
    | some xs => match mapO asInt xs with
      | some ns => if 0 < ns.length then some (.int (maxL ns), s) else none
      | none => none
    | none => none
  | _, _ => none
def oMinL : OC
  | [x], s => match lstOf x s with
    | some xs => match mapO asInt xs with
      | some ns => if 0 < ns.length then some (.int (minL ns), s) else none
      | none => none
    | none => none
  | _, _ => none
section
variable {X : Cx} {T : Tb}
end
end Sm

/-! S28: defs with defaults -/
namespace Sm
open PySem PySem.Spec PyProof.Rows L2
/-- how it binds where the last parameters are not given -/
structure BindD (K : PySem.W.Frag) (fd : FuncData) (ps : List Str) (das : List Vl) : Prop where
  ex : ∃ (ds : List Value) (dvs : List V), Vals dvs ds ∧ Binds K fd ps ds ∧ ∀ (T : Tb) (ρ : List Addr) (H : Hp), T.K = K → RVs T ρ H das dvs
def dflM (n : Nat) (das : List Vl) (mf : List Vl → M Vl) : List Vl → M Vl := fun as s => if as.length + das.length = n then mf (as ++ das) s else .fail
section
variable {X : Cx} {T : Tb} {W : WX} {k : Nat} {f : Addr} {mf : List Vl → M Vl} {x : Str} {p pos : Pos} {e : Expr} {es : List Expr} {ma : AM}
end
end Sm

/-! S31: a list unpacked into targets -/
namespace Sm
open PySem L2
def gUl (gs : List GM) : GM := fun v lo s => match v with
  | .ref j => match s[j]? with
    | some (.lst xs) => match gAll gs xs lo s with
      | some (lo', s') => .ok lo' s'
      | none => .fail
    | _ => .fail
  | _ => .fail
section
variable {X : Cx} {T : Tb} {W : WX} {es : List Expr} {gs : List GM} {pos : Pos} {kk : Nat}
end
end Sm

/-! S34: f-strings, x or y of lists, split() -/
namespace Sm
open PySem L2
/-- {x}: a text or an int -/
def fmtM (x : Vl) : M Vl := fun s => match x with
  | .str y => if y.length ≤ LIM then .ok (.str y) s else .fail
  | .int i => if i.natAbs.log2 < 1920 then .ok (.str (Str.ofString (toString i))) s else .fail
  | _ => .fail
def eFmt (m : EM) : EM := fun lo => bnd (m lo) fmtM
/-- the parts of a text one behind the other -/
def jnd : List EM → Str → EM
  | [], acc => fun _ => ret (.str acc)
  | m :: ms, acc => fun lo => bnd (m lo) fun x s => match x with
    | .str y => if (acc ++ y).length ≤ LIM then jnd ms (acc ++ y) lo s else .fail
    | _ => .fail
def eJnd (ms : List EM) : EM := jnd ms Str.empty
/-- x or y, x a list -/
def eOrL (a b : EM) : EM := fun lo => bnd (a lo) fun x s => match lstOf x s with
  | some xs => if xs.isEmpty = true then b lo s else .ok x s
  | none => .fail
/-- x.split() -/
def oSplit0 : OMt
  | .str a, [], s => if a.length + 2 ≤ LIM then some (.ref s.length, s ++ [.lst ((Txt.words a).map Vl.str)]) else none
  | _, _, _ => none
/-- str(x): texts, ints, tuples -/
def oStrD : OC
  | [.str y], s => some (.str y, s)
  | [.int i], s => if i.natAbs.log2 < 1920 then some (.str (Str.ofString (toString i)), s) else none
  | [.tup xs], s => match toD 40 s (.tup xs) with
    | some d => if d.showable && decide (d.shown.length ≤ LIM) then some (.str d.shown, s) else none
    | none => none
  | _, _ => none
section
variable {X : Cx} {T : Tb} {W : WX} {a b e : Expr} {ma mb m : EM} {pos : Pos} {rest es : List Expr} {ms : List EM}
end
end Sm

/-! S42: own exceptions with one field: raise C(e) -/
namespace Sm
section
open PySem PySem.W PySem.Calls PyProof.Rows PySem.HandSPX Builtin Builtin.ObjectAttr
variable {prog : Program} {w : World} {A : Around} {R : Result → Shared → Prop} {hp : Heap} {g : Array GenState} {d : Drawn} {t : Nat} {os : OsState}
/-- the first field of an exception of any base -/
theorem ox_store {K : W.Frag} {nm : Str} {tk : Tok} {v : Value} {e C : Addr} {fv : Array Value} {cd : ClassData} (kin : K.In hp) (he : hp.get? e = some { cls := .ref C, data := .fields fv }) (hcd : W.clsIn K C = some cd) (hob : cd.mro.contains (.type "object") = true)
    (pass : ∀ z : Value, refuseLoop z "__setattr__" cd.mro = pure ()) (hdict : cd.hasDict = true) (hnone : W.findIn K (.ref C) nm = some none)
    (fin : ∀ h' tk' dx, (∀ b o, b ≠ e → hp.get? b = some o → h'.get? b = some o) → hp.objs.size ≤ dx → dx ≠ e → h'.get? e = some { cls := .ref C, dict := some dx, data := .fields fv } → h'.Ns1 dx (fun y => if y = nm then some v else none) → R (.ok (.ret .none)) ⟨h', g, d, tk', os⟩) :
    codeAny (model prog w) A (.call (.builtin "object.__setattr__") ⟨[.ref e, .str nm tk, v], []⟩) R ⟨hp, g, d, t, os⟩ := by
  have inst : W.InstAt hp e { cls := .ref C, data := .fields fv } C none := ⟨he, rfl, rfl, trivial⟩
  have sf := F.store_object
  have nemp : cd.mro.isEmpty = false := by
    cases q : cd.mro with
    | nil => rw [q] at hob; simp at hob
    | cons _ _ => rfl
  have apart : e ≠ hp.objs.size := Nat.ne_of_lt (Heap.lt_size he)
  have isob : W.Looks (model prog w) hp (isInstance (.ref e) (.type "object")) true := inst.type.andThen (W.looks_mroIn kin (by unfold W.mroIn; rw [hcd, Option.bind_some, if_neg (by rw [nemp]; decide), hob]))
  refine codeAny_call_builtin sf.slot.plain sf.entry (@W.check_slot (model prog w) _ _ ⟨hp, g, d, t, os⟩ "object.__setattr__" "object" "__setattr__" (.ref e) [.str nm tk, v] [] _ sf.kind sf.split isob (sf.args (.ref e) (.str nm tk) v) ?_)
  have lm : W.Looks (model prog w) hp (mroOf (.ref C)) cd.mro := (W.looks_clsIn kin hcd).andThen .now
  have lt : W.Looks (model prog w) hp (storeTaker? none) none := .now
  have lc : W.Looks (model prog w) hp (classData C) cd := W.looks_clsIn kin hcd
  rw [W.osa_eq, refuse_eq]
  refine wpAny_bind (wpAny_bind (inst.type.at (wpAny_bind (lm.at ?_))))
  rw [pass]
  refine wpAny_pure (wpAny_bind (inst.type.at (wpAny_bind ((W.looks_findIn kin hnone).at (wpAny_bind (lt.at ?_))))))
  show wpAny _ _ (storeInOwnDict (.ref e) (.ref C) (.str nm tk) nm v false) _ _ _
  obtain ⟨nm', bs, mro, ns, qn, hd, sn, sb, ab, col, del⟩ := cd
  dsimp only at hdict
  subst hdict
  unfold storeInOwnDict ownDictForStores
  repeat (first | with_reducible refine store_in_new ?_ ?_ | with_reducible refine wpAny_loadPart_at he ?_ | with_reducible refine lc.at ?_ | wp_step)
  · exact ⟨_, #[], _, (Heap.get?_update_ne _ _ _ _ apart.symm).trans (Heap.get?_push_at rfl rfl), rfl, fun z hz => absurd hz (by simp), fun _ => rfl⟩
  · intro h' tk' hn' hs
    have he1 : (hp.push { cls := .type "dict", data := .dict #[] }).get? e = some { cls := .ref C, data := .fields fv } := Heap.get?_push_of_some _ he
    refine fin h' tk' hp.objs.size (fun b o hb ho => ?_) (Nat.le_refl _) apart.symm ?_ hn'
    · exact (hs.2 b (Nat.ne_of_lt (Heap.lt_size ho))).trans ((Heap.get?_update_ne _ _ _ _ hb).trans (Heap.get?_push_of_some _ ho))
    · exact (hs.2 e apart).trans (Heap.get?_update_self _ he1 rfl)
/-- what the written part says of the class x at C and of its __init__ at fI: def __init__(self, par): self.fld = par -/
structure OxT (K : W.Frag) (mg : Str → Option Value) (x fld : Str) (C fI : Addr) : Prop where
  gC : mg x = some (.ref C)
  cls : ∃ (B newId initId : String) (bmB : List Value) (nm q : Str) (N : Addr) (bs bm : List Value) (sn : List Str) (sub : List Value) (ab : Bool) (col : Option Bool) (dd : Option Addr) (k0 k1 k2 k3 k5 : Option Value), ExcBaseFacts B newId initId bmB ∧
    K.lookup C = some (excClassObj nm q C N bs bm true sn sub ab col dd k0 k1 k2 k3 k5 newId) ∧ (∀ Y : String, bm.contains (.type Y) = bmB.contains (.type Y)) ∧ (∀ v : Value, refuseLoop v "__setattr__" (.ref C :: bm) = pure ()) ∧ bm.contains (.type "object") = true
  sa : W.findIn K (.ref C) "__setattr__" = some (some (.builtin "object.__setattr__"))
  ga : W.findIn K (.ref C) "__getattribute__" = some (some (.builtin "BaseException.__getattribute__"))
  gg : W.findIn K (.ref C) "__getattr__" = some none
  noN : W.findIn K (.ref C) fld = some none
  iC : W.findIn K (.ref C) "__init__" = some (some (.ref fI))
  tI : W.typeIn K (.ref fI) = some (.type "function")
  kC : W.keepIn K (.ref C) = true
  exC : W.subIn K (.ref C) (.type "BaseException") = some true
  tyC : W.typeIn K (.ref C) = some (.type "type")
  hdC : W.hasDictIn K C = true
  fn : ∃ (qual par : Str) (st : Stmt) (fd : FuncData) (q1 q2 q3 q4 : Pos), L2.Fun K "__init__" qual st fI fd ∧ L2.Binds K fd ["self", par] [] ∧ L2.defBody st = [.Assign [.Attribute (.Name "self" q1) fld q2] (.Name par q3) q4] ∧
    (L2.defScope st).names.lookup (Str.ofString "self") = some NameKind.local ∧ (L2.defScope st).names.lookup par = some NameKind.local ∧ par ≠ "self" ∧ (par == ("__debug__" : Str)) = false ∧ (L2.defScope st).isCoroutine = false ∧ (L2.defScope st).isGenerator = false ∧ (L2.defScope st).kind = .function
end
section
open PySem PySem.W PySem.Calls PySem.Spec PyProof.Rows PySem.HandSPX L2
variable {prog : Program} {w : World} {A : Around} {E : Value → Shared → Prop} {R : Result → Shared → Prop} {s : Shared} {K : W.Frag} {mg : Str → Option Value} {C fI : Addr} {x fld : Str}
/-- what __init__ leaves of a fresh exception at e -/
structure OxEnd (fld : Str) (h h' : Heap) (e C dx t1 : Addr) (v : Value) : Prop where
  keep : ∀ b o, b ≠ e → h.get? b = some o → h'.get? b = some o
  obj : h'.get? e = some { cls := .ref C, dict := some dx, data := .fields #[.ref t1, .none, .none, .none, .bool false, .none] }
  big : h.objs.size ≤ dx
  ne : dx ≠ e
  ns : h'.Ns1 dx (fun y => if y = fld then some v else none)
/-- a made exception -/
structure OxMade (fld : Str) (h h' : Heap) (e C d : Addr) (v : Value) : Prop where
  keep : ∀ b o, h.get? b = some o → h'.get? b = some o
  new : h.objs.size ≤ e
  obj : ∃ oe vs, h'.get? e = some oe ∧ oe.cls = .ref C ∧ oe.dict = some d ∧ oe.data = .fields vs ∧ vs[1]? = some .none ∧ vs[2]? = some .none
  big : h.objs.size ≤ d
  ne : d ≠ e
  ns : h'.Ns1 d (fun y => if y = fld then some v else none)
end
section
open PySem PySem.Spec PyProof.Rows L2
variable {X : Cx} {T : Tb} {W : WX} {C fI : Addr} {x fld : Str} {a : Expr} {me : EM} {p pos pos2 : Pos} {k c : Nat}
def tMkX (C : Addr) (fld : Str) (ta : TA) : L2.St → Hp → XK → Prop := fun σ H Q => ta σ H fun vs H1 => ∃ v, vs = [v] ∧ ∀ d, H1 d = none → Q (.ref C) (some d) (upd H1 d (.xd [(fld, v)]))
/-- raise C(e): the class's index, the field -/
def sRaise (c : Nat) (fld : Str) (e : EM) : SM := bndS e fun lo v s => .exc ⟨c, some [(fld, v)]⟩ lo s
end
end Sm

/-! S43: try .. except C as n; what runs in such a suite -/
namespace Sm
open PySem PySem.Spec PyProof.Rows L2 L2H
/-- the same table, with other handled exceptions -/
abbrev Tb.on (T : Tb) (l : List XI) : Tb := ⟨T.K, T.w, T.cl, T.fns, l⟩
section
variable {T : Tb} {l : List XI} {ρ ρ' : List Addr} {H H' : Hp} {s : Sto} {lo : Lo} {σ : L2.St}
mutual
theorem RV.on : ∀ {x : Vl} {v : V}, RV T ρ H x v → RV (T.on l) ρ H x v
  | _, _, .non => .non
  | _, _, .bl b => .bl b
  | _, _, .int i => .int i
  | _, _, .str x => .str x
  | _, _, .tup h hs => .tup h (RVs.on hs)
  | _, _, .ref h => .ref h
  | _, _, .scr h => .scr h
  | _, _, .scrK h => .scrK h
  | _, _, .ty n => .ty n
  | _, _, .fn h => .fn h
theorem RVs.on : ∀ {xs : List Vl} {vs : List V}, RVs T ρ H xs vs → RVs (T.on l) ρ H xs vs
  | _, _, .nil => .nil
  | _, _, .cons h hs => .cons (RV.on h) (RVs.on hs)
end
theorem RO.on {o : Ob} {a : Addr} (h : RO T ρ H o a) : RO (T.on l) ρ H o a := by
  cases o with
  | lst xs => obtain ⟨vs, h, r⟩ := h; exact ⟨vs, h, r.on⟩
  | dic xs => obtain ⟨vs, h, n, r⟩ := h; exact ⟨vs, h, n, r.on⟩
  | dit xs => obtain ⟨vs, h, n, r⟩ := h; exact ⟨vs, h, n, r.on⟩
  | fdic xs => obtain ⟨o, vs, h, n, r⟩ := h; exact ⟨o, vs, h, n, r.on⟩
  | set xs => obtain ⟨n, S, q, h⟩ := h; exact ⟨n, S, q, h⟩
  | ins c xs => obtain ⟨C, dx, vs, hc, h, n, r⟩ := h; exact ⟨C, dx, vs, hc, h, n, r.on⟩
theorem Rel.on (r : Rel T ρ H s) : Rel (T.on l) ρ H s := ⟨r.len, r.nd, fun i a o h1 h2 => (r.ob i a o h1 h2).on⟩
theorem Ext.on (e : Ext T ρ H ρ' H') : Ext (T.on l) ρ H ρ' H' := ⟨⟨e.pre, e.tup, e.frz, e.xd⟩, e.frd⟩
theorem RL.leave {i : Nat} (hx : T.xs = []) (rl : RL (T.on l) ρ H lo σ) : RL T ρ H (lo.set i none) (σ.set i none) := by
  refine ⟨by rw [List.length_set, List.length_set]; exact rl.len, fun j x h => ?_, fun p hp => by rw [hx] at hp; simp at hp⟩
  by_cases e : i = j
  · subst e
    by_cases hi : i < lo.length
    · rw [List.getElem?_set_self hi] at h; cases h
    · rw [List.getElem?_eq_none (by rw [List.length_set]; omega)] at h; cases h
  · rw [List.getElem?_set_ne e] at h ⊢
    obtain ⟨v, h1, h2⟩ := rl.at_ j x h
    exact ⟨v, h1, h2.on (l := T.xs)⟩
end
/-- try: b; except C as n: su; n's slot is i -/
def sTryAs (hit : Nat → Option Bool) (i : Nat) (b : SM) (su : Ex → SM) : SM := fun lo s => match b lo s with
  | .exc e lo' s' => match hit e.c with
    | some true => match e.fs with
      | some _ => match su e (lo'.set i none) s' with
        | .nx lo2 s2 => .nx (lo2.set i none) s2
        | .rt v s2 => .rt v s2
        | .bk lo2 s2 => .bk (lo2.set i none) s2
        | .ct lo2 s2 => .ct (lo2.set i none) s2
        | _ => .fail
      | none => .fail
    | some false => .exc e lo' s'
    | none => .fail
  | r => r
section
variable {X : Cx} {T : Tb} {W : WX} {x n : Str} {Cc : Addr} {i : Nat} {body suite : List Stmt} {b0 : Stmt} {np pos pos' : Pos} {mb : SM} {su : Ex → SM} {hit : Nat → Option Bool}
def tSuite (T : Tb) (i : Nat) (hit : Nat → Option Bool) (su : Ex → SM) : Addr → Value → Option Addr → TS := fun a cls d D σ H => ∃ (e : Ex) (C dd : Addr) (fs : List (Str × Vl)), cls = .ref C ∧ d = some dd ∧ e.fs = some fs ∧ T.cl[e.c]? = some C ∧ hit e.c = some true ∧
  tS (T.on [⟨i, a, dd, fs.map (·.1), fs.map (·.2)⟩]) WF (su e) D σ H
/-- n.f in the suite: the field of the handled exception -/
def eXf (i : Nat) (e : Ex) (f : Str) : EM := fun lo s => match lo[i]?, e.fs with
  | some none, some fs => match getS fs f with
    | some v => .ok v s
    | none => .fail
  | _, _ => .fail
end
end Sm

/-! S44: defs and methods called while an exception is handled -/
namespace Sm
open PySem PySem.Spec PyProof.Rows L2 L2H
/-- the methods m of the classes of tab, where an exception is handled -/
def MethOkH (X : Cx) (T : Tb) (m : Str) (k n : Nat) (tab : MTab) : Prop := ∀ c mf, tab c = some mf → ∀ C, T.cl[c]? = some C → ∃ (f : Addr) (fd : FuncData) (ps : List Str), Cls T.K C ∧ Meth T.K C m f ∧ FnH X.prog X.w X.K X.mg X.base (L2N.CX X.prog X.w) k f fd ps (SpM T (n + 1) mf) ∧ Binds X.K fd ps []
section
variable {X : Cx} {T : Tb} {l : List XI} {W : WX} {o : Expr} {apos pos : Pos} {mo : EM} {E : XK} {ρ : List Addr} {H : Hp} {Q : VK}
end
end Sm

/-! S45: super().__init__(..) at the begin of a def -/
namespace Sm
open PySem PySem.Spec PyProof.Rows L2
/-- the context of a def that closes over __class__ -/
def cxS (CX : CXT) (P : Program) (w : World) (K : PySem.W.Frag) (mg : Str → Option Value) (base : Heap) (N : List Str) (qual : Str) (scope : Scope) (f : Addr) (cd : Value) (cc : Addr) (A : Around) (outer : List Env) (s : Shared) (H : Hp) (E : XK) : Cx where
  prog := P
  w := w
  K := K
  mg := mg
  base := base
  A := A.deeper (PySem.W.ksEnv qual scope s.heap.objs.size f cd cc)
  N := N
  s_0 := s
  H_0 := H
  env := PySem.W.ksEnv qual scope s.heap.objs.size f cd cc
  outer := outer
  stack := PySem.W.ksEnv qual scope s.heap.objs.size f cd cc :: outer
  ex := []
  calm := true
  fn := fun y => y != "__class__"
  pn := []
  xe := fun e s' => wpAny (model P w) (A.deeper (PySem.W.ksEnv qual scope s.heap.objs.size f cd cc)) (leaving (PySem.W.ksEnv qual scope s.heap.objs.size f cd cc) e) (fun _ s'' => CX outer H s E e s'') (fun e' s'' => CX outer H s E e' s'') s'
structure FnScopeS (N P : List Str) (sc : Scope) : Prop where
  kind : sc.kind = .function
  co : sc.isCoroutine = false
  gen : sc.isGenerator = false
  nd : N.Nodup
  pre : N.take P.length = P
  par : ∀ x ∈ P, sc.names.lookup x = some .local
  nocell : ∀ y ∈ sc.names, y.2 ≠ .cell
  free : ∀ y ∈ sc.names, y.2 = .free → y.1 = "__class__"
  sup : sc.names.lookup (Str.ofString "super") = some NameKind.globalImplicit
  cls : sc.names.lookup (Str.ofString "__class__") = some NameKind.free
/-- super().__init__(..): the next __init__ behind D in the class's order; self in slot 0 -/
def eSup (tab : MTab) (a : AM) : EM := fun (lo : Lo) (s : Sto) => match (lo[0]? : Option (Option Vl)) with
  | some (some (.ref j)) => match s[j]? with
    | some (.ins c _) => match tab c with
      | some mf => bnd (a lo) (fun as => mf (.ref j :: as)) s
      | none => .fail
    | _ => .fail
  | _ => .fail
/-- the __init__ behind D of the classes of tab -/
def SupOk (P : Program) (w : World) (K : PySem.W.Frag) (mg : Str → Option Value) (base : Heap) (T : Tb) (D : Addr) (k n : Nat) (tab : MTab) : Prop := ∀ c mf, tab c = some mf → ∀ C, T.cl[c]? = some C → ∃ (f : Addr) (fd : FuncData) (ps : List Str),
  PySem.W.mroIn K C (.ref D) = some true ∧ PySem.W.ks_superIn K C D "__init__" = some (some (.ref f)) ∧ PySem.W.typeIn K (.ref f) = some (.type "function") ∧ PySem.W.fnIn K f = true ∧ FnG P w K mg base k f fd ps (SpM T (n + 1) mf) ∧ Binds K fd ps []
/-- what the written part says of such a def -/
structure FunS (K : PySem.W.Frag) (mg : Str → Option Value) (qual file : Str) (st : Stmt) (f : Addr) (fd : FuncData) (D cc cda : Addr) : Prop where
  ex : ∃ (oc : Value) (od : Option Addr) (kV doc pm : Value) (an : Option Addr) (ct : Value) (osl : Array (Option Value)),
    fd = PySem.W.ksFn "__init__" qual (defArgs st) (defBody st) (defScope st) .none kV doc pm an (.ref cda) ct cc ∧ K.lookup f = some ⟨oc, od, .func fd, osl⟩ ∧ PySem.W.codeIn K (.ref cda) qual = true
  kp : PySem.W.keepIn K (.ref f) = true
  code : ∃ (ccl : Value) (cdd : Option Addr) (vs : Array Value) (ccs : Array (Option Value)) (tf : Tok), K.lookup cda = some ⟨ccl, cdd, .fields vs, ccs⟩ ∧ vs[2]? = some (.str file tf)
  cell : ∃ (cl : Value) (cld : Option Addr) (csl : Array (Option Value)), K.lookup cc = some ⟨cl, cld, .cell (some (.ref D)), csl⟩
  cls : ∃ cdD, PySem.W.clsIn K D = some cdD
  opq : PySem.W.nsIn K cStatics "thirdparty.any" = some none
  sup : mg "super" = none
section
variable {T : Tb} {W : WX} {σ : L2.St} {H : Hp} {D : Ends} {tab : MTab} {ma : AM} {mr : SM} {P : Program} {w : World} {K : PySem.W.Frag} {mg : Str → Option Value} {base : Heap} {k n : Nat} {Dc : Addr}
end
end Sm

/-! S46: a written dict of defs, the call of a local that holds a def, keywords -/
namespace Sm
open PySem PySem.Spec PyProof.Rows L2
theorem takesN {X : Cx} : L2N.Takes X WF := fun _ _ ⟨_, _, _, _, _, _, _, _, _, _, _, _, _, _, _, _, w⟩ => w.elim
/-- D[e], D a written dict with the str keys of tbl -/
def eKix (tbl : List (Str × Vl)) (e : EM) : EM := fun lo => bnd (e lo) fun v s => match v with
  | .str z => match getS tbl z with
    | some u => .ok u s
    | none => .fail
  | _ => .fail
/-- f(..), f a local that holds a def -/
def eCallF (i : Nat) (tab : MTab) (a : AM) : EM := fun (lo : Lo) (s : Sto) => match (lo[i]? : Option (Option Vl)) with
  | some (some (.fn j)) => match tab j with
    | some mf => bnd (a lo) mf s
    | none => .fail
  | _ => .fail
def tabF (n : Nat) (tab : MTab) : MTab := fun c => (tab c).map (arg n)
/-- f(.., k = ..) -/
def eCallK (n : Nat) (das : List Vl) (m : Nat) (mf : List Vl → M Vl) (a k : AM) : EM := fun lo => bnd (a lo) fun as => bnd (k lo) fun zs s => if as.length = n ∧ zs.length = m then mf (as ++ das ++ zs) s else .fail
section
variable {X : Cx} {T : Tb} {W : WX} {k n i : Nat} {f : Addr} {fd : FuncData} {ps : List Str} {mf : List Vl → M Vl} {x : Str} {p pos : Pos} {e : Expr} {es : List Expr} {ma mk : AM} {me : EM}
/-- the defs of the table -/
def FnsOk (X : Cx) (T : Tb) (k n : Nat) (tab : MTab) : Prop := ∀ j mf, tab j = some mf → ∀ f, T.fns[j]? = some f → ∃ (fd : FuncData) (ps : List Str), PySem.W.keepIn X.K (.ref f) = true ∧ FnG X.prog X.w X.K X.mg X.base k f fd ps (SpM T n mf) ∧ Binds X.K fd ps []
/-- how a call with keywords binds: das between -/
structure BindKw (K : PySem.W.Frag) (fd : FuncData) (ps : List Str) (n : Nat) (ks : List Str) (das : List Vl) : Prop where
  ex : ∃ (its : List Value) (dvs : List V), KBn K fd ps n ks (fun us ws => us ++ its ++ ws) (fun vs zs => vs ++ dvs ++ zs) ∧ ∀ (T : Tb) (ρ : List Addr) (H : Hp), T.K = K → RVs T ρ H das dvs
end
/-! how binding facts are made -/
section
variable {K : PySem.W.Frag} {x qual : Str} {params : Arguments} {body : List Stmt} {scope : Scope} {dvs : List V} {kws : List (Str × V)} {f : Addr} {fd : FuncData} {ps ks : List Str} {n : Nat}
end
end Sm

/-! S151: [e for a in xs for b in (..)] -/
namespace Sm
open PySem PySem.Spec PyProof.Rows L2
def lcStep2 (ma : AM) (g : GL) (e : EM) (d : Nat) (ws : List Nat) (lo : Lo) (s : Sto) : Option Sto := match ma lo s with
  | .ok xs s1 => lcX g tTrue e d (wipeL lo ws) xs s1
  | _ => none
def lcN2 (nx : NX) (g : GL) (ma : AM) (g1 : GL) (e : EM) (d : Nat) (ws : List Nat) (lo : Lo) : Nat → Nat → Sto → Option Sto
  | 0, _, _ => none
  | n + 1, i, s => match nx i s with
    | none => none
    | some none => some s
    | some (some v) => match g v lo with
      | none => none
      | some lo' => match lcStep2 ma g1 e d ws lo' s with
        | none => none
        | some s' => lcN2 nx g ma g1 e d ws lo n (i + 1) s'
def eLc2 (n : Nat) (m : IM) (g : GL) (ma : AM) (g1 : GL) (e : EM) (vs ws : List Nat) : EM := fun lo => bnd (m lo) fun nx s => match lcN2 nx g ma g1 e s.length ws (wipeL lo vs) n 0 (s ++ [.lst []]) with
  | some s' => .ok (.ref s.length) s'
  | none => .fail
section
variable {X : Cx} {T : Tb} {W : WX} {pos : Pos}
end
end Sm

/-! S197: own operators (__and__, __or__, __sub__ ..) between own objects -/
namespace PySem.W
open PySem PySem.Calls PyProof.Rows Builtin
section
variable {prog : Program} {w : World} {A : Around} {E : Value → Shared → Prop} {s : Shared} {K : Frag} {name : Str} {C : Addr}
/-- what stands after an AttributeError has been made -/
def AErr (h h' : Heap) (e : Addr) : Prop := (∀ b o, h.get? b = some o → h'.get? b = some o) ∧ ∃ o, h'.get? e = some o ∧ o.cls = .type "AttributeError"
theorem raise_attrErr {α : Type} {msg : Str} {Q : α → Shared → Prop} (hh : A.handled = none) (h : ∀ h' tk e, AErr s.heap h' e → E (.ref e) { s with heap := h', toks := tk }) (hm : msg.length ≤ sizeLine) :
    wpAny (model prog w) A (raiseErrorStr "AttributeError" msg : Sem α) Q E s := by
  unfold raiseErrorStr
  refine wpAny_bind (wpAny_mkStr (wpAny_bind ?_) hm)
  unfold newExc newTuple
  refine wpAny_bind (wpAny_newObj_type ?_ (by size_fits))
  refine wpAny_bind (m := firstArgMember _ _) (wpAny_of_eq (a := Value.none) (by simp only [firstArgMember, attrError_no_first]; rfl) ?_)
  rw [ownMembersOf_AttributeError]
  refine wpAny_newObj_type ?_ (by size_fits)
  unfold raiseNew
  refine wpAny_bind (wpAny_handled ?_)
  rw [hh]
  first
    | refine wpAny_throw ?_
    | refine wpAny_bind (wpAny_pure (wpAny_throw ?_))
  exact h _ _ _ ⟨fun b ob hb => Heap.get?_push_of_some _ (Heap.get?_push_of_some _ hb), _, Heap.get?_push_size _ rfl, rfl⟩
/-- a name's bytes -/
def nmBytes (n : Str) : Nat := n.cps.foldl (fun k c => k + (Str.utf8Of c).length) 0
theorem tga_miss {tk : Tok} {cd : ClassData} {Q : Fin → Shared → Prop} (X : K.In s.heap) (hh : A.handled = none) (ho : Looks (model prog w) s.heap (opaqueClassAbove (.ref C)) none) (ht : Looks (model prog w) s.heap (typeOf (.ref C)) (.type "type"))
    (h1 : findIn K (.type "type") name = some none) (h2 : findIn K (.ref C) name = some none) (hc : clsIn K C = some cd) (hn : nmBytes cd.name ≤ 100) (hl : cd.name.cps.size ≤ 1000) (hz : name.length ≤ 1000)
    (h : ∀ h' tk e, AErr s.heap h' e → E (.ref e) { s with heap := h', toks := tk }) : wpAny (model prog w) A (Builtin.«type.__getattribute__» ⟨[.ref C, .str name tk], []⟩) Q E s := by
  obtain ⟨hp, g, d, t, os⟩ := s
  dsimp only at X ho ht h
  have L1 := looks_findIn (M := model prog w) X h1
  have L2 := looks_findIn (M := model prog w) X h2
  have L3 : Looks (model prog w) hp (typeNameCut 100 (.ref C)) cd.name.toString := by
    refine (looks_clsIn X hc).andThen ?_
    show Looks _ _ (if nmBytes cd.name ≤ 100 then pure cd.name.toString else _) _
    rw [if_pos hn]
    exact .now
  unfold Builtin.«type.__getattribute__»
  refine wpAny_bind (wpAny_pure (wpAny_bind (ho.at (wpAny_bind (ht.at (wpAny_bind (L1.at ?_)))))))
  refine wpAny_bind (wpAny_pure ?_)
  refine wpAny_bind (L2.at ?_)
  refine wpAny_bind (wpAny_rule (wpAny_bind (L3.at ?_)))
  refine raise_attrErr (s := ⟨hp, g, d, t, os⟩) hh h ?_
  rw [strLen_append, strLen_append, ofString_length, ofString_length]
  have e1 : sizeLine = 16777216 := by decide
  have e2 : ("'" : String).length = 1 := by decide
  rw [String.length_append, String.length_append]
  have e3 : ("type object '" : String).length = 13 := by decide
  have e4 : ("' has no attribute '" : String).length = 20 := by decide
  have e5 : (toString cd.name.toString).length = cd.name.cps.size := by
    show (Str.toString cd.name).length = _
    unfold Str.toString
    rw [String.length_ofList, List.length_map, Array.length_toList]
  have e6 : (toString "type object '").length = 13 := e3
  have e7 : (toString "' has no attribute '").length = 20 := e4
  omega
/-- what a class lacks -/
structure CMiss (K : Frag) (C : Addr) (name : Str) : Prop where
  op : nsIn K cStatics "thirdparty.any" = some none
  ty : typeIn K (.ref C) = some (.type "type")
  ga : findIn K (.type "type") "__getattribute__" = some (some (.builtin "type.__getattribute__"))
  gt : findIn K (.type "type") "__getattr__" = some none
  su : subIn K (.type "type") (.type "type") = some true
  no : findIn K (.type "type") name = some none
  nc : findIn K (.ref C) name = some none
  cl : ∃ cd, clsIn K C = some cd ∧ nmBytes cd.name ≤ 100 ∧ cd.name.cps.size ≤ 1000
  sz : name.length ≤ 1000
theorem getAttrBy_miss {tk : Tok} {Q : Option Value → Shared → Prop} (X : K.In s.heap) (hh : A.handled = none) (m : CMiss K C name)
    (h : ∀ h' tk, (∀ b o, s.heap.get? b = some o → h'.get? b = some o) → Q none { s with heap := h', toks := tk }) : wpAny (model prog w) A (getAttrBy? (.ref C) (.str name tk)) Q E s := by
  obtain ⟨cd, hc, hn, hl⟩ := m.cl
  have ht := looks_typeIn (M := model prog w) X m.ty
  have LG := looks_findIn (M := model prog w) X m.ga
  have L0 := looks_opaque (M := model prog w) X (C := C) m.op
  unfold getAttrBy? getAttrBy
  refine wpAny_bind (wpAny_attempt (wpAny_holding (wpAny_bind (ht.here (wpAny_bind (LG.here ?_))))))
  dsimp only
  rw [show (onTheHeap (Value.type "type") && Value.builtin "type.__getattribute__" == Value.builtin "object.__getattribute__") = false from rfl, if_neg (by decide)]
  unfold getAttrByItsOwn
  refine wpAny_bind (wpAny_pure ?_)
  refine wpAny_bind (wpAny_attempt (wpAny_holding ?_))
  unfold callGetattribute
  rw [show (false && onTheHeap (Value.builtin "type.__getattribute__")) = false from rfl, if_neg (by decide)]
  unfold boundAndCalled
  rw [KF.slot_tga.bind]
  refine wpAny_bind (wpAny_pure ?_)
  show wpAny _ _ (call (.builtin "type.__getattribute__") [.ref C, .str name tk]) _ _ _
  refine wpAny_call ?_
  refine codeAny_call_builtin KF.slot_tga.plain KF.entry_tga ?_
  refine @check_slot (model prog w) _ _ s "type.__getattribute__" "type" "__getattribute__" (.ref C) [.str name tk] [] _ (by decide +kernel) (by decide +kernel) (ht.andThen (looks_subIn X m.su)) (KF.args_tga (.ref C) (.str name tk)) ?_
  refine tga_miss X (by exact hh) L0 ht m.no m.nc hc hn hl m.sz fun h' tk' e he => ?_
  obtain ⟨hk, o, hoe, hoc⟩ := he
  have sub := sub_AttributeError
  have T : ∀ tk'', ({ s with heap := h', toks := tk'' } : Shared).TypeIs (.ref e) "AttributeError" := fun _ => ⟨o, hoe, hoc⟩
  show wpAny _ _ (getattributeRaised (Value.ref C) (Value.str name tk) (Value.type "type") (.ref e) none false false) _ _ _
  unfold getattributeRaised
  refine wpAny_bind (wpAny_isInstance (T := "AttributeError") (b := true) (T _) sub ?_)
  rw [if_pos rfl]
  have LH : Looks (model prog w) h' (hookBehind (.type "type") none) none := by
    unfold hookBehind
    rw [if_neg (show ¬ onTheHeap (Value.type "type") = true by decide)]
    exact looks_findIn (X.keeps hk) m.gt
  refine wpAny_bind (LH.here ?_)
  unfold hookOrError attributeErrorLeaves
  refine wpAny_throw ?_
  refine wpAny_bind (wpAny_isInstance (T := "AttributeError") (b := true) (T _) sub ?_)
  rw [if_pos rfl]
  exact wpAny_pure (h _ _ hk)
end
theorem mw_ne : Slot "method-wrapper" "__ne__" "method-wrapper.__ne__" :=
  .of (owner := "method-wrapper") (n := "__ne__") (by rw [typeLookup_type, builtinLookup_eq_fast]; kernel_rfl) (by decide +kernel) (by decide +kernel) (by decide +kernel)
    (by first | exact .inl (by decide +kernel) | exact .inr (by decide +kernel)) (by rw [isSubtype_type]; kernel_rfl)
theorem mw_ne_entry : entryFor table "method-wrapper.__ne__" = some Builtin.«method_wrapper.__ne__» :=
  entryFor_alias (id' := "method_wrapper.__ne__") (by kernel_rfl) (by decide +kernel) (by decide +kernel) (by kernel_rfl)
theorem mw_ne_args (a b : Value) : argsOk "method-wrapper.__ne__" ⟨[a, b], []⟩ := by unfold argsOk; kernel_rfl
theorem ror_type : typeOf (.builtin "type.__ror__") = pure (.type "wrapper_descriptor") := by show builtinType _ = _; rw [builtinType_eq_fast]; kernel_rfl
theorem ror_nac : (kfb_private% "nameAndClass") (Value.builtin "type.__ror__") = (pure (("__ror__" : Str), Value.type "type") : Sem (Str × Value)) := by kernel_rfl
theorem ror_at {K : Frag} : findIn K (.type "type") (dunderR "or") = some (some (.builtin "type.__ror__")) := by kernel_rfl
theorem ror_get {K : Frag} : specialIn K (.builtin "type.__ror__") "__get__" = some (some (.builtin "wrapper_descriptor.__get__")) := by kernel_rfl
theorem tga_K {K : Frag} : findIn K (.type "type") "__getattribute__" = some (some (.builtin "type.__getattribute__")) := by kernel_rfl
theorem ror_data {K : Frag} : takesIn K (.builtin "type.__ror__") = some false := by kernel_rfl
/-- type's own reflected operator, bound to a class -/
abbrev rorO (C : Addr) : Obj := { cls := .type "method-wrapper", dict := none, data := .fields #[.builtin "type.__ror__", .ref C], slots := #[] }
theorem type_gt {K : Frag} : findIn K (.type "type") "__getattr__" = some none := by kernel_rfl
theorem type_su {K : Frag} : subIn K (.type "type") (.type "type") = some true := by kernel_rfl
section
variable {prog : Program} {w : World} {A : Around} {E : Value → Shared → Prop} {s : Shared} {K : Frag} {C : Addr}
/-- what a class has of it -/
structure CRor (K : Frag) (C : Addr) : Prop where
  op : nsIn K cStatics "thirdparty.any" = some none
  ty : typeIn K (.ref C) = some (.type "type")
  nc : findIn K (.ref C) (dunderR "or") = some none
theorem CRor.find (m : CRor K C) : findCls K (.ref C) (.type "type") (dunderR "or") = some (.get (.builtin "wrapper_descriptor.__get__") (.builtin "type.__ror__") (.ref C) (.type "type")) := by
  unfold findCls
  rw [ror_at, Option.bind_some]
  simp only [ror_get, Option.bind_some, ror_data, m.nc]
theorem ror_bind {Q : Fin → Shared → Prop} (X : K.In s.heap) (m : CRor K C) (hq : Q (.done (.ret (.ref s.heap.objs.size))) { s with heap := s.heap.push (rorO C) }) :
    wpAny (model prog w) A (Builtin.«wrapper_descriptor.__get__» ⟨[.builtin "type.__ror__", .ref C, .type "type"], []⟩) Q E s := by
  have hI : Looks (model prog w) s.heap (isInstance (.ref C) (.type "type")) true := (looks_typeIn X m.ty).andThen (looks_subIn X type_su)
  unfold Builtin.«wrapper_descriptor.__get__»
  refine wpAny_bind (wpAny_of_eq (a := (.builtin "type.__ror__", some (.ref C), some (.type "type"))) (by first | rfl | kernel_rfl) ?_)
  refine wpAny_bind ?_
  refine wpAny_bind (wpAny_of_eq (a := (("__ror__" : Str), Value.type "type")) ror_nac ?_)
  refine wpAny_bind (hI.here ?_)
  refine KFB.if_not rfl ?_
  exact wpAny_pure (wpAny_bind (wpAny_newObj_type (wpAny_pure hq)))
theorem getAttrBy_ror {tk : Tok} {Q : Option Value → Shared → Prop} (X : K.In s.heap) (m : CRor K C)
    (h : Q (some (.ref s.heap.objs.size)) { s with heap := s.heap.push (rorO C) }) : wpAny (model prog w) A (getAttrBy? (.ref C) (.str (dunderR "or") tk)) Q E s := by
  have ht := looks_typeIn (M := model prog w) X m.ty
  have LG := looks_findIn (M := model prog w) X (tga_K (K := K))
  have L0 := looks_opaque (M := model prog w) X (C := C) m.op
  unfold getAttrBy? getAttrBy
  refine wpAny_bind (wpAny_attempt (wpAny_holding (wpAny_bind (ht.here (wpAny_bind (LG.here ?_))))))
  dsimp only
  rw [show (onTheHeap (Value.type "type") && Value.builtin "type.__getattribute__" == Value.builtin "object.__getattribute__") = false from rfl, if_neg (by decide)]
  unfold getAttrByItsOwn
  refine wpAny_bind (wpAny_pure ?_)
  refine wpAny_bind (wpAny_attempt (wpAny_holding ?_))
  unfold callGetattribute
  rw [show (false && onTheHeap (Value.builtin "type.__getattribute__")) = false from rfl, if_neg (by decide)]
  unfold boundAndCalled
  rw [KF.slot_tga.bind]
  refine wpAny_bind (wpAny_pure ?_)
  show wpAny _ _ (call (.builtin "type.__getattribute__") [.ref C, .str (dunderR "or") tk]) _ _ _
  refine wpAny_call ?_
  refine codeAny_call_builtin KF.slot_tga.plain KF.entry_tga ?_
  refine @check_slot (model prog w) _ _ s "type.__getattribute__" "type" "__getattribute__" (.ref C) [.str (dunderR "or") tk] [] _ (by decide +kernel) (by decide +kernel) (ht.andThen (looks_subIn X type_su)) (KF.args_tga (.ref C) (.str (dunderR "or") tk)) ?_
  refine tga_run X L0 ht m.find ?_
  unfold CFound.run
  refine wpAny_bind (wpAny_holding ?_)
  have hTf : s.TypeIs (.builtin "type.__ror__") "wrapper_descriptor" := ror_type
  refine wpAny_call_entry ESX.slot_wd hTf ESX.entry_wd (ror_bind X m ?_) (ESX.args_wd _ _ _)
  refine ⟨_, rfl, ?_⟩
  refine wpAny_pure ?_
  exact wpAny_pure (wpAny_pure h)
end
section
variable {prog : Program} {w : World} {A : Around} {E : Value → Shared → Prop} {s : Shared} {K : Frag} {name : Str} {C : Addr}
/-- how a class answers for the reflected operator -/
def RefC (K : Frag) (C : Addr) (nm : String) : Prop := CMiss K C (dunderR nm) ∨ (nm = "or" ∧ CRor K C)
/-- a class whose objects have an operator of their own -/
structure BopO (K : Frag) (C f : Addr) (nm : String) : Prop where
  at_ : findIn K (.ref C) (PySem.dunder nm) = some (some (.ref f))
  fn : typeIn K (.ref f) = some (.type "function")
  nc : findIn K (.ref C) (dunderR nm) = some none
  rf : RefC K C nm
  me : ∃ cd rest, clsIn K C = some cd ∧ cd.mro = .ref C :: rest
variable {nm : String} {f : Addr} {M : Model} {hp : Heap}
theorem BopO.fills (o : BopO K C f nm) (X : K.In hp) : Looks M hp (fillsNumberSlot (.ref C) nm) true := by
  obtain ⟨cd, rest, hc, hm⟩ := o.me
  unfold fillsNumberSlot
  refine Looks.andThen (a := .ref C :: rest) ((looks_clsIn X hc).andThen (by rw [hm]; exact .now)) ?_
  show Looks M hp (List.anyM _ (.ref C :: rest)) true
  unfold List.anyM
  refine Looks.andThen (a := true) ?_ .now
  show Looks M hp (List.anyM _ [PySem.dunder nm, dunderR nm]) true
  unfold List.anyM
  refine Looks.andThen (a := true) ?_ .now
  exact (looks_findIn X o.at_).andThen (Looks.of_pure rfl)
theorem BopO.inpy (o : BopO K C f nm) (X : K.In hp) : Looks M hp (numberSlotInPython (.ref C) nm) true := by
  unfold numberSlotInPython
  refine (looks_findIn X o.at_).andThen ?_
  refine Looks.andThen (a := true) (Looks.of_pure rfl) ?_
  refine (looks_findIn X o.nc).andThen ?_
  refine Looks.andThen (a := false) (Looks.of_pure rfl) ?_
  exact Looks.of_pure rfl
theorem BopO.sub {C' f' : Addr} (o' : BopO K C' f' nm) (X : K.In hp) (C : Addr) : ∃ r, Looks M hp (isSubtype (.ref C') (.ref C)) r := by
  obtain ⟨cd, rest, hc, hm⟩ := o'.me
  refine ⟨cd.mro.contains (.ref C), ?_⟩
  unfold isSubtype
  refine Looks.andThen (a := cd.mro) ((looks_clsIn X hc).andThen .now) ?_
  have e : cd.mro.isEmpty = false := by rw [hm]; rfl
  dsimp only
  rw [e]
  exact Looks.of_pure rfl
theorem BopO.obj {h : Heap} (o : BopO K C f nm) (X : K.In h) : ∃ o cd, h.get? C = some o ∧ o.data = .cls cd := by
  obtain ⟨cd, rest, hc, hm⟩ := o.me
  unfold clsIn at hc
  split at hc
  · rename_i c d cd' sl ho
    exact ⟨_, cd', X _ _ ho, rfl⟩
  · cases hc
theorem ror_ne {Ca Cb a b : Addr} {Q : Bool → Shared → Prop} (ha : s.heap.get? a = some (rorO Ca)) (hb : s.heap.get? b = some (rorO Cb)) (hu : A.units < cLine) (hab : a ≠ b) (hCa : ∃ o cd, s.heap.get? Ca = some o ∧ o.data = .cls cd) (hCb : ∃ o cd, s.heap.get? Cb = some o ∧ o.data = .cls cd)
    (h : ∀ (r : Bool) h' tk, (∀ c o, s.heap.get? c = some o → h'.get? c = some o) → Q r { s with heap := h', toks := tk }) :
    wpAny (model prog w) A (do
      if ← isSame (.ref a) (.ref b) then return false
      truthy (← richCompare .NotEq (.ref a) (.ref b))) Q E s := by
  have hne : (a == b) = false := by simp [hab]
  have hTa : s.TypeIs (.ref a) "method-wrapper" := ⟨_, ha, rfl⟩
  have hTb : s.TypeIs (.ref b) "method-wrapper" := ⟨_, hb, rfl⟩
  have hS : wpAny (model prog w) A (isSame (.ref a) (.ref b)) (fun r s' => r = false ∧ s' = s) E s := by
    unfold isSame
    dsimp only
    rw [if_neg (by rw [hne]; decide)]
    exact wpAny_bind (wpAny_load ha (wpAny_bind (wpAny_load hb (wpAny_pure ⟨rfl, rfl⟩))))
  refine wpAny_bind (wpAny_mono hS (fun r s' e => ?_) fun _ _ z => z)
  obtain ⟨rfl, rfl⟩ := e
  rw [if_neg (by decide)]
  refine wpAny_bind (wpAny_richCompare_same_room hTa hTb mw_ne (wpAny_call_entry mw_ne hTa mw_ne_entry ?_ (mw_ne_args _ _)) hu)
  have sub : isSubtype (.type "method-wrapper") (.type "method-wrapper") = pure true := by rw [isSubtype_type]; kernel_rfl
  have d1 : (rorO Ca).data = .fields #[.builtin "type.__ror__", .ref Ca] := rfl
  have d2 : (rorO Cb).data = .fields #[.builtin "type.__ror__", .ref Cb] := rfl
  unfold Builtin.«method_wrapper.__ne__»
  show wpAny _ _ (slotArgs "__ne__" 1 ⟨[.ref a, .ref b], []⟩ >>= _) _ _ _
  refine wpAny_bind (wpAny_of_eq (a := (Value.ref a, [Value.ref b])) rfl ?_)
  show wpAny _ _ (isInstance (.ref b) (.type "method-wrapper") >>= _) _ _ _
  refine wpAny_bind (wpAny_isInstance (T := "method-wrapper") (b := true) hTb sub ?_)
  refine KFB.if_not rfl ?_
  have P : ∀ (x D : Addr), s'.heap.get? x = some (rorO D) → ∀ (Z : String × Value × Value → Shared → Prop), Z ("type.__ror__", .builtin "type.__ror__", .ref D) s' → wpAny (model prog w) A.in1 (Method_wrapper.mwParts (.ref x)) Z E s' := fun x D hx Z hZ => by
    unfold Method_wrapper.mwParts
    refine wpAny_bind (wpAny_field hx rfl rfl ?_)
    exact wpAny_bind (wpAny_field hx rfl rfl (wpAny_pure hZ))
  refine wpAny_bind (P a Ca ha _ ?_)
  dsimp only
  refine wpAny_bind (P b Cb hb _ ?_)
  dsimp only
  rw [if_pos (beq_self_eq_true _)]
  have same : ∀ Z : Bool → Shared → Prop, (∀ r, Z r s') → wpAny (model prog w) A.in1 (isSame (.ref Ca) (.ref Cb)) Z E s' := fun Z hZ => by
    unfold isSame
    dsimp only
    split
    · exact wpAny_pure (hZ _)
    · obtain ⟨oa, ca, a1, a2⟩ := hCa
      obtain ⟨ob, cb, b1, b2⟩ := hCb
      refine wpAny_bind (wpAny_load a1 (wpAny_bind (wpAny_load b1 ?_)))
      split
      · rename_i q _
        rw [a2] at q
        cases q
      · exact wpAny_pure (hZ _)
  refine wpAny_bind (same _ fun r => ?_)
  refine wpAny_pure ⟨.bool (r != true), rfl, fun z => Value.noConfusion z, ?_⟩
  exact wpAny_truthy_bool (h _ s'.heap s'.toks fun _ _ e => e)
theorem reflected_ok {Ca Cb fa fb : Addr} {Q : Bool → Shared → Prop} (oa : BopO K Ca fa nm) (ob : BopO K Cb fb nm) (X : K.In s.heap) (hh : A.handled = none) (hu : A.units + 64 < cLine) (hz : (dunderR nm).length ≤ sizeLine)
    (h : ∀ (r : Bool) h' tk, (∀ b o, s.heap.get? b = some o → h'.get? b = some o) → Q r { s with heap := h', toks := tk }) : wpAny (model prog w) A (reflectedDiffers (.ref Ca) (.ref Cb) nm) Q E s := by
  unfold reflectedDiffers
  refine wpAny_bind ((oa.inpy X).here ?_)
  refine wpAny_bind ((ob.inpy X).here ?_)
  refine wpAny_bind (wpAny_mkStr ?_ hz)
  rcases ob.rf with m | ⟨rfl, m⟩
  · refine wpAny_bind (getAttrBy_miss (s := { s with toks := s.toks + 1 }) X hh m fun h' tk hk => ?_)
    exact wpAny_pure (h _ h' tk hk)
  · refine wpAny_bind (getAttrBy_ror (s := { s with toks := s.toks + 1 }) X m ?_)
    have k1 : ∀ b o, s.heap.get? b = some o → (s.heap.push (rorO Cb)).get? b = some o := fun b o e => Heap.get?_push_of_some _ e
    have X1 : K.In (s.heap.push (rorO Cb)) := X.keeps k1
    refine wpAny_holding ?_
    rcases oa.rf with m' | ⟨_, m'⟩
    · refine wpAny_bind (getAttrBy_miss (s := { s with heap := s.heap.push (rorO Cb), toks := s.toks + 1 }) X1 hh m' fun h' tk hk => ?_)
      exact wpAny_pure (h _ h' tk fun b o e => hk b o (k1 b o e))
    · refine wpAny_bind (getAttrBy_ror (s := { s with heap := s.heap.push (rorO Cb), toks := s.toks + 1 }) X1 m' ?_)
      refine wpAny_holding ?_
      have X2 : K.In ((s.heap.push (rorO Cb)).push (rorO Ca)) := X1.keeps fun b o e => Heap.get?_push_of_some _ e
      have e0 : (s.heap.push (rorO Cb)).objs.size = s.heap.objs.size + 1 := Heap.size_push ..
      refine ror_ne (s := { s with heap := (s.heap.push (rorO Cb)).push (rorO Ca), toks := s.toks + 1 }) (Ca := Ca) (Cb := Cb) (Heap.get?_push_size _ rfl) (Heap.get?_push_of_some _ (Heap.get?_push_size _ rfl)) (by show A.units < cLine; omega) (by dsimp only; rw [e0]; exact Nat.succ_ne_self _) (oa.obj X2) (ob.obj X2) fun r h' tk hk => ?_
      exact h r h' tk fun b o e => hk b o (Heap.get?_push_of_some _ (k1 b o e))
theorem call_special_own {a : Addr} {args : List Value} {Q : Option Value → Shared → Prop} (o : BopO K C f nm) (X : K.In s.heap) (T : Looks (model prog w) s.heap (typeOf (.ref a)) (.ref C))
    (h : wpAny (model prog w) A (call (.ref f) (.ref a :: args)) (fun v s' => Q (some v) s') E s) : wpAny (model prog w) A (callSpecial? (.ref a) (PySem.dunder nm) args) Q E s := by
  unfold callSpecial? specialOf
  refine wpAny_bind (wpAny_bind (T.here ((looks_findIn X o.at_).here ?_)))
  refine wpAny_holding ?_
  refine wpAny_bind ((bind_fn X (.ref a) o.fn).here ?_)
  exact wpAny_bind (wpAny_mono h (fun v s' q => wpAny_pure q) fun _ _ e => e)
theorem try_own {a b : Addr} {Q : Option Value → Shared → Prop} (o : BopO K C f nm) (X : K.In s.heap) (T : Looks (model prog w) s.heap (typeOf (.ref a)) (.ref C))
    (h : wpAny (model prog w) A (call (.ref f) [.ref a, .ref b]) (fun v s' => (∃ q, v = .ref q) ∧ Q (some v) s') E s) : wpAny (model prog w) A (tryMethod (.ref a) (PySem.dunder nm) (.ref b)) Q E s := by
  unfold tryMethod
  refine wpAny_bind (call_special_own o X T (wpAny_mono h (fun v s' q => ?_) fun _ _ e => e))
  obtain ⟨⟨q, rfl⟩, z⟩ := q
  exact wpAny_pure z
theorem try_none {a b : Addr} {Q : Option Value → Shared → Prop} (o : BopO K C f nm) (X : K.In s.heap) (T : Looks (model prog w) s.heap (typeOf (.ref a)) (.ref C)) (h : Q none s) : wpAny (model prog w) A (tryMethod (.ref a) (dunderR nm) (.ref b)) Q E s := by
  unfold tryMethod callSpecial? specialOf
  refine wpAny_bind (wpAny_bind (wpAny_bind (T.here ((looks_findIn X o.nc).here ?_))))
  exact wpAny_pure (wpAny_pure h)
theorem binop1_own {a b Ca Cb fa fb : Addr} {Q : Option Value → Shared → Prop} (oa : BopO K Ca fa nm) (ob : BopO K Cb fb nm) (X : K.In s.heap) (Ta : Looks (model prog w) s.heap (typeOf (.ref a)) (.ref Ca)) (Tb : Looks (model prog w) s.heap (typeOf (.ref b)) (.ref Cb)) (hh : A.handled = none) (hu : A.units + 64 < cLine) (hz : (dunderR nm).length ≤ sizeLine)
    (h : ∀ h' tk, (∀ b o, s.heap.get? b = some o → h'.get? b = some o) → wpAny (model prog w) A (call (.ref fa) [.ref a, .ref b]) (fun v s' => (∃ q, v = .ref q) ∧ Q (some v) s') E { s with heap := h', toks := tk }) :
    wpAny (model prog w) A (binaryOp1 nm (.ref a) (.ref b)) Q E s := by
  unfold binaryOp1
  refine wpAny_bind (Ta.here (wpAny_bind (Tb.here (wpAny_bind ((oa.fills X).here ?_)))))
  dsimp only
  by_cases e : Ca = Cb
  · subst e
    rw [if_pos (beq_self_eq_true _)]
    refine wpAny_bind (wpAny_pure ?_)
    simp only [Bool.and_false, Bool.false_and, Bool.false_eq_true, if_false, if_true]
    refine wpAny_bind (wpAny_pure ?_)
    simp only [Bool.false_eq_true, if_false]
    exact wpAny_bind (try_own oa X Ta (wpAny_mono (h s.heap s.toks fun _ _ e => e) (fun v s' q => ⟨q.1, wpAny_pure q.2⟩) fun _ _ e => e))
  · have ne : (Value.ref Ca == Value.ref Cb) = false := by
      rw [beq_eq_false_iff_ne]
      intro z
      cases z
      exact e rfl
    rw [if_neg (by rw [ne]; decide)]
    refine wpAny_bind ((ob.fills X).here ?_)
    simp only [Bool.and_self, Bool.and_false, Bool.false_and, Bool.false_eq_true, if_false, if_true]
    obtain ⟨r, hr⟩ := ob.sub (M := model prog w) X Ca
    refine wpAny_bind (hr.here ?_)
    cases r with
    | true =>
      rw [if_pos rfl]
      refine wpAny_bind (reflected_ok oa ob X hh hu hz fun q h' tk hk => ?_)
      have X' : K.In h' := X.keeps hk
      cases q with
      | true =>
        rw [if_pos rfl]
        refine wpAny_bind (wpAny_rule ?_)
        refine wpAny_bind (try_none (s := { s with heap := h', toks := tk }) ob X' (Tb.keeps hk) ?_)
        simp only [Bool.and_self, Bool.not_true, Bool.and_false, Bool.false_eq_true, if_false, if_true]
        refine wpAny_bind (wpAny_pure ?_)
        simp only [Bool.false_eq_true, if_false]
        exact wpAny_bind (try_own (s := { s with heap := h', toks := tk }) oa X' (Ta.keeps hk) (wpAny_mono (h h' tk hk) (fun v s' q => ⟨q.1, wpAny_pure q.2⟩) fun _ _ e => e))
      | false =>
        simp only [Bool.and_self, Bool.not_false, Bool.false_eq_true, if_false, if_true]
        refine wpAny_bind (Looks.here (s := { s with heap := h', toks := tk }) (oa.inpy X') ?_)
        rw [if_pos rfl]
        refine wpAny_bind (Looks.here (s := { s with heap := h', toks := tk }) (ob.inpy X') ?_)
        simp only [Bool.not_true, Bool.false_eq_true, if_false]
        exact wpAny_bind (try_own (s := { s with heap := h', toks := tk }) oa X' (Ta.keeps hk) (wpAny_mono (h h' tk hk) (fun v s' q => ⟨q.1, wpAny_pure q.2⟩) fun _ _ e => e))
    | false =>
      simp only [Bool.and_self, Bool.not_false, Bool.false_eq_true, if_false, if_true]
      refine wpAny_bind ((oa.inpy X).here ?_)
      rw [if_pos rfl]
      refine wpAny_bind ((ob.inpy X).here ?_)
      simp only [Bool.not_true, Bool.false_eq_true, if_false]
      exact wpAny_bind (try_own oa X Ta (wpAny_mono (h s.heap s.toks fun _ _ e => e) (fun v s' q => ⟨q.1, wpAny_pure q.2⟩) fun _ _ e => e))
theorem binop_own {op : Operator} {sym : String} {a b Ca Cb fa fb : Addr} {Q : Value → Shared → Prop} (hop : op.info = (sym, nm)) (oa : BopO K Ca fa nm) (ob : BopO K Cb fb nm) (X : K.In s.heap) (Ta : Looks (model prog w) s.heap (typeOf (.ref a)) (.ref Ca)) (Tb : Looks (model prog w) s.heap (typeOf (.ref b)) (.ref Cb)) (hh : A.handled = none) (hu : A.units + 64 < cLine) (hz : (dunderR nm).length ≤ sizeLine)
    (h : ∀ h' tk, (∀ b o, s.heap.get? b = some o → h'.get? b = some o) → wpAny (model prog w) A (call (.ref fa) [.ref a, .ref b]) (fun v s' => (∃ q, v = .ref q) ∧ Q v s') E { s with heap := h', toks := tk }) :
    wpAny (model prog w) A (binaryOp op (.ref a) (.ref b)) Q E s := by
  unfold binaryOp
  refine wpAny_holding ?_
  rw [hop]
  refine wpAny_bind (binop1_own oa ob X Ta Tb hh hu hz fun h' tk hk => wpAny_mono (h h' tk hk) (fun v s' q => ⟨q.1, ?_⟩) fun _ _ e => e)
  exact wpAny_pure q.2
/-- a class as BopO asks: its name is short, it stands first in its own mro -/
def bopB (K : Frag) (C : Addr) : Bool := match clsIn K C with
  | some cd => decide (nmBytes cd.name ≤ 100) && decide (cd.name.cps.size ≤ 1000) && (cd.mro.head? == some (.ref C))
  | none => false
theorem bop_mk (h1 : findIn K (.ref C) (PySem.dunder nm) = some (some (.ref f))) (h2 : isFn K (.ref f) = true) (h3 : nsIn K cStatics "thirdparty.any" = some none) (h4 : typeIn K (.ref C) = some (.type "type")) (h5 : findIn K (.ref C) (dunderR nm) = some none) (h6 : bopB K C = true)
    (h7 : findIn K (.type "type") (dunderR nm) = some none ∨ nm = "or") (h8 : (dunderR nm).length ≤ 1000) : BopO K C f nm := by
  unfold bopB at h6
  split at h6
  · rename_i cd hc
    simp only [Bool.and_eq_true, decide_eq_true_eq, beq_iff_eq] at h6
    obtain ⟨⟨a, b⟩, c⟩ := h6
    refine ⟨h1, beq_iff_eq.mp h2, h5, h7.elim (fun h7 => .inl ⟨h3, h4, tga_K, type_gt, type_su, h7, h5, ⟨cd, hc, a, b⟩, h8⟩) (fun e => .inr ⟨e, h3, h4, e ▸ h5⟩), cd, cd.mro.tail, hc, ?_⟩
    cases e : cd.mro with
    | nil => rw [e] at c; cases c
    | cons x l => rw [e] at c; cases c; rfl
  · cases h6
theorem type_rand : findIn K (.type "type") (dunderR "and") = some none := by kernel_rfl
theorem type_rsub : findIn K (.type "type") (dunderR "sub") = some none := by kernel_rfl
end
end PySem.W
namespace Sm
open PySem PySem.Spec PyProof.Rows L2
/-- x op y between own objects: what x's method answers, an object -/
def opOv (tab : MTab) (x y : Vl) (s : Sto) : Res Vl := match x, y with
  | .ref i, .ref j => match s[i]?, s[j]? with
    | some (.ins c _), some (.ins c' _) => match tab c, tab c' with
      | some mf, some _ => match mf [.ref i, .ref j] s with
        | .ok (.ref q) s' => .ok (.ref q) s'
        | .ok _ _ => .fail
        | .exc e s' => .exc e s'
        | .fail => .fail
      | _, _ => .fail
    | _, _ => .fail
  | _, _ => .fail
def eOpO (tab : MTab) (a b : EM) : EM := fun lo => bnd (a lo) fun x => bnd (b lo) fun y => opOv tab x y
def OpOOk (X : Cx) (T : Tb) (k : Nat) (nm : String) (tab : MTab) : Prop := ∀ c mf, tab c = some mf → ∀ C, T.cl[c]? = some C → ∃ (f : Addr) (fd : FuncData) (ps : List Str), PySem.W.BopO T.K C f nm ∧ FnG X.prog X.w X.K X.mg X.base k f fd ps (SpM T 2 mf) ∧ Binds X.K fd ps []
section
variable {X : Cx} {T : Tb} {W : WX} {k : Nat} {pos : Pos} {a b : Expr} {ma mb : EM}
theorem run_opO {op : Operator} {sym nm : String} {tab : MTab} (hop : op.info = (sym, nm)) (ok : OpOOk X T k nm tab) (hc : X.calm = true) (hz : (dunderR nm).length ≤ sizeLine) (hr : Room k X.A) (hgd : X.A.guards = some []) (tk : L2N.Takes X W) (hK : X.K = T.K)
    {pins : List (Addr × Obj)} {s : Shared} {σ : L2.St} {H : Hp} {Q : VK} {x y : Vl} {z z' : V} {v u : Value} {ρ : List Addr} {st : Sto} (I : Inv X pins σ H s) (r : Rel T ρ H st) (hx : RV T ρ H x z) (hy : RV T ρ H y z') (rv : RelV z v) (ru : RelV z' u)
    (p : Po (RV T) T (fun c d H' => W c d σ H') ρ H (opOv tab x y st) Q) : wpAny (model X.prog X.w) X.A (binaryOp op v u) (EP X pins σ Q) X.xe s := by
  unfold opOv at p
  split at p
  · rename_i i j
    obtain ⟨p1, rfl, h1⟩ := hx.refE
    obtain ⟨p2, rfl, h2⟩ := hy.refE
    obtain rfl : v = Value.ref p1 := rv
    obtain rfl : u = Value.ref p2 := ru
    split at p
    · rename_i c fs c' fs' e1 e2
      split at p
      · rename_i mf mf' hm1 hm2
        obtain ⟨C, dx, vs, a1, a2, a3, a4⟩ := r.ins e1 h1
        obtain ⟨C', dx', vs', b1, b2, b3, b4⟩ := r.ins e2 h2
        obtain ⟨f, fd, ps, oa, F, hb⟩ := ok c mf hm1 C a1
        obtain ⟨f', fd', ps', ob, F', hb'⟩ := ok c' mf' hm2 C' b1
        obtain ⟨ox, od, J, hd⟩ := StX.insC_at (C := C) I (.inr ⟨dx, vs, a2⟩)
        obtain ⟨ox', od', J', hd'⟩ := StX.insC_at (C := C') I (.inr ⟨dx', vs', b2⟩)
        rw [← hK] at oa ob
        have sp : SpM T 2 mf [V.ref p1, V.ref p2] H (fun v H' => (∃ q, v = .ref q) ∧ Q v H') fun c d H' => W c d σ H' := by
          refine spM_of r (.cons hx (.cons hy .nil)) rfl ?_
          cases e : mf [.ref i, .ref j] st with
          | fail => rw [e] at p; exact p.elim
          | exc x s' => rw [e] at p; exact p
          | ok v s' =>
            rw [e] at p
            cases v <;> try exact p.elim
            intro ρ' H' z ext r' hz
            obtain ⟨q, rfl, hq⟩ := hz.refE
            exact ⟨⟨q, rfl⟩, p ρ' H' _ ext r' (.ref hq)⟩
        refine PySem.W.binop_own hop oa ob I.kIn J.type J'.type (I.ok.hd hc) hr.units hz fun h' tk' hk => ?_
        have I2 := I.kept (t' := tk') hk
        refine wpAny_call (codeAny_mono (F.run X.A X.stack _ H ⟨[.ref p1, .ref p2], []⟩ [.ref p1, .ref p2] [.ref p1, .ref p2] _ _ hr hgd I2.env0 (hb _ [.ref p1, .ref p2] I2.kIn (F.len _ _ _ _ sp)) (.cons rfl (.cons rfl .nil)) sp) fun z s' hq => ?_)
        cases z with
        | error y => exact tk y s' (L2N.XE.of_call I2 (fun _ _ _ q => q) hq)
        | ok fl =>
          cases fl with
          | ret w =>
            obtain ⟨v, H', I3, rv, ⟨q, rfl⟩, hq'⟩ := I2.after hq
            obtain rfl : w = Value.ref q := rv
            exact ⟨⟨q, rfl⟩, V.ref q, H', I3, rfl, hq'⟩
          | next => exact hq.elim
          | brk => exact hq.elim
          | cont => exact hq.elim
      · exact p.elim
    · exact p.elim
  · exact p.elim
theorem ce_opO {op : Operator} {sym nm : String} {tab : MTab} (hop : op.info = (sym, nm)) (ok : OpOOk X T k nm tab) (hc : X.calm = true) (hr : Room k X.A) (hgd : X.A.guards = some []) (tk : L2N.Takes X W) (ha : PE X a (tE T W ma)) (hb : PE X b (tE T W mb)) (hz : (dunderR nm).length ≤ sizeLine := by decide) (hK : X.K = T.K := by rfl) :
    PE X (.BinOp a op b pos) (tE T W (eOpO tab ma mb)) := by
  refine ⟨fun pins s σ H Q I h => ?_⟩
  have h' : tE T W ma σ H fun x H1 => tE T W mb σ H1 fun y H2 => ∃ (ρ : List Addr) (st : Sto) (a b : Vl), Rel T ρ H2 st ∧ RV T ρ H2 a x ∧ RV T ρ H2 b y ∧ Po (RV T) T (fun c d H' => W c d σ H') ρ H2 (opOv tab a b st) Q :=
    tG_bnd (f := fun lo x => bnd (mb lo) fun y => opOv tab x y) h fun ρ s lo x z H1 r rl hx p =>
      po_bnd (m := mb) r rl p fun ρ' s' y z' H' ext r' rl' hy p' => ⟨ρ', s', x, y, r', hx.mono ext, hy, p'⟩
  refine wpAny_BinOp (binT ha hb I h' fun v u s2 x y H2 I2 rx ry q => ?_)
  obtain ⟨ρ, st, a', b', r, hx, hy, p⟩ := q
  exact run_opO hop ok hc hz hr hgd tk hK I2 r hx hy rx ry p
end
end Sm

/-! S171: sets of texts in the heap: new, add, sorted -/
namespace StT
open PySem PySem.Spec PyProof.Rows L2 PpSet
/-- the text of an entry -/
def kS (e : Int × Value) : Str := match e.2 with
  | .str k _ => k
  | _ => Str.empty
/-- an entry of a text -/
def EnS (w : World) (e : Int × Value) : Prop := ∃ (k : Str) (t : Tok), e = (hashStr w k, Value.str k t)
/-- at a stands a set of the texts L, each once, whose table can be walked -/
structure TxS (w : World) (h : Heap) (a : Addr) (L : List Str) : Prop where
  ex : ∃ o es ep t, (h.get? a = some o ∧ o.ExactSet ∧ o.data = .set es ep t) ∧ (∀ e ∈ es.toList, EnS w e) ∧ (es.toList.map kS).Perm L ∧ L.Nodup ∧ es.size < scanBound ∧
    t.fits es.size = true ∧ Ris t.place.toList ∧ (w.params.followText "set-order" = true ∨ t.led = true)
section
variable {P : Program} {w : World} {A : Around} {E : Value → Shared → Prop} {s : Shared} {a : Addr} {L : List Str}
theorem TxS.move {h h' : Heap} (R : TxS w h a L) (k : ∀ o, h.get? a = some o → h'.get? a = some o) : TxS w h' a L :=
  let ⟨o, es, ep, t, ⟨h1, h2⟩, r⟩ := R.ex
  ⟨o, es, ep, t, ⟨k o h1, h2⟩, r⟩
theorem EnS.is {e : Int × Value} (g : EnS w e) (k : Str) : (strKind P w).is k e.2 = true ↔ kS e = k := by
  obtain ⟨z, t, rfl⟩ := g
  show ((z == k) = true) ↔ z = k
  simp
theorem els {l : List (Int × Value)} (g : ∀ e ∈ l, EnS w e) : ElemsOf (strKind P w) l := by
  intro e he
  obtain ⟨z, t, rfl⟩ := g e he
  exact ⟨⟨z, strKind_is P w z t, rfl⟩, rfl⟩
/-- what is stored in the end -/
theorem tx_put {o : Obj} {es : Array (Int × Value)} {ep : Nat} {t : SetTable} (ho : s.heap.get? a = some o ∧ o.ExactSet ∧ o.data = .set es ep t) {g : Bool → Sem Unit}
    (hg : ∀ (b : Bool) (z : Shared) (Z : Unit → Shared → Prop), Z () z → wpAny (model P w) A (g b) Z E z) {fs : Array (Int × Value)} {u : SetTable} {M : List Str}
    (ge : ∀ e ∈ fs.toList, EnS w e) (pm : (fs.toList.map kS).Perm M) (nd : M.Nodup) (hb : fs.size < scanBound) (hf : u.fits fs.size = true) (hr : Ris u.place.toList) (hl : w.params.followText "set-order" = true ∨ u.led = true)
    {dm : Bool} {R : Option Bool → Shared → Prop} (hR : ∀ h', Heap.SameBut a s.heap h' → TxS w h' a M → R (some true) { s with heap := h' }) :
    wpAny (model P w) A (do
      storeSet a fs u
      if (!dm && u.tooFull) = true then do
        g (relayAll u fs (SetTable.grown fs.size)).2.2
        storeSet a (relayAll u fs (SetTable.grown fs.size)).1 (relayAll u fs (SetTable.grown fs.size)).2.1
        pure (some true)
      else pure (some true)) R E s := by
  obtain ⟨h1, h2, h3⟩ := ho
  refine wpAny_bind (wpAny_storeSet_of h1 h3 ?_ (fits_of_scanBound hb))
  have k1 := storeB_at (es' := fs) (t' := u) h1 h3
  have b1 := Heap.SameBut.update s.heap a (Obj.putSet fs u)
  by_cases full : (!dm && u.tooFull) = true
  · rw [if_pos full]
    have q1 := relayAll_perm u fs (SetTable.grown fs.size)
    have q2 := relayAll_fits u fs (SetTable.grown fs.size)
    have q3 := relayAll_ris u fs (SetTable.grown fs.size)
    have q4 := relayAll_led u fs (SetTable.grown fs.size)
    generalize relayAll u fs (SetTable.grown fs.size) = N at q1 q2 q3 q4 ⊢
    rcases N with ⟨gs, v, way⟩
    have ez : gs.size = fs.size := by simpa using q1.length_eq
    have bz : gs.size < scanBound := ez ▸ hb
    refine wpAny_bind (hg _ _ _ (wpAny_bind (wpAny_storeSet_of k1 rfl ?_ (fits_of_scanBound bz))))
    have k2 := storeB_at (es' := gs) (t' := v) k1 rfl
    exact wpAny_pure (hR _ (b1.trans (.update _ a _)) ⟨_, gs, _, v, ⟨k2, h2, rfl⟩, fun e he => ge e (q1.mem_iff.mp he), (q1.map kS).trans pm, nd, bz, by simpa [ez] using q2, q3, hl.imp id fun z => q4.trans z⟩)
  · rw [if_neg full]
    exact wpAny_pure (hR _ b1 ⟨_, fs, _, u, ⟨k1, h2, rfl⟩, ge, pm, nd, hb, hf, hr, hl⟩)

theorem mem_is {es : List (Int × Value)} (g : ∀ e ∈ es, EnS w e) (pm : (es.map kS).Perm L) (k : Str) : k ∈ L ↔ ∃ e ∈ es, (strKind P w).is k e.2 = true := by
  rw [← pm.mem_iff, List.mem_map]
  exact ⟨fun ⟨e, he, q⟩ => ⟨e, he, ((g e he).is (P := P) k).2 q⟩, fun ⟨e, he, q⟩ => ⟨e, he, ((g e he).is (P := P) k).1 q⟩⟩
/-- the members, k put to them -/
def addL (k : Str) (L : List Str) : List Str := if k ∈ L then L else k :: L
theorem tx_addH {k : Str} {tk : Tok} {Q : Bool → Shared → Prop} (R : TxS w s.heap a L) (room : L.length + 1 < scanBound) (hQ : ∀ b h', Heap.SameBut a s.heap h' → TxS w h' a (addL k L) → Q b { s with heap := h' }) :
    wpAny (model P w) A (setAddHashed a (.str k tk) ((strKind P w).hash k)) Q E s := by
  obtain ⟨o, es, ep, t, ⟨ho, hex, hd⟩, ge, pm, nd, hb, hf, hr, hl⟩ := R.ex
  have hn : es.size = L.length := by simpa using pm.length_eq
  have isK : (strKind P w).is k (.str k tk) = true := strKind_is P w k tk
  have scan : (Value.str k tk).scannable = true := rfl
  have el : ElemsOf (strKind P w) es.toList := els ge
  unfold setAddHashed setAddHashedIn
  refine wpAny_holding (wpAny_bind (wpAny_setState_of ho hd hf ?_))
  dsimp only
  rw [byScan_of scan hb el]
  simp only [↓reduceIte]
  unfold setAddByScan
  refine wpAny_bind (wpAny_bind (wpAny_rule (wpAny_bind (wpAny_setScan_of isK ho hd hf el ?_))))
  cases at_ : List.findIdx? (fun e => (strKind P w).is k e.2) es.toList with
  | some j =>
    obtain ⟨hj, pj, _⟩ := List.findIdx?_eq_some_iff_getElem.mp at_
    have hk : k ∈ L := (mem_is (P := P) ge pm k).2 ⟨_, List.getElem_mem hj, pj⟩
    refine wpAny_pure (wpAny_pure (hQ _ s.heap (.refl a _) ?_))
    unfold addL
    rw [if_pos hk]
    exact R
  | none =>
    have hk : k ∉ L := fun z => by
      obtain ⟨e, he, q⟩ := (mem_is (P := P) ge pm k).1 z
      simp [List.findIdx?_eq_none_iff.mp at_ e he] at q
    have eA : addL k L = k :: L := if_neg hk
    have quiet : ∀ (b : Bool) {z : Shared} {Z : Unit → Shared → Prop}, Z () z → wpAny (model P w) A (match b with | true => rule "set.scan.the-table-gave-way" | false => pure ()) Z E z := by
      rintro (_ | _) z Z q
      · exact wpAny_pure q
      · exact wpAny_rule q
    have p1 := layNew_perm t es ((strKind P w).hash k) (.str k tk)
    have p2 := layNew_fits t es ((strKind P w).hash k) (.str k tk)
    have p3 := layNew_ris t es ((strKind P w).hash k) (.str k tk) hr
    have p4 := layNew_led t es ((strKind P w).hash k) (.str k tk)
    dsimp only
    generalize layNew t es ((strKind P w).hash k) (.str k tk) = N at p1 p2 p3 p4 ⊢
    rcases N with ⟨fs, u, dm, way⟩
    rw [Array.toList_push] at p1
    dsimp only at p1 p2 p3 p4 ⊢
    have pc := p1.trans (List.perm_append_singleton _ _)
    have ge' : ∀ e ∈ fs.toList, EnS w e := fun e he => (List.mem_cons.mp (pc.mem_iff.mp he)).elim (fun z => ⟨k, tk, z⟩) (ge e)
    have pk : (fs.toList.map kS).Perm (k :: L) := (pc.map kS).trans (.cons k pm)
    have sz : fs.size = L.length + 1 := by simpa using pk.length_eq
    have bz : fs.size < scanBound := sz ▸ room
    have lz : w.params.followText "set-order" = true ∨ u.led = true := hl.imp id fun z => p4.trans z
    have fin : ∀ h', Heap.SameBut a s.heap h' → TxS w h' a (k :: L) → Q true { s with heap := h' } := fun h' sb r => hQ _ h' sb (eA ▸ r)
    have ndk : (k :: L).Nodup := List.nodup_cons.mpr ⟨hk, nd⟩
    refine wpAny_bind (quiet _ ?_)
    split
    · refine wpAny_bind ?_
      rw [hashByValue_scannable 8 scan]
      refine wpAny_pure (tx_put ⟨ho, hex, hd⟩ ?_ ge' pk ndk bz ?_ ?_ ?_ fun h' sb r => wpAny_pure (fin h' sb r))
      · rintro (_ | _) z Z q
        · exact wpAny_pure q
        · exact wpAny_rule q
      · first | (split <;> first | exact p2 | exact SetTable.fits_plain_off p2) | exact p2
      · first | (split <;> exact p3) | exact p3
      · first | (split <;> exact lz) | exact lz
    · refine wpAny_bind (wpAny_pure ?_)
      simp only [↓reduceIte]
      refine tx_put ⟨ho, hex, hd⟩ ?_ ge' pk ndk bz p2 p3 lz fun h' sb r => wpAny_pure (fin h' sb r)
      rintro (_ | _) z Z q
      · exact wpAny_pure q
      · exact wpAny_rule q
/-- S.add(k) -/
theorem tx_add {k : Str} {tk : Tok} {Q : Value → Shared → Prop} (R : TxS w s.heap a L) (room : L.length + 1 < scanBound) (hQ : ∀ h', Heap.SameBut a s.heap h' → TxS w h' a (addL k L) → Q .none { s with heap := h', toks := s.toks + 1 }) :
    wpAny (model P w) A (call (.builtin "set.add") [.ref a, .str k tk]) Q E s := by
  obtain ⟨o, es, ep, t, ⟨ho, hex, hd⟩, r⟩ := R.ex
  refine wpAny_call_entry F.slot_set_add ⟨o, ho, hex.1⟩ F.entry_set_add ?_ (F.args_set_add_2 _ _)
  unfold Builtin.«set.add» Builtin.Frozenset.oneOther
  simp only [List.isEmpty_nil, bind_assoc]
  unfold Builtin.Frozenset.addrOf setAdd
  refine wpAny_bind (wpAny_pure (wpAny_bind (wpAny_pure (wpAny_bind (wpAny_holding (wpAny_bind ((strKind P w).pyHash (strKind_is P w k tk) ?_)))))))
  refine tx_addH (s := { s with toks := s.toks + 1 }) R room fun b h' sb r => ?_
  show wpAny _ _ (ret Value.none) _ _ _
  exact wpAny_pure ⟨_, rfl, hQ h' sb r⟩
/-- a new one -/
theorem tx_new {h : Heap} (w : World) : TxS w (h.push { cls := .type "set", dict := none, data := .set #[] 0 (.fresh 0 0 (!w.params.followText "set-order")) }) h.objs.size [] :=
  ⟨_, #[], 0, _, ⟨Heap.get?_push_size _ rfl, ⟨rfl, rfl, rfl⟩, rfl⟩, by simp, by simp, by simp, by decide, rfl, .nil, by
    show _ ∨ (!w.params.followText "set-order") = true
    cases w.params.followText "set-order" <;> simp⟩

theorem strs_of : ∀ (l : List Value) (f : Value → Str), (∀ v ∈ l, ∃ k t, v = Value.str k t ∧ f v = k) → StrsAre l (l.map f)
  | [], _, _ => .nil
  | v :: l, f, h => by
    obtain ⟨k, t, rfl, e⟩ := h v List.mem_cons_self
    rw [List.map_cons, e]
    exact .cons k t (strs_of l f fun u hu => h u (List.mem_cons_of_mem _ hu))
def vS : Value → Str
  | .str k _ => k
  | _ => Str.empty
/-- sorted(S) -/
theorem tx_sorted {Q : Value → Shared → Prop} (R : TxS w s.heap a L) (hh : A.handled = none) (few : L.length < 64)
    (hQ : ∀ s' p (out : Array Value) (c : Nat) (ys : List Str), (∀ b o, s.heap.get? b = some o → s'.heap.get? b = some o) → s'.gens = s.gens → s'.os = s.os → s.heap.objs.size ≤ p →
      s'.heap.get? p = some (seqObj "list" out c) → StrsAre out.toList ys → ys.Perm L → sortedS ys = true → Q (.ref p) s') : wpAny (model P w) A (call (.builtin "sorted") [.ref a]) Q E s := by
  obtain ⟨o, es, ep, t, ⟨ho, hex, hd⟩, ge, pm, nd, hb, hf, hr, hl⟩ := R.ex
  have hn : es.size = L.length := by simpa using pm.length_eq
  refine Calls.call_function_entry kind_sorted plain_sorted entry_sorted (args_sorted1 _) ?_
  unfold Builtin.«sorted»
  refine wpAny_bind (m := checkCount "sorted" 1 1 _) (wpAny_pure (wpAny_bind (collect_set (A := A.in1) hh ⟨o, ho, hex.1, hd⟩ hf hb hr hl fun s1 vs k1 hz g1 o1 pv => ?_)))
  have hvl : vs.length = L.length := by rw [pv.length_eq, List.length_map, Array.length_toList, hn]
  have hv : ∀ v ∈ vs, ∃ k t, v = Value.str k t ∧ vS v = k := fun v hv => by
    obtain ⟨e, he, rfl⟩ := List.mem_map.mp (pv.mem_iff.mp hv)
    obtain ⟨k, tk, rfl⟩ := ge e he
    exact ⟨k, tk, rfl, rfl⟩
  have hS := strs_of vs vS hv
  have pk : (vs.map vS).Perm L := by
    refine (pv.map vS).trans ?_
    rw [List.map_map]
    exact pm
  refine wpAny_bind (wpAny_newList ?_ (by rw [hvl, sizeLine_eq]; omega))
  have hoL : (s1.heap.push (seqObj "list" vs.toArray 0)).get? s1.heap.objs.size = some (seqObj "list" vs.toArray 0) := Heap.get?_push_size _ rfl
  refine wpAny_bind (wpAny_holding (wpAny_call_entry slot_list_sort ⟨_, hoL, rfl⟩ entry_list_sort (list_sort_treeK strKind_oneLt hoL hS.keysOf (fun v₁ v₂ rest e => keyKind_strs (by rw [← e]; exact hS)) (by omega) fun st hp hs => ⟨_, rfl, ?_⟩) (args_list_sort _)))
  obtain ⟨ys, y1, y2, y3⟩ := sorted_out_str hS hp hs
  obtain ⟨c, hc⟩ := sortedHeap_at (vs := vs) (out := (arrOf st).map (·.2)) hoL
  refine wpAny_pure ⟨_, rfl, hQ _ s1.heap.objs.size _ c ys (fun b u e => ?_) g1 o1 hz hc y1 (y2.trans pk) y3⟩
  have q := k1 b u e
  have lt := Heap.lt_size q
  refine (sortedHeap_old (Nat.ne_of_lt lt) ?_).trans (Heap.get?_push_of_some _ q)
  rw [size_push']
  exact Nat.lt_succ_of_lt lt
end
/-! ### tracked -/
def TxO (w : World) (a : Addr) (L : List Str) : HO := .ext fun h => TxS w h a L
theorem txO_new {w : World} {P : Program} {H : Hp} {h : Heap} {a : Addr} {L : List Str} (R : TxS w h a L) : ObjOk P w H h a (TxO w a L) :=
  ⟨R, let ⟨o, _, _, _, ⟨ho, _⟩, _⟩ := R.ex; ⟨o, ho⟩, fun _ _ p k => TxS.move p k⟩
section
variable {X : Cx} {pins : List (Addr × Obj)} {σ : L2.St} {H : Hp} {s : Shared}
theorem txO_get {a : Addr} {L : List Str} (I : Inv X pins σ H s) (ha : H a = some (TxO X.w a L)) : TxS X.w s.heap a L := (I.hok a _ ha).1
theorem txO_add {E : Value → Shared → Prop} {D : Addr} {L : List Str} {k : Str} {t : Tok} {Q : Value → Shared → Prop} (I : Inv X pins σ H s) (hD : H D = some (TxO X.w D L)) (room : L.length + 1 < scanBound)
    (h : ∀ s', Inv X pins σ (upd H D (TxO X.w D (addL k L))) s' → Q .none s') : wpAny (model X.prog X.w) X.A (call (.builtin "set.add") [.ref D, .str k t]) Q E s := by
  refine tx_add (txO_get I hD) room fun h' sb R => h _ (I.write (e := D) (t' := s.toks + 1) (by rw [hD]; trivial) (.inl rfl) (fun b u hb hu => (sb.2 b hb).trans hu) ?_ (txO_new R))
  obtain ⟨o, _, _, _, ⟨ho, _⟩, _⟩ := R.ex
  exact ⟨o, ho⟩
/-- sorted(S) -/
def rSortedTx (w : World) : List V → Hp → VK → Prop := fun vs H Q => ∃ (a : Addr) (L : List Str), vs = [V.ref a] ∧ H a = some (TxO w a L) ∧ L.length < 64 ∧
  ∀ (ys : List Str) (p : Addr), ys.Perm L → sortedS ys = true → H p = none → Q (.ref p) (upd H p (.lst (ys.map V.str)))
theorem cr_sortedTx (hc : X.calm = true) : CallR X (.builtin "sorted") (rSortedTx X.w) := by
  rintro pins s σ H vs us Q I r ⟨a, L, rfl, ha, few, q⟩
  rw [Vals.ref1 r]
  refine tx_sorted (txO_get I ha) (I.ok.hd hc) few fun s' p out c ys kp hg ho hp hat hS pm hs => ?_
  obtain ⟨h', g', d', tk', os'⟩ := s'
  subst hg ho
  have len : (ys.map V.str).length ≤ sizeLine := by rw [List.length_map, pm.length_eq, sizeLine_eq]; omega
  have lay : ObjOk X.prog X.w (upd H p (.lst (ys.map V.str))) h' p (.lst (ys.map V.str)) := ⟨len, out.toList, c, vals_of_strs hS, hat⟩
  exact ⟨.ref p, _, I.call (ch := []) (Un.laid kp hp (I.hok.fresh hp)) (I.hok.laid kp hp lay) I.bare (fun _ z => nomatch z), rfl, q ys p pm hs (I.hok.fresh hp)⟩
end
end StT

/-! S172: set comprehensions of texts -/
namespace StT
open PySem PySem.Spec PyProof.Rows L2 PpSet
section
variable {X : Cx}
/-- {e for t in it if c}, e a text: D stands for the set while it grows -/
def tScT (w : World) (wi : TI) (g : TG) (tt : TT) (te : TE) (vs : List Nat) : TE := fun σ H Q => wi σ H fun J H1 => ∀ D, H1 D = none →
  ∃ W : Nat → Nat → Hp → Prop, (∃ m, W 0 m (upd H1 D (TxO w D []))) ∧ ∀ i m H, W i m H →
    (J.stop i H ∧ Q (.ref D) H) ∨ (J.go i H ∧ ∃ Nx : Hp → Prop, (∀ H', Nx H' → ∃ m', m' < m ∧ W (i + 1) m' H') ∧ ∀ x H', J.yld i H x H' → g x (wipe σ vs) H' fun σ2 H2 => wipe σ2 vs = wipe σ vs ∧
      tt σ2 H2 fun b H3 => if b = true then te σ2 H3 fun y H4 => ∃ (c : Str) (L : List Str), y = .str c ∧ H4 D = some (TxO w D L) ∧ L.length + 1 < scanBound ∧ Nx (upd H4 D (TxO w D (addL c L))) else Nx H3)
theorem scT_core {pins : List (Addr × Obj)} {s : Shared} {σ : L2.St} {H : Hp} {Q : VK} {elt tg iter : Expr} {ifs : List Expr} {scope : Scope} {own : List (PySem.Str × Nat)} {pos pos' : Pos} {wi : TI} {g : TG} {tt : TT} {te : TE} {use : Option (Value → Sem Unit)} {Qf : Value → Shared → Prop}
    (hc : X.calm = true) (hN : X.N.Nodup) (I : Inv X pins σ H s) (hi : PI X tg iter wi) (ok : BlkOk X.N X.env.scope scope own)
    (hg : ∀ (s : Shared) (H : Hp) (C : Addr) (cl : List (PySem.Str × Addr)) (fp : List Addr), PG (X.blk s H scope (compEnvC scope cl C X.env) fp) tg g)
    (ht : ∀ (s : Shared) (H : Hp) (C : Addr) (cl : List (PySem.Str × Addr)) (fp : List Addr), PTs (X.blk s H scope (compEnvC scope cl C X.env) fp) ifs tt)
    (he : ∀ (s : Shared) (H : Hp) (C : Addr) (cl : List (PySem.Str × Addr)) (fp : List Addr), PE (X.blk s H scope (compEnvC scope cl C X.env) fp) elt te) (hs : ∀ x, foldedSetIterable iter X.env x = pure x)
    (h : tScT X.w wi g tt te (own.map (·.2)) σ H Q)
    (hRR : ∀ D C s' m H', Inv X pins σ H' s' → Q (.ref D) H' → s'.heap.Ns C m → FpOk X pins H' C → compPost (model X.prog X.w) X.A X.xe use Qf (.ref D) C (.ok .next) s') :
    wpAny (model X.prog X.w) X.A (comprehension (.SetComp elt [⟨tg, iter, ifs, 0⟩] scope pos) scope X.env pos' (newSet (.type "set")) false (eval iter X.env) use) Qf X.xe s := by
  have hfree : ∀ y ∈ scope.names, y.2 = .free → ∃ c, X.env.cells.lookup y.1 = some c := by
    intro y hy e
    exact (ok.free y hy e).elim (fun k => I.ok.has _ (.inl k)) fun k => I.ok.has _ (.inr k)
  refine wpAny_comprehension_free (use := use) rfl hs (closure_ok hfree) ok.kind (fun y hy e => by rw [ok.uniq y hy, e]) (thn (hi.run pins s σ H _ I h) fun _ s1 hx => thn hx fun _ s2 h2 => ?_)
  obtain ⟨it, fp, tn, J, H2, rfl, I2, T, st2, f2, q⟩ := h2
  refine newSet_ok (newEnv_comp ?_)
  obtain ⟨D, hD⟩ : ∃ D, s2.heap.objs.size = D := ⟨_, rfl⟩
  obtain ⟨W, ⟨m0, w0⟩, turn⟩ := q D (I2.hok.fresh (Nat.le_of_eq hD))
  rw [hD]
  obtain ⟨s3, hs3⟩ : ∃ s3 : Shared, s3 = { s2 with heap := s2.heap.push { cls := .type "set", dict := none, data := .set #[] 0 (.fresh 0 0 (!X.w.params.followText "set-order")) } } := ⟨_, rfl⟩
  have e3 : s3.heap = s2.heap.push { cls := .type "set", dict := none, data := .set #[] 0 (.fresh 0 0 (!X.w.params.followText "set-order")) } := by rw [hs3]
  have I3 : Inv X pins σ (upd H2 D (TxO X.w D [])) s3 := by
    rw [hs3, ← hD]
    exact I2.laid (t' := s2.toks) (fun b o e => Heap.get?_push_of_some _ e) (Nat.le_refl _) (txO_new (tx_new X.w))
  have sz : ∀ b ∈ fp, b < s2.heap.objs.size := fun b hb => let ⟨o, e, _⟩ := T.obj _ _ st2 b hb; Heap.lt_size e
  have f3 : ∀ b ∈ fp, FpOk X pins (upd H2 D (TxO X.w D [])) b ∧ b < s3.heap.objs.size := fun b hb =>
    ⟨⟨(upd_ne (hD ▸ Nat.ne_of_lt (sz b hb))).trans (f2 b hb).1, (f2 b hb).2⟩, by rw [e3, Heap.size_push]; exact Nat.lt_succ_of_lt (sz b hb)⟩
  have st3 : tn 0 s3.heap := T.keep _ _ _ st2 fun b _ o e => by rw [e3]; exact Heap.get?_push_of_some _ e
  rw [← hs3]
  have I4 := block_start I3 ok hN f3
  obtain ⟨cl, hcl⟩ : ∃ cl, cellsFrom (s3.heap.objs.size + 1) scope.names (cloFrom X.env.cells scope.names []) = cl := ⟨_, rfl⟩
  rw [hcl] at I4 ⊢
  obtain ⟨H3, hH3⟩ : ∃ H3, upd H2 D (TxO X.w D []) = H3 := ⟨_, rfl⟩
  rw [hH3] at I3 I4 w0 f3
  have pg := hg s3 H3 s3.heap.objs.size cl fp
  have pt := ht s3 H3 s3.heap.objs.size cl fp
  have pe := he s3 H3 s3.heap.objs.size cl fp
  show codeAny _ _ (.compStart (.SetComp elt [⟨tg, iter, ifs, 0⟩] scope pos) 0 (.ref it) (.ref D) (compEnvC scope cl s3.heap.objs.size X.env)) (compPost (model X.prog X.w) X.A X.xe use Qf (.ref D) s3.heap.objs.size)
    { s3 with heap := pushCells (s3.heap.push { cls := .type "dict", data := .dict #[] }) scope.names }
  obtain ⟨ce, hce⟩ : ∃ ce, compEnvC scope cl s3.heap.objs.size X.env = ce := ⟨_, rfl⟩
  rw [hce] at I4 pg pt pe ⊢
  have cL : ce.locals = s3.heap.objs.size := by subst hce; rfl
  obtain ⟨s4, hs4⟩ : ∃ s4 : Shared, s4 = { s3 with heap := pushCells (s3.heap.push { cls := .type "dict", data := .dict #[] }) scope.names } := ⟨_, rfl⟩
  rw [← hs4] at I4 ⊢
  have st4 : tn 0 s4.heap := T.keep _ _ _ st3 fun b _ o e => by rw [hs4]; exact pushCells_keeps _ _ _ _ (Heap.get?_push_of_some _ e)
  have stat : ∀ {σ' : L2.St} {H' : Hp} {s' : Shared}, Inv (X.blk s3 H3 scope ce fp) [] σ' H' s' → (∀ b ∈ fp, H' b = none) → ∀ b ∈ fp, FpOk (X.blk s3 H3 scope ce fp) [] H' b := fun {σ' H' s'} I' hn b hb =>
    ⟨hn b hb, (I'.ok.exf b hb).1, I'.ok.exfs b hb, .inl hb, fun x c e => (I'.ok.exf b hb).2 x c e, fun p hp => by simp at hp⟩
  have loop : codeAny (model X.prog X.w) X.A (.compLoop (.SetComp elt [⟨tg, iter, ifs, 0⟩] scope pos) 0 (.ref it) (.ref D) ce) (compPost (model X.prog X.w) X.A X.xe use Qf (.ref D) s3.heap.objs.size) s4 := by
    refine compLoopS_any (fun n s' => ∃ i H', Inv (X.blk s3 H3 scope ce fp) [] (wipe σ (own.map (·.2))) H' s' ∧ tn i s'.heap ∧ (∀ b ∈ fp, H' b = none) ∧ W i n H') ?_ m0 ⟨0, H3, I4, st4, fun b hb => (f3 b hb).1.1, w0⟩
    rintro n s5 ⟨i, H5, I5, st5, n5, w5⟩
    rcases turn i n H5 w5 with ⟨stop, qq⟩ | ⟨go, Nx, hNx, step⟩
    · refine thnF (T.done (X.blk s3 H3 scope ce fp) rfl rfl rfl hc i [] s5 _ H5 (fun _ _ => False) I5 (stat I5 n5) st5 stop) fun r s6 ⟨hr, I6⟩ => ?_
      subst hr
      have I7 : Inv X pins σ H5 s6 := I3.call' (ch := fp) I6.os I6.base I6.hok I6.bare fun b hb => ⟨(f3 b hb).1.2.2.2.1, (f3 b hb).1.2.1, (f3 b hb).1.2.2.2.2.1, (f3 b hb).1.2.2.2.2.2⟩
      obtain ⟨m, hn, _⟩ := I6.loc
      exact hRR D s3.heap.objs.size s6 m H5 I7 qq (cL ▸ (show s6.heap.Ns ce.locals m from hn)) (I3.fpOk (Nat.le_refl _) (cL ▸ (show H5 ce.locals = none from I6.free)))
    · refine thnF (T.item (X.blk s3 H3 scope ce fp) rfl rfl rfl hc i [] s5 _ H5 (fun _ _ => False) I5 (stat I5 n5) st5 go) fun r s6 ⟨u, hr, h6⟩ => ?_
      subst hr
      refine thnF h6 fun _ s7 ⟨x, H7, I7, r7, y7, st7, n7⟩ => ?_
      refine thnF (pg.run _ s7 _ H7 x u _ (I7.pinned (stat I7 n7) (T.obj _ _ st7)) r7 (step x H7 y7)) fun _ s8 ⟨σ8, H8, I8, hw8, q8⟩ => ?_
      refine thnF (pt.run _ s8 σ8 H8 _ I8 q8) fun b s9 ⟨H9, I9, q9⟩ => ?_
      have fin : ∀ {s' : Shared} {H' : Hp}, Inv (X.blk s3 H3 scope ce fp) ([] ++ pinsAt fp s7.heap) σ8 H' s' → Nx H' → ∃ m, m < n ∧ ∃ i H', Inv (X.blk s3 H3 scope ce fp) [] (wipe σ (own.map (·.2))) H' s' ∧ tn i s'.heap ∧ (∀ b ∈ fp, H' b = none) ∧ W i m H' := by
        intro s' H' I' nx
        obtain ⟨m', hm, w'⟩ := hNx H' nx
        have pin : ∀ b ∈ fp, ∀ o, s7.heap.get? b = some o → s'.heap.get? b = some o ∧ H' b = none := fun b hb o e =>
          have z := I'.pin (b, o) (List.mem_append_right _ (List.mem_append_right _ (mem_pinsAt hb e)))
          ⟨z.1, z.2.1⟩
        refine ⟨m', hm, i + 1, H', (I'.unpinned (pins := [])).weak (by rw [← hw8, wipe_length]) (fun j v e => (wipe_some (hw8 ▸ e)).1), T.keep _ _ _ st7 fun b hb o e => (pin b hb o e).1, fun b hb => ?_, w'⟩
        obtain ⟨o, e, _⟩ := T.obj _ _ st7 b hb
        exact (pin b hb o e).2
      cases b with
      | false => exact fin I9 q9
      | true =>
        refine thnF (pe.run _ s9 σ8 H9 _ I9 q9) fun z s10 ⟨yv, H10, I10, r10, c, L, ey, hD10, few, nx⟩ => ?_
        subst ey
        obtain ⟨tk, rfl⟩ := r10
        exact txO_add (X := X.blk s3 H3 scope ce fp) I10 hD10 few fun s11 I11 => fin I11 nx
  exact codeAny_compStart_set loop (T.self X.A 0 _ _ _ st4 loop)
theorem pe_scT {elt tg iter : Expr} {ifs : List Expr} {scope : Scope} {own : List (PySem.Str × Nat)} {pos : Pos} {wi : TI} {g : TG} {tt : TT} {te : TE} (hc : X.calm = true) (hN : X.N.Nodup) (hi : PI X tg iter wi) (ok : BlkOk X.N X.env.scope scope own)
    (hg : ∀ (s : Shared) (H : Hp) (C : Addr) (cl : List (PySem.Str × Addr)) (fp : List Addr), PG (X.blk s H scope (compEnvC scope cl C X.env) fp) tg g)
    (ht : ∀ (s : Shared) (H : Hp) (C : Addr) (cl : List (PySem.Str × Addr)) (fp : List Addr), PTs (X.blk s H scope (compEnvC scope cl C X.env) fp) ifs tt)
    (he : ∀ (s : Shared) (H : Hp) (C : Addr) (cl : List (PySem.Str × Addr)) (fp : List Addr), PE (X.blk s H scope (compEnvC scope cl C X.env) fp) elt te) (hs : ∀ x, foldedSetIterable iter X.env x = pure x := by intro _; rfl) :
    PE X (.SetComp elt [⟨tg, iter, ifs, 0⟩] scope pos) (tScT X.w wi g tt te (own.map (·.2))) := by
  refine ⟨fun pins s σ H Q I h => ?_⟩
  rw [eval_SetComp]
  refine scT_core hc hN I hi ok hg ht he hs h fun D C s' m H' I' q hn ⟨f0, f1, _, f3, f4, f5⟩ => ⟨m, hn, fun h'' sb => ?_⟩
  exact ⟨.ref D, H', I'.turned (t' := s'.toks) (fun b o hb e => (sb.2 b hb).trans e) f0 f1 f3 f4 f5, rfl, q⟩
end
end StT

/-! S198: sets of ints by a comprehension with two fors -/
namespace StI
open PySem PySem.Spec PyProof.Rows L2 PpSet
/-- the comprehension {elt for t0 in i0 for t1 in i1} -/
abbrev scE (elt t0 i0 t1 i1 : Expr) (scope : Scope) (pos : Pos) : Expr := .SetComp elt [⟨t0, i0, [], 0⟩, ⟨t1, i1, [], 0⟩] scope pos
theorem turn0 (elt t0 i0 t1 i1 : Expr) (scope : Scope) (pos : Pos) (it acc : Value) (env : Env) : compTurn (scE elt t0 i0 t1 i1 scope pos) 0 it acc env = (do
    standAt i0.pos
    match ← pyNext it with
    | none => pure (.done .next)
    | some v =>
      letOwnedTupleGo t0 it v
      assign t0 env v
      let x ← eval i1 env
      standAt i1.pos
      let y ← foldedSetIterable i1 env x
      let _ ← runOwn (.compStart (scE elt t0 i0 t1 i1 scope pos) 1 (← holding [y] (pyIter y)) acc env) env
      again (.compLoop (scE elt t0 i0 t1 i1 scope pos) 0 it acc env)) := by rfl
theorem turn1 (elt t0 i0 t1 i1 : Expr) (scope : Scope) (pos : Pos) (it acc : Value) (env : Env) : compTurn (scE elt t0 i0 t1 i1 scope pos) 1 it acc env = (do
    standAt i1.pos
    match ← pyNext it with
    | none => pure (.done .next)
    | some v =>
      letOwnedTupleGo t1 it v
      assign t1 env v
      (do
        let z ← eval elt env
        standAt elt.pos
        let _ ← call (.builtin "set.add") [acc, z])
      again (.compLoop (scE elt t0 i0 t1 i1 scope pos) 1 it acc env)) := by rfl
section
variable {prog : Program} {w : World} {A : Around} {R : Result → Shared → Prop} {elt t0 i0 t1 i1 : Expr} {scope : Scope} {pos : Pos} {it acc : Value} {env : Env}
/-- how an exception would leave -/
abbrev Lv (prog : Program) (w : World) (A : Around) (env : Env) (R : Result → Shared → Prop) : Value → Shared → Prop := notedBy (model prog w) A env fun e t => R (.error e) t
theorem loop0 (hs : ∀ x, foldedSetIterable i1 env x = pure x) (P : Nat → Shared → Prop)
    (step : ∀ n t, P n t → wpAny (model prog w) A (pyNext it) (fun r t1' => match r with
      | none => R (.ok .next) t1'
      | some v => wpAny (model prog w) A (letOwnedTupleGo t0 it v) (fun _ t2 => wpAny (model prog w) A (assign t0 env v) (fun _ t3 =>
          wpAny (model prog w) A (eval i1 env) (fun x t4 => wpAny (model prog w) A (pyIter x) (fun jt t5 =>
            codeAny (model prog w) A (.compStart (scE elt t0 i0 t1 i1 scope pos) 1 jt acc env) (fun q t6 => match q with
              | .ok _ => ∃ m, m < n ∧ P m t6
              | .error _ => False) t5) (Lv prog w A env R) t4) (Lv prog w A env R) t3) (Lv prog w A env R) t2) (Lv prog w A env R) t1') (Lv prog w A env R) t)
    (n : Nat) {t : Shared} (h : P n t) : codeAny (model prog w) A (.compLoop (scE elt t0 i0 t1 i1 scope pos) 0 it acc env) R t := by
  refine codeAny_loop rfl P (fun n t hP => ?_) n h
  show wpAny _ A ((compTurn (scE elt t0 i0 t1 i1 scope pos) 0 it acc env).onRaise (fun x => do noteFrame x env; theTreesLotGoes x)) _ _ t
  refine wpAny_noted ?_
  rw [turn0]
  refine wpAny_bind (wpAny_standAt (wpAny_bind (wpAny_mono (step n t hP) (fun r u1 k1 => ?_) fun _ _ z => z)))
  cases r with
  | none => exact wpAny_pure k1
  | some v =>
    refine wpAny_bind (wpAny_mono k1 (fun _ u2 k2 => ?_) fun _ _ z => z)
    refine wpAny_bind (wpAny_mono k2 (fun _ u3 k3 => ?_) fun _ _ z => z)
    refine wpAny_bind (wpAny_mono k3 (fun x u4 k4 => ?_) fun _ _ z => z)
    refine wpAny_bind (wpAny_standAt (wpAny_bind (wpAny_of_eq (hs x) ?_)))
    refine wpAny_bind (wpAny_holding (wpAny_mono k4 (fun jt u5 k5 => ?_) fun _ _ z => z))
    refine wpAny_bind (wpAny_runOwn ?_)
    rw [Around.mark_none]
    refine codeAny_mono k5 fun q u6 hq => ?_
    cases q with
    | error e => exact hq.elim
    | ok f =>
      first
        | exact wpAny_pure ⟨rfl, hq⟩
        | exact wpAny_bind (wpAny_pure (wpAny_pure ⟨rfl, hq⟩))
theorem loop1 (P : Nat → Shared → Prop)
    (step : ∀ n t, P n t → wpAny (model prog w) A (pyNext it) (fun r t1' => match r with
      | none => R (.ok .next) t1'
      | some v => wpAny (model prog w) A (letOwnedTupleGo t1 it v) (fun _ t2 => wpAny (model prog w) A (assign t1 env v) (fun _ t3 =>
          wpAny (model prog w) A (eval elt env) (fun x t4 => wpAny (model prog w) A (call (.builtin "set.add") [acc, x]) (fun _ t5 => ∃ m, m < n ∧ P m t5) (Lv prog w A env R) t4) (Lv prog w A env R) t3) (Lv prog w A env R) t2) (Lv prog w A env R) t1') (Lv prog w A env R) t)
    (n : Nat) {t : Shared} (h : P n t) : codeAny (model prog w) A (.compLoop (scE elt t0 i0 t1 i1 scope pos) 1 it acc env) R t := by
  refine codeAny_loop rfl P (fun n t hP => ?_) n h
  show wpAny _ A ((compTurn (scE elt t0 i0 t1 i1 scope pos) 1 it acc env).onRaise (fun x => do noteFrame x env; theTreesLotGoes x)) _ _ t
  refine wpAny_noted ?_
  rw [turn1]
  refine wpAny_bind (wpAny_standAt (wpAny_bind (wpAny_mono (step n t hP) (fun r u1 k1 => ?_) fun _ _ z => z)))
  cases r with
  | none => exact wpAny_pure k1
  | some v =>
    refine wpAny_bind (wpAny_mono k1 (fun _ u2 k2 => ?_) fun _ _ z => z)
    refine wpAny_bind (wpAny_mono k2 (fun _ u3 k3 => ?_) fun _ _ z => z)
    refine wpAny_bind (wpAny_bind (wpAny_mono k3 (fun x u4 k4 => ?_) fun _ _ z => z))
    exact wpAny_bind (wpAny_standAt (wpAny_bind (wpAny_mono k4 (fun _ u5 k5 => wpAny_pure (wpAny_pure ⟨rfl, k5⟩)) fun _ _ z => z)))
theorem start1 {t : Shared} (h0 : codeAny (model prog w) A (.compLoop (scE elt t0 i0 t1 i1 scope pos) 1 it acc env) R t)
    (h : wpAny (model prog w) A (pyIter it) (fun jt t' => codeAny (model prog w) A (.compLoop (scE elt t0 i0 t1 i1 scope pos) 1 jt acc env) R t') (Lv prog w A env R) t) :
    codeAny (model prog w) A (.compStart (scE elt t0 i0 t1 i1 scope pos) 1 it acc env) R t := by
  refine codeAny_of_tree ?_
  show wpAny _ _ ((compStart (scE elt t0 i0 t1 i1 scope pos) 1 it acc env).onRaise (fun x => do noteFrame x env; standAt theWindowsPlace)) _ _ t
  refine wpAny_notedAt ?_
  unfold compStart
  show wpAny _ _ (ask >>= _) _ _ t
  refine wpAny_bind (wpAny_askSetting (wpAny_ite ?_))
  split
  · first
      | exact wpAny_pure ⟨rfl, h0⟩
      | exact wpAny_bind (wpAny_pure (wpAny_pure ⟨rfl, h0⟩))
  · refine wpAny_bind (wpAny_rule ?_)
    show wpAny _ _ (standAt i1.pos >>= _) _ _ t
    exact wpAny_bind (wpAny_standAt (wpAny_bind (wpAny_mono h (fun jt t' k => wpAny_pure ⟨rfl, k⟩) fun _ _ z => z)))
end
section
variable {X : Cx}
/-- D stands for the set while it grows -/
def tScI (w : World) (wa : TI) (ga : TG) (wb : TI) (gb : TG) (te : TE) (vs ws : List Nat) : TE := fun σ H Q => wa σ H fun J H0 => ∀ D, H0 D = none →
  ∃ W : Nat → Nat → Hp → Prop, (∃ m, W 0 m (upd H0 D (SetO w D (fun _ => false) 0))) ∧ ∀ i m G, W i m G →
    (J.stop i G ∧ Q (.ref D) G) ∨ (J.go i G ∧ ∃ Y : Hp → Prop, (∀ G', Y G' → ∃ m', m' < m ∧ W (i + 1) m' G') ∧ ∀ x G', J.yld i G x G' → ga x (wipe σ vs) G' fun τ G2 => wipe τ vs = wipe σ vs ∧
      wb τ G2 fun L G3 => ∃ V : Nat → Nat → Hp → Prop, (∃ m, V 0 m G3) ∧ ∀ j k K, V j k K →
        (L.stop j K ∧ Y K) ∨ (L.go j K ∧ ∃ Z : Hp → Prop, (∀ K', Z K' → ∃ k', k' < k ∧ V (j + 1) k' K') ∧ ∀ y K', L.yld j K y K' → gb y (wipe τ ws) K' fun υ K2 => wipe υ ws = wipe τ ws ∧
          te υ K2 fun z K3 => ∃ (c : Int) (S : Int → Bool) (n : Nat), z = .int c ∧ K3 D = some (SetO w D S n) ∧ n + 1 < scanBound ∧ Z (upd K3 D (SetO w D (fun j => S j || decide (j = c)) (if S c = true then n else n + 1)))))
theorem setO_put {pins : List (Addr × Obj)} {σ : L2.St} {H : Hp} {s : Shared} {E : Value → Shared → Prop} {D : Addr} {S : Int → Bool} {n : Nat} {c : Int} {u : Value} {Q : Value → Shared → Prop} (I : Inv X pins σ H s) (hD : H D = some (SetO X.w D S n)) (room : n + 1 < scanBound) (ru : RelV (.int c) u)
    (h : ∀ t, Inv X pins σ (upd H D (SetO X.w D (fun j => S j || decide (j = c)) (if S c = true then n else n + 1))) t → Q .none t) : wpAny (model X.prog X.w) X.A (call (.builtin "set.add") [.ref D, u]) Q E s := by
  obtain ⟨tk, rfl⟩ := ru
  refine setR_add (setO_get I hD) room fun h' sb R => h _ (I.write (e := D) (t' := s.toks + 1) (by rw [hD]; trivial) (.inl rfl) (fun b o hb e => (sb.2 b hb).trans e) ?_ (setO_new R))
  obtain ⟨o, _, _, _, ho, _⟩ := R
  exact ⟨o, ho⟩
theorem wipe_far {σ : L2.St} {i : Nat} {vs : List Nat} (h : i ∉ vs) : (wipe σ vs)[i]? = σ[i]? := wipe_out h
theorem scI_core {pins : List (Addr × Obj)} {s : Shared} {σ : L2.St} {H : Hp} {Q : VK} {elt ta ia tb ib : Expr} {scope : Scope} {own : List (PySem.Str × Nat)} {ws : List Nat} {pos pos' : Pos} {wa wb : TI} {ga gb : TG} {te : TE} {use : Option (Value → Sem Unit)} {Qf : Value → Shared → Prop}
    (hc : X.calm = true) (hN : X.N.Nodup) (I : Inv X pins σ H s) (pa : PI X ta ia wa) (ok : BlkOk X.N X.env.scope scope own) (hv : ∀ i ∈ ws, i ∈ own.map (·.2))
    (qa : ∀ (s : Shared) (H : Hp) (C : Addr) (cl : List (PySem.Str × Addr)) (fp : List Addr), PG (X.blk s H scope (compEnvC scope cl C X.env) fp) ta ga)
    (pb : ∀ (s : Shared) (H : Hp) (C : Addr) (cl : List (PySem.Str × Addr)) (fp : List Addr), PI (X.blk s H scope (compEnvC scope cl C X.env) fp) tb ib wb)
    (qb : ∀ (s : Shared) (H : Hp) (C : Addr) (cl : List (PySem.Str × Addr)) (fp : List Addr), PG (X.blk s H scope (compEnvC scope cl C X.env) fp) tb gb)
    (qe : ∀ (s : Shared) (H : Hp) (C : Addr) (cl : List (PySem.Str × Addr)) (fp : List Addr), PE (X.blk s H scope (compEnvC scope cl C X.env) fp) elt te)
    (ha : ∀ x, foldedSetIterable ia X.env x = pure x) (hb : ∀ env x, foldedSetIterable ib env x = pure x)
    (h : tScI X.w wa ga wb gb te (own.map (·.2)) ws σ H Q)
    (hEnd : ∀ D C t m G, Inv X pins σ G t → Q (.ref D) G → t.heap.Ns C m → FpOk X pins G C → compPost (model X.prog X.w) X.A X.xe use Qf (.ref D) C (.ok .next) t) :
    wpAny (model X.prog X.w) X.A (comprehension (scE elt ta ia tb ib scope pos) scope X.env pos' (newSet (.type "set")) false (eval ia X.env) use) Qf X.xe s := by
  have hfree : ∀ y ∈ scope.names, y.2 = .free → ∃ c, X.env.cells.lookup y.1 = some c := by
    intro y hy e
    exact (ok.free y hy e).elim (fun k => I.ok.has _ (.inl k)) fun k => I.ok.has _ (.inr k)
  refine wpAny_comprehension_free (use := use) rfl ha (closure_ok hfree) ok.kind (fun y hy e => by rw [ok.uniq y hy, e]) (thn (pa.run pins s σ H _ I h) fun _ s1 hx => thn hx fun _ s2 h2 => ?_)
  obtain ⟨it, fp, tn, J, H2, rfl, I2, T, st2, f2, q⟩ := h2
  refine newSet_ok (newEnv_comp ?_)
  obtain ⟨D, hD⟩ : ∃ D, s2.heap.objs.size = D := ⟨_, rfl⟩
  obtain ⟨W, ⟨m0, w0⟩, turn⟩ := q D (I2.hok.fresh (Nat.le_of_eq hD))
  rw [hD]
  obtain ⟨s3, hs3⟩ : ∃ s3 : Shared, s3 = { s2 with heap := s2.heap.push (set0 X.w) } := ⟨_, rfl⟩
  have e3 : s3.heap = s2.heap.push (set0 X.w) := by rw [hs3]
  have I3 : Inv X pins σ (upd H2 D (SetO X.w D (fun _ => false) 0)) s3 := by
    rw [hs3, ← hD]
    exact I2.laid (t' := s2.toks) (fun b o e => Heap.get?_push_of_some _ e) (Nat.le_refl _) (setO_new (setR_fresh X.w))
  have sz : ∀ b ∈ fp, b < s2.heap.objs.size := fun b hb => let ⟨o, e, _⟩ := T.obj _ _ st2 b hb; Heap.lt_size e
  have f3 : ∀ b ∈ fp, FpOk X pins (upd H2 D (SetO X.w D (fun _ => false) 0)) b ∧ b < s3.heap.objs.size := fun b hb =>
    ⟨⟨(upd_ne (hD ▸ Nat.ne_of_lt (sz b hb))).trans (f2 b hb).1, (f2 b hb).2⟩, by rw [e3, Heap.size_push]; exact Nat.lt_succ_of_lt (sz b hb)⟩
  have st3 : tn 0 s3.heap := T.keep _ _ _ st2 fun b _ o e => by rw [e3]; exact Heap.get?_push_of_some _ e
  rw [show (set0 X.w) = _ from rfl] at hs3
  rw [← hs3]
  have I4 := block_start I3 ok hN f3
  obtain ⟨cl, hcl⟩ : ∃ cl, cellsFrom (s3.heap.objs.size + 1) scope.names (cloFrom X.env.cells scope.names []) = cl := ⟨_, rfl⟩
  rw [hcl] at I4 ⊢
  obtain ⟨H3, hH3⟩ : ∃ H3, upd H2 D (SetO X.w D (fun _ => false) 0) = H3 := ⟨_, rfl⟩
  rw [hH3] at I3 I4 w0 f3
  have ga0 := qa s3 H3 s3.heap.objs.size cl fp
  have gb0 := qb s3 H3 s3.heap.objs.size cl fp
  have ib0 := pb s3 H3 s3.heap.objs.size cl fp
  have ee0 := qe s3 H3 s3.heap.objs.size cl fp
  show codeAny _ _ (.compStart (scE elt ta ia tb ib scope pos) 0 (.ref it) (.ref D) (compEnvC scope cl s3.heap.objs.size X.env)) (compPost (model X.prog X.w) X.A X.xe use Qf (.ref D) s3.heap.objs.size)
    { s3 with heap := pushCells (s3.heap.push { cls := .type "dict", data := .dict #[] }) scope.names }
  obtain ⟨ce, hce⟩ : ∃ ce, compEnvC scope cl s3.heap.objs.size X.env = ce := ⟨_, rfl⟩
  rw [hce] at I4 ga0 gb0 ib0 ee0 ⊢
  have cL : ce.locals = s3.heap.objs.size := by rw [← hce]; rfl
  obtain ⟨s4, hs4⟩ : ∃ s4 : Shared, s4 = { s3 with heap := pushCells (s3.heap.push { cls := .type "dict", data := .dict #[] }) scope.names } := ⟨_, rfl⟩
  rw [← hs4] at I4 ⊢
  have st4 : tn 0 s4.heap := T.keep _ _ _ st3 fun b _ o e => by rw [hs4]; exact pushCells_keeps _ _ _ _ (Heap.get?_push_of_some _ e)
  have stat : ∀ {ς : L2.St} {G : Hp} {t : Shared}, Inv (X.blk s3 H3 scope ce fp) [] ς G t → (∀ b ∈ fp, G b = none) → ∀ b ∈ fp, FpOk (X.blk s3 H3 scope ce fp) [] G b := fun {ς G t} I' hn b hb =>
    ⟨hn b hb, (I'.ok.exf b hb).1, I'.ok.exfs b hb, .inl hb, fun x c e => (I'.ok.exf b hb).2 x c e, fun p hp => by simp at hp⟩
  have whole : codeAny (model X.prog X.w) X.A (.compLoop (scE elt ta ia tb ib scope pos) 0 (.ref it) (.ref D) ce) (compPost (model X.prog X.w) X.A X.xe use Qf (.ref D) s3.heap.objs.size) s4 := by
    refine loop0 (hb ce) (fun n t => ∃ i G, Inv (X.blk s3 H3 scope ce fp) [] (wipe σ (own.map (·.2))) G t ∧ tn i t.heap ∧ (∀ b ∈ fp, G b = none) ∧ W i n G) ?_ m0 ⟨0, H3, I4, st4, fun b hb => (f3 b hb).1.1, w0⟩
    rintro n t5 ⟨i, H5, I5, st5, n5, w5⟩
    rcases turn i n H5 w5 with ⟨stop, qq⟩ | ⟨go, Y, hY, step⟩
    · refine thnF (T.done (X.blk s3 H3 scope ce fp) rfl rfl rfl hc i [] t5 _ H5 (fun _ _ => False) I5 (stat I5 n5) st5 stop) fun r t6 ⟨hr, I6⟩ => ?_
      subst hr
      have I7 : Inv X pins σ H5 t6 := I3.call' (ch := fp) I6.os I6.base I6.hok I6.bare fun b hb => ⟨(f3 b hb).1.2.2.2.1, (f3 b hb).1.2.1, (f3 b hb).1.2.2.2.2.1, (f3 b hb).1.2.2.2.2.2⟩
      obtain ⟨m, hn, _⟩ := I6.loc
      exact hEnd D s3.heap.objs.size t6 m H5 I7 qq (cL ▸ (show t6.heap.Ns ce.locals m from hn)) (I3.fpOk (Nat.le_refl _) (cL ▸ (show H5 ce.locals = none from I6.free)))
    · refine thnF (T.item (X.blk s3 H3 scope ce fp) rfl rfl rfl hc i [] t5 _ H5 (fun _ _ => False) I5 (stat I5 n5) st5 go) fun r t6 ⟨u, hr, h6⟩ => ?_
      subst hr
      refine thnF h6 fun _ t7 ⟨x, H7, I7, r7, y7, st7, n7⟩ => ?_
      refine thnF (ga0.run _ t7 _ H7 x u _ (I7.pinned (stat I7 n7) (T.obj _ _ st7)) r7 (step x H7 y7)) fun _ t8 ⟨τ, H8, I8, hw8, q8⟩ => ?_
      have len8 : (wipe σ (own.map (·.2))).length = τ.length := by rw [← hw8, wipe_length]
      -- from slots that know what the block knew
      have fin : ∀ {υ : L2.St} {t : Shared} {G : Hp}, Inv (X.blk s3 H3 scope ce fp) ([] ++ pinsAt fp t7.heap) υ G t → (wipe σ (own.map (·.2))).length = υ.length → (∀ (j : Nat) v, (wipe σ (own.map (·.2)))[j]? = some (some v) → υ[j]? = some (some v)) → Y G →
          ∃ m, m < n ∧ ∃ i G, Inv (X.blk s3 H3 scope ce fp) [] (wipe σ (own.map (·.2))) G t ∧ tn i t.heap ∧ (∀ b ∈ fp, G b = none) ∧ W i m G := by
        intro υ t G I' hl hk nx
        obtain ⟨m', hm, w'⟩ := hY G nx
        have pin : ∀ b ∈ fp, ∀ o, t7.heap.get? b = some o → t.heap.get? b = some o ∧ G b = none := fun b hb o e =>
          have z := I'.pin (b, o) (List.mem_append_right _ (List.mem_append_right _ (mem_pinsAt hb e)))
          ⟨z.1, z.2.1⟩
        refine ⟨m', hm, i + 1, G, (I'.unpinned (pins := [])).weak hl hk, T.keep _ _ _ st7 fun b hb o e => (pin b hb o e).1, fun b hb => ?_, w'⟩
        obtain ⟨o, e, _⟩ := T.obj _ _ st7 b hb
        exact (pin b hb o e).2
      have know : ∀ (j : Nat) v, (wipe σ (own.map (·.2)))[j]? = some (some v) → (wipe τ ws)[j]? = some (some v) := fun j v e => by
        rw [← hw8] at e
        obtain ⟨e1, e2⟩ := wipe_some e
        rw [wipe_far fun z => e2 (hv j z)]
        exact e1
      refine thnF (ib0.run _ t8 τ H8 _ I8 q8) fun _ t9 hx => thnF hx fun _ t10 h10 => ?_
      obtain ⟨jt, gp, sn, L, H10, rfl, I10, U, st10, f10, V, ⟨k0, v0⟩, turnB⟩ := h10
      have statB : ∀ {G : Hp}, (∀ b ∈ gp, G b = none) → ∀ b ∈ gp, FpOk (X.blk s3 H3 scope ce fp) ([] ++ pinsAt fp t7.heap) G b := fun hn b hb => ⟨hn b hb, (f10 b hb).2⟩
      have inner : codeAny (model X.prog X.w) X.A (.compLoop (scE elt ta ia tb ib scope pos) 1 (.ref jt) (.ref D) ce)
          (fun r t => match r with
            | .ok _ => ∃ m, m < n ∧ ∃ i G, Inv (X.blk s3 H3 scope ce fp) [] (wipe σ (own.map (·.2))) G t ∧ tn i t.heap ∧ (∀ b ∈ fp, G b = none) ∧ W i m G
            | .error _ => False) t10 := by
        refine loop1 (fun k t => ∃ j G, Inv (X.blk s3 H3 scope ce fp) ([] ++ pinsAt fp t7.heap) (wipe τ ws) G t ∧ sn j t.heap ∧ (∀ b ∈ gp, G b = none) ∧ V j k G) ?_ k0 ⟨0, H10, I10.weak (wipe_length _ _) (fun j v e => (wipe_some e).1), st10, fun b hb => (f10 b hb).1, v0⟩
        rintro k t11 ⟨j, H11, I11, st11, n11, v11⟩
        rcases turnB j k H11 v11 with ⟨stopB, done⟩ | ⟨goB, Z, hZ, stepB⟩
        · refine thnF (U.done (X.blk s3 H3 scope ce fp) rfl rfl rfl hc j _ t11 (wipe τ ws) H11 (fun _ _ => False) I11 (statB n11) st11 stopB) fun r t12 ⟨hr, I12⟩ => ?_
          subst hr
          exact fin I12 (len8.trans (wipe_length τ ws).symm) know done
        · refine thnF (U.item (X.blk s3 H3 scope ce fp) rfl rfl rfl hc j _ t11 (wipe τ ws) H11 (fun _ _ => False) I11 (statB n11) st11 goB) fun r t12 ⟨u1, hr, h12⟩ => ?_
          subst hr
          refine thnF h12 fun _ t13 ⟨y, H13, I13, r13, y13, st13, n13⟩ => ?_
          refine thnF (gb0.run _ t13 (wipe τ ws) H13 y u1 _ (I13.pinned (statB n13) (U.obj _ _ st13)) r13 (stepB y H13 y13)) fun _ t14 ⟨υ, H14, I14, hw14, q14⟩ => ?_
          refine thnF (ee0.run _ t14 υ H14 _ I14 q14) fun zv t15 ⟨zz, H15, I15, r15, c, S, cnt, ez, hD15, few, nx⟩ => ?_
          subst ez
          refine setO_put (X := X.blk s3 H3 scope ce fp) I15 hD15 few r15 fun t16 I16 => ?_
          obtain ⟨m', hm, w'⟩ := hZ _ nx
          have pin : ∀ b ∈ gp, ∀ o, t13.heap.get? b = some o → t16.heap.get? b = some o ∧ _ = none := fun b hb o e =>
            have z := I16.pin (b, o) (List.mem_append_right _ (List.mem_append_right _ (mem_pinsAt hb e)))
            ⟨z.1, z.2.1⟩
          refine ⟨m', hm, j + 1, _, I16.unpinned.weak (by rw [← hw14, wipe_length]) (fun j v e => by rw [← hw14] at e; exact (wipe_some e).1), U.keep _ _ _ st13 fun b hb o e => (pin b hb o e).1, fun b hb => ?_, w'⟩
          obtain ⟨o, e, _⟩ := U.obj _ _ st13 b hb
          exact (pin b hb o e).2
      exact start1 inner (U.self X.A 0 _ _ _ st10 inner)
  exact codeAny_compStart_set whole (T.self X.A 0 _ _ _ st4 whole)
end
end StI
namespace StI
open PySem PySem.Spec PyProof.Rows L2 PpSet
theorem pe_scI {X : Cx} {elt ta ia tb ib : Expr} {scope : Scope} {own : List (PySem.Str × Nat)} {ws : List Nat} {pos : Pos} {wa wb : TI} {ga gb : TG} {te : TE} (hc : X.calm = true) (hN : X.N.Nodup) (pa : PI X ta ia wa) (ok : BlkOk X.N X.env.scope scope own) (hv : ∀ i ∈ ws, i ∈ own.map (·.2))
    (qa : ∀ (s : Shared) (H : Hp) (C : Addr) (cl : List (PySem.Str × Addr)) (fp : List Addr), PG (X.blk s H scope (compEnvC scope cl C X.env) fp) ta ga)
    (pb : ∀ (s : Shared) (H : Hp) (C : Addr) (cl : List (PySem.Str × Addr)) (fp : List Addr), PI (X.blk s H scope (compEnvC scope cl C X.env) fp) tb ib wb)
    (qb : ∀ (s : Shared) (H : Hp) (C : Addr) (cl : List (PySem.Str × Addr)) (fp : List Addr), PG (X.blk s H scope (compEnvC scope cl C X.env) fp) tb gb)
    (qe : ∀ (s : Shared) (H : Hp) (C : Addr) (cl : List (PySem.Str × Addr)) (fp : List Addr), PE (X.blk s H scope (compEnvC scope cl C X.env) fp) elt te)
    (ha : ∀ x, foldedSetIterable ia X.env x = pure x := by intro _; rfl) (hb : ∀ env x, foldedSetIterable ib env x = pure x := by intro _ _; rfl) :
    PE X (scE elt ta ia tb ib scope pos) (tScI X.w wa ga wb gb te (own.map (·.2)) ws) := by
  refine ⟨fun pins s σ H Q I h => ?_⟩
  rw [eval_SetComp]
  refine scI_core hc hN I pa ok hv qa pb qb qe ha hb h fun D C s' m H' I' q hn f => ⟨m, hn, fun h'' sb => ?_⟩
  obtain ⟨f0, f1, _, f3, f4, f5⟩ := f
  have I2 := I'.turned (t' := s'.toks) (fun b o hb e => (sb.2 b hb).trans e) f0 f1 f3 f4 f5
  exact ⟨.ref D, H', I2, rfl, q⟩
end StI
namespace Sm
open PySem PySem.Spec PyProof.Rows L2 StI
def addS (k : Int) (L : List Int) : List Int := if k ∈ L then L else L ++ [k]
/-- one element of a set comprehension: d stands for the set -/
def scStep (e : EM) (d : Nat) (lo : Lo) (s : Sto) : Option Sto := match e lo s with
  | .ok (.int k) s1 => match s1[d]? with
    | some (.set L) => if L.length < 4000 then some (s1.set d (.set (addS k L))) else none
    | _ => none
  | _ => none
def scX (g : GL) (e : EM) (d : Nat) (lo : Lo) : List Vl → Sto → Option Sto
  | [], s => some s
  | v :: vs, s => match g v lo with
    | none => none
    | some lo' => match scStep e d lo' s with
      | none => none
      | some s' => scX g e d lo vs s'
def scStep2 (ma : AM) (g : GL) (e : EM) (d : Nat) (ws : List Nat) (lo : Lo) (s : Sto) : Option Sto := match ma lo s with
  | .ok xs s1 => scX g e d (wipeL lo ws) xs s1
  | _ => none
def scN2 (nx : NX) (g : GL) (ma : AM) (g1 : GL) (e : EM) (d : Nat) (ws : List Nat) (lo : Lo) : Nat → Nat → Sto → Option Sto
  | 0, _, _ => none
  | n + 1, i, s => match nx i s with
    | none => none
    | some none => some s
    | some (some v) => match g v lo with
      | none => none
      | some lo' => match scStep2 ma g1 e d ws lo' s with
        | none => none
        | some s' => scN2 nx g ma g1 e d ws lo n (i + 1) s'
def eSc2 (n : Nat) (m : IM) (g : GL) (ma : AM) (g1 : GL) (e : EM) (vs ws : List Nat) : EM := fun lo => bnd (m lo) fun nx s => match scN2 nx g ma g1 e s.length ws (wipeL lo vs) n 0 (s ++ [.set []]) with
  | some s' => .ok (.ref s.length) s'
  | none => .fail
theorem addS_nd {k : Int} {L : List Int} (h : L.Nodup) : (addS k L).Nodup := by
  unfold addS
  split
  · exact h
  · rename_i n
    refine List.nodup_append.mpr ⟨h, by simp, fun a ha b hb e => ?_⟩
    simp at hb
    subst hb e
    exact n ha
theorem mem_addS {k z : Int} {L : List Int} : z ∈ addS k L ↔ z = k ∨ z ∈ L := by
  unfold addS
  split
  · rename_i h
    exact ⟨.inr, fun z => z.elim (fun e => e ▸ h) id⟩
  · simp [or_comm]
theorem ro_addS {T : Tb} {ρ : List Addr} {H : Hp} {L : List Int} {a : Addr} {k : Int} {S : Int → Bool} (nd : L.Nodup) (hS : ∀ k, S k = true ↔ k ∈ L) :
    RO T ρ (upd H a (SetO T.w a (fun j => S j || decide (j = k)) (if S k = true then L.length else L.length + 1))) (.set (addS k L)) a := by
  refine ⟨addS_nd nd, fun j => S j || decide (j = k), fun j => ?_, ?_⟩
  · simp only [Bool.or_eq_true, decide_eq_true_eq, hS j, mem_addS]
    exact or_comm
  · rw [upd_same]
    have e : (if S k = true then L.length else L.length + 1) = (addS k L).length := by
      unfold addS
      by_cases h : k ∈ L
      · rw [if_pos ((hS k).mpr h), if_pos h]
      · rw [if_neg (fun z => h ((hS k).mp z)), if_neg h, List.length_append]
        rfl
    rw [e]
section
variable {X : Cx} {T : Tb} {W : WX} {pos : Pos}
theorem sc2_le {n : Nat} {m : IM} {gl gl1 : GL} {gt gt1 : TG} {ma : AM} {me : EM} {vs ws : List Nat} {σ : L2.St} {H : Hp} {Q : VK} (hx : T.xs = []) (hg : TgOk T gt gl vs) (hg1 : TgOk T gt1 gl1 ws) (h : tE T W (eSc2 n m gl ma gl1 me vs ws) σ H Q) :
    tScI T.w (tI T W m) gt (tI T WF (iFix ma)) gt1 (tE T WF me) vs ws σ H Q :=
  tG_bnd (R := fun ρ H nx J => ItOk T J nx ρ H) h fun ρ0 s0 lo0 nx J H0 r0 rl0 ok0 p0 => by
    intro D hD
    have ro0 : RO T ρ0 (upd H0 D (SetO T.w D (fun _ => false) 0)) (.set []) D := ⟨.nil, fun _ => false, by simp, upd_same⟩
    have xD : Ext T ρ0 H0 (ρ0 ++ [D]) (upd H0 D (SetO T.w D (fun _ => false) 0)) := r0.newExt hD
    have rD : Rel T (ρ0 ++ [D]) (upd H0 D (SetO T.w D (fun _ => false) 0)) (s0 ++ [.set []]) := r0.new hD ro0
    have aD : (ρ0 ++ [D])[s0.length]? = some D := by rw [← r0.len, List.getElem?_append_right (Nat.le_refl _)]; simp
    cases e0 : scN2 nx gl ma gl1 me s0.length ws (wipeL lo0 vs) n 0 (s0 ++ [.set []]) with
    | none => rw [e0] at p0; exact p0.elim
    | some s9 =>
      rw [e0] at p0
      refine ⟨fun i k H => ∃ ρ s, Ext T (ρ0 ++ [D]) (upd H0 D (SetO T.w D (fun _ => false) 0)) ρ H ∧ Rel T ρ H s ∧ scN2 nx gl ma gl1 me s0.length ws (wipeL lo0 vs) k i s = some s9, ⟨n, _, _, .refl, rD, e0⟩, ?_⟩
      rintro i k H1 ⟨ρ, s, x, r, e⟩
      have hd := x.pre _ _ aD
      cases k with
      | zero => cases e
      | succ k =>
        unfold scN2 at e
        have q := ok0 ρ H1 s i (xD.trans x) r
        cases e1 : nx i s with
        | none => simp only [e1] at e; cases e
        | some o =>
          simp only [e1] at e q
          cases o with
          | none =>
            cases e
            exact .inl ⟨q, p0 ρ H1 (.ref D) (xD.trans x) r (.ref hd)⟩
          | some v =>
            obtain ⟨go, yl⟩ := q
            cases e2 : gl v (wipeL lo0 vs) with
            | none => simp only [e2] at e; cases e
            | some lo' =>
              simp only [e2] at e
              cases e3 : scStep2 ma gl1 me s0.length ws lo' s with
              | none => simp only [e3] at e; cases e
              | some s' =>
                simp only [e3] at e
                refine .inr ⟨go, fun H => ∃ ρ, Ext T (ρ0 ++ [D]) (upd H0 D (SetO T.w D (fun _ => false) 0)) ρ H ∧ Rel T ρ H s', fun H' ⟨ρ', x', r'⟩ => ⟨k, Nat.lt_succ_self k, ρ', s', x', r', e⟩, fun z H2 y => ?_⟩
                obtain ⟨x1, r2, hv⟩ := yl z H2 y
                have x2 := x.trans x1
                refine hg ρ H2 (wipeL lo0 vs) lo' σ v z _ (RL.wipe hx (rl0.mono (xD.trans x2)) vs) hv e2 fun σ' rl' hw => ⟨hw, ⟨ρ, s, lo', r2, rl', ?_⟩⟩
                unfold scStep2 at e3
                cases e4 : ma lo' s with
                | fail => rw [e4] at e3; cases e3
                | exc z s1 => rw [e4] at e3; cases e3
                | ok xs s1 =>
                  rw [e4] at e3
                  have ei : iFix ma lo' s = .ok (nxFix xs) s1 := by unfold iFix bnd; rw [e4]; rfl
                  rw [ei]
                  intro ρ4 H4 J1 x4 r4 ok1
                  have rl4 := rl'.mono x4
                  refine ⟨fun j k H => ∃ ρ s, Ext T ρ4 H4 ρ H ∧ Rel T ρ H s ∧ k = xs.length - j ∧ j ≤ xs.length ∧ scX gl1 me s0.length (wipeL lo' ws) (xs.drop j) s = some s', ⟨_, ρ4, s1, .refl, r4, rfl, Nat.zero_le _, by rw [List.drop_zero]; exact e3⟩, ?_⟩
                  rintro j k1 H5 ⟨ρ5, s5, x5, r5, rfl, hj, e5⟩
                  have q1 := ok1 ρ5 H5 s5 j x5 r5
                  simp only [nxFix] at q1
                  by_cases hlt : j < xs.length
                  · rw [List.getElem?_eq_getElem hlt] at q1
                    obtain ⟨go1, yl1⟩ := q1
                    rw [List.drop_eq_getElem_cons hlt] at e5
                    unfold scX at e5
                    cases e6 : gl1 xs[j] (wipeL lo' ws) with
                    | none => simp only [e6] at e5; cases e5
                    | some lo2 =>
                      simp only [e6] at e5
                      cases e7 : scStep me s0.length lo2 s5 with
                      | none => simp only [e7] at e5; cases e5
                      | some s6 =>
                        simp only [e7] at e5
                        refine .inr ⟨go1, fun H => ∃ ρ, Ext T ρ4 H4 ρ H ∧ Rel T ρ H s6, fun H' ⟨ρ', x', r'⟩ => ⟨xs.length - (j + 1), by omega, ρ', s6, x', r', rfl, hlt, e5⟩, fun z1 H6 y1 => ?_⟩
                        obtain ⟨x6, r6, hv1⟩ := yl1 z1 H6 y1
                        have x56 := x5.trans x6
                        refine hg1 ρ5 H6 (wipeL lo' ws) lo2 σ' xs[j] z1 _ (RL.wipe hx (rl4.mono x56) ws) hv1 e6 fun σ2 rl2 hw2 => ⟨hw2, ⟨ρ5, s5, lo2, r6, rl2, ?_⟩⟩
                        unfold scStep at e7
                        cases e8 : me lo2 s5 with
                        | fail => rw [e8] at e7; cases e7
                        | exc z s2 => rw [e8] at e7; cases e7
                        | ok w s2 =>
                          rw [e8] at e7
                          intro ρ8 H8 zw x8 r8 hw8
                          cases w <;> try cases e7
                          rename_i kk
                          simp only at e7
                          split at e7
                          · rename_i L hL
                            split at e7
                            · rename_i hl
                              cases e7
                              have x48 := x56.trans x8
                              have hd8 := (x1.trans (x4.trans x48)).pre _ _ hd
                              obtain ⟨nd, S, hS, g1⟩ := r8.ob _ _ _ hd8 hL
                              have lim : L.length + 1 < scanBound := by
                                have : (4000 : Nat) < scanBound := by decide
                                omega
                              exact ⟨kk, S, L.length, hw8.intE, g1, lim, ρ8, x48.trans (r8.setExt hd8 g1), r8.set hd8 (ro_addS nd hS)⟩
                            · cases e7
                          · cases e7
                  · have ej : j = xs.length := by omega
                    rw [List.getElem?_eq_none (by omega)] at q1
                    rw [ej, List.drop_length] at e5
                    unfold scX at e5
                    cases e5
                    exact .inl ⟨q1, ρ5, x2.trans (x4.trans x5), r5⟩
theorem ce_sc2 {elt tg iter tg1 iter1 : Expr} {scope : Scope} {own : List (Str × Nat)} {ws : List Nat} {m : IM} {ma : AM} {gt gt1 : TG} {gl gl1 : GL} {me : EM} (n : Nat) (hc : X.calm = true) (hN : X.N.Nodup) (hi : PI X tg iter (tI T W m)) (ok : BlkOk X.N X.env.scope scope own) (ho : TgOk T gt gl (own.map (·.2))) (hv : ∀ i ∈ ws, i ∈ own.map (·.2)) (ho1 : TgOk T gt1 gl1 ws)
    (hg : ∀ s H C cl fp, PG (X.blk s H scope (compEnvC scope cl C X.env) fp) tg gt) (hi1 : ∀ s H C cl fp, PI (X.blk s H scope (compEnvC scope cl C X.env) fp) tg1 iter1 (tI T WF (iFix ma))) (hg1 : ∀ s H C cl fp, PG (X.blk s H scope (compEnvC scope cl C X.env) fp) tg1 gt1)
    (he : ∀ s H C cl fp, PE (X.blk s H scope (compEnvC scope cl C X.env) fp) elt (tE T WF me)) (hs : ∀ x, foldedSetIterable iter X.env x = pure x := by intro _; rfl) (hs1 : ∀ env x, foldedSetIterable iter1 env x = pure x := by intro _ _; rfl) (hx : T.xs = [] := by rfl) (hw : X.w = T.w := by rfl) :
    PE X (.SetComp elt [⟨tg, iter, [], 0⟩, ⟨tg1, iter1, [], 0⟩] scope pos) (tE T W (eSc2 n m gl ma gl1 me (own.map (·.2)) ws)) :=
  pe_mono (pe_scI hc hN hi ok hv hg hi1 hg1 he hs hs1) fun _ _ _ h => hw ▸ sc2_le hx ho ho1 h
end
end Sm

namespace K48
-- classes: Rule=0 Pair=1 Both=2 Either=3 Without=4 AtOnce=5 Counting=6 Places=7 Above=8
open PySem PySem.Spec PyProof.Rows L2 Sm
def top (i : Nat) : Stmt := PySem.Challenge.pw_maybegone_k48_rules_by_operators.main.body.getD i (.Pass ⟨0, 0, 0, 0⟩)
abbrev st_Rule_names : Stmt := inClass (top 1) 0
abbrev st_all_unreached : Stmt := top 6
abbrev st_Above_names : Stmt := inClass (top 10) 1
abbrev st_AtOnce_names : Stmt := inClass (top 7) 0
abbrev st_Counting_names : Stmt := inClass (top 8) 0
abbrev st_Places_names : Stmt := inClass (top 9) 1
abbrev st_Both_names : Stmt := inClass (top 3) 0
abbrev st_Either_names : Stmt := inClass (top 4) 0
abbrev st_Without_names : Stmt := inClass (top 5) 0
abbrev st_RuleU_callU : Stmt := inClass (top 1) 1
abbrev st_PairU_initU : Stmt := inClass (top 2) 0
abbrev st_RuleU_andU : Stmt := inClass (top 1) 2
abbrev st_RuleU_orU : Stmt := inClass (top 1) 3
abbrev st_RuleU_subU : Stmt := inClass (top 1) 4
abbrev st_PlacesU_initU : Stmt := inClass (top 9) 0
abbrev st_AboveU_initU : Stmt := inClass (top 10) 0
abbrev st__law_deck : Stmt := top 12
abbrev st__law_draw : Stmt := top 13
abbrev st__law_one : Stmt := top 14
abbrev st__law_view : Stmt := top 15
abbrev st__law_basic : Stmt := top 16
abbrev st__law_rule : Stmt := top 17
abbrev st__law_counted : Stmt := top 18
abbrev st__law_named : Stmt := top 19
abbrev st__law_same : Stmt := top 20
abbrev st__law_sets_right : Stmt := top 21
abbrev st__law_long : Stmt := top 22
abbrev st_law : Stmt := top 23
abbrev cs_chosen : List Nat := [0, 1, 2, 3, 4, 5, 6, 7, 8]
abbrev cs_first_rule : List Nat := [0, 1, 2, 3, 4, 5, 6, 7, 8]
abbrev cs_most : List Nat := [0, 1, 2, 3, 4, 5, 6, 7, 8]
abbrev cs_second_rule : List Nat := [0, 1, 2, 3, 4, 5, 6, 7, 8]
/-! the pure functions -/
def b_Rule_names : SM := (sRet (eCB oTup aNil))
def m_Rule_names : List Vl → M Vl := fnM 2 b_Rule_names
def b_all_unreached : SM := (sRet (eCB oTuple (aCons (eLcX (aTup (eOp opIx (eVar 0) (eC (.int 2)))) (glN 1) (tNotM (tVal (eOp opIx (eVar 1) (eC (.int 2))))) (eOp opIx (eVar 1) (eC (.int 0))) [1]) aNil)))
def m_all_unreached : List Vl → M Vl := fnM 2 b_all_unreached
def b_Above_names : SM := (sRet (eIfM (tVal (eOp opGt (eCB oLen (aCons (eOp opIx (eVar 1) (eC (.int 2))) aNil)) (eFld cs_most "most" (eVar 0)))) (eCall (arg 1 m_all_unreached) (aCons (eVar 1) aNil)) (eCB oTup aNil)))
def m_Above_names : List Vl → M Vl := fnM 2 b_Above_names
def b_AtOnce_names : SM := (sRet (eCall (arg 1 m_all_unreached) (aCons (eVar 1) aNil)))
def m_AtOnce_names : List Vl → M Vl := fnM 2 b_AtOnce_names
def b_Counting_names : SM := (sSeq (sSet 2 eDict0)
  (sSeq (sSet 3 (eC (.bl true)))
  (sSeq (loopW (tVal (eVar 3)) (sSeq (sSet 3 (eC (.bl false)))
  (sForX (aTup (eOp opIx (eVar 1) (eC (.int 2)))) (gTp [4, 5, 6, 7])
  (sIf (tAndM (tVal (eOp opNotIn (eVar 4) (eVar 2))) (tAndM (tNotM (tVal (eVar 5))) (tVal (eCB oAll (aCons (eLcX (aTup (eVar 7)) (glN 8) tTrue (eOp opIn (eVar 8) (eVar 2)) [8]) aNil))))) (sSeq (sAsg (gSb opSet (eVar 2) (eVar 4)) (eC (.bl true)))
  (sSet 3 (eC (.bl true)))) sNil))) 100000)
  (sRet (eCB oTuple (aCons (eCB oSortS (aCons (eCB oList (aCons (eVar 2) aNil)) aNil)) aNil))))))
def m_Counting_names : List Vl → M Vl := fnM 9 b_Counting_names
def b_Places_names : SM := (sRet (eIfM (tVal (eOp opIn (eOp opIx (eVar 1) (eC (.int 1))) (eFld cs_chosen "chosen" (eVar 0)))) (eCall (arg 1 m_all_unreached) (aCons (eVar 1) aNil)) (eCB oTup aNil)))
def m_Places_names : List Vl → M Vl := fnM 2 b_Places_names
def tabR0_names (R : Nat → List Vl → M Vl) : MTab := fun c => match c with
  | 0 => some m_Rule_names
  | 1 => some m_Rule_names
  | 2 => some (R 0)
  | 3 => some (R 1)
  | 4 => some (R 2)
  | 5 => some m_AtOnce_names
  | 6 => some m_Counting_names
  | 7 => some m_Places_names
  | 8 => some m_Above_names
  | _ => none
def b_Both_names (R : Nat → List Vl → M Vl) : SM := (sSeq (sSet 2 (eMeth "names" (tabA 1 (tabR0_names R)) (eFld cs_second_rule "second_rule" (eVar 0)) (aCons (eVar 1) aNil)))
  (sRet (eCB oTuple (aCons (eLcX (aTup (eMeth "names" (tabA 1 (tabR0_names R)) (eFld cs_first_rule "first_rule" (eVar 0)) (aCons (eVar 1) aNil))) (glN 3) (tVal (eOp opIn (eVar 3) (eVar 2))) (eVar 3) [3]) aNil))))
def b_Either_names (R : Nat → List Vl → M Vl) : SM := (sRet (eCB oTuple (aCons (eCB oSortS (aCons (eSc2 100000 (iFix (aTup (eCB oTup (aCons (eFld cs_first_rule "first_rule" (eVar 0)) (aCons (eFld cs_second_rule "second_rule" (eVar 0)) aNil))))) (glN 2) (aTup (eMeth "names" (tabA 1 (tabR0_names R)) (eVar 2) (aCons (eVar 1) aNil))) (glN 3) (eVar 3) [2, 3] [3]) aNil)) aNil)))
def b_Without_names (R : Nat → List Vl → M Vl) : SM := (sSeq (sSet 2 (eMeth "names" (tabA 1 (tabR0_names R)) (eFld cs_second_rule "second_rule" (eVar 0)) (aCons (eVar 1) aNil)))
  (sRet (eCB oTuple (aCons (eLcX (aTup (eMeth "names" (tabA 1 (tabR0_names R)) (eFld cs_first_rule "first_rule" (eVar 0)) (aCons (eVar 1) aNil))) (glN 3) (tVal (eOp opNotIn (eVar 3) (eVar 2))) (eVar 3) [3]) aNil))))
def R0 : Nat → Nat → List Vl → M Vl
  | 0, _ => mFail
  | n + 1, 0 => fnM 4 (b_Both_names (R0 n))
  | n + 1, 1 => fnM 4 (b_Either_names (R0 n))
  | n + 1, 2 => fnM 4 (b_Without_names (R0 n))
  | _ + 1, _ => mFail
def m_Both_names : List Vl → M Vl := R0 24 0
def m_Either_names : List Vl → M Vl := R0 24 1
def m_Without_names : List Vl → M Vl := R0 24 2
def tab_names : MTab := fun c => match c with
  | 0 => some m_Rule_names
  | 1 => some m_Rule_names
  | 2 => some m_Both_names
  | 3 => some m_Either_names
  | 4 => some m_Without_names
  | 5 => some m_AtOnce_names
  | 6 => some m_Counting_names
  | 7 => some m_Places_names
  | 8 => some m_Above_names
  | _ => none
def b_RuleU_callU : SM := (sRet (eMeth "names" (tabA 1 tab_names) (eVar 0) (aCons (eVar 1) aNil)))
def m_RuleU_callU : List Vl → M Vl := fnM 2 b_RuleU_callU
def tab_UcallU : MTab := fun c => match c with
  | 0 => some m_RuleU_callU
  | 1 => some m_RuleU_callU
  | 2 => some m_RuleU_callU
  | 3 => some m_RuleU_callU
  | 4 => some m_RuleU_callU
  | 5 => some m_RuleU_callU
  | 6 => some m_RuleU_callU
  | 7 => some m_RuleU_callU
  | 8 => some m_RuleU_callU
  | _ => none
def b_PairU_initU : SM := (sSeq (sFldM cs_first_rule "first_rule" (eVar 0) (eVar 1))
  (sFldM cs_second_rule "second_rule" (eVar 0) (eVar 2)))
def m_PairU_initU : List Vl → M Vl := fnM 3 b_PairU_initU
def b_RuleU_andU : SM := (sRet (eMake 2 (argI 2 m_PairU_initU) (aCons (eVar 0) (aCons (eVar 1) aNil))))
def m_RuleU_andU : List Vl → M Vl := fnM 2 b_RuleU_andU
def tab_UandU : MTab := fun c => match c with
  | 0 => some m_RuleU_andU
  | 1 => some m_RuleU_andU
  | 2 => some m_RuleU_andU
  | 3 => some m_RuleU_andU
  | 4 => some m_RuleU_andU
  | 5 => some m_RuleU_andU
  | 6 => some m_RuleU_andU
  | 7 => some m_RuleU_andU
  | 8 => some m_RuleU_andU
  | _ => none
def b_RuleU_orU : SM := (sRet (eMake 3 (argI 2 m_PairU_initU) (aCons (eVar 0) (aCons (eVar 1) aNil))))
def m_RuleU_orU : List Vl → M Vl := fnM 2 b_RuleU_orU
def tab_UorU : MTab := fun c => match c with
  | 0 => some m_RuleU_orU
  | 1 => some m_RuleU_orU
  | 2 => some m_RuleU_orU
  | 3 => some m_RuleU_orU
  | 4 => some m_RuleU_orU
  | 5 => some m_RuleU_orU
  | 6 => some m_RuleU_orU
  | 7 => some m_RuleU_orU
  | 8 => some m_RuleU_orU
  | _ => none
def b_RuleU_subU : SM := (sRet (eMake 4 (argI 2 m_PairU_initU) (aCons (eVar 0) (aCons (eVar 1) aNil))))
def m_RuleU_subU : List Vl → M Vl := fnM 2 b_RuleU_subU
def tab_UsubU : MTab := fun c => match c with
  | 0 => some m_RuleU_subU
  | 1 => some m_RuleU_subU
  | 2 => some m_RuleU_subU
  | 3 => some m_RuleU_subU
  | 4 => some m_RuleU_subU
  | 5 => some m_RuleU_subU
  | 6 => some m_RuleU_subU
  | 7 => some m_RuleU_subU
  | 8 => some m_RuleU_subU
  | _ => none
def b_PlacesU_initU : SM := (sFldM cs_chosen "chosen" (eVar 0) (eVar 1))
def m_PlacesU_initU : List Vl → M Vl := fnM 2 b_PlacesU_initU
def b_AboveU_initU : SM := (sFldM cs_most "most" (eVar 0) (eVar 1))
def m_AboveU_initU : List Vl → M Vl := fnM 2 b_AboveU_initU
def b__law_deck : SM := (sRet (eCB oLst (aCons (eLc 100000 (iLst (eSl opSl (eVar 0) none (some (eC (.int 63))))) (glN 1) tTrue (eCB oAbs (aCons (eVar 1) aNil)) [1]) (aCons (eC (.int 0)) aNil))))
def m__law_deck : List Vl → M Vl := fnM 2 b__law_deck
def b__law_draw : SM := (sSeq (sAsg (gSb opSet (eVar 0) (eC (.int 1))) (eOp opAdd (eOp opIx (eVar 0) (eC (.int 1))) (eC (.int 1))))
  (sSeq (sSet 2 (eOp opMod (eCB oInt (aCons (eOp opIx (eVar 0) (eC (.int 1))) aNil)) (eCB oMax (aCons (eC (.int 1)) (aCons (eCB oLen (aCons (eOp opIx (eVar 0) (eC (.int 0))) aNil)) aNil)))))
  (sSeq (sSet 3 (eOp opIx (eOp opAdd (eOp opIx (eVar 0) (eC (.int 0))) (eCB oLst (aCons (eC (.int 0)) aNil))) (eVar 2)))
  (sSeq (sIf (tVal (eOp opGe (eVar 3) (eOp opPow (eC (.int 10)) (eC (.int 18))))) (sSeq (sAsg (gSb opSet (eOp opIx (eVar 0) (eC (.int 0))) (eVar 2)) (eOp opFdiv (eVar 3) (eVar 1)))
  (sRet (eOp opMod (eCB oInt (aCons (eVar 3) aNil)) (eVar 1)))) sNil)
  (sSeq (sSet 4 (eOp opPow (eOp opAdd (eOp opAdd (eOp opMod (eCB oInt (aCons (eVar 3) aNil)) (eC (.int 2147483587))) (eOp opMul (eC (.int 7919)) (eOp opIx (eVar 0) (eC (.int 1))))) (eC (.int 1))) (eC (.int 5))))
  (sRet (eOp opMod (eCB oInt (aCons (eOp opMod (eCB oInt (aCons (eVar 4) aNil)) (eC (.int 2147483647))) aNil)) (eVar 1))))))))
def m__law_draw : List Vl → M Vl := fnM 5 b__law_draw
def b__law_one : SM := (sRet (eOp opIx (eVar 1) (eCall (arg 2 m__law_draw) (aCons (eVar 0) (aCons (eCB oLen (aCons (eVar 1) aNil)) aNil)))))
def m__law_one : List Vl → M Vl := fnM 2 b__law_one
def b__law_view : SM := (sSeq (sPar 4 5 (aCons (eCall (arg 2 m__law_draw) (aCons (eVar 0) (aCons (eC (.int 9)) aNil))) (aCons (eC (.int 0)) aNil)))
  (sSeq (sAsg (gTp [6, 7, 8]) (eCB oTup (aCons (eCB oLst aNil) (aCons eDict0 (aCons eDict0 aNil)))))
  (sSeq (sForX (aRng (aCons (eVar 4) aNil)) (gNm 1)
  (sSeq (sSet 5 (eOp opAdd (eOp opAdd (eVar 5) (eC (.int 1))) (eCall (arg 2 m__law_draw) (aCons (eVar 0) (aCons (eC (.int 3)) aNil)))))
  (sExpr (eBm .list oAppend (eVar 6) (aCons (eVar 5) aNil)))))
  (sSeq (sFor 100000 (iLst (eVar 6)) (gNm 2)
  (sSeq (sAsg (gSb opSet (eVar 7) (eVar 2)) (eLcX (aRng (aCons (eCall (arg 2 m__law_one) (aCons (eVar 0) (aCons (eCB oLst (aCons (eC (.int 0)) (aCons (eC (.int 0)) (aCons (eC (.int 1)) (aCons (eC (.int 1)) (aCons (eC (.int 2)) aNil)))))) aNil))) aNil)) (glN 1) tTrue (eCall (arg 2 m__law_one) (aCons (eVar 0) (aCons (eVar 6) aNil))) [1]))
  (sAsg (gSb opSet (eVar 8) (eVar 2)) (eOp opEq (eCall (arg 2 m__law_draw) (aCons (eVar 0) (aCons (eC (.int 4)) aNil))) (eC (.int 0))))))
  (sSeq (sAsg (gTp [9, 5]) (eCB oTup (aCons (eLc 100000 (iLst (eVar 6)) (glN 2) (tVal (eOp opIx (eVar 8) (eVar 2))) (eVar 2) [2]) (aCons (eC (.int 0)) aNil))))
  (sSeq (loopW (tVal (eOp opLt (eVar 5) (eCB oLen (aCons (eVar 9) aNil)))) (sSeq (sExpr (eBm .list oExtend (eVar 9) (aCons (eLc 100000 (iLst (eCB oSortS (aCons (eCB oSet (aCons (eOp opIx (eVar 7) (eOp opIx (eVar 9) (eVar 5))) aNil)) aNil))) (glN 2) (tVal (eOp opNotIn (eVar 2) (eVar 9))) (eVar 2) [2]) aNil)))
  (sSet 5 (eOp opAdd (eVar 5) (eC (.int 1))))) 100000)
  (sSeq (sSet 3 (eCB oLst aNil))
  (sSeq (sFor 100000 (iLst (eVar 6)) (gNm 2)
  (sSeq (sSet 10 (eCB oTuple (aCons (eLc 100000 (iLst (eVar 6)) (glN 11) (tVal (eOp opIn (eVar 2) (eOp opIx (eVar 7) (eVar 11)))) (eVar 11) [11]) aNil)))
  (sExpr (eBm .list oAppend (eVar 3) (aCons (eCB oTup (aCons (eVar 2) (aCons (eOp opIx (eVar 8) (eVar 2)) (aCons (eOp opIn (eVar 2) (eVar 9)) (aCons (eVar 10) aNil))))) aNil)))))
  (sRet (eCB oTup (aCons (eOp opAdd (eC (.int 30)) (eCall (arg 2 m__law_draw) (aCons (eVar 0) (aCons (eC (.int 60)) aNil)))) (aCons (eCall (arg 2 m__law_draw) (aCons (eVar 0) (aCons (eC (.int 24)) aNil))) (aCons (eCB oTuple (aCons (eVar 3) aNil)) aNil)))))))))))))
def m__law_view : List Vl → M Vl := fnM 12 b__law_view
def b__law_basic : SM := (sSeq (sSet 1 (eCall (arg 2 m__law_draw) (aCons (eVar 0) (aCons (eC (.int 7)) aNil))))
  (sSeq (sIf (tVal (eOp opEq (eVar 1) (eC (.int 0)))) (sRet (eCB oTup (aCons (eMakeB 0) (aCons (eCB oTup (aCons (eC (.str "never")) (aCons (eC .non) aNil))) aNil)))) sNil)
  (sSeq (sIf (tVal (eOp opLt (eVar 1) (eC (.int 3)))) (sRet (eCB oTup (aCons (eMakeB 5) (aCons (eCB oTup (aCons (eC (.str "all")) (aCons (eC .non) aNil))) aNil)))) sNil)
  (sSeq (sIf (tVal (eOp opLt (eVar 1) (eC (.int 5)))) (sRet (eCB oTup (aCons (eMakeB 6) (aCons (eCB oTup (aCons (eC (.str "counting")) (aCons (eC .non) aNil))) aNil)))) sNil)
  (sSeq (sIf (tVal (eOp opEq (eVar 1) (eC (.int 5)))) (sSeq (sSet 3 (eCall (arg 2 m__law_one) (aCons (eVar 0) (aCons (eCB oLst (aCons (eOp1 opNeg (eC (.int 1))) (aCons (eC (.int 0)) (aCons (eC (.int 1)) (aCons (eC (.int 2)) (aCons (eC (.int 3)) (aCons (eC (.int 4)) (aCons (eOp opPow (eC (.int 10)) (eC (.int 20))) aNil)))))))) aNil))))
  (sRet (eCB oTup (aCons (eMake 8 (argI 1 m_AboveU_initU) (aCons (eVar 3) aNil)) (aCons (eCB oTup (aCons (eC (.str "above")) (aCons (eVar 3) aNil))) aNil))))) sNil)
  (sSeq (sSet 2 (eCB oTuple (aCons (eLcX (aRng (aCons (eCall (arg 2 m__law_draw) (aCons (eVar 0) (aCons (eC (.int 5)) aNil))) aNil)) (glN 4) tTrue (eCall (arg 2 m__law_draw) (aCons (eVar 0) (aCons (eC (.int 24)) aNil))) [4]) aNil)))
  (sSeq (sIf (tVal (eOp opLt (eCB oLen (aCons (eVar 2) aNil)) (eC (.int 2)))) (sRet (eIfM (tVal (eOp opEq (eVar 2) (eCB oTup aNil))) (eCB oTup (aCons (eMake 7 (starM 1 m_PlacesU_initU) aNil) (aCons (eCB oTup (aCons (eC (.str "places")) (aCons (eCB oTup aNil) aNil))) aNil))) (eCB oTup (aCons (eMake 7 (starM 1 m_PlacesU_initU) (aCons (eOp opIx (eVar 2) (eC (.int 0))) aNil)) (aCons (eCB oTup (aCons (eC (.str "places")) (aCons (eVar 2) aNil))) aNil))))) sNil)
  (sSeq (sIf (tVal (eOp opEq (eCB oLen (aCons (eVar 2) aNil)) (eC (.int 2)))) (sRet (eCB oTup (aCons (eMake 7 (starM 1 m_PlacesU_initU) (aCons (eOp opIx (eVar 2) (eC (.int 0))) (aCons (eOp opIx (eVar 2) (eC (.int 1))) aNil))) (aCons (eCB oTup (aCons (eC (.str "places")) (aCons (eVar 2) aNil))) aNil)))) sNil)
  (sSeq (sIf (tVal (eOp opEq (eCB oLen (aCons (eVar 2) aNil)) (eC (.int 3)))) (sRet (eCB oTup (aCons (eMake 7 (starM 1 m_PlacesU_initU) (aCons (eOp opIx (eVar 2) (eC (.int 0))) (aCons (eOp opIx (eVar 2) (eC (.int 1))) (aCons (eOp opIx (eVar 2) (eC (.int 2))) aNil)))) (aCons (eCB oTup (aCons (eC (.str "places")) (aCons (eVar 2) aNil))) aNil)))) sNil)
  (sRet (eCB oTup (aCons (eMake 7 (starM 1 m_PlacesU_initU) (aCons (eOp opIx (eVar 2) (eC (.int 0))) (aCons (eOp opIx (eVar 2) (eC (.int 1))) (aCons (eOp opIx (eVar 2) (eC (.int 2))) (aCons (eOp opIx (eVar 2) (eC (.int 3))) aNil))))) (aCons (eCB oTup (aCons (eC (.str "places")) (aCons (eVar 2) aNil))) aNil)))))))))))))
def m__law_basic : List Vl → M Vl := fnM 5 b__law_basic
def b__law_rule (R : Nat → List Vl → M Vl) : SM := (sSeq (sIf (tOrM (tVal (eOp opEq (eVar 1) (eC (.int 0)))) (tVal (eOp opEq (eCall (arg 2 m__law_draw) (aCons (eVar 0) (aCons (eC (.int 3)) aNil))) (eC (.int 0))))) (sRet (eCall (arg 1 m__law_basic) (aCons (eVar 0) aNil))) sNil)
  (sSeq (sAsg (gTp [3, 4]) (eCall (arg 2 (R 0)) (aCons (eVar 0) (aCons (eOp opSub (eVar 1) (eC (.int 1))) aNil))))
  (sSeq (sAsg (gTp [5, 6]) (eCall (arg 2 (R 0)) (aCons (eVar 0) (aCons (eOp opSub (eVar 1) (eC (.int 1))) aNil))))
  (sSeq (sSet 2 (eCall (arg 2 m__law_draw) (aCons (eVar 0) (aCons (eC (.int 3)) aNil))))
  (sSeq (sIf (tVal (eOp opEq (eVar 2) (eC (.int 0)))) (sRet (eCB oTup (aCons (eOpO tab_UandU (eVar 3) (eVar 5)) (aCons (eCB oTup (aCons (eC (.str "and")) (aCons (eCB oTup (aCons (eVar 4) (aCons (eVar 6) aNil))) aNil))) aNil)))) sNil)
  (sSeq (sIf (tVal (eOp opEq (eVar 2) (eC (.int 1)))) (sRet (eCB oTup (aCons (eOpO tab_UorU (eVar 3) (eVar 5)) (aCons (eCB oTup (aCons (eC (.str "or")) (aCons (eCB oTup (aCons (eVar 4) (aCons (eVar 6) aNil))) aNil))) aNil)))) sNil)
  (sRet (eCB oTup (aCons (eOpO tab_UsubU (eVar 3) (eVar 5)) (aCons (eCB oTup (aCons (eC (.str "less")) (aCons (eCB oTup (aCons (eVar 4) (aCons (eVar 6) aNil))) aNil))) aNil))))))))))
def R1 : Nat → Nat → List Vl → M Vl
  | 0, _ => mFail
  | n + 1, 0 => fnM 7 (b__law_rule (R1 n))
  | _ + 1, _ => mFail
def m__law_rule : List Vl → M Vl := R1 12 0
def b__law_counted : SM := (sSeq (sAsg (gTp [1, 2]) (eCB oTup (aCons (eCB oLst aNil) (aCons (eOp1 opNeg (eC (.int 1))) aNil))))
  (sSeq (loopW (tVal (eOp opLt (eVar 2) (eCB oLen (aCons (eVar 1) aNil)))) (sSeq (sSet 2 (eCB oLen (aCons (eVar 1) aNil)))
  (sForX (aTup (eVar 0)) (gTp [3, 4, 5, 6])
  (sSeq (sSet 7 (eLcX (aTup (eVar 6)) (glN 8) (tVal (eOp opNotIn (eVar 8) (eVar 1))) (eVar 8) [8]))
  (sIf (tAndM (tNotM (tVal (eVar 4))) (tAndM (tVal (eOp opNotIn (eVar 3) (eVar 1))) (tVal (eOp opEq (eVar 7) (eCB oLst aNil))))) (sExpr (eBm .list oAppend (eVar 1) (aCons (eVar 3) aNil))) sNil)))) 100000)
  (sRet (eCB oSortS (aCons (eVar 1) aNil)))))
def m__law_counted : List Vl → M Vl := fnM 9 b__law_counted
def b__law_named (R : Nat → List Vl → M Vl) : SM := (sSeq (sAsg (gTp [3, 4]) (eVar 0))
  (sSeq (sSet 2 (eOp opIx (eVar 1) (eC (.int 2))))
  (sSeq (sIf (tVal (eOp opIn (eVar 3) (eCB oTup (aCons (eC (.str "and")) (aCons (eC (.str "or")) (aCons (eC (.str "less")) aNil)))))) (sSeq (sAsg (gTp [5, 6]) (eCB oTup (aCons (eCall (arg 2 (R 0)) (aCons (eOp opIx (eVar 4) (eC (.int 0))) (aCons (eVar 1) aNil))) (aCons (eCall (arg 2 (R 0)) (aCons (eOp opIx (eVar 4) (eC (.int 1))) (aCons (eVar 1) aNil))) aNil))))
  (sSeq (sIf (tVal (eOp opEq (eVar 3) (eC (.str "or")))) (sRet (eCB oSortS (aCons (eCB oSet (aCons (eOp opAdd (eVar 5) (eVar 6)) aNil)) aNil))) sNil)
  (sRet (eLc 100000 (iLst (eVar 5)) (glN 8) (tVal (eOp opEq (eOp opIn (eVar 8) (eVar 6)) (eOp opEq (eVar 3) (eC (.str "and"))))) (eVar 8) [8])))) sNil)
  (sSeq (sIf (tVal (eOp opEq (eVar 3) (eC (.str "counting")))) (sRet (eCall (arg 1 m__law_counted) (aCons (eVar 2) aNil))) sNil)
  (sSeq (sIf (tOrM (tVal (eOp opEq (eVar 3) (eC (.str "never")))) (tAndM (tVal (eOp opEq (eVar 3) (eC (.str "places")))) (tVal (eOp opNotIn (eOp opIx (eVar 1) (eC (.int 1))) (eVar 4))))) (sRet (eCB oLst aNil)) sNil)
  (sSeq (sIf (tAndM (tVal (eOp opEq (eVar 3) (eC (.str "above")))) (tVal (eOp opLe (eCB oLen (aCons (eVar 2) aNil)) (eVar 4)))) (sRet (eCB oLst aNil)) sNil)
  (sRet (eLcX (aTup (eVar 2)) (glN 7) (tNotM (tVal (eOp opIx (eVar 7) (eC (.int 2))))) (eOp opIx (eVar 7) (eC (.int 0))) [7]))))))))
def R2 : Nat → Nat → List Vl → M Vl
  | 0, _ => mFail
  | n + 1, 0 => fnM 9 (b__law_named (R2 n))
  | _ + 1, _ => mFail
def m__law_named : List Vl → M Vl := R2 24 0
def b__law_same : SM := (sRet (eCB oAll (aCons (eLc 100000 (iLst (eVar 2)) (glN 3) tTrue (eOp opEq (eCB oRepr (aCons (eCallO (tabA 1 tab_UcallU) (eVar 0) (aCons (eVar 3) aNil)) aNil)) (eCB oRepr (aCons (eCallO (tabA 1 tab_UcallU) (eVar 1) (aCons (eVar 3) aNil)) aNil))) [3]) aNil)))
def m__law_same : List Vl → M Vl := fnM 4 b__law_same
def b__law_sets_right : SM := (sSeq (sSet 4 (eCB oLst (aCons (eCB oTup (aCons (eOpO tab_UandU (eVar 0) (eVar 1)) (aCons (eOpO tab_UandU (eVar 1) (eVar 0)) aNil))) (aCons (eCB oTup (aCons (eOpO tab_UorU (eVar 0) (eVar 1)) (aCons (eOpO tab_UorU (eVar 1) (eVar 0)) aNil))) (aCons (eCB oTup (aCons (eOpO tab_UsubU (eVar 0) (eVar 1)) (aCons (eOpO tab_UsubU (eVar 0) (eOpO tab_UandU (eVar 0) (eVar 1))) aNil))) aNil)))))
  (sSeq (sExpr (eBm .list oAppend (eVar 4) (aCons (eCB oTup (aCons (eOpO tab_UandU (eVar 0) (eOpO tab_UorU (eVar 1) (eVar 2))) (aCons (eOpO tab_UorU (eOpO tab_UandU (eVar 0) (eVar 1)) (eOpO tab_UandU (eVar 0) (eVar 2))) aNil))) aNil)))
  (sSeq (sExpr (eBm .list oAppend (eVar 4) (aCons (eCB oTup (aCons (eOpO tab_UsubU (eVar 0) (eOpO tab_UorU (eVar 1) (eVar 2))) (aCons (eOpO tab_UsubU (eOpO tab_UsubU (eVar 0) (eVar 1)) (eVar 2)) aNil))) aNil)))
  (sSeq (sExpr (eBm .list oExtend (eVar 4) (aCons (eCB oLst (aCons (eCB oTup (aCons (eOpO tab_UorU (eVar 0) (eOpO tab_UandU (eVar 0) (eVar 1))) (aCons (eVar 0) aNil))) (aCons (eCB oTup (aCons (eOpO tab_UandU (eVar 0) (eVar 0)) (aCons (eVar 0) aNil))) (aCons (eCB oTup (aCons (eOpO tab_UsubU (eVar 0) (eVar 0)) (aCons (eMakeB 0) aNil))) (aCons (eCB oTup (aCons (eOpO tab_UorU (eVar 0) (eMakeB 0)) (aCons (eVar 0) aNil))) aNil))))) aNil)))
  (sRet (eCB oAll (aCons (eLc 100000 (iLst (eVar 4)) (glT [5, 6]) tTrue (eCall (arg 3 m__law_same) (aCons (eVar 5) (aCons (eVar 6) (aCons (eVar 3) aNil)))) [5, 6]) aNil)))))))
def m__law_sets_right : List Vl → M Vl := fnM 7 b__law_sets_right
def b__law_long : SM := (sSeq (sAsg (gTp [3, 4]) (eCall (arg 1 m__law_basic) (aCons (eVar 0) aNil)))
  (sSeq (sForX (aRng (aCons (eC (.int 20)) aNil)) (gNm 2)
  (sSeq (sAsg (gTp [6, 7]) (eCall (arg 1 m__law_basic) (aCons (eVar 0) aNil)))
  (sSeq (sSet 5 (eCall (arg 2 m__law_draw) (aCons (eVar 0) (aCons (eC (.int 3)) aNil))))
  (sSeq (sSet 3 (eIfM (tVal (eOp opEq (eVar 5) (eC (.int 0)))) (eOpO tab_UandU (eVar 3) (eVar 6)) (eIfM (tVal (eOp opEq (eVar 5) (eC (.int 1)))) (eOpO tab_UorU (eVar 3) (eVar 6)) (eOpO tab_UsubU (eVar 3) (eVar 6)))))
  (sSet 4 (eCB oTup (aCons (eOp opIx (eCB oLst (aCons (eC (.str "and")) (aCons (eC (.str "or")) (aCons (eC (.str "less")) aNil)))) (eVar 5)) (aCons (eCB oTup (aCons (eVar 4) (aCons (eVar 7) aNil))) aNil))))))))
  (sRet (eCB oAll (aCons (eLc 100000 (iLst (eVar 1)) (glN 8) tTrue (eOp opEq (eCB oRepr (aCons (eCallO (tabA 1 tab_UcallU) (eVar 3) (aCons (eVar 8) aNil)) aNil)) (eCB oRepr (aCons (eCB oTuple (aCons (eCall (arg 2 m__law_named) (aCons (eVar 4) (aCons (eVar 8) aNil))) aNil)) aNil))) [8]) aNil)))))
def m__law_long : List Vl → M Vl := fnM 9 b__law_long
def b_law : SM := (sSeq (sSet 1 (eCall (arg 1 m__law_deck) (aCons (eVar 0) aNil)))
  (sSeq (sSet 2 (eLcX (aRng (aCons (eC (.int 5)) aNil)) (glN 14) tTrue (eCall (arg 1 m__law_view) (aCons (eVar 1) aNil)) [14]))
  (sSeq (sForX (aRng (aCons (eC (.int 6)) aNil)) (gNm 3)
  (sSeq (sAsg (gTp [5, 6]) (eCall (arg 2 m__law_rule) (aCons (eVar 1) (aCons (eC (.int 4)) aNil))))
  (sSeq (sFor 100000 (iLst (eVar 2)) (gNm 4)
  (sSeq (sSet 7 (eCB oRepr (aCons (eCB oTuple (aCons (eCall (arg 2 m__law_named) (aCons (eVar 6) (aCons (eVar 4) aNil))) aNil)) aNil)))
  (sIf (tOrM (tVal (eOp opNe (eCB oRepr (aCons (eCallO (tabA 1 tab_UcallU) (eVar 5) (aCons (eVar 4) aNil)) aNil)) (eVar 7))) (tVal (eOp opNe (eCB oRepr (aCons (eMeth "names" (tabA 1 tab_names) (eVar 5) (aCons (eVar 4) aNil)) aNil)) (eVar 7)))) (sRet (eC (.bl false))) sNil)))
  (sSeq (sAsg (gTp [8, 9]) (eCall (arg 2 m__law_rule) (aCons (eVar 1) (aCons (eC (.int 2)) aNil))))
  (sSeq (sAsg (gTp [10, 11]) (eCall (arg 2 m__law_rule) (aCons (eVar 1) (aCons (eC (.int 2)) aNil))))
  (sSeq (sIf (tNotM (tVal (eCall (arg 4 m__law_sets_right) (aCons (eVar 8) (aCons (eVar 10) (aCons (eOp opIx (eCall (arg 2 m__law_rule) (aCons (eVar 1) (aCons (eC (.int 1)) aNil))) (eC (.int 0))) (aCons (eVar 2) aNil))))))) (sRet (eC (.bl false))) sNil)
  (sForX (aTup (eCB oTup (aCons (eCB oTup (aCons (eVar 8) (aCons (eVar 9) aNil))) (aCons (eCB oTup (aCons (eVar 10) (aCons (eVar 11) aNil))) aNil)))) (gTp [12, 13])
  (sIf (tNotM (tVal (eCB oAll (aCons (eLc 100000 (iLst (eVar 2)) (glN 4) tTrue (eOp opEq (eCB oRepr (aCons (eCallO (tabA 1 tab_UcallU) (eVar 12) (aCons (eVar 4) aNil)) aNil)) (eCB oRepr (aCons (eCB oTuple (aCons (eCall (arg 2 m__law_named) (aCons (eVar 13) (aCons (eVar 4) aNil))) aNil)) aNil))) [4]) aNil)))) (sRet (eC (.bl false))) sNil))))))))
  (sRet (eCall (arg 2 m__law_long) (aCons (eVar 1) (aCons (eVar 2) aNil)))))))
def m_law : List Vl → M Vl := fnM 15 b_law
/-! what the top has left -/
structure TX (K : PySem.W.Frag) (mg : Str → Option Value) where
  C_Rule : Addr
  C_Pair : Addr
  C_Both : Addr
  C_Either : Addr
  C_Without : Addr
  C_AtOnce : Addr
  C_Counting : Addr
  C_Places : Addr
  C_Above : Addr
  f_Rule_names : Addr
  d_Rule_names : FuncData
  F_Rule_names : Fun K "names" "Rule.names" st_Rule_names f_Rule_names d_Rule_names
  b_Rule_names : Binds K d_Rule_names ["self", "view"] []
  f_all_unreached : Addr
  d_all_unreached : FuncData
  F_all_unreached : Fun K "all_unreached" "all_unreached" st_all_unreached f_all_unreached d_all_unreached
  b_all_unreached : Binds K d_all_unreached ["view"] []
  g_all_unreached : mg "all_unreached" = some (.ref f_all_unreached)
  f_Above_names : Addr
  d_Above_names : FuncData
  F_Above_names : Fun K "names" "Above.names" st_Above_names f_Above_names d_Above_names
  b_Above_names : Binds K d_Above_names ["self", "view"] []
  f_AtOnce_names : Addr
  d_AtOnce_names : FuncData
  F_AtOnce_names : Fun K "names" "AtOnce.names" st_AtOnce_names f_AtOnce_names d_AtOnce_names
  b_AtOnce_names : Binds K d_AtOnce_names ["self", "view"] []
  f_Counting_names : Addr
  d_Counting_names : FuncData
  F_Counting_names : Fun K "names" "Counting.names" st_Counting_names f_Counting_names d_Counting_names
  b_Counting_names : Binds K d_Counting_names ["self", "view"] []
  f_Places_names : Addr
  d_Places_names : FuncData
  F_Places_names : Fun K "names" "Places.names" st_Places_names f_Places_names d_Places_names
  b_Places_names : Binds K d_Places_names ["self", "view"] []
  f_Both_names : Addr
  d_Both_names : FuncData
  F_Both_names : Fun K "names" "Both.names" st_Both_names f_Both_names d_Both_names
  b_Both_names : Binds K d_Both_names ["self", "view"] []
  f_Either_names : Addr
  d_Either_names : FuncData
  F_Either_names : Fun K "names" "Either.names" st_Either_names f_Either_names d_Either_names
  b_Either_names : Binds K d_Either_names ["self", "view"] []
  f_Without_names : Addr
  d_Without_names : FuncData
  F_Without_names : Fun K "names" "Without.names" st_Without_names f_Without_names d_Without_names
  b_Without_names : Binds K d_Without_names ["self", "view"] []
  f_RuleU_callU : Addr
  d_RuleU_callU : FuncData
  F_RuleU_callU : Fun K "__call__" "Rule.__call__" st_RuleU_callU f_RuleU_callU d_RuleU_callU
  b_RuleU_callU : Binds K d_RuleU_callU ["self", "view"] []
  f_PairU_initU : Addr
  d_PairU_initU : FuncData
  F_PairU_initU : Fun K "__init__" "Pair.__init__" st_PairU_initU f_PairU_initU d_PairU_initU
  b_PairU_initU : Binds K d_PairU_initU ["self", "first_rule", "second_rule"] []
  f_RuleU_andU : Addr
  d_RuleU_andU : FuncData
  F_RuleU_andU : Fun K "__and__" "Rule.__and__" st_RuleU_andU f_RuleU_andU d_RuleU_andU
  b_RuleU_andU : Binds K d_RuleU_andU ["self", "other"] []
  f_RuleU_orU : Addr
  d_RuleU_orU : FuncData
  F_RuleU_orU : Fun K "__or__" "Rule.__or__" st_RuleU_orU f_RuleU_orU d_RuleU_orU
  b_RuleU_orU : Binds K d_RuleU_orU ["self", "other"] []
  f_RuleU_subU : Addr
  d_RuleU_subU : FuncData
  F_RuleU_subU : Fun K "__sub__" "Rule.__sub__" st_RuleU_subU f_RuleU_subU d_RuleU_subU
  b_RuleU_subU : Binds K d_RuleU_subU ["self", "other"] []
  f_PlacesU_initU : Addr
  d_PlacesU_initU : FuncData
  F_PlacesU_initU : Fun K "__init__" "Places.__init__" st_PlacesU_initU f_PlacesU_initU d_PlacesU_initU
  b_PlacesU_initU : BindV d_PlacesU_initU ["self"] "places"
  f_AboveU_initU : Addr
  d_AboveU_initU : FuncData
  F_AboveU_initU : Fun K "__init__" "Above.__init__" st_AboveU_initU f_AboveU_initU d_AboveU_initU
  b_AboveU_initU : Binds K d_AboveU_initU ["self", "most"] []
  f__law_deck : Addr
  d__law_deck : FuncData
  F__law_deck : Fun K "_law_deck" "_law_deck" st__law_deck f__law_deck d__law_deck
  b__law_deck : Binds K d__law_deck ["_law_script"] []
  g__law_deck : mg "_law_deck" = some (.ref f__law_deck)
  f__law_draw : Addr
  d__law_draw : FuncData
  F__law_draw : Fun K "_law_draw" "_law_draw" st__law_draw f__law_draw d__law_draw
  b__law_draw : Binds K d__law_draw ["_law_deck_here", "_law_many"] []
  g__law_draw : mg "_law_draw" = some (.ref f__law_draw)
  f__law_one : Addr
  d__law_one : FuncData
  F__law_one : Fun K "_law_one" "_law_one" st__law_one f__law_one d__law_one
  b__law_one : Binds K d__law_one ["_law_deck_here", "_law_items"] []
  g__law_one : mg "_law_one" = some (.ref f__law_one)
  f__law_view : Addr
  d__law_view : FuncData
  F__law_view : Fun K "_law_view" "_law_view" st__law_view f__law_view d__law_view
  b__law_view : Binds K d__law_view ["_law_deck_here"] []
  g__law_view : mg "_law_view" = some (.ref f__law_view)
  f__law_basic : Addr
  d__law_basic : FuncData
  F__law_basic : Fun K "_law_basic" "_law_basic" st__law_basic f__law_basic d__law_basic
  b__law_basic : Binds K d__law_basic ["_law_deck_here"] []
  g__law_basic : mg "_law_basic" = some (.ref f__law_basic)
  f__law_rule : Addr
  d__law_rule : FuncData
  F__law_rule : Fun K "_law_rule" "_law_rule" st__law_rule f__law_rule d__law_rule
  b__law_rule : Binds K d__law_rule ["_law_deck_here", "_law_deep"] []
  g__law_rule : mg "_law_rule" = some (.ref f__law_rule)
  f__law_counted : Addr
  d__law_counted : FuncData
  F__law_counted : Fun K "_law_counted" "_law_counted" st__law_counted f__law_counted d__law_counted
  b__law_counted : Binds K d__law_counted ["_law_rows"] []
  g__law_counted : mg "_law_counted" = some (.ref f__law_counted)
  f__law_named : Addr
  d__law_named : FuncData
  F__law_named : Fun K "_law_named" "_law_named" st__law_named f__law_named d__law_named
  b__law_named : Binds K d__law_named ["_law_told", "_law_view_here"] []
  g__law_named : mg "_law_named" = some (.ref f__law_named)
  f__law_same : Addr
  d__law_same : FuncData
  F__law_same : Fun K "_law_same" "_law_same" st__law_same f__law_same d__law_same
  b__law_same : Binds K d__law_same ["_law_one_here", "_law_other", "_law_views"] []
  g__law_same : mg "_law_same" = some (.ref f__law_same)
  f__law_sets_right : Addr
  d__law_sets_right : FuncData
  F__law_sets_right : Fun K "_law_sets_right" "_law_sets_right" st__law_sets_right f__law_sets_right d__law_sets_right
  b__law_sets_right : Binds K d__law_sets_right ["_law_one_here", "_law_other", "_law_third", "_law_views"] []
  g__law_sets_right : mg "_law_sets_right" = some (.ref f__law_sets_right)
  f__law_long : Addr
  d__law_long : FuncData
  F__law_long : Fun K "_law_long" "_law_long" st__law_long f__law_long d__law_long
  b__law_long : Binds K d__law_long ["_law_deck_here", "_law_views"] []
  g__law_long : mg "_law_long" = some (.ref f__law_long)
  f_law : Addr
  d_law : FuncData
  F_law : Fun K "law" "law" st_law f_law d_law
  b_law : Binds K d_law ["_law_script"] []
  g_law : mg "law" = some (.ref f_law)
  cl_Rule : Cls K C_Rule
  gc_Rule : mg "Rule" = some (.ref C_Rule)
  mb_Rule : MkB K C_Rule
  na_Rule_chosen : NoAttr K C_Rule "chosen"
  na_Rule_first_rule : NoAttr K C_Rule "first_rule"
  na_Rule_most : NoAttr K C_Rule "most"
  na_Rule_second_rule : NoAttr K C_Rule "second_rule"
  mt_Rule_UandU : PySem.W.BopO K C_Rule f_RuleU_andU "and"
  mt_Rule_UcallU : StX.CallO K C_Rule f_RuleU_callU
  mt_Rule_UorU : PySem.W.BopO K C_Rule f_RuleU_orU "or"
  mt_Rule_UsubU : PySem.W.BopO K C_Rule f_RuleU_subU "sub"
  mt_Rule_names : Meth K C_Rule "names" f_Rule_names
  cl_Pair : Cls K C_Pair
  na_Pair_chosen : NoAttr K C_Pair "chosen"
  na_Pair_first_rule : NoAttr K C_Pair "first_rule"
  na_Pair_most : NoAttr K C_Pair "most"
  na_Pair_second_rule : NoAttr K C_Pair "second_rule"
  mt_Pair_UandU : PySem.W.BopO K C_Pair f_RuleU_andU "and"
  mt_Pair_UcallU : StX.CallO K C_Pair f_RuleU_callU
  mt_Pair_UorU : PySem.W.BopO K C_Pair f_RuleU_orU "or"
  mt_Pair_UsubU : PySem.W.BopO K C_Pair f_RuleU_subU "sub"
  mt_Pair_names : Meth K C_Pair "names" f_Rule_names
  cl_Both : Cls K C_Both
  gc_Both : mg "Both" = some (.ref C_Both)
  mk_Both : Mk K C_Both f_PairU_initU
  na_Both_chosen : NoAttr K C_Both "chosen"
  na_Both_first_rule : NoAttr K C_Both "first_rule"
  na_Both_most : NoAttr K C_Both "most"
  na_Both_second_rule : NoAttr K C_Both "second_rule"
  mt_Both_UandU : PySem.W.BopO K C_Both f_RuleU_andU "and"
  mt_Both_UcallU : StX.CallO K C_Both f_RuleU_callU
  mt_Both_UorU : PySem.W.BopO K C_Both f_RuleU_orU "or"
  mt_Both_UsubU : PySem.W.BopO K C_Both f_RuleU_subU "sub"
  mt_Both_names : Meth K C_Both "names" f_Both_names
  cl_Either : Cls K C_Either
  gc_Either : mg "Either" = some (.ref C_Either)
  mk_Either : Mk K C_Either f_PairU_initU
  na_Either_chosen : NoAttr K C_Either "chosen"
  na_Either_first_rule : NoAttr K C_Either "first_rule"
  na_Either_most : NoAttr K C_Either "most"
  na_Either_second_rule : NoAttr K C_Either "second_rule"
  mt_Either_UandU : PySem.W.BopO K C_Either f_RuleU_andU "and"
  mt_Either_UcallU : StX.CallO K C_Either f_RuleU_callU
  mt_Either_UorU : PySem.W.BopO K C_Either f_RuleU_orU "or"
  mt_Either_UsubU : PySem.W.BopO K C_Either f_RuleU_subU "sub"
  mt_Either_names : Meth K C_Either "names" f_Either_names
  cl_Without : Cls K C_Without
  gc_Without : mg "Without" = some (.ref C_Without)
  mk_Without : Mk K C_Without f_PairU_initU
  na_Without_chosen : NoAttr K C_Without "chosen"
  na_Without_first_rule : NoAttr K C_Without "first_rule"
  na_Without_most : NoAttr K C_Without "most"
  na_Without_second_rule : NoAttr K C_Without "second_rule"
  mt_Without_UandU : PySem.W.BopO K C_Without f_RuleU_andU "and"
  mt_Without_UcallU : StX.CallO K C_Without f_RuleU_callU
  mt_Without_UorU : PySem.W.BopO K C_Without f_RuleU_orU "or"
  mt_Without_UsubU : PySem.W.BopO K C_Without f_RuleU_subU "sub"
  mt_Without_names : Meth K C_Without "names" f_Without_names
  cl_AtOnce : Cls K C_AtOnce
  gc_AtOnce : mg "AtOnce" = some (.ref C_AtOnce)
  mb_AtOnce : MkB K C_AtOnce
  na_AtOnce_chosen : NoAttr K C_AtOnce "chosen"
  na_AtOnce_first_rule : NoAttr K C_AtOnce "first_rule"
  na_AtOnce_most : NoAttr K C_AtOnce "most"
  na_AtOnce_second_rule : NoAttr K C_AtOnce "second_rule"
  mt_AtOnce_UandU : PySem.W.BopO K C_AtOnce f_RuleU_andU "and"
  mt_AtOnce_UcallU : StX.CallO K C_AtOnce f_RuleU_callU
  mt_AtOnce_UorU : PySem.W.BopO K C_AtOnce f_RuleU_orU "or"
  mt_AtOnce_UsubU : PySem.W.BopO K C_AtOnce f_RuleU_subU "sub"
  mt_AtOnce_names : Meth K C_AtOnce "names" f_AtOnce_names
  cl_Counting : Cls K C_Counting
  gc_Counting : mg "Counting" = some (.ref C_Counting)
  mb_Counting : MkB K C_Counting
  na_Counting_chosen : NoAttr K C_Counting "chosen"
  na_Counting_first_rule : NoAttr K C_Counting "first_rule"
  na_Counting_most : NoAttr K C_Counting "most"
  na_Counting_second_rule : NoAttr K C_Counting "second_rule"
  mt_Counting_UandU : PySem.W.BopO K C_Counting f_RuleU_andU "and"
  mt_Counting_UcallU : StX.CallO K C_Counting f_RuleU_callU
  mt_Counting_UorU : PySem.W.BopO K C_Counting f_RuleU_orU "or"
  mt_Counting_UsubU : PySem.W.BopO K C_Counting f_RuleU_subU "sub"
  mt_Counting_names : Meth K C_Counting "names" f_Counting_names
  cl_Places : Cls K C_Places
  gc_Places : mg "Places" = some (.ref C_Places)
  mk_Places : Mk K C_Places f_PlacesU_initU
  na_Places_chosen : NoAttr K C_Places "chosen"
  na_Places_first_rule : NoAttr K C_Places "first_rule"
  na_Places_most : NoAttr K C_Places "most"
  na_Places_second_rule : NoAttr K C_Places "second_rule"
  mt_Places_UandU : PySem.W.BopO K C_Places f_RuleU_andU "and"
  mt_Places_UcallU : StX.CallO K C_Places f_RuleU_callU
  mt_Places_UorU : PySem.W.BopO K C_Places f_RuleU_orU "or"
  mt_Places_UsubU : PySem.W.BopO K C_Places f_RuleU_subU "sub"
  mt_Places_names : Meth K C_Places "names" f_Places_names
  cl_Above : Cls K C_Above
  gc_Above : mg "Above" = some (.ref C_Above)
  mk_Above : Mk K C_Above f_AboveU_initU
  na_Above_chosen : NoAttr K C_Above "chosen"
  na_Above_first_rule : NoAttr K C_Above "first_rule"
  na_Above_most : NoAttr K C_Above "most"
  na_Above_second_rule : NoAttr K C_Above "second_rule"
  mt_Above_UandU : PySem.W.BopO K C_Above f_RuleU_andU "and"
  mt_Above_UcallU : StX.CallO K C_Above f_RuleU_callU
  mt_Above_UorU : PySem.W.BopO K C_Above f_RuleU_orU "or"
  mt_Above_UsubU : PySem.W.BopO K C_Above f_RuleU_subU "sub"
  mt_Above_names : Meth K C_Above "names" f_Above_names
  n_abs : mg "abs" = none
  n_all : mg "all" = none
  n_int : mg "int" = none
  n_len : mg "len" = none
  n_list : mg "list" = none
  n_max : mg "max" = none
  n_range : mg "range" = none
  n_repr : mg "repr" = none
  n_set : mg "set" = none
  n_sorted : mg "sorted" = none
  n_tuple : mg "tuple" = none
def TX.T {K : PySem.W.Frag} {mg : Str → Option Value} (X : TX K mg) (w : World) : Tb := ⟨K, w, [X.C_Rule, X.C_Pair, X.C_Both, X.C_Either, X.C_Without, X.C_AtOnce, X.C_Counting, X.C_Places, X.C_Above], [], []⟩
theorem TX.fo_chosen {K : PySem.W.Frag} {mg : Str → Option Value} (X : TX K mg) (w : World) : FldOk (X.T w) cs_chosen "chosen" := by
  intro c hc C h
  simp only [cs_chosen, List.mem_cons, List.not_mem_nil, or_false] at hc
  rcases hc with rfl | rfl | rfl | rfl | rfl | rfl | rfl | rfl | rfl
  · cases h
    exact ⟨X.cl_Rule, X.na_Rule_chosen⟩
  · cases h
    exact ⟨X.cl_Pair, X.na_Pair_chosen⟩
  · cases h
    exact ⟨X.cl_Both, X.na_Both_chosen⟩
  · cases h
    exact ⟨X.cl_Either, X.na_Either_chosen⟩
  · cases h
    exact ⟨X.cl_Without, X.na_Without_chosen⟩
  · cases h
    exact ⟨X.cl_AtOnce, X.na_AtOnce_chosen⟩
  · cases h
    exact ⟨X.cl_Counting, X.na_Counting_chosen⟩
  · cases h
    exact ⟨X.cl_Places, X.na_Places_chosen⟩
  · cases h
    exact ⟨X.cl_Above, X.na_Above_chosen⟩
theorem TX.fo_first_rule {K : PySem.W.Frag} {mg : Str → Option Value} (X : TX K mg) (w : World) : FldOk (X.T w) cs_first_rule "first_rule" := by
  intro c hc C h
  simp only [cs_first_rule, List.mem_cons, List.not_mem_nil, or_false] at hc
  rcases hc with rfl | rfl | rfl | rfl | rfl | rfl | rfl | rfl | rfl
  · cases h
    exact ⟨X.cl_Rule, X.na_Rule_first_rule⟩
  · cases h
    exact ⟨X.cl_Pair, X.na_Pair_first_rule⟩
  · cases h
    exact ⟨X.cl_Both, X.na_Both_first_rule⟩
  · cases h
    exact ⟨X.cl_Either, X.na_Either_first_rule⟩
  · cases h
    exact ⟨X.cl_Without, X.na_Without_first_rule⟩
  · cases h
    exact ⟨X.cl_AtOnce, X.na_AtOnce_first_rule⟩
  · cases h
    exact ⟨X.cl_Counting, X.na_Counting_first_rule⟩
  · cases h
    exact ⟨X.cl_Places, X.na_Places_first_rule⟩
  · cases h
    exact ⟨X.cl_Above, X.na_Above_first_rule⟩
theorem TX.fo_most {K : PySem.W.Frag} {mg : Str → Option Value} (X : TX K mg) (w : World) : FldOk (X.T w) cs_most "most" := by
  intro c hc C h
  simp only [cs_most, List.mem_cons, List.not_mem_nil, or_false] at hc
  rcases hc with rfl | rfl | rfl | rfl | rfl | rfl | rfl | rfl | rfl
  · cases h
    exact ⟨X.cl_Rule, X.na_Rule_most⟩
  · cases h
    exact ⟨X.cl_Pair, X.na_Pair_most⟩
  · cases h
    exact ⟨X.cl_Both, X.na_Both_most⟩
  · cases h
    exact ⟨X.cl_Either, X.na_Either_most⟩
  · cases h
    exact ⟨X.cl_Without, X.na_Without_most⟩
  · cases h
    exact ⟨X.cl_AtOnce, X.na_AtOnce_most⟩
  · cases h
    exact ⟨X.cl_Counting, X.na_Counting_most⟩
  · cases h
    exact ⟨X.cl_Places, X.na_Places_most⟩
  · cases h
    exact ⟨X.cl_Above, X.na_Above_most⟩
theorem TX.fo_second_rule {K : PySem.W.Frag} {mg : Str → Option Value} (X : TX K mg) (w : World) : FldOk (X.T w) cs_second_rule "second_rule" := by
  intro c hc C h
  simp only [cs_second_rule, List.mem_cons, List.not_mem_nil, or_false] at hc
  rcases hc with rfl | rfl | rfl | rfl | rfl | rfl | rfl | rfl | rfl
  · cases h
    exact ⟨X.cl_Rule, X.na_Rule_second_rule⟩
  · cases h
    exact ⟨X.cl_Pair, X.na_Pair_second_rule⟩
  · cases h
    exact ⟨X.cl_Both, X.na_Both_second_rule⟩
  · cases h
    exact ⟨X.cl_Either, X.na_Either_second_rule⟩
  · cases h
    exact ⟨X.cl_Without, X.na_Without_second_rule⟩
  · cases h
    exact ⟨X.cl_AtOnce, X.na_AtOnce_second_rule⟩
  · cases h
    exact ⟨X.cl_Counting, X.na_Counting_second_rule⟩
  · cases h
    exact ⟨X.cl_Places, X.na_Places_second_rule⟩
  · cases h
    exact ⟨X.cl_Above, X.na_Above_second_rule⟩
/-! each def computes its pure function -/
theorem sc_Rule_names : FnScope ["self", "view"] ["self", "view"] (defScope st_Rule_names) := ⟨rfl, rfl, rfl, by decide +kernel, rfl, by decide +kernel, by decide +kernel⟩
theorem sim_Rule_names {P : Program} {w : World} {K : PySem.W.Frag} {mg : Str → Option Value} {base : Heap} (X : TX K mg) : FnG P w K mg base 1 X.f_Rule_names X.d_Rule_names ["self", "view"] (SpM (X.T w) 2 m_Rule_names) := by
  refine fn_sim (k := 0) (N := ["self", "view"]) (T := X.T w) (b := b_Rule_names) X.F_Rule_names sc_Rule_names rfl fun cdv A outer s H E hr hg => ?_
  have tk := L2N.takes_of (X := cxOf (L2N.CX P w) P w K mg base ["self", "view"] "Rule.names" (defScope st_Rule_names) X.f_Rule_names cdv A outer s H E) (E := E) rfl rfl rfl rfl
  unfold b_Rule_names
  exact (cs_one (cs_ret (ce_tup ca_nil)))
theorem sc_all_unreached : FnScope ["view", "row"] ["view"] (defScope st_all_unreached) := ⟨rfl, rfl, rfl, by decide +kernel, rfl, by decide +kernel, by decide +kernel⟩
theorem sim_all_unreached {P : Program} {w : World} {K : PySem.W.Frag} {mg : Str → Option Value} {base : Heap} (X : TX K mg) : FnG P w K mg base 1 X.f_all_unreached X.d_all_unreached ["view"] (SpM (X.T w) 1 m_all_unreached) := by
  refine fn_sim (k := 0) (N := ["view", "row"]) (T := X.T w) (b := b_all_unreached) X.F_all_unreached sc_all_unreached rfl fun cdv A outer s H E hr hg => ?_
  have tk := L2N.takes_of (X := cxOf (L2N.CX P w) P w K mg base ["view", "row"] "all_unreached" (defScope st_all_unreached) X.f_all_unreached cdv A outer s H E) (E := E) rfl rfl rfl rfl
  unfold b_all_unreached
  exact (cs_one (cs_ret (ce_callTy (c_tuple) rfl X.n_tuple (by decide +kernel) (ca_cons (ce_lcX (own := [("row", 1)]) rfl sc_all_unreached.nd (ci_tup (ce_ix (o_ix (hu_of hr)) (ce_var 0) ce_int)) (blkOk_by (by kernel_rfl)) (tg_name (List.mem_cons_self ..)) (fun _ _ _ _ _ => pg_name (i := 1) sc_all_unreached.nd rfl (by first | exact Or.inl rfl | exact Or.inr rfl)) (fun _ _ _ _ _ => (cts_one (ct_not (ct_val (ce_ix (o_ix (hu_of hr)) (ce_var 1) ce_int))))) (fun _ _ _ _ _ => (ce_ix (o_ix (hu_of hr)) (ce_var 1) ce_int))) ca_nil))))
theorem sc_Above_names : FnScope ["self", "view"] ["self", "view"] (defScope st_Above_names) := ⟨rfl, rfl, rfl, by decide +kernel, rfl, by decide +kernel, by decide +kernel⟩
theorem sim_Above_names {P : Program} {w : World} {K : PySem.W.Frag} {mg : Str → Option Value} {base : Heap} (X : TX K mg) : FnG P w K mg base 2 X.f_Above_names X.d_Above_names ["self", "view"] (SpM (X.T w) 2 m_Above_names) := by
  refine fn_sim (k := 1) (N := ["self", "view"]) (T := X.T w) (b := b_Above_names) X.F_Above_names sc_Above_names rfl fun cdv A outer s H E hr hg => ?_
  have tk := L2N.takes_of (X := cxOf (L2N.CX P w) P w K mg base ["self", "view"] "Above.names" (defScope st_Above_names) X.f_Above_names cdv A outer s H E) (E := E) rfl rfl rfl rfl
  unfold b_Above_names
  exact (cs_one (cs_ret (ce_if (ct_cmp o_gt (ce_callB (c_len) rfl X.n_len (by decide +kernel) (ca_cons (ce_ix (o_ix (hu_of hr)) (ce_var 1) ce_int) ca_nil)) (ce_fld (X.fo_most w) (ce_var 0))) (ce_call (sim_all_unreached X) (hr.mono (by decide)) hg rfl X.g_all_unreached X.F_all_unreached.kp X.b_all_unreached tk (ca_cons (ce_var 1) ca_nil)) (ce_tup ca_nil))))
theorem sc_AtOnce_names : FnScope ["self", "view"] ["self", "view"] (defScope st_AtOnce_names) := ⟨rfl, rfl, rfl, by decide +kernel, rfl, by decide +kernel, by decide +kernel⟩
theorem sim_AtOnce_names {P : Program} {w : World} {K : PySem.W.Frag} {mg : Str → Option Value} {base : Heap} (X : TX K mg) : FnG P w K mg base 2 X.f_AtOnce_names X.d_AtOnce_names ["self", "view"] (SpM (X.T w) 2 m_AtOnce_names) := by
  refine fn_sim (k := 1) (N := ["self", "view"]) (T := X.T w) (b := b_AtOnce_names) X.F_AtOnce_names sc_AtOnce_names rfl fun cdv A outer s H E hr hg => ?_
  have tk := L2N.takes_of (X := cxOf (L2N.CX P w) P w K mg base ["self", "view"] "AtOnce.names" (defScope st_AtOnce_names) X.f_AtOnce_names cdv A outer s H E) (E := E) rfl rfl rfl rfl
  unfold b_AtOnce_names
  exact (cs_one (cs_ret (ce_call (sim_all_unreached X) (hr.mono (by decide)) hg rfl X.g_all_unreached X.F_all_unreached.kp X.b_all_unreached tk (ca_cons (ce_var 1) ca_nil))))
theorem sc_Counting_names : FnScope ["self", "view", "found", "is_new", "cell", "stands", "reached", "holders", "holder"] ["self", "view"] (defScope st_Counting_names) := ⟨rfl, rfl, rfl, by decide +kernel, rfl, by decide +kernel, by decide +kernel⟩
theorem sim_Counting_names {P : Program} {w : World} {K : PySem.W.Frag} {mg : Str → Option Value} {base : Heap} (X : TX K mg) : FnG P w K mg base 1 X.f_Counting_names X.d_Counting_names ["self", "view"] (SpM (X.T w) 2 m_Counting_names) := by
  refine fn_sim (k := 0) (N := ["self", "view", "found", "is_new", "cell", "stands", "reached", "holders", "holder"]) (T := X.T w) (b := b_Counting_names) X.F_Counting_names sc_Counting_names rfl fun cdv A outer s H E hr hg => ?_
  have tk := L2N.takes_of (X := cxOf (L2N.CX P w) P w K mg base ["self", "view", "found", "is_new", "cell", "stands", "reached", "holders", "holder"] "Counting.names" (defScope st_Counting_names) X.f_Counting_names cdv A outer s H E) (E := E) rfl rfl rfl rfl
  unfold b_Counting_names
  exact (cs_cons (cs_set (i := 2) sc_Counting_names.nd rfl (by first | exact Or.inl rfl | exact Or.inr rfl) ce_dict0)
  (cs_cons (cs_set (i := 3) sc_Counting_names.nd rfl (by first | exact Or.inl rfl | exact Or.inr rfl) ce_bl)
  (cs_cons (cs_while 100000 (passes_of rfl) (ct_val (ce_var 3)) (cs_cons (cs_set (i := 3) sc_Counting_names.nd rfl (by first | exact Or.inl rfl | exact Or.inr rfl) ce_bl)
  (cs_one (cs_forX (passes_of rfl) rfl (ci_tup (ce_ix (o_ix (hu_of hr)) (ce_var 1) ce_int)) (cg_tup (js := [4, 5, 6, 7]) (pg_tup rfl (pgs_cons (pg_name (i := 4) sc_Counting_names.nd rfl (by first | exact Or.inl rfl | exact Or.inr rfl)) (pgs_cons (pg_name (i := 5) sc_Counting_names.nd rfl (by first | exact Or.inl rfl | exact Or.inr rfl)) (pgs_cons (pg_name (i := 6) sc_Counting_names.nd rfl (by first | exact Or.inl rfl | exact Or.inr rfl)) (pgs_cons (pg_name (i := 7) sc_Counting_names.nd rfl (by first | exact Or.inl rfl | exact Or.inr rfl)) pgs_nil))))))
  (cs_one (cs_if (PW.pt (cw_and (ct_cmp (o_notIn (hu_of hr)) (ce_var 4) (ce_var 2)) (cw_and (ct_not (ct_val (ce_var 5))) (cw_and1 (ct_val (ce_callB (c_all) rfl X.n_all (by decide +kernel) (ca_cons (ce_lcX (own := [("holder", 8)]) rfl sc_Counting_names.nd (ci_tup (ce_var 7)) (blkOk_by (by kernel_rfl)) (tg_name (List.mem_cons_self ..)) (fun _ _ _ _ _ => pg_name (i := 8) sc_Counting_names.nd rfl (by first | exact Or.inl rfl | exact Or.inr rfl)) (fun _ _ _ _ _ => cts_nil) (fun _ _ _ _ _ => (ce_cmp (o_in (hu_of hr)) (ce_var 8) (ce_var 2)))) ca_nil))))))) (cs_cons (cs_asg ce_bl (cg_sub (ce_var 2) (ce_var 4) (p_set (hu_of hr)) (pg_sub (ce_var 2) (ce_var 4) (p_set (hu_of hr)))))
  (cs_one (cs_set (i := 3) sc_Counting_names.nd rfl (by first | exact Or.inl rfl | exact Or.inr rfl) ce_bl))) cs_nil))))))
  (cs_one (cs_ret (ce_callTy (c_tuple) rfl X.n_tuple (by decide +kernel) (ca_cons (ce_callB (c_sortS) rfl X.n_sorted (by decide +kernel) (ca_cons (ce_callTy (c_list) rfl X.n_list (by decide +kernel) (ca_cons (ce_var 2) ca_nil)) ca_nil)) ca_nil)))))))
theorem sc_Places_names : FnScope ["self", "view"] ["self", "view"] (defScope st_Places_names) := ⟨rfl, rfl, rfl, by decide +kernel, rfl, by decide +kernel, by decide +kernel⟩
theorem sim_Places_names {P : Program} {w : World} {K : PySem.W.Frag} {mg : Str → Option Value} {base : Heap} (X : TX K mg) : FnG P w K mg base 2 X.f_Places_names X.d_Places_names ["self", "view"] (SpM (X.T w) 2 m_Places_names) := by
  refine fn_sim (k := 1) (N := ["self", "view"]) (T := X.T w) (b := b_Places_names) X.F_Places_names sc_Places_names rfl fun cdv A outer s H E hr hg => ?_
  have tk := L2N.takes_of (X := cxOf (L2N.CX P w) P w K mg base ["self", "view"] "Places.names" (defScope st_Places_names) X.f_Places_names cdv A outer s H E) (E := E) rfl rfl rfl rfl
  unfold b_Places_names
  exact (cs_one (cs_ret (ce_if (ct_cmp (o_in (hu_of hr)) (ce_ix (o_ix (hu_of hr)) (ce_var 1) ce_int) (ce_fld (X.fo_chosen w) (ce_var 0))) (ce_call (sim_all_unreached X) (hr.mono (by decide)) hg rfl X.g_all_unreached X.F_all_unreached.kp X.b_all_unreached tk (ca_cons (ce_var 1) ca_nil)) (ce_tup ca_nil))))
theorem sc_Both_names : FnScope ["self", "view", "others", "cell"] ["self", "view"] (defScope st_Both_names) := ⟨rfl, rfl, rfl, by decide +kernel, rfl, by decide +kernel, by decide +kernel⟩
theorem sc_Either_names : FnScope ["self", "view", "rule", "cell"] ["self", "view"] (defScope st_Either_names) := ⟨rfl, rfl, rfl, by decide +kernel, rfl, by decide +kernel, by decide +kernel⟩
theorem sc_Without_names : FnScope ["self", "view", "others", "cell"] ["self", "view"] (defScope st_Without_names) := ⟨rfl, rfl, rfl, by decide +kernel, rfl, by decide +kernel, by decide +kernel⟩
theorem moR0_names {P : Program} {w : World} {K : PySem.W.Frag} {mg : Str → Option Value} {base : Heap} (X : TX K mg) {R : Nat → List Vl → M Vl} {j : Nat} (hj : 2 ≤ j) (ih_Both_names : FnG P w K mg base j X.f_Both_names X.d_Both_names ["self", "view"] (SpM (X.T w) 2 (R 0))) (ih_Either_names : FnG P w K mg base j X.f_Either_names X.d_Either_names ["self", "view"] (SpM (X.T w) 2 (R 1))) (ih_Without_names : FnG P w K mg base j X.f_Without_names X.d_Without_names ["self", "view"] (SpM (X.T w) 2 (R 2))) : ∀ c mf, tabR0_names R c = some mf → ∀ C, (X.T w).cl[c]? = some C → ∃ (f : Addr) (fd : FuncData) (ps : List Str), Cls (X.T w).K C ∧ Meth (X.T w).K C "names" f ∧ FnG P w K mg base j f fd ps (SpM (X.T w) (1 + 1) mf) ∧ Binds K fd ps [] := by
  intro c mf h C hC
  unfold tabR0_names at h
  split at h
  · cases h
    cases hC
    exact ⟨_, _, _, X.cl_Rule, X.mt_Rule_names, (sim_Rule_names X).mono (Nat.le_trans (by decide) hj), X.b_Rule_names⟩
  · cases h
    cases hC
    exact ⟨_, _, _, X.cl_Pair, X.mt_Pair_names, (sim_Rule_names X).mono (Nat.le_trans (by decide) hj), X.b_Rule_names⟩
  · cases h
    cases hC
    exact ⟨_, _, _, X.cl_Both, X.mt_Both_names, ih_Both_names, X.b_Both_names⟩
  · cases h
    cases hC
    exact ⟨_, _, _, X.cl_Either, X.mt_Either_names, ih_Either_names, X.b_Either_names⟩
  · cases h
    cases hC
    exact ⟨_, _, _, X.cl_Without, X.mt_Without_names, ih_Without_names, X.b_Without_names⟩
  · cases h
    cases hC
    exact ⟨_, _, _, X.cl_AtOnce, X.mt_AtOnce_names, (sim_AtOnce_names X).mono (Nat.le_trans (by decide) hj), X.b_AtOnce_names⟩
  · cases h
    cases hC
    exact ⟨_, _, _, X.cl_Counting, X.mt_Counting_names, (sim_Counting_names X).mono (Nat.le_trans (by decide) hj), X.b_Counting_names⟩
  · cases h
    cases hC
    exact ⟨_, _, _, X.cl_Places, X.mt_Places_names, (sim_Places_names X).mono (Nat.le_trans (by decide) hj), X.b_Places_names⟩
  · cases h
    cases hC
    exact ⟨_, _, _, X.cl_Above, X.mt_Above_names, (sim_Above_names X).mono (Nat.le_trans (by decide) hj), X.b_Above_names⟩
  · cases h
theorem sims0 {P : Program} {w : World} {K : PySem.W.Frag} {mg : Str → Option Value} {base : Heap} (X : TX K mg) : ∀ n : Nat, FnG P w K mg base (2 + 1 * n) X.f_Both_names X.d_Both_names ["self", "view"] (SpM (X.T w) 2 (R0 n 0)) ∧ FnG P w K mg base (2 + 1 * n) X.f_Either_names X.d_Either_names ["self", "view"] (SpM (X.T w) 2 (R0 n 1)) ∧ FnG P w K mg base (2 + 1 * n) X.f_Without_names X.d_Without_names ["self", "view"] (SpM (X.T w) 2 (R0 n 2))
  | 0 => ⟨fnG_fail, fnG_fail, fnG_fail⟩
  | n + 1 => by
    obtain ⟨ih_Both_names, ih_Either_names, ih_Without_names⟩ := sims0 (base := base) X n
    refine ⟨?_, ?_, ?_⟩
    · refine fn_sim (k := 2 + 1 * n + 0) (N := ["self", "view", "others", "cell"]) (T := X.T w) (b := b_Both_names (R0 n)) X.F_Both_names sc_Both_names rfl fun cdv A outer s H E hr hg => ?_
      have tk := L2N.takes_of (X := cxOf (L2N.CX P w) P w K mg base ["self", "view", "others", "cell"] "Both.names" (defScope st_Both_names) X.f_Both_names cdv A outer s H E) (E := E) rfl rfl rfl rfl
      unfold b_Both_names
      exact (cs_cons (cs_set (i := 2) sc_Both_names.nd rfl (by first | exact Or.inl rfl | exact Or.inr rfl) (ce_meth (moR0_names X (by omega) ih_Both_names ih_Either_names ih_Without_names) (hr.mono (by omega)) hg tk (ce_fld (X.fo_second_rule w) (ce_var 0)) (ca_cons (ce_var 1) ca_nil)))
  (cs_one (cs_ret (ce_callTy (c_tuple) rfl X.n_tuple (by decide +kernel) (ca_cons (ce_lcX (own := [("cell", 3)]) rfl sc_Both_names.nd (ci_tup (ce_meth (moR0_names X (by omega) ih_Both_names ih_Either_names ih_Without_names) (hr.mono (by omega)) hg tk (ce_fld (X.fo_first_rule w) (ce_var 0)) (ca_cons (ce_var 1) ca_nil))) (blkOk_by (by kernel_rfl)) (tg_name (List.mem_cons_self ..)) (fun _ _ _ _ _ => pg_name (i := 3) sc_Both_names.nd rfl (by first | exact Or.inl rfl | exact Or.inr rfl)) (fun _ _ _ _ _ => (cts_one (ct_cmp (o_in (hu_of hr)) (ce_var 3) (ce_var 2)))) (fun _ _ _ _ _ => (ce_var 3))) ca_nil)))))
    · refine fn_sim (k := 2 + 1 * n + 0) (N := ["self", "view", "rule", "cell"]) (T := X.T w) (b := b_Either_names (R0 n)) X.F_Either_names sc_Either_names rfl fun cdv A outer s H E hr hg => ?_
      have tk := L2N.takes_of (X := cxOf (L2N.CX P w) P w K mg base ["self", "view", "rule", "cell"] "Either.names" (defScope st_Either_names) X.f_Either_names cdv A outer s H E) (E := E) rfl rfl rfl rfl
      unfold b_Either_names
      exact (cs_one (cs_ret (ce_callTy (c_tuple) rfl X.n_tuple (by decide +kernel) (ca_cons (ce_callB c_sortS rfl X.n_sorted (by decide +kernel) (ca_cons (ce_sc2 (own := [("rule", 2), ("cell", 3)]) (ws := [3]) 100000 rfl sc_Either_names.nd (ci_tup (ce_tup (ca_cons (ce_fld (X.fo_first_rule w) (ce_var 0)) (ca_cons (ce_fld (X.fo_second_rule w) (ce_var 0)) ca_nil)))) (blkOk_by (by kernel_rfl)) (tg_name (by decide)) (by decide) (tg_name (by decide)) (fun _ _ _ _ _ => pg_name (i := 2) sc_Either_names.nd rfl (by first | exact Or.inl rfl | exact Or.inr rfl)) (fun _ _ _ _ _ => (ci_tup (ce_meth (moR0_names X (by omega) ih_Both_names ih_Either_names ih_Without_names) (hr.mono (by omega)) hg takesN (ce_var 2) (ca_cons (ce_var 1) ca_nil)))) (fun _ _ _ _ _ => pg_name (i := 3) sc_Either_names.nd rfl (by first | exact Or.inl rfl | exact Or.inr rfl)) (fun _ _ _ _ _ => (ce_var 3))) ca_nil)) ca_nil))))
    · refine fn_sim (k := 2 + 1 * n + 0) (N := ["self", "view", "others", "cell"]) (T := X.T w) (b := b_Without_names (R0 n)) X.F_Without_names sc_Without_names rfl fun cdv A outer s H E hr hg => ?_
      have tk := L2N.takes_of (X := cxOf (L2N.CX P w) P w K mg base ["self", "view", "others", "cell"] "Without.names" (defScope st_Without_names) X.f_Without_names cdv A outer s H E) (E := E) rfl rfl rfl rfl
      unfold b_Without_names
      exact (cs_cons (cs_set (i := 2) sc_Without_names.nd rfl (by first | exact Or.inl rfl | exact Or.inr rfl) (ce_meth (moR0_names X (by omega) ih_Both_names ih_Either_names ih_Without_names) (hr.mono (by omega)) hg tk (ce_fld (X.fo_second_rule w) (ce_var 0)) (ca_cons (ce_var 1) ca_nil)))
  (cs_one (cs_ret (ce_callTy (c_tuple) rfl X.n_tuple (by decide +kernel) (ca_cons (ce_lcX (own := [("cell", 3)]) rfl sc_Without_names.nd (ci_tup (ce_meth (moR0_names X (by omega) ih_Both_names ih_Either_names ih_Without_names) (hr.mono (by omega)) hg tk (ce_fld (X.fo_first_rule w) (ce_var 0)) (ca_cons (ce_var 1) ca_nil))) (blkOk_by (by kernel_rfl)) (tg_name (List.mem_cons_self ..)) (fun _ _ _ _ _ => pg_name (i := 3) sc_Without_names.nd rfl (by first | exact Or.inl rfl | exact Or.inr rfl)) (fun _ _ _ _ _ => (cts_one (ct_cmp (o_notIn (hu_of hr)) (ce_var 3) (ce_var 2)))) (fun _ _ _ _ _ => (ce_var 3))) ca_nil)))))
theorem sim_Both_names {P : Program} {w : World} {K : PySem.W.Frag} {mg : Str → Option Value} {base : Heap} (X : TX K mg) : FnG P w K mg base 26 X.f_Both_names X.d_Both_names ["self", "view"] (SpM (X.T w) 2 m_Both_names) := (sims0 (P := P) (w := w) (base := base) X 24).1
theorem sim_Either_names {P : Program} {w : World} {K : PySem.W.Frag} {mg : Str → Option Value} {base : Heap} (X : TX K mg) : FnG P w K mg base 26 X.f_Either_names X.d_Either_names ["self", "view"] (SpM (X.T w) 2 m_Either_names) := (sims0 (P := P) (w := w) (base := base) X 24).2.1
theorem sim_Without_names {P : Program} {w : World} {K : PySem.W.Frag} {mg : Str → Option Value} {base : Heap} (X : TX K mg) : FnG P w K mg base 26 X.f_Without_names X.d_Without_names ["self", "view"] (SpM (X.T w) 2 m_Without_names) := (sims0 (P := P) (w := w) (base := base) X 24).2.2
theorem mo_names {P : Program} {w : World} {K : PySem.W.Frag} {mg : Str → Option Value} {base : Heap} (X : TX K mg) : ∀ c mf, tab_names c = some mf → ∀ C, (X.T w).cl[c]? = some C → ∃ (f : Addr) (fd : FuncData) (ps : List Str), Cls (X.T w).K C ∧ Meth (X.T w).K C "names" f ∧ FnG P w K mg base 26 f fd ps (SpM (X.T w) (1 + 1) mf) ∧ Binds K fd ps [] := by
  intro c mf h C hC
  unfold tab_names at h
  split at h
  · cases h
    cases hC
    exact ⟨_, _, _, X.cl_Rule, X.mt_Rule_names, (sim_Rule_names X).mono (by decide), X.b_Rule_names⟩
  · cases h
    cases hC
    exact ⟨_, _, _, X.cl_Pair, X.mt_Pair_names, (sim_Rule_names X).mono (by decide), X.b_Rule_names⟩
  · cases h
    cases hC
    exact ⟨_, _, _, X.cl_Both, X.mt_Both_names, (sim_Both_names X).mono (by decide), X.b_Both_names⟩
  · cases h
    cases hC
    exact ⟨_, _, _, X.cl_Either, X.mt_Either_names, (sim_Either_names X).mono (by decide), X.b_Either_names⟩
  · cases h
    cases hC
    exact ⟨_, _, _, X.cl_Without, X.mt_Without_names, (sim_Without_names X).mono (by decide), X.b_Without_names⟩
  · cases h
    cases hC
    exact ⟨_, _, _, X.cl_AtOnce, X.mt_AtOnce_names, (sim_AtOnce_names X).mono (by decide), X.b_AtOnce_names⟩
  · cases h
    cases hC
    exact ⟨_, _, _, X.cl_Counting, X.mt_Counting_names, (sim_Counting_names X).mono (by decide), X.b_Counting_names⟩
  · cases h
    cases hC
    exact ⟨_, _, _, X.cl_Places, X.mt_Places_names, (sim_Places_names X).mono (by decide), X.b_Places_names⟩
  · cases h
    cases hC
    exact ⟨_, _, _, X.cl_Above, X.mt_Above_names, (sim_Above_names X).mono (by decide), X.b_Above_names⟩
  · cases h
theorem sc_RuleU_callU : FnScope ["self", "view"] ["self", "view"] (defScope st_RuleU_callU) := ⟨rfl, rfl, rfl, by decide +kernel, rfl, by decide +kernel, by decide +kernel⟩
theorem sim_RuleU_callU {P : Program} {w : World} {K : PySem.W.Frag} {mg : Str → Option Value} {base : Heap} (X : TX K mg) : FnG P w K mg base 27 X.f_RuleU_callU X.d_RuleU_callU ["self", "view"] (SpM (X.T w) 2 m_RuleU_callU) := by
  refine fn_sim (k := 26) (N := ["self", "view"]) (T := X.T w) (b := b_RuleU_callU) X.F_RuleU_callU sc_RuleU_callU rfl fun cdv A outer s H E hr hg => ?_
  have tk := L2N.takes_of (X := cxOf (L2N.CX P w) P w K mg base ["self", "view"] "Rule.__call__" (defScope st_RuleU_callU) X.f_RuleU_callU cdv A outer s H E) (E := E) rfl rfl rfl rfl
  unfold b_RuleU_callU
  exact (cs_one (cs_ret (ce_meth (mo_names X) (hr.mono (by decide)) hg tk (ce_var 0) (ca_cons (ce_var 1) ca_nil))))
theorem mo_UcallU {P : Program} {w : World} {K : PySem.W.Frag} {mg : Str → Option Value} {base : Heap} (X : TX K mg) : ∀ c mf, tab_UcallU c = some mf → ∀ C, (X.T w).cl[c]? = some C → ∃ (f : Addr) (fd : FuncData) (ps : List Str), StX.CallO (X.T w).K C f ∧ FnG P w K mg base 27 f fd ps (SpM (X.T w) (1 + 1) mf) ∧ Binds K fd ps [] := by
  intro c mf h C hC
  unfold tab_UcallU at h
  split at h
  · cases h
    cases hC
    exact ⟨_, _, _, X.mt_Rule_UcallU, (sim_RuleU_callU X).mono (by decide), X.b_RuleU_callU⟩
  · cases h
    cases hC
    exact ⟨_, _, _, X.mt_Pair_UcallU, (sim_RuleU_callU X).mono (by decide), X.b_RuleU_callU⟩
  · cases h
    cases hC
    exact ⟨_, _, _, X.mt_Both_UcallU, (sim_RuleU_callU X).mono (by decide), X.b_RuleU_callU⟩
  · cases h
    cases hC
    exact ⟨_, _, _, X.mt_Either_UcallU, (sim_RuleU_callU X).mono (by decide), X.b_RuleU_callU⟩
  · cases h
    cases hC
    exact ⟨_, _, _, X.mt_Without_UcallU, (sim_RuleU_callU X).mono (by decide), X.b_RuleU_callU⟩
  · cases h
    cases hC
    exact ⟨_, _, _, X.mt_AtOnce_UcallU, (sim_RuleU_callU X).mono (by decide), X.b_RuleU_callU⟩
  · cases h
    cases hC
    exact ⟨_, _, _, X.mt_Counting_UcallU, (sim_RuleU_callU X).mono (by decide), X.b_RuleU_callU⟩
  · cases h
    cases hC
    exact ⟨_, _, _, X.mt_Places_UcallU, (sim_RuleU_callU X).mono (by decide), X.b_RuleU_callU⟩
  · cases h
    cases hC
    exact ⟨_, _, _, X.mt_Above_UcallU, (sim_RuleU_callU X).mono (by decide), X.b_RuleU_callU⟩
  · cases h
theorem sc_PairU_initU : FnScope ["self", "first_rule", "second_rule"] ["self", "first_rule", "second_rule"] (defScope st_PairU_initU) := ⟨rfl, rfl, rfl, by decide +kernel, rfl, by decide +kernel, by decide +kernel⟩
theorem sim_PairU_initU {P : Program} {w : World} {K : PySem.W.Frag} {mg : Str → Option Value} {base : Heap} (X : TX K mg) : FnG P w K mg base 1 X.f_PairU_initU X.d_PairU_initU ["self", "first_rule", "second_rule"] (SpM (X.T w) 3 m_PairU_initU) := by
  refine fn_sim (k := 0) (N := ["self", "first_rule", "second_rule"]) (T := X.T w) (b := b_PairU_initU) X.F_PairU_initU sc_PairU_initU rfl fun cdv A outer s H E hr hg => ?_
  have tk := L2N.takes_of (X := cxOf (L2N.CX P w) P w K mg base ["self", "first_rule", "second_rule"] "Pair.__init__" (defScope st_PairU_initU) X.f_PairU_initU cdv A outer s H E) (E := E) rfl rfl rfl rfl
  unfold b_PairU_initU
  exact (cs_cons (cs_fld (X.fo_first_rule w) (ce_var 0) (ce_var 1))
  (cs_one (cs_fld (X.fo_second_rule w) (ce_var 0) (ce_var 2))))
theorem sc_RuleU_andU : FnScope ["self", "other"] ["self", "other"] (defScope st_RuleU_andU) := ⟨rfl, rfl, rfl, by decide +kernel, rfl, by decide +kernel, by decide +kernel⟩
theorem sim_RuleU_andU {P : Program} {w : World} {K : PySem.W.Frag} {mg : Str → Option Value} {base : Heap} (X : TX K mg) : FnG P w K mg base 3 X.f_RuleU_andU X.d_RuleU_andU ["self", "other"] (SpM (X.T w) 2 m_RuleU_andU) := by
  refine fn_sim (k := 2) (N := ["self", "other"]) (T := X.T w) (b := b_RuleU_andU) X.F_RuleU_andU sc_RuleU_andU rfl fun cdv A outer s H E hr hg => ?_
  have tk := L2N.takes_of (X := cxOf (L2N.CX P w) P w K mg base ["self", "other"] "Rule.__and__" (defScope st_RuleU_andU) X.f_RuleU_andU cdv A outer s H E) (E := E) rfl rfl rfl rfl
  unfold b_RuleU_andU
  exact (cs_one (cs_ret (ce_make X.mk_Both (sim_PairU_initU X) (hr.mono (by decide)) hg rfl X.gc_Both X.b_PairU_initU tk rfl (ca_cons (ce_var 0) (ca_cons (ce_var 1) ca_nil)))))
theorem mo_UandU {P : Program} {w : World} {K : PySem.W.Frag} {mg : Str → Option Value} {base : Heap} (X : TX K mg) : ∀ c mf, tab_UandU c = some mf → ∀ C, (X.T w).cl[c]? = some C → ∃ (f : Addr) (fd : FuncData) (ps : List Str), PySem.W.BopO (X.T w).K C f "and" ∧ FnG P w K mg base 3 f fd ps (SpM (X.T w) 2 mf) ∧ Binds K fd ps [] := by
  intro c mf h C hC
  unfold tab_UandU at h
  split at h
  · cases h
    cases hC
    exact ⟨_, _, _, X.mt_Rule_UandU, (sim_RuleU_andU X).mono (by decide), X.b_RuleU_andU⟩
  · cases h
    cases hC
    exact ⟨_, _, _, X.mt_Pair_UandU, (sim_RuleU_andU X).mono (by decide), X.b_RuleU_andU⟩
  · cases h
    cases hC
    exact ⟨_, _, _, X.mt_Both_UandU, (sim_RuleU_andU X).mono (by decide), X.b_RuleU_andU⟩
  · cases h
    cases hC
    exact ⟨_, _, _, X.mt_Either_UandU, (sim_RuleU_andU X).mono (by decide), X.b_RuleU_andU⟩
  · cases h
    cases hC
    exact ⟨_, _, _, X.mt_Without_UandU, (sim_RuleU_andU X).mono (by decide), X.b_RuleU_andU⟩
  · cases h
    cases hC
    exact ⟨_, _, _, X.mt_AtOnce_UandU, (sim_RuleU_andU X).mono (by decide), X.b_RuleU_andU⟩
  · cases h
    cases hC
    exact ⟨_, _, _, X.mt_Counting_UandU, (sim_RuleU_andU X).mono (by decide), X.b_RuleU_andU⟩
  · cases h
    cases hC
    exact ⟨_, _, _, X.mt_Places_UandU, (sim_RuleU_andU X).mono (by decide), X.b_RuleU_andU⟩
  · cases h
    cases hC
    exact ⟨_, _, _, X.mt_Above_UandU, (sim_RuleU_andU X).mono (by decide), X.b_RuleU_andU⟩
  · cases h
theorem sc_RuleU_orU : FnScope ["self", "other"] ["self", "other"] (defScope st_RuleU_orU) := ⟨rfl, rfl, rfl, by decide +kernel, rfl, by decide +kernel, by decide +kernel⟩
theorem sim_RuleU_orU {P : Program} {w : World} {K : PySem.W.Frag} {mg : Str → Option Value} {base : Heap} (X : TX K mg) : FnG P w K mg base 3 X.f_RuleU_orU X.d_RuleU_orU ["self", "other"] (SpM (X.T w) 2 m_RuleU_orU) := by
  refine fn_sim (k := 2) (N := ["self", "other"]) (T := X.T w) (b := b_RuleU_orU) X.F_RuleU_orU sc_RuleU_orU rfl fun cdv A outer s H E hr hg => ?_
  have tk := L2N.takes_of (X := cxOf (L2N.CX P w) P w K mg base ["self", "other"] "Rule.__or__" (defScope st_RuleU_orU) X.f_RuleU_orU cdv A outer s H E) (E := E) rfl rfl rfl rfl
  unfold b_RuleU_orU
  exact (cs_one (cs_ret (ce_make X.mk_Either (sim_PairU_initU X) (hr.mono (by decide)) hg rfl X.gc_Either X.b_PairU_initU tk rfl (ca_cons (ce_var 0) (ca_cons (ce_var 1) ca_nil)))))
theorem mo_UorU {P : Program} {w : World} {K : PySem.W.Frag} {mg : Str → Option Value} {base : Heap} (X : TX K mg) : ∀ c mf, tab_UorU c = some mf → ∀ C, (X.T w).cl[c]? = some C → ∃ (f : Addr) (fd : FuncData) (ps : List Str), PySem.W.BopO (X.T w).K C f "or" ∧ FnG P w K mg base 3 f fd ps (SpM (X.T w) 2 mf) ∧ Binds K fd ps [] := by
  intro c mf h C hC
  unfold tab_UorU at h
  split at h
  · cases h
    cases hC
    exact ⟨_, _, _, X.mt_Rule_UorU, (sim_RuleU_orU X).mono (by decide), X.b_RuleU_orU⟩
  · cases h
    cases hC
    exact ⟨_, _, _, X.mt_Pair_UorU, (sim_RuleU_orU X).mono (by decide), X.b_RuleU_orU⟩
  · cases h
    cases hC
    exact ⟨_, _, _, X.mt_Both_UorU, (sim_RuleU_orU X).mono (by decide), X.b_RuleU_orU⟩
  · cases h
    cases hC
    exact ⟨_, _, _, X.mt_Either_UorU, (sim_RuleU_orU X).mono (by decide), X.b_RuleU_orU⟩
  · cases h
    cases hC
    exact ⟨_, _, _, X.mt_Without_UorU, (sim_RuleU_orU X).mono (by decide), X.b_RuleU_orU⟩
  · cases h
    cases hC
    exact ⟨_, _, _, X.mt_AtOnce_UorU, (sim_RuleU_orU X).mono (by decide), X.b_RuleU_orU⟩
  · cases h
    cases hC
    exact ⟨_, _, _, X.mt_Counting_UorU, (sim_RuleU_orU X).mono (by decide), X.b_RuleU_orU⟩
  · cases h
    cases hC
    exact ⟨_, _, _, X.mt_Places_UorU, (sim_RuleU_orU X).mono (by decide), X.b_RuleU_orU⟩
  · cases h
    cases hC
    exact ⟨_, _, _, X.mt_Above_UorU, (sim_RuleU_orU X).mono (by decide), X.b_RuleU_orU⟩
  · cases h
theorem sc_RuleU_subU : FnScope ["self", "other"] ["self", "other"] (defScope st_RuleU_subU) := ⟨rfl, rfl, rfl, by decide +kernel, rfl, by decide +kernel, by decide +kernel⟩
theorem sim_RuleU_subU {P : Program} {w : World} {K : PySem.W.Frag} {mg : Str → Option Value} {base : Heap} (X : TX K mg) : FnG P w K mg base 3 X.f_RuleU_subU X.d_RuleU_subU ["self", "other"] (SpM (X.T w) 2 m_RuleU_subU) := by
  refine fn_sim (k := 2) (N := ["self", "other"]) (T := X.T w) (b := b_RuleU_subU) X.F_RuleU_subU sc_RuleU_subU rfl fun cdv A outer s H E hr hg => ?_
  have tk := L2N.takes_of (X := cxOf (L2N.CX P w) P w K mg base ["self", "other"] "Rule.__sub__" (defScope st_RuleU_subU) X.f_RuleU_subU cdv A outer s H E) (E := E) rfl rfl rfl rfl
  unfold b_RuleU_subU
  exact (cs_one (cs_ret (ce_make X.mk_Without (sim_PairU_initU X) (hr.mono (by decide)) hg rfl X.gc_Without X.b_PairU_initU tk rfl (ca_cons (ce_var 0) (ca_cons (ce_var 1) ca_nil)))))
theorem mo_UsubU {P : Program} {w : World} {K : PySem.W.Frag} {mg : Str → Option Value} {base : Heap} (X : TX K mg) : ∀ c mf, tab_UsubU c = some mf → ∀ C, (X.T w).cl[c]? = some C → ∃ (f : Addr) (fd : FuncData) (ps : List Str), PySem.W.BopO (X.T w).K C f "sub" ∧ FnG P w K mg base 3 f fd ps (SpM (X.T w) 2 mf) ∧ Binds K fd ps [] := by
  intro c mf h C hC
  unfold tab_UsubU at h
  split at h
  · cases h
    cases hC
    exact ⟨_, _, _, X.mt_Rule_UsubU, (sim_RuleU_subU X).mono (by decide), X.b_RuleU_subU⟩
  · cases h
    cases hC
    exact ⟨_, _, _, X.mt_Pair_UsubU, (sim_RuleU_subU X).mono (by decide), X.b_RuleU_subU⟩
  · cases h
    cases hC
    exact ⟨_, _, _, X.mt_Both_UsubU, (sim_RuleU_subU X).mono (by decide), X.b_RuleU_subU⟩
  · cases h
    cases hC
    exact ⟨_, _, _, X.mt_Either_UsubU, (sim_RuleU_subU X).mono (by decide), X.b_RuleU_subU⟩
  · cases h
    cases hC
    exact ⟨_, _, _, X.mt_Without_UsubU, (sim_RuleU_subU X).mono (by decide), X.b_RuleU_subU⟩
  · cases h
    cases hC
    exact ⟨_, _, _, X.mt_AtOnce_UsubU, (sim_RuleU_subU X).mono (by decide), X.b_RuleU_subU⟩
  · cases h
    cases hC
    exact ⟨_, _, _, X.mt_Counting_UsubU, (sim_RuleU_subU X).mono (by decide), X.b_RuleU_subU⟩
  · cases h
    cases hC
    exact ⟨_, _, _, X.mt_Places_UsubU, (sim_RuleU_subU X).mono (by decide), X.b_RuleU_subU⟩
  · cases h
    cases hC
    exact ⟨_, _, _, X.mt_Above_UsubU, (sim_RuleU_subU X).mono (by decide), X.b_RuleU_subU⟩
  · cases h
theorem sc_PlacesU_initU : FnScope ["self", "places"] ["self", "places"] (defScope st_PlacesU_initU) := ⟨rfl, rfl, rfl, by decide +kernel, rfl, by decide +kernel, by decide +kernel⟩
theorem sim_PlacesU_initU {P : Program} {w : World} {K : PySem.W.Frag} {mg : Str → Option Value} {base : Heap} (X : TX K mg) : FnV P w K mg base 1 X.f_PlacesU_initU (SpV (X.T w) (starM 1 m_PlacesU_initU)) := by
  refine fn_simV (k := 0) (N := ["self", "places"]) (ps := ["self"]) (pv := "places") (T := X.T w) (b := b_PlacesU_initU) X.F_PlacesU_initU sc_PlacesU_initU rfl X.b_PlacesU_initU fun cdv A outer s H E hr hg => ?_
  have tk := L2N.takes_of (X := cxOf (L2N.CX P w) P w K mg base ["self", "places"] "Places.__init__" (defScope st_PlacesU_initU) X.f_PlacesU_initU cdv A outer s H E) (E := E) rfl rfl rfl rfl
  unfold b_PlacesU_initU
  exact (cs_one (cs_fld (X.fo_chosen w) (ce_var 0) (ce_var 1)))
theorem sc_AboveU_initU : FnScope ["self", "most"] ["self", "most"] (defScope st_AboveU_initU) := ⟨rfl, rfl, rfl, by decide +kernel, rfl, by decide +kernel, by decide +kernel⟩
theorem sim_AboveU_initU {P : Program} {w : World} {K : PySem.W.Frag} {mg : Str → Option Value} {base : Heap} (X : TX K mg) : FnG P w K mg base 1 X.f_AboveU_initU X.d_AboveU_initU ["self", "most"] (SpM (X.T w) 2 m_AboveU_initU) := by
  refine fn_sim (k := 0) (N := ["self", "most"]) (T := X.T w) (b := b_AboveU_initU) X.F_AboveU_initU sc_AboveU_initU rfl fun cdv A outer s H E hr hg => ?_
  have tk := L2N.takes_of (X := cxOf (L2N.CX P w) P w K mg base ["self", "most"] "Above.__init__" (defScope st_AboveU_initU) X.f_AboveU_initU cdv A outer s H E) (E := E) rfl rfl rfl rfl
  unfold b_AboveU_initU
  exact (cs_one (cs_fld (X.fo_most w) (ce_var 0) (ce_var 1)))
theorem sc__law_deck : FnScope ["_law_script", "_law_cell"] ["_law_script"] (defScope st__law_deck) := ⟨rfl, rfl, rfl, by decide +kernel, rfl, by decide +kernel, by decide +kernel⟩
theorem sim__law_deck {P : Program} {w : World} {K : PySem.W.Frag} {mg : Str → Option Value} {base : Heap} (X : TX K mg) : FnG P w K mg base 1 X.f__law_deck X.d__law_deck ["_law_script"] (SpM (X.T w) 1 m__law_deck) := by
  refine fn_sim (k := 0) (N := ["_law_script", "_law_cell"]) (T := X.T w) (b := b__law_deck) X.F__law_deck sc__law_deck rfl fun cdv A outer s H E hr hg => ?_
  have tk := L2N.takes_of (X := cxOf (L2N.CX P w) P w K mg base ["_law_script", "_law_cell"] "_law_deck" (defScope st__law_deck) X.f__law_deck cdv A outer s H E) (E := E) rfl rfl rfl rfl
  unfold b__law_deck
  exact (cs_one (cs_ret (ce_lst (ca_cons (ce_lc (own := [("_law_cell", 1)]) 100000 rfl sc__law_deck.nd (ci_lst (ce_slice o_sl (ce_var 0) co_none (co_some ce_int))) (blkOk_by (by kernel_rfl)) (tg_name (List.mem_cons_self ..)) (fun _ _ _ _ _ => pg_name (i := 1) sc__law_deck.nd rfl (by first | exact Or.inl rfl | exact Or.inr rfl)) (fun _ _ _ _ _ => cts_nil) (fun _ _ _ _ _ => (ce_callB (c_abs) rfl X.n_abs (by decide +kernel) (ca_cons (ce_var 1) ca_nil)))) (ca_cons ce_int ca_nil)))))
theorem sc__law_draw : FnScope ["_law_deck_here", "_law_many", "_law_place", "_law_cell", "_law_mixed"] ["_law_deck_here", "_law_many"] (defScope st__law_draw) := ⟨rfl, rfl, rfl, by decide +kernel, rfl, by decide +kernel, by decide +kernel⟩
theorem sim__law_draw {P : Program} {w : World} {K : PySem.W.Frag} {mg : Str → Option Value} {base : Heap} (X : TX K mg) : FnG P w K mg base 1 X.f__law_draw X.d__law_draw ["_law_deck_here", "_law_many"] (SpM (X.T w) 2 m__law_draw) := by
  refine fn_sim (k := 0) (N := ["_law_deck_here", "_law_many", "_law_place", "_law_cell", "_law_mixed"]) (T := X.T w) (b := b__law_draw) X.F__law_draw sc__law_draw rfl fun cdv A outer s H E hr hg => ?_
  have tk := L2N.takes_of (X := cxOf (L2N.CX P w) P w K mg base ["_law_deck_here", "_law_many", "_law_place", "_law_cell", "_law_mixed"] "_law_draw" (defScope st__law_draw) X.f__law_draw cdv A outer s H E) (E := E) rfl rfl rfl rfl
  unfold b__law_draw
  exact (cs_cons (cs_asg (ce_op o_add (ce_ix (o_ix (hu_of hr)) (ce_var 0) ce_int) ce_int) (cg_sub (ce_var 0) ce_int (p_set (hu_of hr)) (pg_sub (ce_var 0) ce_int (p_set (hu_of hr)))))
  (cs_cons (cs_set (i := 2) sc__law_draw.nd rfl (by first | exact Or.inl rfl | exact Or.inr rfl) (ce_op o_mod (ce_callTy (c_int) rfl X.n_int (by decide +kernel) (ca_cons (ce_ix (o_ix (hu_of hr)) (ce_var 0) ce_int) ca_nil)) (ce_callB (c_max) rfl X.n_max (by decide +kernel) (ca_cons ce_int (ca_cons (ce_callB (c_len) rfl X.n_len (by decide +kernel) (ca_cons (ce_ix (o_ix (hu_of hr)) (ce_var 0) ce_int) ca_nil)) ca_nil)))))
  (cs_cons (cs_set (i := 3) sc__law_draw.nd rfl (by first | exact Or.inl rfl | exact Or.inr rfl) (ce_ix (o_ix (hu_of hr)) (ce_op o_add (ce_ix (o_ix (hu_of hr)) (ce_var 0) ce_int) (ce_lst (ca_cons ce_int ca_nil))) (ce_var 2)))
  (cs_cons (cs_if (ct_cmp o_ge (ce_var 3) (ce_op o_pow ce_int ce_int)) (cs_cons (cs_asg (ce_op o_fdiv (ce_var 3) (ce_var 1)) (cg_sub (ce_ix (o_ix (hu_of hr)) (ce_var 0) ce_int) (ce_var 2) (p_set (hu_of hr)) (pg_sub (ce_ix (o_ix (hu_of hr)) (ce_var 0) ce_int) (ce_var 2) (p_set (hu_of hr)))))
  (cs_one (cs_ret (ce_op o_mod (ce_callTy (c_int) rfl X.n_int (by decide +kernel) (ca_cons (ce_var 3) ca_nil)) (ce_var 1))))) cs_nil)
  (cs_cons (cs_set (i := 4) sc__law_draw.nd rfl (by first | exact Or.inl rfl | exact Or.inr rfl) (ce_op o_pow (ce_op o_add (ce_op o_add (ce_op o_mod (ce_callTy (c_int) rfl X.n_int (by decide +kernel) (ca_cons (ce_var 3) ca_nil)) ce_int) (ce_op o_mul ce_int (ce_ix (o_ix (hu_of hr)) (ce_var 0) ce_int))) ce_int) ce_int))
  (cs_one (cs_ret (ce_op o_mod (ce_callTy (c_int) rfl X.n_int (by decide +kernel) (ca_cons (ce_op o_mod (ce_callTy (c_int) rfl X.n_int (by decide +kernel) (ca_cons (ce_var 4) ca_nil)) ce_int) ca_nil)) (ce_var 1)))))))))
theorem sc__law_one : FnScope ["_law_deck_here", "_law_items"] ["_law_deck_here", "_law_items"] (defScope st__law_one) := ⟨rfl, rfl, rfl, by decide +kernel, rfl, by decide +kernel, by decide +kernel⟩
theorem sim__law_one {P : Program} {w : World} {K : PySem.W.Frag} {mg : Str → Option Value} {base : Heap} (X : TX K mg) : FnG P w K mg base 2 X.f__law_one X.d__law_one ["_law_deck_here", "_law_items"] (SpM (X.T w) 2 m__law_one) := by
  refine fn_sim (k := 1) (N := ["_law_deck_here", "_law_items"]) (T := X.T w) (b := b__law_one) X.F__law_one sc__law_one rfl fun cdv A outer s H E hr hg => ?_
  have tk := L2N.takes_of (X := cxOf (L2N.CX P w) P w K mg base ["_law_deck_here", "_law_items"] "_law_one" (defScope st__law_one) X.f__law_one cdv A outer s H E) (E := E) rfl rfl rfl rfl
  unfold b__law_one
  exact (cs_one (cs_ret (ce_ix (o_ix (hu_of hr)) (ce_var 1) (ce_call (sim__law_draw X) (hr.mono (by decide)) hg rfl X.g__law_draw X.F__law_draw.kp X.b__law_draw tk (ca_cons (ce_var 0) (ca_cons (ce_callB (c_len) rfl X.n_len (by decide +kernel) (ca_cons (ce_var 1) ca_nil)) ca_nil))))))
theorem sc__law_view : FnScope ["_law_deck_here", "_law_k", "_law_cell", "_law_rows", "_law_many", "_law_at", "_law_cells", "_law_held", "_law_stands", "_law_reached", "_law_holders", "_law_other"] ["_law_deck_here"] (defScope st__law_view) := ⟨rfl, rfl, rfl, by decide +kernel, rfl, by decide +kernel, by decide +kernel⟩
theorem sim__law_view {P : Program} {w : World} {K : PySem.W.Frag} {mg : Str → Option Value} {base : Heap} (X : TX K mg) : FnG P w K mg base 3 X.f__law_view X.d__law_view ["_law_deck_here"] (SpM (X.T w) 1 m__law_view) := by
  refine fn_sim (k := 2) (N := ["_law_deck_here", "_law_k", "_law_cell", "_law_rows", "_law_many", "_law_at", "_law_cells", "_law_held", "_law_stands", "_law_reached", "_law_holders", "_law_other"]) (T := X.T w) (b := b__law_view) X.F__law_view sc__law_view rfl fun cdv A outer s H E hr hg => ?_
  have tk := L2N.takes_of (X := cxOf (L2N.CX P w) P w K mg base ["_law_deck_here", "_law_k", "_law_cell", "_law_rows", "_law_many", "_law_at", "_law_cells", "_law_held", "_law_stands", "_law_reached", "_law_holders", "_law_other"] "_law_view" (defScope st__law_view) X.f__law_view cdv A outer s H E) (E := E) rfl rfl rfl rfl
  unfold b__law_view
  exact (cs_cons (cs_par (i := 4) (j := 5) rfl sc__law_view.nd rfl rfl (by decide) rfl rfl (ca_cons (ce_call (sim__law_draw X) (hr.mono (by decide)) hg rfl X.g__law_draw X.F__law_draw.kp X.b__law_draw tk (ca_cons (ce_var 0) (ca_cons ce_int ca_nil))) (ca_cons ce_int ca_nil)) (by rfl))
  (cs_cons (cs_asg (ce_tup (ca_cons (ce_lst ca_nil) (ca_cons ce_dict0 (ca_cons ce_dict0 ca_nil)))) (cg_tup (js := [6, 7, 8]) (pg_tup rfl (pgs_cons (pg_name (i := 6) sc__law_view.nd rfl (by first | exact Or.inl rfl | exact Or.inr rfl)) (pgs_cons (pg_name (i := 7) sc__law_view.nd rfl (by first | exact Or.inl rfl | exact Or.inr rfl)) (pgs_cons (pg_name (i := 8) sc__law_view.nd rfl (by first | exact Or.inl rfl | exact Or.inr rfl)) pgs_nil))))))
  (cs_cons (cs_forX (passes_of rfl) rfl (ci_rng1 rfl X.n_range (ca_cons (ce_var 4) ca_nil)) (cg_name (n := 1) sc__law_view.nd rfl (by first | exact Or.inl rfl | exact Or.inr rfl))
  (cs_cons (cs_set (i := 5) sc__law_view.nd rfl (by first | exact Or.inl rfl | exact Or.inr rfl) (ce_op o_add (ce_op o_add (ce_var 5) ce_int) (ce_call (sim__law_draw X) (hr.mono (by decide)) hg rfl X.g__law_draw X.F__law_draw.kp X.b__law_draw tk (ca_cons (ce_var 0) (ca_cons ce_int ca_nil)))))
  (cs_one (cs_expr (ce_bm (t := .list) PySem.F.plainAttrs_list PySem.F.slot_list_append PySem.F.type_list_append m_append (ce_var 6) (ca_cons (ce_var 5) ca_nil))))))
  (cs_cons (cs_for 100000 (passes_of rfl) rfl (ci_lst (ce_var 6)) (cg_name (n := 2) sc__law_view.nd rfl (by first | exact Or.inl rfl | exact Or.inr rfl))
  (cs_cons (cs_asg (ce_lcX (own := [("_law_k", 1)]) rfl sc__law_view.nd (ci_rng1 rfl X.n_range (ca_cons (ce_call (sim__law_one X) (hr.mono (by decide)) hg rfl X.g__law_one X.F__law_one.kp X.b__law_one tk (ca_cons (ce_var 0) (ca_cons (ce_lst (ca_cons ce_int (ca_cons ce_int (ca_cons ce_int (ca_cons ce_int (ca_cons ce_int ca_nil)))))) ca_nil))) ca_nil)) (blkOk_by (by kernel_rfl)) (tg_name (List.mem_cons_self ..)) (fun _ _ _ _ _ => pg_name (i := 1) sc__law_view.nd rfl (by first | exact Or.inl rfl | exact Or.inr rfl)) (fun _ _ _ _ _ => cts_nil) (fun _ _ _ _ _ => (ce_call (sim__law_one X) (hr.mono (by decide)) hg rfl X.g__law_one X.F__law_one.kp X.b__law_one takesN (ca_cons (ce_var 0) (ca_cons (ce_var 6) ca_nil))))) (cg_sub (ce_var 7) (ce_var 2) (p_set (hu_of hr)) (pg_sub (ce_var 7) (ce_var 2) (p_set (hu_of hr)))))
  (cs_one (cs_asg (ce_cmp (o_eq hr.units) (ce_call (sim__law_draw X) (hr.mono (by decide)) hg rfl X.g__law_draw X.F__law_draw.kp X.b__law_draw tk (ca_cons (ce_var 0) (ca_cons ce_int ca_nil))) ce_int) (cg_sub (ce_var 8) (ce_var 2) (p_set (hu_of hr)) (pg_sub (ce_var 8) (ce_var 2) (p_set (hu_of hr))))))))
  (cs_cons (cs_asg (ce_tup (ca_cons (ce_lc (own := [("_law_cell", 2)]) 100000 rfl sc__law_view.nd (ci_lst (ce_var 6)) (blkOk_by (by kernel_rfl)) (tg_name (List.mem_cons_self ..)) (fun _ _ _ _ _ => pg_name (i := 2) sc__law_view.nd rfl (by first | exact Or.inl rfl | exact Or.inr rfl)) (fun _ _ _ _ _ => (cts_one (ct_val (ce_ix (o_ix (hu_of hr)) (ce_var 8) (ce_var 2))))) (fun _ _ _ _ _ => (ce_var 2))) (ca_cons ce_int ca_nil))) (cg_tup (js := [9, 5]) (pg_tup rfl (pgs_cons (pg_name (i := 9) sc__law_view.nd rfl (by first | exact Or.inl rfl | exact Or.inr rfl)) (pgs_cons (pg_name (i := 5) sc__law_view.nd rfl (by first | exact Or.inl rfl | exact Or.inr rfl)) pgs_nil)))))
  (cs_cons (cs_while 100000 (passes_of rfl) (ct_cmp o_lt (ce_var 5) (ce_callB (c_len) rfl X.n_len (by decide +kernel) (ca_cons (ce_var 9) ca_nil))) (cs_cons (cs_expr (ce_bm (t := .list) PySem.F.plainAttrs_list PySem.F.slot_list_extend PySem.F.type_list_extend m_extend (ce_var 9) (ca_cons (ce_lc (own := [("_law_cell", 2)]) 100000 rfl sc__law_view.nd (ci_lst (ce_callB (c_sortS) rfl X.n_sorted (by decide +kernel) (ca_cons (ce_callTy (c_set) rfl X.n_set (by decide +kernel) (ca_cons (ce_ix (o_ix (hu_of hr)) (ce_var 7) (ce_ix (o_ix (hu_of hr)) (ce_var 9) (ce_var 5))) ca_nil)) ca_nil))) (blkOk_by (by kernel_rfl)) (tg_name (List.mem_cons_self ..)) (fun _ _ _ _ _ => pg_name (i := 2) sc__law_view.nd rfl (by first | exact Or.inl rfl | exact Or.inr rfl)) (fun _ _ _ _ _ => (cts_one (ct_cmp (o_notIn (hu_of hr)) (ce_var 2) (ce_var 9)))) (fun _ _ _ _ _ => (ce_var 2))) ca_nil)))
  (cs_one (cs_set (i := 5) sc__law_view.nd rfl (by first | exact Or.inl rfl | exact Or.inr rfl) (ce_op o_add (ce_var 5) ce_int)))))
  (cs_cons (cs_set (i := 3) sc__law_view.nd rfl (by first | exact Or.inl rfl | exact Or.inr rfl) (ce_lst ca_nil))
  (cs_cons (cs_for 100000 (passes_of rfl) rfl (ci_lst (ce_var 6)) (cg_name (n := 2) sc__law_view.nd rfl (by first | exact Or.inl rfl | exact Or.inr rfl))
  (cs_cons (cs_set (i := 10) sc__law_view.nd rfl (by first | exact Or.inl rfl | exact Or.inr rfl) (ce_callTy (c_tuple) rfl X.n_tuple (by decide +kernel) (ca_cons (ce_lc (own := [("_law_other", 11)]) 100000 rfl sc__law_view.nd (ci_lst (ce_var 6)) (blkOk_by (by kernel_rfl)) (tg_name (List.mem_cons_self ..)) (fun _ _ _ _ _ => pg_name (i := 11) sc__law_view.nd rfl (by first | exact Or.inl rfl | exact Or.inr rfl)) (fun _ _ _ _ _ => (cts_one (ct_cmp (o_in (hu_of hr)) (ce_var 2) (ce_ix (o_ix (hu_of hr)) (ce_var 7) (ce_var 11))))) (fun _ _ _ _ _ => (ce_var 11))) ca_nil)))
  (cs_one (cs_expr (ce_bm (t := .list) PySem.F.plainAttrs_list PySem.F.slot_list_append PySem.F.type_list_append m_append (ce_var 3) (ca_cons (ce_tup (ca_cons (ce_var 2) (ca_cons (ce_ix (o_ix (hu_of hr)) (ce_var 8) (ce_var 2)) (ca_cons (ce_cmp (o_in (hu_of hr)) (ce_var 2) (ce_var 9)) (ca_cons (ce_var 10) ca_nil))))) ca_nil))))))
  (cs_one (cs_ret (ce_tup (ca_cons (ce_op o_add ce_int (ce_call (sim__law_draw X) (hr.mono (by decide)) hg rfl X.g__law_draw X.F__law_draw.kp X.b__law_draw tk (ca_cons (ce_var 0) (ca_cons ce_int ca_nil)))) (ca_cons (ce_call (sim__law_draw X) (hr.mono (by decide)) hg rfl X.g__law_draw X.F__law_draw.kp X.b__law_draw tk (ca_cons (ce_var 0) (ca_cons ce_int ca_nil))) (ca_cons (ce_callTy (c_tuple) rfl X.n_tuple (by decide +kernel) (ca_cons (ce_var 3) ca_nil)) ca_nil))))))))))))))
theorem sc__law_basic : FnScope ["_law_deck_here", "_law_kind", "_law_places", "_law_most", "_law_k"] ["_law_deck_here"] (defScope st__law_basic) := ⟨rfl, rfl, rfl, by decide +kernel, rfl, by decide +kernel, by decide +kernel⟩
theorem sim__law_basic {P : Program} {w : World} {K : PySem.W.Frag} {mg : Str → Option Value} {base : Heap} (X : TX K mg) : FnG P w K mg base 3 X.f__law_basic X.d__law_basic ["_law_deck_here"] (SpM (X.T w) 1 m__law_basic) := by
  refine fn_sim (k := 2) (N := ["_law_deck_here", "_law_kind", "_law_places", "_law_most", "_law_k"]) (T := X.T w) (b := b__law_basic) X.F__law_basic sc__law_basic rfl fun cdv A outer s H E hr hg => ?_
  have tk := L2N.takes_of (X := cxOf (L2N.CX P w) P w K mg base ["_law_deck_here", "_law_kind", "_law_places", "_law_most", "_law_k"] "_law_basic" (defScope st__law_basic) X.f__law_basic cdv A outer s H E) (E := E) rfl rfl rfl rfl
  unfold b__law_basic
  exact (cs_cons (cs_set (i := 1) sc__law_basic.nd rfl (by first | exact Or.inl rfl | exact Or.inr rfl) (ce_call (sim__law_draw X) (hr.mono (by decide)) hg rfl X.g__law_draw X.F__law_draw.kp X.b__law_draw tk (ca_cons (ce_var 0) (ca_cons ce_int ca_nil))))
  (cs_cons (cs_if (ct_cmp (o_eq hr.units) (ce_var 1) ce_int) (cs_one (cs_ret (ce_tup (ca_cons (ce_makeB X.mb_Rule rfl X.gc_Rule rfl) (ca_cons (ce_tup (ca_cons ce_str (ca_cons ce_non ca_nil))) ca_nil))))) cs_nil)
  (cs_cons (cs_if (ct_cmp o_lt (ce_var 1) ce_int) (cs_one (cs_ret (ce_tup (ca_cons (ce_makeB X.mb_AtOnce rfl X.gc_AtOnce rfl) (ca_cons (ce_tup (ca_cons ce_str (ca_cons ce_non ca_nil))) ca_nil))))) cs_nil)
  (cs_cons (cs_if (ct_cmp o_lt (ce_var 1) ce_int) (cs_one (cs_ret (ce_tup (ca_cons (ce_makeB X.mb_Counting rfl X.gc_Counting rfl) (ca_cons (ce_tup (ca_cons ce_str (ca_cons ce_non ca_nil))) ca_nil))))) cs_nil)
  (cs_cons (cs_if (ct_cmp (o_eq hr.units) (ce_var 1) ce_int) (cs_cons (cs_set (i := 3) sc__law_basic.nd rfl (by first | exact Or.inl rfl | exact Or.inr rfl) (ce_call (sim__law_one X) (hr.mono (by decide)) hg rfl X.g__law_one X.F__law_one.kp X.b__law_one tk (ca_cons (ce_var 0) (ca_cons (ce_lst (ca_cons (ce_un o_neg ce_int) (ca_cons ce_int (ca_cons ce_int (ca_cons ce_int (ca_cons ce_int (ca_cons ce_int (ca_cons (ce_op o_pow ce_int ce_int) ca_nil)))))))) ca_nil))))
  (cs_one (cs_ret (ce_tup (ca_cons (ce_make X.mk_Above (sim_AboveU_initU X) (hr.mono (by decide)) hg rfl X.gc_Above X.b_AboveU_initU tk rfl (ca_cons (ce_var 3) ca_nil)) (ca_cons (ce_tup (ca_cons ce_str (ca_cons (ce_var 3) ca_nil))) ca_nil)))))) cs_nil)
  (cs_cons (cs_set (i := 2) sc__law_basic.nd rfl (by first | exact Or.inl rfl | exact Or.inr rfl) (ce_callTy (c_tuple) rfl X.n_tuple (by decide +kernel) (ca_cons (ce_lcX (own := [("_law_k", 4)]) rfl sc__law_basic.nd (ci_rng1 rfl X.n_range (ca_cons (ce_call (sim__law_draw X) (hr.mono (by decide)) hg rfl X.g__law_draw X.F__law_draw.kp X.b__law_draw tk (ca_cons (ce_var 0) (ca_cons ce_int ca_nil))) ca_nil)) (blkOk_by (by kernel_rfl)) (tg_name (List.mem_cons_self ..)) (fun _ _ _ _ _ => pg_name (i := 4) sc__law_basic.nd rfl (by first | exact Or.inl rfl | exact Or.inr rfl)) (fun _ _ _ _ _ => cts_nil) (fun _ _ _ _ _ => (ce_call (sim__law_draw X) (hr.mono (by decide)) hg rfl X.g__law_draw X.F__law_draw.kp X.b__law_draw takesN (ca_cons (ce_var 0) (ca_cons ce_int ca_nil))))) ca_nil)))
  (cs_cons (cs_if (ct_cmp o_lt (ce_callB (c_len) rfl X.n_len (by decide +kernel) (ca_cons (ce_var 2) ca_nil)) ce_int) (cs_one (cs_ret (ce_if (ct_cmp (o_eq hr.units) (ce_var 2) (ce_tup ca_nil)) (ce_tup (ca_cons (ce_makeV0 X.mk_Places (sim_PlacesU_initU X) (hr.mono (by decide)) hg rfl X.gc_Places tk rfl) (ca_cons (ce_tup (ca_cons ce_str (ca_cons (ce_tup ca_nil) ca_nil))) ca_nil))) (ce_tup (ca_cons (ce_makeV X.mk_Places (sim_PlacesU_initU X) (hr.mono (by decide)) hg rfl X.gc_Places tk rfl (ca_cons (ce_ix (o_ix (hu_of hr)) (ce_var 2) ce_int) ca_nil)) (ca_cons (ce_tup (ca_cons ce_str (ca_cons (ce_var 2) ca_nil))) ca_nil)))))) cs_nil)
  (cs_cons (cs_if (ct_cmp (o_eq hr.units) (ce_callB (c_len) rfl X.n_len (by decide +kernel) (ca_cons (ce_var 2) ca_nil)) ce_int) (cs_one (cs_ret (ce_tup (ca_cons (ce_makeV X.mk_Places (sim_PlacesU_initU X) (hr.mono (by decide)) hg rfl X.gc_Places tk rfl (ca_cons (ce_ix (o_ix (hu_of hr)) (ce_var 2) ce_int) (ca_cons (ce_ix (o_ix (hu_of hr)) (ce_var 2) ce_int) ca_nil))) (ca_cons (ce_tup (ca_cons ce_str (ca_cons (ce_var 2) ca_nil))) ca_nil))))) cs_nil)
  (cs_cons (cs_if (ct_cmp (o_eq hr.units) (ce_callB (c_len) rfl X.n_len (by decide +kernel) (ca_cons (ce_var 2) ca_nil)) ce_int) (cs_one (cs_ret (ce_tup (ca_cons (ce_makeV X.mk_Places (sim_PlacesU_initU X) (hr.mono (by decide)) hg rfl X.gc_Places tk rfl (ca_cons (ce_ix (o_ix (hu_of hr)) (ce_var 2) ce_int) (ca_cons (ce_ix (o_ix (hu_of hr)) (ce_var 2) ce_int) (ca_cons (ce_ix (o_ix (hu_of hr)) (ce_var 2) ce_int) ca_nil)))) (ca_cons (ce_tup (ca_cons ce_str (ca_cons (ce_var 2) ca_nil))) ca_nil))))) cs_nil)
  (cs_one (cs_ret (ce_tup (ca_cons (ce_makeV X.mk_Places (sim_PlacesU_initU X) (hr.mono (by decide)) hg rfl X.gc_Places tk rfl (ca_cons (ce_ix (o_ix (hu_of hr)) (ce_var 2) ce_int) (ca_cons (ce_ix (o_ix (hu_of hr)) (ce_var 2) ce_int) (ca_cons (ce_ix (o_ix (hu_of hr)) (ce_var 2) ce_int) (ca_cons (ce_ix (o_ix (hu_of hr)) (ce_var 2) ce_int) ca_nil))))) (ca_cons (ce_tup (ca_cons ce_str (ca_cons (ce_var 2) ca_nil))) ca_nil))))))))))))))
theorem sc__law_rule : FnScope ["_law_deck_here", "_law_deep", "_law_kind", "_law_one_here", "_law_told", "_law_other", "_law_more"] ["_law_deck_here", "_law_deep"] (defScope st__law_rule) := ⟨rfl, rfl, rfl, by decide +kernel, rfl, by decide +kernel, by decide +kernel⟩
theorem sims1 {P : Program} {w : World} {K : PySem.W.Frag} {mg : Str → Option Value} {base : Heap} (X : TX K mg) : ∀ n : Nat, FnG P w K mg base (3 + 1 * n) X.f__law_rule X.d__law_rule ["_law_deck_here", "_law_deep"] (SpM (X.T w) 2 (R1 n 0))
  | 0 => fnG_fail
  | n + 1 => by
    have ih__law_rule := sims1 (P := P) (w := w) (base := base) X n
    · refine fn_sim (k := 3 + 1 * n + 0) (N := ["_law_deck_here", "_law_deep", "_law_kind", "_law_one_here", "_law_told", "_law_other", "_law_more"]) (T := X.T w) (b := b__law_rule (R1 n)) X.F__law_rule sc__law_rule rfl fun cdv A outer s H E hr hg => ?_
      have tk := L2N.takes_of (X := cxOf (L2N.CX P w) P w K mg base ["_law_deck_here", "_law_deep", "_law_kind", "_law_one_here", "_law_told", "_law_other", "_law_more"] "_law_rule" (defScope st__law_rule) X.f__law_rule cdv A outer s H E) (E := E) rfl rfl rfl rfl
      unfold b__law_rule
      exact (cs_cons (cs_if (PW.pt (cw_or (ct_cmp (o_eq hr.units) (ce_var 1) ce_int) (cw_or1 (ct_cmp (o_eq hr.units) (ce_call (sim__law_draw X) (hr.mono (by omega)) hg rfl X.g__law_draw X.F__law_draw.kp X.b__law_draw tk (ca_cons (ce_var 0) (ca_cons ce_int ca_nil))) ce_int)))) (cs_one (cs_ret (ce_call (sim__law_basic X) (hr.mono (by omega)) hg rfl X.g__law_basic X.F__law_basic.kp X.b__law_basic tk (ca_cons (ce_var 0) ca_nil)))) cs_nil)
  (cs_cons (cs_asg (ce_call ih__law_rule (hr.mono (by omega)) hg rfl X.g__law_rule X.F__law_rule.kp X.b__law_rule tk (ca_cons (ce_var 0) (ca_cons (ce_op o_sub (ce_var 1) ce_int) ca_nil))) (cg_tup (js := [3, 4]) (pg_tup rfl (pgs_cons (pg_name (i := 3) sc__law_rule.nd rfl (by first | exact Or.inl rfl | exact Or.inr rfl)) (pgs_cons (pg_name (i := 4) sc__law_rule.nd rfl (by first | exact Or.inl rfl | exact Or.inr rfl)) pgs_nil)))))
  (cs_cons (cs_asg (ce_call ih__law_rule (hr.mono (by omega)) hg rfl X.g__law_rule X.F__law_rule.kp X.b__law_rule tk (ca_cons (ce_var 0) (ca_cons (ce_op o_sub (ce_var 1) ce_int) ca_nil))) (cg_tup (js := [5, 6]) (pg_tup rfl (pgs_cons (pg_name (i := 5) sc__law_rule.nd rfl (by first | exact Or.inl rfl | exact Or.inr rfl)) (pgs_cons (pg_name (i := 6) sc__law_rule.nd rfl (by first | exact Or.inl rfl | exact Or.inr rfl)) pgs_nil)))))
  (cs_cons (cs_set (i := 2) sc__law_rule.nd rfl (by first | exact Or.inl rfl | exact Or.inr rfl) (ce_call (sim__law_draw X) (hr.mono (by omega)) hg rfl X.g__law_draw X.F__law_draw.kp X.b__law_draw tk (ca_cons (ce_var 0) (ca_cons ce_int ca_nil))))
  (cs_cons (cs_if (ct_cmp (o_eq hr.units) (ce_var 2) ce_int) (cs_one (cs_ret (ce_tup (ca_cons (ce_opO (nm := "and") rfl (mo_UandU X) rfl (hr.mono (by omega)) hg tk (ce_var 3) (ce_var 5)) (ca_cons (ce_tup (ca_cons ce_str (ca_cons (ce_tup (ca_cons (ce_var 4) (ca_cons (ce_var 6) ca_nil))) ca_nil))) ca_nil))))) cs_nil)
  (cs_cons (cs_if (ct_cmp (o_eq hr.units) (ce_var 2) ce_int) (cs_one (cs_ret (ce_tup (ca_cons (ce_opO (nm := "or") rfl (mo_UorU X) rfl (hr.mono (by omega)) hg tk (ce_var 3) (ce_var 5)) (ca_cons (ce_tup (ca_cons ce_str (ca_cons (ce_tup (ca_cons (ce_var 4) (ca_cons (ce_var 6) ca_nil))) ca_nil))) ca_nil))))) cs_nil)
  (cs_one (cs_ret (ce_tup (ca_cons (ce_opO (nm := "sub") rfl (mo_UsubU X) rfl (hr.mono (by omega)) hg tk (ce_var 3) (ce_var 5)) (ca_cons (ce_tup (ca_cons ce_str (ca_cons (ce_tup (ca_cons (ce_var 4) (ca_cons (ce_var 6) ca_nil))) ca_nil))) ca_nil)))))))))))
theorem sim__law_rule {P : Program} {w : World} {K : PySem.W.Frag} {mg : Str → Option Value} {base : Heap} (X : TX K mg) : FnG P w K mg base 15 X.f__law_rule X.d__law_rule ["_law_deck_here", "_law_deep"] (SpM (X.T w) 2 m__law_rule) := (sims1 (P := P) (w := w) (base := base) X 12)
theorem sc__law_counted : FnScope ["_law_rows", "_law_named_here", "_law_many", "_law_cell", "_law_stands", "_law_reached", "_law_holders", "_law_left", "_law_one_here"] ["_law_rows"] (defScope st__law_counted) := ⟨rfl, rfl, rfl, by decide +kernel, rfl, by decide +kernel, by decide +kernel⟩
theorem sim__law_counted {P : Program} {w : World} {K : PySem.W.Frag} {mg : Str → Option Value} {base : Heap} (X : TX K mg) : FnG P w K mg base 1 X.f__law_counted X.d__law_counted ["_law_rows"] (SpM (X.T w) 1 m__law_counted) := by
  refine fn_sim (k := 0) (N := ["_law_rows", "_law_named_here", "_law_many", "_law_cell", "_law_stands", "_law_reached", "_law_holders", "_law_left", "_law_one_here"]) (T := X.T w) (b := b__law_counted) X.F__law_counted sc__law_counted rfl fun cdv A outer s H E hr hg => ?_
  have tk := L2N.takes_of (X := cxOf (L2N.CX P w) P w K mg base ["_law_rows", "_law_named_here", "_law_many", "_law_cell", "_law_stands", "_law_reached", "_law_holders", "_law_left", "_law_one_here"] "_law_counted" (defScope st__law_counted) X.f__law_counted cdv A outer s H E) (E := E) rfl rfl rfl rfl
  unfold b__law_counted
  exact (cs_cons (cs_asg (ce_tup (ca_cons (ce_lst ca_nil) (ca_cons (ce_un o_neg ce_int) ca_nil))) (cg_tup (js := [1, 2]) (pg_tup rfl (pgs_cons (pg_name (i := 1) sc__law_counted.nd rfl (by first | exact Or.inl rfl | exact Or.inr rfl)) (pgs_cons (pg_name (i := 2) sc__law_counted.nd rfl (by first | exact Or.inl rfl | exact Or.inr rfl)) pgs_nil)))))
  (cs_cons (cs_while 100000 (passes_of rfl) (ct_cmp o_lt (ce_var 2) (ce_callB (c_len) rfl X.n_len (by decide +kernel) (ca_cons (ce_var 1) ca_nil))) (cs_cons (cs_set (i := 2) sc__law_counted.nd rfl (by first | exact Or.inl rfl | exact Or.inr rfl) (ce_callB (c_len) rfl X.n_len (by decide +kernel) (ca_cons (ce_var 1) ca_nil)))
  (cs_one (cs_forX (passes_of rfl) rfl (ci_tup (ce_var 0)) (cg_tup (js := [3, 4, 5, 6]) (pg_tup rfl (pgs_cons (pg_name (i := 3) sc__law_counted.nd rfl (by first | exact Or.inl rfl | exact Or.inr rfl)) (pgs_cons (pg_name (i := 4) sc__law_counted.nd rfl (by first | exact Or.inl rfl | exact Or.inr rfl)) (pgs_cons (pg_name (i := 5) sc__law_counted.nd rfl (by first | exact Or.inl rfl | exact Or.inr rfl)) (pgs_cons (pg_name (i := 6) sc__law_counted.nd rfl (by first | exact Or.inl rfl | exact Or.inr rfl)) pgs_nil))))))
  (cs_cons (cs_setLcX (i := 7) (own := [("_law_one_here", 8)]) rfl sc__law_counted.nd rfl rfl (sw_true rfl rfl rfl (by kernel_rfl)) (ci_tup (ce_var 6)) (blkOk_by (by kernel_rfl)) (tg_name (List.mem_cons_self ..)) (fun _ _ _ _ _ => pg_name (i := 8) sc__law_counted.nd rfl (by first | exact Or.inl rfl | exact Or.inr rfl)) (fun _ _ _ _ _ => (cts_one (ct_cmp (o_notIn (hu_of hr)) (ce_var 8) (ce_var 1)))) (fun _ _ _ _ _ => (ce_var 8)))
  (cs_one (cs_if (PW.pt (cw_and (ct_not (ct_val (ce_var 4))) (cw_and (ct_cmp (o_notIn (hu_of hr)) (ce_var 3) (ce_var 1)) (cw_and1 (ct_cmp (o_eq hr.units) (ce_var 7) (ce_lst ca_nil)))))) (cs_one (cs_expr (ce_bm (t := .list) PySem.F.plainAttrs_list PySem.F.slot_list_append PySem.F.type_list_append m_append (ce_var 1) (ca_cons (ce_var 3) ca_nil)))) cs_nil)))))))
  (cs_one (cs_ret (ce_callB (c_sortS) rfl X.n_sorted (by decide +kernel) (ca_cons (ce_var 1) ca_nil))))))
theorem sc__law_named : FnScope ["_law_told", "_law_view_here", "_law_rows", "_law_word", "_law_some", "_law_one_here", "_law_other", "_law_row", "_law_cell"] ["_law_told", "_law_view_here"] (defScope st__law_named) := ⟨rfl, rfl, rfl, by decide +kernel, rfl, by decide +kernel, by decide +kernel⟩
theorem sims2 {P : Program} {w : World} {K : PySem.W.Frag} {mg : Str → Option Value} {base : Heap} (X : TX K mg) : ∀ n : Nat, FnG P w K mg base (1 + 1 * n) X.f__law_named X.d__law_named ["_law_told", "_law_view_here"] (SpM (X.T w) 2 (R2 n 0))
  | 0 => fnG_fail
  | n + 1 => by
    have ih__law_named := sims2 (P := P) (w := w) (base := base) X n
    · refine fn_sim (k := 1 + 1 * n + 0) (N := ["_law_told", "_law_view_here", "_law_rows", "_law_word", "_law_some", "_law_one_here", "_law_other", "_law_row", "_law_cell"]) (T := X.T w) (b := b__law_named (R2 n)) X.F__law_named sc__law_named rfl fun cdv A outer s H E hr hg => ?_
      have tk := L2N.takes_of (X := cxOf (L2N.CX P w) P w K mg base ["_law_told", "_law_view_here", "_law_rows", "_law_word", "_law_some", "_law_one_here", "_law_other", "_law_row", "_law_cell"] "_law_named" (defScope st__law_named) X.f__law_named cdv A outer s H E) (E := E) rfl rfl rfl rfl
      unfold b__law_named
      exact (cs_cons (cs_asg (ce_var 0) (cg_tup (js := [3, 4]) (pg_tup rfl (pgs_cons (pg_name (i := 3) sc__law_named.nd rfl (by first | exact Or.inl rfl | exact Or.inr rfl)) (pgs_cons (pg_name (i := 4) sc__law_named.nd rfl (by first | exact Or.inl rfl | exact Or.inr rfl)) pgs_nil)))))
  (cs_cons (cs_set (i := 2) sc__law_named.nd rfl (by first | exact Or.inl rfl | exact Or.inr rfl) (ce_ix (o_ix (hu_of hr)) (ce_var 1) ce_int))
  (cs_cons (cs_if (ct_cmp (o_in (hu_of hr)) (ce_var 3) (ce_tup (ca_cons ce_str (ca_cons ce_str (ca_cons ce_str ca_nil))))) (cs_cons (cs_asg (ce_tup (ca_cons (ce_call ih__law_named (hr.mono (by omega)) hg rfl X.g__law_named X.F__law_named.kp X.b__law_named tk (ca_cons (ce_ix (o_ix (hu_of hr)) (ce_var 4) ce_int) (ca_cons (ce_var 1) ca_nil))) (ca_cons (ce_call ih__law_named (hr.mono (by omega)) hg rfl X.g__law_named X.F__law_named.kp X.b__law_named tk (ca_cons (ce_ix (o_ix (hu_of hr)) (ce_var 4) ce_int) (ca_cons (ce_var 1) ca_nil))) ca_nil))) (cg_tup (js := [5, 6]) (pg_tup rfl (pgs_cons (pg_name (i := 5) sc__law_named.nd rfl (by first | exact Or.inl rfl | exact Or.inr rfl)) (pgs_cons (pg_name (i := 6) sc__law_named.nd rfl (by first | exact Or.inl rfl | exact Or.inr rfl)) pgs_nil)))))
  (cs_cons (cs_if (ct_cmp (o_eq hr.units) (ce_var 3) ce_str) (cs_one (cs_ret (ce_callB (c_sortS) rfl X.n_sorted (by decide +kernel) (ca_cons (ce_callTy (c_set) rfl X.n_set (by decide +kernel) (ca_cons (ce_op o_add (ce_var 5) (ce_var 6)) ca_nil)) ca_nil)))) cs_nil)
  (cs_one (cs_ret (ce_lc (own := [("_law_cell", 8)]) 100000 rfl sc__law_named.nd (ci_lst (ce_var 5)) (blkOk_by (by kernel_rfl)) (tg_name (List.mem_cons_self ..)) (fun _ _ _ _ _ => pg_name (i := 8) sc__law_named.nd rfl (by first | exact Or.inl rfl | exact Or.inr rfl)) (fun _ _ _ _ _ => (cts_one (ct_cmp (o_eq hr.units) (ce_cmp (o_in (hu_of hr)) (ce_var 8) (ce_var 6)) (ce_cmp (o_eq hr.units) (ce_var 3) ce_str)))) (fun _ _ _ _ _ => (ce_var 8))))))) cs_nil)
  (cs_cons (cs_if (ct_cmp (o_eq hr.units) (ce_var 3) ce_str) (cs_one (cs_ret (ce_call (sim__law_counted X) (hr.mono (by omega)) hg rfl X.g__law_counted X.F__law_counted.kp X.b__law_counted tk (ca_cons (ce_var 2) ca_nil)))) cs_nil)
  (cs_cons (cs_if (PW.pt (cw_or (ct_cmp (o_eq hr.units) (ce_var 3) ce_str) (cw_or1 (PW.pt (cw_and (ct_cmp (o_eq hr.units) (ce_var 3) ce_str) (cw_and1 (ct_cmp (o_notIn (hu_of hr)) (ce_ix (o_ix (hu_of hr)) (ce_var 1) ce_int) (ce_var 4)))))))) (cs_one (cs_ret (ce_lst ca_nil))) cs_nil)
  (cs_cons (cs_if (PW.pt (cw_and (ct_cmp (o_eq hr.units) (ce_var 3) ce_str) (cw_and1 (ct_cmp o_le (ce_callB (c_len) rfl X.n_len (by decide +kernel) (ca_cons (ce_var 2) ca_nil)) (ce_var 4))))) (cs_one (cs_ret (ce_lst ca_nil))) cs_nil)
  (cs_one (cs_ret (ce_lcX (own := [("_law_row", 7)]) rfl sc__law_named.nd (ci_tup (ce_var 2)) (blkOk_by (by kernel_rfl)) (tg_name (List.mem_cons_self ..)) (fun _ _ _ _ _ => pg_name (i := 7) sc__law_named.nd rfl (by first | exact Or.inl rfl | exact Or.inr rfl)) (fun _ _ _ _ _ => (cts_one (ct_not (ct_val (ce_ix (o_ix (hu_of hr)) (ce_var 7) ce_int))))) (fun _ _ _ _ _ => (ce_ix (o_ix (hu_of hr)) (ce_var 7) ce_int)))))))))))
theorem sim__law_named {P : Program} {w : World} {K : PySem.W.Frag} {mg : Str → Option Value} {base : Heap} (X : TX K mg) : FnG P w K mg base 25 X.f__law_named X.d__law_named ["_law_told", "_law_view_here"] (SpM (X.T w) 2 m__law_named) := (sims2 (P := P) (w := w) (base := base) X 24)
theorem sc__law_same : FnScope ["_law_one_here", "_law_other", "_law_views", "_law_view_here"] ["_law_one_here", "_law_other", "_law_views"] (defScope st__law_same) := ⟨rfl, rfl, rfl, by decide +kernel, rfl, by decide +kernel, by decide +kernel⟩
theorem sim__law_same {P : Program} {w : World} {K : PySem.W.Frag} {mg : Str → Option Value} {base : Heap} (X : TX K mg) : FnG P w K mg base 28 X.f__law_same X.d__law_same ["_law_one_here", "_law_other", "_law_views"] (SpM (X.T w) 3 m__law_same) := by
  refine fn_sim (k := 27) (N := ["_law_one_here", "_law_other", "_law_views", "_law_view_here"]) (T := X.T w) (b := b__law_same) X.F__law_same sc__law_same rfl fun cdv A outer s H E hr hg => ?_
  have tk := L2N.takes_of (X := cxOf (L2N.CX P w) P w K mg base ["_law_one_here", "_law_other", "_law_views", "_law_view_here"] "_law_same" (defScope st__law_same) X.f__law_same cdv A outer s H E) (E := E) rfl rfl rfl rfl
  unfold b__law_same
  exact (cs_one (cs_ret (ce_callB (c_all) rfl X.n_all (by decide +kernel) (ca_cons (ce_lc (own := [("_law_view_here", 3)]) 100000 rfl sc__law_same.nd (ci_lst (ce_var 2)) (blkOk_by (by kernel_rfl)) (tg_name (List.mem_cons_self ..)) (fun _ _ _ _ _ => pg_name (i := 3) sc__law_same.nd rfl (by first | exact Or.inl rfl | exact Or.inr rfl)) (fun _ _ _ _ _ => cts_nil) (fun _ _ _ _ _ => (ce_cmp (o_eq hr.units) (ce_callB (c_repr hg hr.units) rfl X.n_repr (by decide +kernel) (ca_cons (ce_callO (mo_UcallU X) (hr.mono (by decide)) hg takesN (ce_var 0) (ca_cons (ce_var 3) ca_nil)) ca_nil)) (ce_callB (c_repr hg hr.units) rfl X.n_repr (by decide +kernel) (ca_cons (ce_callO (mo_UcallU X) (hr.mono (by decide)) hg takesN (ce_var 1) (ca_cons (ce_var 3) ca_nil)) ca_nil))))) ca_nil))))
theorem sc__law_sets_right : FnScope ["_law_one_here", "_law_other", "_law_third", "_law_views", "_law_pairs", "_law_left", "_law_right"] ["_law_one_here", "_law_other", "_law_third", "_law_views"] (defScope st__law_sets_right) := ⟨rfl, rfl, rfl, by decide +kernel, rfl, by decide +kernel, by decide +kernel⟩
theorem sim__law_sets_right {P : Program} {w : World} {K : PySem.W.Frag} {mg : Str → Option Value} {base : Heap} (X : TX K mg) : FnG P w K mg base 29 X.f__law_sets_right X.d__law_sets_right ["_law_one_here", "_law_other", "_law_third", "_law_views"] (SpM (X.T w) 4 m__law_sets_right) := by
  refine fn_sim (k := 28) (N := ["_law_one_here", "_law_other", "_law_third", "_law_views", "_law_pairs", "_law_left", "_law_right"]) (T := X.T w) (b := b__law_sets_right) X.F__law_sets_right sc__law_sets_right rfl fun cdv A outer s H E hr hg => ?_
  have tk := L2N.takes_of (X := cxOf (L2N.CX P w) P w K mg base ["_law_one_here", "_law_other", "_law_third", "_law_views", "_law_pairs", "_law_left", "_law_right"] "_law_sets_right" (defScope st__law_sets_right) X.f__law_sets_right cdv A outer s H E) (E := E) rfl rfl rfl rfl
  unfold b__law_sets_right
  exact (cs_cons (cs_set (i := 4) sc__law_sets_right.nd rfl (by first | exact Or.inl rfl | exact Or.inr rfl) (ce_lst (ca_cons (ce_tup (ca_cons (ce_opO (nm := "and") rfl (mo_UandU X) rfl (hr.mono (by decide)) hg tk (ce_var 0) (ce_var 1)) (ca_cons (ce_opO (nm := "and") rfl (mo_UandU X) rfl (hr.mono (by decide)) hg tk (ce_var 1) (ce_var 0)) ca_nil))) (ca_cons (ce_tup (ca_cons (ce_opO (nm := "or") rfl (mo_UorU X) rfl (hr.mono (by decide)) hg tk (ce_var 0) (ce_var 1)) (ca_cons (ce_opO (nm := "or") rfl (mo_UorU X) rfl (hr.mono (by decide)) hg tk (ce_var 1) (ce_var 0)) ca_nil))) (ca_cons (ce_tup (ca_cons (ce_opO (nm := "sub") rfl (mo_UsubU X) rfl (hr.mono (by decide)) hg tk (ce_var 0) (ce_var 1)) (ca_cons (ce_opO (nm := "sub") rfl (mo_UsubU X) rfl (hr.mono (by decide)) hg tk (ce_var 0) (ce_opO (nm := "and") rfl (mo_UandU X) rfl (hr.mono (by decide)) hg tk (ce_var 0) (ce_var 1))) ca_nil))) ca_nil)))))
  (cs_cons (cs_expr (ce_bm (t := .list) PySem.F.plainAttrs_list PySem.F.slot_list_append PySem.F.type_list_append m_append (ce_var 4) (ca_cons (ce_tup (ca_cons (ce_opO (nm := "and") rfl (mo_UandU X) rfl (hr.mono (by decide)) hg tk (ce_var 0) (ce_opO (nm := "or") rfl (mo_UorU X) rfl (hr.mono (by decide)) hg tk (ce_var 1) (ce_var 2))) (ca_cons (ce_opO (nm := "or") rfl (mo_UorU X) rfl (hr.mono (by decide)) hg tk (ce_opO (nm := "and") rfl (mo_UandU X) rfl (hr.mono (by decide)) hg tk (ce_var 0) (ce_var 1)) (ce_opO (nm := "and") rfl (mo_UandU X) rfl (hr.mono (by decide)) hg tk (ce_var 0) (ce_var 2))) ca_nil))) ca_nil)))
  (cs_cons (cs_expr (ce_bm (t := .list) PySem.F.plainAttrs_list PySem.F.slot_list_append PySem.F.type_list_append m_append (ce_var 4) (ca_cons (ce_tup (ca_cons (ce_opO (nm := "sub") rfl (mo_UsubU X) rfl (hr.mono (by decide)) hg tk (ce_var 0) (ce_opO (nm := "or") rfl (mo_UorU X) rfl (hr.mono (by decide)) hg tk (ce_var 1) (ce_var 2))) (ca_cons (ce_opO (nm := "sub") rfl (mo_UsubU X) rfl (hr.mono (by decide)) hg tk (ce_opO (nm := "sub") rfl (mo_UsubU X) rfl (hr.mono (by decide)) hg tk (ce_var 0) (ce_var 1)) (ce_var 2)) ca_nil))) ca_nil)))
  (cs_cons (cs_expr (ce_bm (t := .list) PySem.F.plainAttrs_list PySem.F.slot_list_extend PySem.F.type_list_extend m_extend (ce_var 4) (ca_cons (ce_lst (ca_cons (ce_tup (ca_cons (ce_opO (nm := "or") rfl (mo_UorU X) rfl (hr.mono (by decide)) hg tk (ce_var 0) (ce_opO (nm := "and") rfl (mo_UandU X) rfl (hr.mono (by decide)) hg tk (ce_var 0) (ce_var 1))) (ca_cons (ce_var 0) ca_nil))) (ca_cons (ce_tup (ca_cons (ce_opO (nm := "and") rfl (mo_UandU X) rfl (hr.mono (by decide)) hg tk (ce_var 0) (ce_var 0)) (ca_cons (ce_var 0) ca_nil))) (ca_cons (ce_tup (ca_cons (ce_opO (nm := "sub") rfl (mo_UsubU X) rfl (hr.mono (by decide)) hg tk (ce_var 0) (ce_var 0)) (ca_cons (ce_makeB X.mb_Rule rfl X.gc_Rule rfl) ca_nil))) (ca_cons (ce_tup (ca_cons (ce_opO (nm := "or") rfl (mo_UorU X) rfl (hr.mono (by decide)) hg tk (ce_var 0) (ce_makeB X.mb_Rule rfl X.gc_Rule rfl)) (ca_cons (ce_var 0) ca_nil))) ca_nil))))) ca_nil)))
  (cs_one (cs_ret (ce_callB (c_all) rfl X.n_all (by decide +kernel) (ca_cons (ce_lc (own := [("_law_left", 5), ("_law_right", 6)]) 100000 rfl sc__law_sets_right.nd (ci_lst (ce_var 4)) (blkOk_by (by kernel_rfl)) (tg_tup (js := [5, 6]) (by decide) rfl) (fun _ _ _ _ _ => pg_tup rfl (pgs_cons (pg_name (i := 5) sc__law_sets_right.nd rfl (by first | exact Or.inl rfl | exact Or.inr rfl)) (pgs_cons (pg_name (i := 6) sc__law_sets_right.nd rfl (by first | exact Or.inl rfl | exact Or.inr rfl)) pgs_nil))) (fun _ _ _ _ _ => cts_nil) (fun _ _ _ _ _ => (ce_call (sim__law_same X) (hr.mono (by decide)) hg rfl X.g__law_same X.F__law_same.kp X.b__law_same takesN (ca_cons (ce_var 5) (ca_cons (ce_var 6) (ca_cons (ce_var 3) ca_nil)))))) ca_nil))))))))
theorem sc__law_long : FnScope ["_law_deck_here", "_law_views", "_law_turn", "_law_rule_here", "_law_told", "_law_kind", "_law_other", "_law_more", "_law_view_here"] ["_law_deck_here", "_law_views"] (defScope st__law_long) := ⟨rfl, rfl, rfl, by decide +kernel, rfl, by decide +kernel, by decide +kernel⟩
theorem sim__law_long {P : Program} {w : World} {K : PySem.W.Frag} {mg : Str → Option Value} {base : Heap} (X : TX K mg) : FnG P w K mg base 28 X.f__law_long X.d__law_long ["_law_deck_here", "_law_views"] (SpM (X.T w) 2 m__law_long) := by
  refine fn_sim (k := 27) (N := ["_law_deck_here", "_law_views", "_law_turn", "_law_rule_here", "_law_told", "_law_kind", "_law_other", "_law_more", "_law_view_here"]) (T := X.T w) (b := b__law_long) X.F__law_long sc__law_long rfl fun cdv A outer s H E hr hg => ?_
  have tk := L2N.takes_of (X := cxOf (L2N.CX P w) P w K mg base ["_law_deck_here", "_law_views", "_law_turn", "_law_rule_here", "_law_told", "_law_kind", "_law_other", "_law_more", "_law_view_here"] "_law_long" (defScope st__law_long) X.f__law_long cdv A outer s H E) (E := E) rfl rfl rfl rfl
  unfold b__law_long
  exact (cs_cons (cs_asg (ce_call (sim__law_basic X) (hr.mono (by decide)) hg rfl X.g__law_basic X.F__law_basic.kp X.b__law_basic tk (ca_cons (ce_var 0) ca_nil)) (cg_tup (js := [3, 4]) (pg_tup rfl (pgs_cons (pg_name (i := 3) sc__law_long.nd rfl (by first | exact Or.inl rfl | exact Or.inr rfl)) (pgs_cons (pg_name (i := 4) sc__law_long.nd rfl (by first | exact Or.inl rfl | exact Or.inr rfl)) pgs_nil)))))
  (cs_cons (cs_forX (passes_of rfl) rfl (ci_rng1 rfl X.n_range (ca_cons ce_int ca_nil)) (cg_name (n := 2) sc__law_long.nd rfl (by first | exact Or.inl rfl | exact Or.inr rfl))
  (cs_cons (cs_asg (ce_call (sim__law_basic X) (hr.mono (by decide)) hg rfl X.g__law_basic X.F__law_basic.kp X.b__law_basic tk (ca_cons (ce_var 0) ca_nil)) (cg_tup (js := [6, 7]) (pg_tup rfl (pgs_cons (pg_name (i := 6) sc__law_long.nd rfl (by first | exact Or.inl rfl | exact Or.inr rfl)) (pgs_cons (pg_name (i := 7) sc__law_long.nd rfl (by first | exact Or.inl rfl | exact Or.inr rfl)) pgs_nil)))))
  (cs_cons (cs_set (i := 5) sc__law_long.nd rfl (by first | exact Or.inl rfl | exact Or.inr rfl) (ce_call (sim__law_draw X) (hr.mono (by decide)) hg rfl X.g__law_draw X.F__law_draw.kp X.b__law_draw tk (ca_cons (ce_var 0) (ca_cons ce_int ca_nil))))
  (cs_cons (cs_set (i := 3) sc__law_long.nd rfl (by first | exact Or.inl rfl | exact Or.inr rfl) (ce_if (ct_cmp (o_eq hr.units) (ce_var 5) ce_int) (ce_opO (nm := "and") rfl (mo_UandU X) rfl (hr.mono (by decide)) hg tk (ce_var 3) (ce_var 6)) (ce_if (ct_cmp (o_eq hr.units) (ce_var 5) ce_int) (ce_opO (nm := "or") rfl (mo_UorU X) rfl (hr.mono (by decide)) hg tk (ce_var 3) (ce_var 6)) (ce_opO (nm := "sub") rfl (mo_UsubU X) rfl (hr.mono (by decide)) hg tk (ce_var 3) (ce_var 6)))))
  (cs_one (cs_set (i := 4) sc__law_long.nd rfl (by first | exact Or.inl rfl | exact Or.inr rfl) (ce_tup (ca_cons (ce_ix (o_ix (hu_of hr)) (ce_lst (ca_cons ce_str (ca_cons ce_str (ca_cons ce_str ca_nil)))) (ce_var 5)) (ca_cons (ce_tup (ca_cons (ce_var 4) (ca_cons (ce_var 7) ca_nil))) ca_nil)))))))))
  (cs_one (cs_ret (ce_callB (c_all) rfl X.n_all (by decide +kernel) (ca_cons (ce_lc (own := [("_law_view_here", 8)]) 100000 rfl sc__law_long.nd (ci_lst (ce_var 1)) (blkOk_by (by kernel_rfl)) (tg_name (List.mem_cons_self ..)) (fun _ _ _ _ _ => pg_name (i := 8) sc__law_long.nd rfl (by first | exact Or.inl rfl | exact Or.inr rfl)) (fun _ _ _ _ _ => cts_nil) (fun _ _ _ _ _ => (ce_cmp (o_eq hr.units) (ce_callB (c_repr hg hr.units) rfl X.n_repr (by decide +kernel) (ca_cons (ce_callO (mo_UcallU X) (hr.mono (by decide)) hg takesN (ce_var 3) (ca_cons (ce_var 8) ca_nil)) ca_nil)) (ce_callB (c_repr hg hr.units) rfl X.n_repr (by decide +kernel) (ca_cons (ce_callTy (c_tuple) rfl X.n_tuple (by decide +kernel) (ca_cons (ce_call (sim__law_named X) (hr.mono (by decide)) hg rfl X.g__law_named X.F__law_named.kp X.b__law_named takesN (ca_cons (ce_var 4) (ca_cons (ce_var 8) ca_nil))) ca_nil)) ca_nil))))) ca_nil))))))
theorem sc_law : FnScope ["_law_script", "_law_deck_here", "_law_views", "_law_turn", "_law_view_here", "_law_rule_here", "_law_told", "_law_due", "_law_one_here", "_law_first", "_law_other", "_law_second", "_law_part", "_law_described", "_law_k"] ["_law_script"] (defScope st_law) := ⟨rfl, rfl, rfl, by decide +kernel, rfl, by decide +kernel, by decide +kernel⟩
theorem sim_law {P : Program} {w : World} {K : PySem.W.Frag} {mg : Str → Option Value} {base : Heap} (X : TX K mg) : FnG P w K mg base 30 X.f_law X.d_law ["_law_script"] (SpM (X.T w) 1 m_law) := by
  refine fn_sim (k := 29) (N := ["_law_script", "_law_deck_here", "_law_views", "_law_turn", "_law_view_here", "_law_rule_here", "_law_told", "_law_due", "_law_one_here", "_law_first", "_law_other", "_law_second", "_law_part", "_law_described", "_law_k"]) (T := X.T w) (b := b_law) X.F_law sc_law rfl fun cdv A outer s H E hr hg => ?_
  have tk := L2N.takes_of (X := cxOf (L2N.CX P w) P w K mg base ["_law_script", "_law_deck_here", "_law_views", "_law_turn", "_law_view_here", "_law_rule_here", "_law_told", "_law_due", "_law_one_here", "_law_first", "_law_other", "_law_second", "_law_part", "_law_described", "_law_k"] "law" (defScope st_law) X.f_law cdv A outer s H E) (E := E) rfl rfl rfl rfl
  unfold b_law
  exact (cs_cons (cs_set (i := 1) sc_law.nd rfl (by first | exact Or.inl rfl | exact Or.inr rfl) (ce_call (sim__law_deck X) (hr.mono (by decide)) hg rfl X.g__law_deck X.F__law_deck.kp X.b__law_deck tk (ca_cons (ce_var 0) ca_nil)))
  (cs_cons (cs_setLcX (i := 2) (own := [("_law_k", 14)]) rfl sc_law.nd rfl rfl (sw_true rfl rfl rfl (by kernel_rfl)) (ci_rng1 rfl X.n_range (ca_cons ce_int ca_nil)) (blkOk_by (by kernel_rfl)) (tg_name (List.mem_cons_self ..)) (fun _ _ _ _ _ => pg_name (i := 14) sc_law.nd rfl (by first | exact Or.inl rfl | exact Or.inr rfl)) (fun _ _ _ _ _ => cts_nil) (fun _ _ _ _ _ => (ce_call (sim__law_view X) (hr.mono (by decide)) hg rfl X.g__law_view X.F__law_view.kp X.b__law_view takesN (ca_cons (ce_var 1) ca_nil))))
  (cs_cons (cs_forX (passes_of rfl) rfl (ci_rng1 rfl X.n_range (ca_cons ce_int ca_nil)) (cg_name (n := 3) sc_law.nd rfl (by first | exact Or.inl rfl | exact Or.inr rfl))
  (cs_cons (cs_asg (ce_call (sim__law_rule X) (hr.mono (by decide)) hg rfl X.g__law_rule X.F__law_rule.kp X.b__law_rule tk (ca_cons (ce_var 1) (ca_cons ce_int ca_nil))) (cg_tup (js := [5, 6]) (pg_tup rfl (pgs_cons (pg_name (i := 5) sc_law.nd rfl (by first | exact Or.inl rfl | exact Or.inr rfl)) (pgs_cons (pg_name (i := 6) sc_law.nd rfl (by first | exact Or.inl rfl | exact Or.inr rfl)) pgs_nil)))))
  (cs_cons (cs_for 100000 (passes_of rfl) rfl (ci_lst (ce_var 2)) (cg_name (n := 4) sc_law.nd rfl (by first | exact Or.inl rfl | exact Or.inr rfl))
  (cs_cons (cs_set (i := 7) sc_law.nd rfl (by first | exact Or.inl rfl | exact Or.inr rfl) (ce_callB (c_repr hg hr.units) rfl X.n_repr (by decide +kernel) (ca_cons (ce_callTy (c_tuple) rfl X.n_tuple (by decide +kernel) (ca_cons (ce_call (sim__law_named X) (hr.mono (by decide)) hg rfl X.g__law_named X.F__law_named.kp X.b__law_named tk (ca_cons (ce_var 6) (ca_cons (ce_var 4) ca_nil))) ca_nil)) ca_nil)))
  (cs_one (cs_if (PW.pt (cw_or (ct_cmp (o_ne hr.units) (ce_callB (c_repr hg hr.units) rfl X.n_repr (by decide +kernel) (ca_cons (ce_callO (mo_UcallU X) (hr.mono (by decide)) hg tk (ce_var 5) (ca_cons (ce_var 4) ca_nil)) ca_nil)) (ce_var 7)) (cw_or1 (ct_cmp (o_ne hr.units) (ce_callB (c_repr hg hr.units) rfl X.n_repr (by decide +kernel) (ca_cons (ce_meth (mo_names X) (hr.mono (by decide)) hg tk (ce_var 5) (ca_cons (ce_var 4) ca_nil)) ca_nil)) (ce_var 7))))) (cs_one (cs_ret ce_bl)) cs_nil))))
  (cs_cons (cs_asg (ce_call (sim__law_rule X) (hr.mono (by decide)) hg rfl X.g__law_rule X.F__law_rule.kp X.b__law_rule tk (ca_cons (ce_var 1) (ca_cons ce_int ca_nil))) (cg_tup (js := [8, 9]) (pg_tup rfl (pgs_cons (pg_name (i := 8) sc_law.nd rfl (by first | exact Or.inl rfl | exact Or.inr rfl)) (pgs_cons (pg_name (i := 9) sc_law.nd rfl (by first | exact Or.inl rfl | exact Or.inr rfl)) pgs_nil)))))
  (cs_cons (cs_asg (ce_call (sim__law_rule X) (hr.mono (by decide)) hg rfl X.g__law_rule X.F__law_rule.kp X.b__law_rule tk (ca_cons (ce_var 1) (ca_cons ce_int ca_nil))) (cg_tup (js := [10, 11]) (pg_tup rfl (pgs_cons (pg_name (i := 10) sc_law.nd rfl (by first | exact Or.inl rfl | exact Or.inr rfl)) (pgs_cons (pg_name (i := 11) sc_law.nd rfl (by first | exact Or.inl rfl | exact Or.inr rfl)) pgs_nil)))))
  (cs_cons (cs_if (ct_not (ct_val (ce_call (sim__law_sets_right X) (hr.mono (by decide)) hg rfl X.g__law_sets_right X.F__law_sets_right.kp X.b__law_sets_right tk (ca_cons (ce_var 8) (ca_cons (ce_var 10) (ca_cons (ce_ix (o_ix (hu_of hr)) (ce_call (sim__law_rule X) (hr.mono (by decide)) hg rfl X.g__law_rule X.F__law_rule.kp X.b__law_rule tk (ca_cons (ce_var 1) (ca_cons ce_int ca_nil))) ce_int) (ca_cons (ce_var 2) ca_nil))))))) (cs_one (cs_ret ce_bl)) cs_nil)
  (cs_one (cs_forX (passes_of rfl) rfl (ci_tup (ce_tup (ca_cons (ce_tup (ca_cons (ce_var 8) (ca_cons (ce_var 9) ca_nil))) (ca_cons (ce_tup (ca_cons (ce_var 10) (ca_cons (ce_var 11) ca_nil))) ca_nil)))) (cg_tup (js := [12, 13]) (pg_tup rfl (pgs_cons (pg_name (i := 12) sc_law.nd rfl (by first | exact Or.inl rfl | exact Or.inr rfl)) (pgs_cons (pg_name (i := 13) sc_law.nd rfl (by first | exact Or.inl rfl | exact Or.inr rfl)) pgs_nil))))
  (cs_one (cs_if (ct_not (ct_val (ce_callB (c_all) rfl X.n_all (by decide +kernel) (ca_cons (ce_lc (own := [("_law_view_here", 4)]) 100000 rfl sc_law.nd (ci_lst (ce_var 2)) (blkOk_by (by kernel_rfl)) (tg_name (List.mem_cons_self ..)) (fun _ _ _ _ _ => pg_name (i := 4) sc_law.nd rfl (by first | exact Or.inl rfl | exact Or.inr rfl)) (fun _ _ _ _ _ => cts_nil) (fun _ _ _ _ _ => (ce_cmp (o_eq hr.units) (ce_callB (c_repr hg hr.units) rfl X.n_repr (by decide +kernel) (ca_cons (ce_callO (mo_UcallU X) (hr.mono (by decide)) hg takesN (ce_var 12) (ca_cons (ce_var 4) ca_nil)) ca_nil)) (ce_callB (c_repr hg hr.units) rfl X.n_repr (by decide +kernel) (ca_cons (ce_callTy (c_tuple) rfl X.n_tuple (by decide +kernel) (ca_cons (ce_call (sim__law_named X) (hr.mono (by decide)) hg rfl X.g__law_named X.F__law_named.kp X.b__law_named takesN (ca_cons (ce_var 13) (ca_cons (ce_var 4) ca_nil))) ca_nil)) ca_nil))))) ca_nil)))) (cs_one (cs_ret ce_bl)) cs_nil))))))))))
  (cs_one (cs_ret (ce_call (sim__law_long X) (hr.mono (by decide)) hg rfl X.g__law_long X.F__law_long.kp X.b__law_long tk (ca_cons (ce_var 1) (ca_cons (ce_var 2) ca_nil))))))))
end K48

namespace K48
open PySem PySem.Spec PyProof.Rows L2 Sm
theorem all_mk {l : PySem.W.OpenLaw} {w : World} {K : PySem.W.Frag} {h : Heap} {mg : Str → Option Value} {fa f_Rule_names f_all_unreached f_Above_names f_AtOnce_names f_Counting_names f_Places_names f_Both_names f_Either_names f_Without_names f_RuleU_callU f_PairU_initU f_RuleU_andU f_RuleU_orU f_RuleU_subU f_PlacesU_initU f_AboveU_initU f__law_deck f__law_draw f__law_one f__law_view f__law_basic f__law_rule f__law_counted f__law_named f__law_same f__law_sets_right f__law_long f_law C_Rule C_Pair C_Both C_Either C_Without C_AtOnce C_Counting C_Places C_Above : Addr} (X : K.In h) (G : h.Ns mainGlobals mg) (hfa : mg "law" = some (.ref fa))
    {od_Rule_names an_Rule_names od_all_unreached an_all_unreached od_Above_names an_Above_names od_AtOnce_names an_AtOnce_names od_Counting_names an_Counting_names od_Places_names an_Places_names od_Both_names an_Both_names od_Either_names an_Either_names od_Without_names an_Without_names od_RuleU_callU an_RuleU_callU od_PairU_initU an_PairU_initU od_RuleU_andU an_RuleU_andU od_RuleU_orU an_RuleU_orU od_RuleU_subU an_RuleU_subU od_PlacesU_initU an_PlacesU_initU od_AboveU_initU an_AboveU_initU od__law_deck an__law_deck od__law_draw an__law_draw od__law_one an__law_one od__law_view an__law_view od__law_basic an__law_basic od__law_rule an__law_rule od__law_counted an__law_counted od__law_named an__law_named od__law_same an__law_same od__law_sets_right an__law_sets_right od__law_long an__law_long od_law an_law : Option Addr} {sl_Rule_names sl_all_unreached sl_Above_names sl_AtOnce_names sl_Counting_names sl_Places_names sl_Both_names sl_Either_names sl_Without_names sl_RuleU_callU sl_PairU_initU sl_RuleU_andU sl_RuleU_orU sl_RuleU_subU sl_PlacesU_initU sl_AboveU_initU sl__law_deck sl__law_draw sl__law_one sl__law_view sl__law_basic sl__law_rule sl__law_counted sl__law_named sl__law_same sl__law_sets_right sl__law_long sl_law : Array (Option Value)} {oc_Rule_names kV_Rule_names dc_Rule_names pm_Rule_names cd_Rule_names ct_Rule_names oc_all_unreached kV_all_unreached dc_all_unreached pm_all_unreached cd_all_unreached ct_all_unreached oc_Above_names kV_Above_names dc_Above_names pm_Above_names cd_Above_names ct_Above_names oc_AtOnce_names kV_AtOnce_names dc_AtOnce_names pm_AtOnce_names cd_AtOnce_names ct_AtOnce_names oc_Counting_names kV_Counting_names dc_Counting_names pm_Counting_names cd_Counting_names ct_Counting_names oc_Places_names kV_Places_names dc_Places_names pm_Places_names cd_Places_names ct_Places_names oc_Both_names kV_Both_names dc_Both_names pm_Both_names cd_Both_names ct_Both_names oc_Either_names kV_Either_names dc_Either_names pm_Either_names cd_Either_names ct_Either_names oc_Without_names kV_Without_names dc_Without_names pm_Without_names cd_Without_names ct_Without_names oc_RuleU_callU kV_RuleU_callU dc_RuleU_callU pm_RuleU_callU cd_RuleU_callU ct_RuleU_callU oc_PairU_initU kV_PairU_initU dc_PairU_initU pm_PairU_initU cd_PairU_initU ct_PairU_initU oc_RuleU_andU kV_RuleU_andU dc_RuleU_andU pm_RuleU_andU cd_RuleU_andU ct_RuleU_andU oc_RuleU_orU kV_RuleU_orU dc_RuleU_orU pm_RuleU_orU cd_RuleU_orU ct_RuleU_orU oc_RuleU_subU kV_RuleU_subU dc_RuleU_subU pm_RuleU_subU cd_RuleU_subU ct_RuleU_subU oc_PlacesU_initU kV_PlacesU_initU dc_PlacesU_initU pm_PlacesU_initU cd_PlacesU_initU ct_PlacesU_initU oc_AboveU_initU kV_AboveU_initU dc_AboveU_initU pm_AboveU_initU cd_AboveU_initU ct_AboveU_initU oc__law_deck kV__law_deck dc__law_deck pm__law_deck cd__law_deck ct__law_deck oc__law_draw kV__law_draw dc__law_draw pm__law_draw cd__law_draw ct__law_draw oc__law_one kV__law_one dc__law_one pm__law_one cd__law_one ct__law_one oc__law_view kV__law_view dc__law_view pm__law_view cd__law_view ct__law_view oc__law_basic kV__law_basic dc__law_basic pm__law_basic cd__law_basic ct__law_basic oc__law_rule kV__law_rule dc__law_rule pm__law_rule cd__law_rule ct__law_rule oc__law_counted kV__law_counted dc__law_counted pm__law_counted cd__law_counted ct__law_counted oc__law_named kV__law_named dc__law_named pm__law_named cd__law_named ct__law_named oc__law_same kV__law_same dc__law_same pm__law_same cd__law_same ct__law_same oc__law_sets_right kV__law_sets_right dc__law_sets_right pm__law_sets_right cd__law_sets_right ct__law_sets_right oc__law_long kV__law_long dc__law_long pm__law_long cd__law_long ct__law_long oc_law kV_law dc_law pm_law cd_law ct_law : Value}
    (aC_Rule : PySem.W.nsIn K mainGlobals "Rule" = some (some (.ref C_Rule)))
    (aC_Pair : PySem.W.nsIn K mainGlobals "Pair" = some (some (.ref C_Pair)))
    (aC_Both : PySem.W.nsIn K mainGlobals "Both" = some (some (.ref C_Both)))
    (aC_Either : PySem.W.nsIn K mainGlobals "Either" = some (some (.ref C_Either)))
    (aC_Without : PySem.W.nsIn K mainGlobals "Without" = some (some (.ref C_Without)))
    (aC_AtOnce : PySem.W.nsIn K mainGlobals "AtOnce" = some (some (.ref C_AtOnce)))
    (aC_Counting : PySem.W.nsIn K mainGlobals "Counting" = some (some (.ref C_Counting)))
    (aC_Places : PySem.W.nsIn K mainGlobals "Places" = some (some (.ref C_Places)))
    (aC_Above : PySem.W.nsIn K mainGlobals "Above" = some (some (.ref C_Above)))
    (a_all_unreached : PySem.W.nsIn K mainGlobals "all_unreached" = some (some (.ref f_all_unreached)))
    (a__law_deck : PySem.W.nsIn K mainGlobals "_law_deck" = some (some (.ref f__law_deck)))
    (a__law_draw : PySem.W.nsIn K mainGlobals "_law_draw" = some (some (.ref f__law_draw)))
    (a__law_one : PySem.W.nsIn K mainGlobals "_law_one" = some (some (.ref f__law_one)))
    (a__law_view : PySem.W.nsIn K mainGlobals "_law_view" = some (some (.ref f__law_view)))
    (a__law_basic : PySem.W.nsIn K mainGlobals "_law_basic" = some (some (.ref f__law_basic)))
    (a__law_rule : PySem.W.nsIn K mainGlobals "_law_rule" = some (some (.ref f__law_rule)))
    (a__law_counted : PySem.W.nsIn K mainGlobals "_law_counted" = some (some (.ref f__law_counted)))
    (a__law_named : PySem.W.nsIn K mainGlobals "_law_named" = some (some (.ref f__law_named)))
    (a__law_same : PySem.W.nsIn K mainGlobals "_law_same" = some (some (.ref f__law_same)))
    (a__law_sets_right : PySem.W.nsIn K mainGlobals "_law_sets_right" = some (some (.ref f__law_sets_right)))
    (a__law_long : PySem.W.nsIn K mainGlobals "_law_long" = some (some (.ref f__law_long)))
    (a_law : PySem.W.nsIn K mainGlobals "law" = some (some (.ref f_law)))
    (ma_Rule_UandU : PySem.W.findIn K (.ref C_Rule) (PySem.dunder "and") = some (some (.ref f_RuleU_andU)))
    (ma_Rule_UcallU : PySem.W.findIn K (.ref C_Rule) "__call__" = some (some (.ref f_RuleU_callU)))
    (ma_Rule_UorU : PySem.W.findIn K (.ref C_Rule) (PySem.dunder "or") = some (some (.ref f_RuleU_orU)))
    (ma_Rule_UsubU : PySem.W.findIn K (.ref C_Rule) (PySem.dunder "sub") = some (some (.ref f_RuleU_subU)))
    (ma_Rule_names : PySem.W.findIn K (.ref C_Rule) "names" = some (some (.ref f_Rule_names)))
    (ma_Pair_UandU : PySem.W.findIn K (.ref C_Pair) (PySem.dunder "and") = some (some (.ref f_RuleU_andU)))
    (ma_Pair_UcallU : PySem.W.findIn K (.ref C_Pair) "__call__" = some (some (.ref f_RuleU_callU)))
    (ma_Pair_UorU : PySem.W.findIn K (.ref C_Pair) (PySem.dunder "or") = some (some (.ref f_RuleU_orU)))
    (ma_Pair_UsubU : PySem.W.findIn K (.ref C_Pair) (PySem.dunder "sub") = some (some (.ref f_RuleU_subU)))
    (ma_Pair_names : PySem.W.findIn K (.ref C_Pair) "names" = some (some (.ref f_Rule_names)))
    (in_Both : PySem.W.findIn K (.ref C_Both) "__init__" = some (some (.ref f_PairU_initU)))
    (ma_Both_UandU : PySem.W.findIn K (.ref C_Both) (PySem.dunder "and") = some (some (.ref f_RuleU_andU)))
    (ma_Both_UcallU : PySem.W.findIn K (.ref C_Both) "__call__" = some (some (.ref f_RuleU_callU)))
    (ma_Both_UorU : PySem.W.findIn K (.ref C_Both) (PySem.dunder "or") = some (some (.ref f_RuleU_orU)))
    (ma_Both_UsubU : PySem.W.findIn K (.ref C_Both) (PySem.dunder "sub") = some (some (.ref f_RuleU_subU)))
    (ma_Both_names : PySem.W.findIn K (.ref C_Both) "names" = some (some (.ref f_Both_names)))
    (in_Either : PySem.W.findIn K (.ref C_Either) "__init__" = some (some (.ref f_PairU_initU)))
    (ma_Either_UandU : PySem.W.findIn K (.ref C_Either) (PySem.dunder "and") = some (some (.ref f_RuleU_andU)))
    (ma_Either_UcallU : PySem.W.findIn K (.ref C_Either) "__call__" = some (some (.ref f_RuleU_callU)))
    (ma_Either_UorU : PySem.W.findIn K (.ref C_Either) (PySem.dunder "or") = some (some (.ref f_RuleU_orU)))
    (ma_Either_UsubU : PySem.W.findIn K (.ref C_Either) (PySem.dunder "sub") = some (some (.ref f_RuleU_subU)))
    (ma_Either_names : PySem.W.findIn K (.ref C_Either) "names" = some (some (.ref f_Either_names)))
    (in_Without : PySem.W.findIn K (.ref C_Without) "__init__" = some (some (.ref f_PairU_initU)))
    (ma_Without_UandU : PySem.W.findIn K (.ref C_Without) (PySem.dunder "and") = some (some (.ref f_RuleU_andU)))
    (ma_Without_UcallU : PySem.W.findIn K (.ref C_Without) "__call__" = some (some (.ref f_RuleU_callU)))
    (ma_Without_UorU : PySem.W.findIn K (.ref C_Without) (PySem.dunder "or") = some (some (.ref f_RuleU_orU)))
    (ma_Without_UsubU : PySem.W.findIn K (.ref C_Without) (PySem.dunder "sub") = some (some (.ref f_RuleU_subU)))
    (ma_Without_names : PySem.W.findIn K (.ref C_Without) "names" = some (some (.ref f_Without_names)))
    (ma_AtOnce_UandU : PySem.W.findIn K (.ref C_AtOnce) (PySem.dunder "and") = some (some (.ref f_RuleU_andU)))
    (ma_AtOnce_UcallU : PySem.W.findIn K (.ref C_AtOnce) "__call__" = some (some (.ref f_RuleU_callU)))
    (ma_AtOnce_UorU : PySem.W.findIn K (.ref C_AtOnce) (PySem.dunder "or") = some (some (.ref f_RuleU_orU)))
    (ma_AtOnce_UsubU : PySem.W.findIn K (.ref C_AtOnce) (PySem.dunder "sub") = some (some (.ref f_RuleU_subU)))
    (ma_AtOnce_names : PySem.W.findIn K (.ref C_AtOnce) "names" = some (some (.ref f_AtOnce_names)))
    (ma_Counting_UandU : PySem.W.findIn K (.ref C_Counting) (PySem.dunder "and") = some (some (.ref f_RuleU_andU)))
    (ma_Counting_UcallU : PySem.W.findIn K (.ref C_Counting) "__call__" = some (some (.ref f_RuleU_callU)))
    (ma_Counting_UorU : PySem.W.findIn K (.ref C_Counting) (PySem.dunder "or") = some (some (.ref f_RuleU_orU)))
    (ma_Counting_UsubU : PySem.W.findIn K (.ref C_Counting) (PySem.dunder "sub") = some (some (.ref f_RuleU_subU)))
    (ma_Counting_names : PySem.W.findIn K (.ref C_Counting) "names" = some (some (.ref f_Counting_names)))
    (in_Places : PySem.W.findIn K (.ref C_Places) "__init__" = some (some (.ref f_PlacesU_initU)))
    (ma_Places_UandU : PySem.W.findIn K (.ref C_Places) (PySem.dunder "and") = some (some (.ref f_RuleU_andU)))
    (ma_Places_UcallU : PySem.W.findIn K (.ref C_Places) "__call__" = some (some (.ref f_RuleU_callU)))
    (ma_Places_UorU : PySem.W.findIn K (.ref C_Places) (PySem.dunder "or") = some (some (.ref f_RuleU_orU)))
    (ma_Places_UsubU : PySem.W.findIn K (.ref C_Places) (PySem.dunder "sub") = some (some (.ref f_RuleU_subU)))
    (ma_Places_names : PySem.W.findIn K (.ref C_Places) "names" = some (some (.ref f_Places_names)))
    (in_Above : PySem.W.findIn K (.ref C_Above) "__init__" = some (some (.ref f_AboveU_initU)))
    (ma_Above_UandU : PySem.W.findIn K (.ref C_Above) (PySem.dunder "and") = some (some (.ref f_RuleU_andU)))
    (ma_Above_UcallU : PySem.W.findIn K (.ref C_Above) "__call__" = some (some (.ref f_RuleU_callU)))
    (ma_Above_UorU : PySem.W.findIn K (.ref C_Above) (PySem.dunder "or") = some (some (.ref f_RuleU_orU)))
    (ma_Above_UsubU : PySem.W.findIn K (.ref C_Above) (PySem.dunder "sub") = some (some (.ref f_RuleU_subU)))
    (ma_Above_names : PySem.W.findIn K (.ref C_Above) "names" = some (some (.ref f_Above_names)))
    (in_S_Pair : PySem.W.findIn K (.ref C_Pair) "__init__" = some (some (.ref f_PairU_initU)))
    (l_Rule_names : K.lookup f_Rule_names = some ⟨oc_Rule_names, od_Rule_names, .func (PySem.W.fnOf "names" "Rule.names" (defArgs st_Rule_names) (defBody st_Rule_names) (defScope st_Rule_names) .none kV_Rule_names dc_Rule_names pm_Rule_names an_Rule_names cd_Rule_names ct_Rule_names), sl_Rule_names⟩)
    (c_Rule_names : PySem.W.codeIn K cd_Rule_names "Rule.names" = true)
    (k_Rule_names : PySem.W.keepIn K (.ref f_Rule_names) = true)
    (l_all_unreached : K.lookup f_all_unreached = some ⟨oc_all_unreached, od_all_unreached, .func (PySem.W.fnOf "all_unreached" "all_unreached" (defArgs st_all_unreached) (defBody st_all_unreached) (defScope st_all_unreached) .none kV_all_unreached dc_all_unreached pm_all_unreached an_all_unreached cd_all_unreached ct_all_unreached), sl_all_unreached⟩)
    (c_all_unreached : PySem.W.codeIn K cd_all_unreached "all_unreached" = true)
    (k_all_unreached : PySem.W.keepIn K (.ref f_all_unreached) = true)
    (l_Above_names : K.lookup f_Above_names = some ⟨oc_Above_names, od_Above_names, .func (PySem.W.fnOf "names" "Above.names" (defArgs st_Above_names) (defBody st_Above_names) (defScope st_Above_names) .none kV_Above_names dc_Above_names pm_Above_names an_Above_names cd_Above_names ct_Above_names), sl_Above_names⟩)
    (c_Above_names : PySem.W.codeIn K cd_Above_names "Above.names" = true)
    (k_Above_names : PySem.W.keepIn K (.ref f_Above_names) = true)
    (l_AtOnce_names : K.lookup f_AtOnce_names = some ⟨oc_AtOnce_names, od_AtOnce_names, .func (PySem.W.fnOf "names" "AtOnce.names" (defArgs st_AtOnce_names) (defBody st_AtOnce_names) (defScope st_AtOnce_names) .none kV_AtOnce_names dc_AtOnce_names pm_AtOnce_names an_AtOnce_names cd_AtOnce_names ct_AtOnce_names), sl_AtOnce_names⟩)
    (c_AtOnce_names : PySem.W.codeIn K cd_AtOnce_names "AtOnce.names" = true)
    (k_AtOnce_names : PySem.W.keepIn K (.ref f_AtOnce_names) = true)
    (l_Counting_names : K.lookup f_Counting_names = some ⟨oc_Counting_names, od_Counting_names, .func (PySem.W.fnOf "names" "Counting.names" (defArgs st_Counting_names) (defBody st_Counting_names) (defScope st_Counting_names) .none kV_Counting_names dc_Counting_names pm_Counting_names an_Counting_names cd_Counting_names ct_Counting_names), sl_Counting_names⟩)
    (c_Counting_names : PySem.W.codeIn K cd_Counting_names "Counting.names" = true)
    (k_Counting_names : PySem.W.keepIn K (.ref f_Counting_names) = true)
    (l_Places_names : K.lookup f_Places_names = some ⟨oc_Places_names, od_Places_names, .func (PySem.W.fnOf "names" "Places.names" (defArgs st_Places_names) (defBody st_Places_names) (defScope st_Places_names) .none kV_Places_names dc_Places_names pm_Places_names an_Places_names cd_Places_names ct_Places_names), sl_Places_names⟩)
    (c_Places_names : PySem.W.codeIn K cd_Places_names "Places.names" = true)
    (k_Places_names : PySem.W.keepIn K (.ref f_Places_names) = true)
    (l_Both_names : K.lookup f_Both_names = some ⟨oc_Both_names, od_Both_names, .func (PySem.W.fnOf "names" "Both.names" (defArgs st_Both_names) (defBody st_Both_names) (defScope st_Both_names) .none kV_Both_names dc_Both_names pm_Both_names an_Both_names cd_Both_names ct_Both_names), sl_Both_names⟩)
    (c_Both_names : PySem.W.codeIn K cd_Both_names "Both.names" = true)
    (k_Both_names : PySem.W.keepIn K (.ref f_Both_names) = true)
    (l_Either_names : K.lookup f_Either_names = some ⟨oc_Either_names, od_Either_names, .func (PySem.W.fnOf "names" "Either.names" (defArgs st_Either_names) (defBody st_Either_names) (defScope st_Either_names) .none kV_Either_names dc_Either_names pm_Either_names an_Either_names cd_Either_names ct_Either_names), sl_Either_names⟩)
    (c_Either_names : PySem.W.codeIn K cd_Either_names "Either.names" = true)
    (k_Either_names : PySem.W.keepIn K (.ref f_Either_names) = true)
    (l_Without_names : K.lookup f_Without_names = some ⟨oc_Without_names, od_Without_names, .func (PySem.W.fnOf "names" "Without.names" (defArgs st_Without_names) (defBody st_Without_names) (defScope st_Without_names) .none kV_Without_names dc_Without_names pm_Without_names an_Without_names cd_Without_names ct_Without_names), sl_Without_names⟩)
    (c_Without_names : PySem.W.codeIn K cd_Without_names "Without.names" = true)
    (k_Without_names : PySem.W.keepIn K (.ref f_Without_names) = true)
    (l_RuleU_callU : K.lookup f_RuleU_callU = some ⟨oc_RuleU_callU, od_RuleU_callU, .func (PySem.W.fnOf "__call__" "Rule.__call__" (defArgs st_RuleU_callU) (defBody st_RuleU_callU) (defScope st_RuleU_callU) .none kV_RuleU_callU dc_RuleU_callU pm_RuleU_callU an_RuleU_callU cd_RuleU_callU ct_RuleU_callU), sl_RuleU_callU⟩)
    (c_RuleU_callU : PySem.W.codeIn K cd_RuleU_callU "Rule.__call__" = true)
    (k_RuleU_callU : PySem.W.keepIn K (.ref f_RuleU_callU) = true)
    (l_PairU_initU : K.lookup f_PairU_initU = some ⟨oc_PairU_initU, od_PairU_initU, .func (PySem.W.fnOf "__init__" "Pair.__init__" (defArgs st_PairU_initU) (defBody st_PairU_initU) (defScope st_PairU_initU) .none kV_PairU_initU dc_PairU_initU pm_PairU_initU an_PairU_initU cd_PairU_initU ct_PairU_initU), sl_PairU_initU⟩)
    (c_PairU_initU : PySem.W.codeIn K cd_PairU_initU "Pair.__init__" = true)
    (k_PairU_initU : PySem.W.keepIn K (.ref f_PairU_initU) = true)
    (l_RuleU_andU : K.lookup f_RuleU_andU = some ⟨oc_RuleU_andU, od_RuleU_andU, .func (PySem.W.fnOf "__and__" "Rule.__and__" (defArgs st_RuleU_andU) (defBody st_RuleU_andU) (defScope st_RuleU_andU) .none kV_RuleU_andU dc_RuleU_andU pm_RuleU_andU an_RuleU_andU cd_RuleU_andU ct_RuleU_andU), sl_RuleU_andU⟩)
    (c_RuleU_andU : PySem.W.codeIn K cd_RuleU_andU "Rule.__and__" = true)
    (k_RuleU_andU : PySem.W.keepIn K (.ref f_RuleU_andU) = true)
    (l_RuleU_orU : K.lookup f_RuleU_orU = some ⟨oc_RuleU_orU, od_RuleU_orU, .func (PySem.W.fnOf "__or__" "Rule.__or__" (defArgs st_RuleU_orU) (defBody st_RuleU_orU) (defScope st_RuleU_orU) .none kV_RuleU_orU dc_RuleU_orU pm_RuleU_orU an_RuleU_orU cd_RuleU_orU ct_RuleU_orU), sl_RuleU_orU⟩)
    (c_RuleU_orU : PySem.W.codeIn K cd_RuleU_orU "Rule.__or__" = true)
    (k_RuleU_orU : PySem.W.keepIn K (.ref f_RuleU_orU) = true)
    (l_RuleU_subU : K.lookup f_RuleU_subU = some ⟨oc_RuleU_subU, od_RuleU_subU, .func (PySem.W.fnOf "__sub__" "Rule.__sub__" (defArgs st_RuleU_subU) (defBody st_RuleU_subU) (defScope st_RuleU_subU) .none kV_RuleU_subU dc_RuleU_subU pm_RuleU_subU an_RuleU_subU cd_RuleU_subU ct_RuleU_subU), sl_RuleU_subU⟩)
    (c_RuleU_subU : PySem.W.codeIn K cd_RuleU_subU "Rule.__sub__" = true)
    (k_RuleU_subU : PySem.W.keepIn K (.ref f_RuleU_subU) = true)
    (l_PlacesU_initU : K.lookup f_PlacesU_initU = some ⟨oc_PlacesU_initU, od_PlacesU_initU, .func (PySem.W.fnOf "__init__" "Places.__init__" (defArgs st_PlacesU_initU) (defBody st_PlacesU_initU) (defScope st_PlacesU_initU) .none kV_PlacesU_initU dc_PlacesU_initU pm_PlacesU_initU an_PlacesU_initU cd_PlacesU_initU ct_PlacesU_initU), sl_PlacesU_initU⟩)
    (c_PlacesU_initU : PySem.W.codeIn K cd_PlacesU_initU "Places.__init__" = true)
    (k_PlacesU_initU : PySem.W.keepIn K (.ref f_PlacesU_initU) = true)
    (l_AboveU_initU : K.lookup f_AboveU_initU = some ⟨oc_AboveU_initU, od_AboveU_initU, .func (PySem.W.fnOf "__init__" "Above.__init__" (defArgs st_AboveU_initU) (defBody st_AboveU_initU) (defScope st_AboveU_initU) .none kV_AboveU_initU dc_AboveU_initU pm_AboveU_initU an_AboveU_initU cd_AboveU_initU ct_AboveU_initU), sl_AboveU_initU⟩)
    (c_AboveU_initU : PySem.W.codeIn K cd_AboveU_initU "Above.__init__" = true)
    (k_AboveU_initU : PySem.W.keepIn K (.ref f_AboveU_initU) = true)
    (l__law_deck : K.lookup f__law_deck = some ⟨oc__law_deck, od__law_deck, .func (PySem.W.fnOf "_law_deck" "_law_deck" (defArgs st__law_deck) (defBody st__law_deck) (defScope st__law_deck) .none kV__law_deck dc__law_deck pm__law_deck an__law_deck cd__law_deck ct__law_deck), sl__law_deck⟩)
    (c__law_deck : PySem.W.codeIn K cd__law_deck "_law_deck" = true)
    (k__law_deck : PySem.W.keepIn K (.ref f__law_deck) = true)
    (l__law_draw : K.lookup f__law_draw = some ⟨oc__law_draw, od__law_draw, .func (PySem.W.fnOf "_law_draw" "_law_draw" (defArgs st__law_draw) (defBody st__law_draw) (defScope st__law_draw) .none kV__law_draw dc__law_draw pm__law_draw an__law_draw cd__law_draw ct__law_draw), sl__law_draw⟩)
    (c__law_draw : PySem.W.codeIn K cd__law_draw "_law_draw" = true)
    (k__law_draw : PySem.W.keepIn K (.ref f__law_draw) = true)
    (l__law_one : K.lookup f__law_one = some ⟨oc__law_one, od__law_one, .func (PySem.W.fnOf "_law_one" "_law_one" (defArgs st__law_one) (defBody st__law_one) (defScope st__law_one) .none kV__law_one dc__law_one pm__law_one an__law_one cd__law_one ct__law_one), sl__law_one⟩)
    (c__law_one : PySem.W.codeIn K cd__law_one "_law_one" = true)
    (k__law_one : PySem.W.keepIn K (.ref f__law_one) = true)
    (l__law_view : K.lookup f__law_view = some ⟨oc__law_view, od__law_view, .func (PySem.W.fnOf "_law_view" "_law_view" (defArgs st__law_view) (defBody st__law_view) (defScope st__law_view) .none kV__law_view dc__law_view pm__law_view an__law_view cd__law_view ct__law_view), sl__law_view⟩)
    (c__law_view : PySem.W.codeIn K cd__law_view "_law_view" = true)
    (k__law_view : PySem.W.keepIn K (.ref f__law_view) = true)
    (l__law_basic : K.lookup f__law_basic = some ⟨oc__law_basic, od__law_basic, .func (PySem.W.fnOf "_law_basic" "_law_basic" (defArgs st__law_basic) (defBody st__law_basic) (defScope st__law_basic) .none kV__law_basic dc__law_basic pm__law_basic an__law_basic cd__law_basic ct__law_basic), sl__law_basic⟩)
    (c__law_basic : PySem.W.codeIn K cd__law_basic "_law_basic" = true)
    (k__law_basic : PySem.W.keepIn K (.ref f__law_basic) = true)
    (l__law_rule : K.lookup f__law_rule = some ⟨oc__law_rule, od__law_rule, .func (PySem.W.fnOf "_law_rule" "_law_rule" (defArgs st__law_rule) (defBody st__law_rule) (defScope st__law_rule) .none kV__law_rule dc__law_rule pm__law_rule an__law_rule cd__law_rule ct__law_rule), sl__law_rule⟩)
    (c__law_rule : PySem.W.codeIn K cd__law_rule "_law_rule" = true)
    (k__law_rule : PySem.W.keepIn K (.ref f__law_rule) = true)
    (l__law_counted : K.lookup f__law_counted = some ⟨oc__law_counted, od__law_counted, .func (PySem.W.fnOf "_law_counted" "_law_counted" (defArgs st__law_counted) (defBody st__law_counted) (defScope st__law_counted) .none kV__law_counted dc__law_counted pm__law_counted an__law_counted cd__law_counted ct__law_counted), sl__law_counted⟩)
    (c__law_counted : PySem.W.codeIn K cd__law_counted "_law_counted" = true)
    (k__law_counted : PySem.W.keepIn K (.ref f__law_counted) = true)
    (l__law_named : K.lookup f__law_named = some ⟨oc__law_named, od__law_named, .func (PySem.W.fnOf "_law_named" "_law_named" (defArgs st__law_named) (defBody st__law_named) (defScope st__law_named) .none kV__law_named dc__law_named pm__law_named an__law_named cd__law_named ct__law_named), sl__law_named⟩)
    (c__law_named : PySem.W.codeIn K cd__law_named "_law_named" = true)
    (k__law_named : PySem.W.keepIn K (.ref f__law_named) = true)
    (l__law_same : K.lookup f__law_same = some ⟨oc__law_same, od__law_same, .func (PySem.W.fnOf "_law_same" "_law_same" (defArgs st__law_same) (defBody st__law_same) (defScope st__law_same) .none kV__law_same dc__law_same pm__law_same an__law_same cd__law_same ct__law_same), sl__law_same⟩)
    (c__law_same : PySem.W.codeIn K cd__law_same "_law_same" = true)
    (k__law_same : PySem.W.keepIn K (.ref f__law_same) = true)
    (l__law_sets_right : K.lookup f__law_sets_right = some ⟨oc__law_sets_right, od__law_sets_right, .func (PySem.W.fnOf "_law_sets_right" "_law_sets_right" (defArgs st__law_sets_right) (defBody st__law_sets_right) (defScope st__law_sets_right) .none kV__law_sets_right dc__law_sets_right pm__law_sets_right an__law_sets_right cd__law_sets_right ct__law_sets_right), sl__law_sets_right⟩)
    (c__law_sets_right : PySem.W.codeIn K cd__law_sets_right "_law_sets_right" = true)
    (k__law_sets_right : PySem.W.keepIn K (.ref f__law_sets_right) = true)
    (l__law_long : K.lookup f__law_long = some ⟨oc__law_long, od__law_long, .func (PySem.W.fnOf "_law_long" "_law_long" (defArgs st__law_long) (defBody st__law_long) (defScope st__law_long) .none kV__law_long dc__law_long pm__law_long an__law_long cd__law_long ct__law_long), sl__law_long⟩)
    (c__law_long : PySem.W.codeIn K cd__law_long "_law_long" = true)
    (k__law_long : PySem.W.keepIn K (.ref f__law_long) = true)
    (l_law : K.lookup f_law = some ⟨oc_law, od_law, .func (PySem.W.fnOf "law" "law" (defArgs st_law) (defBody st_law) (defScope st_law) .none kV_law dc_law pm_law an_law cd_law ct_law), sl_law⟩)
    (c_law : PySem.W.codeIn K cd_law "law" = true)
    (k_law : PySem.W.keepIn K (.ref f_law) = true)
    (pg_Rule : PySem.W.plainGet K C_Rule Str.empty = true)
    (hd_Rule : PySem.W.hasDictIn K C_Rule = true)
    (po_Rule : PySem.W.plainOver K C_Rule = true)
    (sa_Rule : PySem.W.findIn K (.ref C_Rule) "__setattr__" = some (some (.builtin "object.__setattr__")))
    (mm_Rule : PySem.W.makesIn K C_Rule = true)
    (kc_Rule : PySem.W.keepIn K (.ref C_Rule) = true)
    (ib_Rule : PySem.W.findIn K (.ref C_Rule) "__init__" = some (some (.builtin "object.__init__")))
    (mo_Rule : PySem.W.mroIn K C_Rule (.type "object") = some true)
    (na_Rule_chosen : PySem.W.findIn K (.ref C_Rule) "chosen" = some none)
    (na_Rule_first_rule : PySem.W.findIn K (.ref C_Rule) "first_rule" = some none)
    (na_Rule_most : PySem.W.findIn K (.ref C_Rule) "most" = some none)
    (na_Rule_second_rule : PySem.W.findIn K (.ref C_Rule) "second_rule" = some none)
    (bp_Rule : PySem.W.bopB K C_Rule = true)
    (bt_Rule : PySem.W.typeIn K (.ref C_Rule) = some (.type "type"))
    (b3p : PySem.W.nsIn K PySem.cStatics "thirdparty.any" = some none)
    (mn_Rule_UandU : PySem.W.findIn K (.ref C_Rule) (PySem.dunderR "and") = some none)
    (mi_Rule_UandU : PySem.W.isFn K (.ref f_RuleU_andU) = true)
    (mf_Rule_UcallU : PySem.W.fnIn K f_RuleU_callU = true)
    (mi_Rule_UcallU : PySem.W.isFn K (.ref f_RuleU_callU) = true)
    (mn_Rule_UorU : PySem.W.findIn K (.ref C_Rule) (PySem.dunderR "or") = some none)
    (mi_Rule_UorU : PySem.W.isFn K (.ref f_RuleU_orU) = true)
    (mn_Rule_UsubU : PySem.W.findIn K (.ref C_Rule) (PySem.dunderR "sub") = some none)
    (mi_Rule_UsubU : PySem.W.isFn K (.ref f_RuleU_subU) = true)
    (mi_Rule_names : PySem.W.isFn K (.ref f_Rule_names) = true)
    (pg_Pair : PySem.W.plainGet K C_Pair Str.empty = true)
    (hd_Pair : PySem.W.hasDictIn K C_Pair = true)
    (po_Pair : PySem.W.plainOver K C_Pair = true)
    (sa_Pair : PySem.W.findIn K (.ref C_Pair) "__setattr__" = some (some (.builtin "object.__setattr__")))
    (na_Pair_chosen : PySem.W.findIn K (.ref C_Pair) "chosen" = some none)
    (na_Pair_first_rule : PySem.W.findIn K (.ref C_Pair) "first_rule" = some none)
    (na_Pair_most : PySem.W.findIn K (.ref C_Pair) "most" = some none)
    (na_Pair_second_rule : PySem.W.findIn K (.ref C_Pair) "second_rule" = some none)
    (bp_Pair : PySem.W.bopB K C_Pair = true)
    (bt_Pair : PySem.W.typeIn K (.ref C_Pair) = some (.type "type"))
    (mn_Pair_UandU : PySem.W.findIn K (.ref C_Pair) (PySem.dunderR "and") = some none)
    (mi_Pair_UandU : PySem.W.isFn K (.ref f_RuleU_andU) = true)
    (mf_Pair_UcallU : PySem.W.fnIn K f_RuleU_callU = true)
    (mi_Pair_UcallU : PySem.W.isFn K (.ref f_RuleU_callU) = true)
    (mn_Pair_UorU : PySem.W.findIn K (.ref C_Pair) (PySem.dunderR "or") = some none)
    (mi_Pair_UorU : PySem.W.isFn K (.ref f_RuleU_orU) = true)
    (mn_Pair_UsubU : PySem.W.findIn K (.ref C_Pair) (PySem.dunderR "sub") = some none)
    (mi_Pair_UsubU : PySem.W.isFn K (.ref f_RuleU_subU) = true)
    (mi_Pair_names : PySem.W.isFn K (.ref f_Rule_names) = true)
    (pg_Both : PySem.W.plainGet K C_Both Str.empty = true)
    (hd_Both : PySem.W.hasDictIn K C_Both = true)
    (po_Both : PySem.W.plainOver K C_Both = true)
    (sa_Both : PySem.W.findIn K (.ref C_Both) "__setattr__" = some (some (.builtin "object.__setattr__")))
    (mm_Both : PySem.W.makesIn K C_Both = true)
    (kc_Both : PySem.W.keepIn K (.ref C_Both) = true)
    (ii_Both : PySem.W.isFn K (.ref f_PairU_initU) = true)
    (na_Both_chosen : PySem.W.findIn K (.ref C_Both) "chosen" = some none)
    (na_Both_first_rule : PySem.W.findIn K (.ref C_Both) "first_rule" = some none)
    (na_Both_most : PySem.W.findIn K (.ref C_Both) "most" = some none)
    (na_Both_second_rule : PySem.W.findIn K (.ref C_Both) "second_rule" = some none)
    (bp_Both : PySem.W.bopB K C_Both = true)
    (bt_Both : PySem.W.typeIn K (.ref C_Both) = some (.type "type"))
    (mn_Both_UandU : PySem.W.findIn K (.ref C_Both) (PySem.dunderR "and") = some none)
    (mi_Both_UandU : PySem.W.isFn K (.ref f_RuleU_andU) = true)
    (mf_Both_UcallU : PySem.W.fnIn K f_RuleU_callU = true)
    (mi_Both_UcallU : PySem.W.isFn K (.ref f_RuleU_callU) = true)
    (mn_Both_UorU : PySem.W.findIn K (.ref C_Both) (PySem.dunderR "or") = some none)
    (mi_Both_UorU : PySem.W.isFn K (.ref f_RuleU_orU) = true)
    (mn_Both_UsubU : PySem.W.findIn K (.ref C_Both) (PySem.dunderR "sub") = some none)
    (mi_Both_UsubU : PySem.W.isFn K (.ref f_RuleU_subU) = true)
    (mi_Both_names : PySem.W.isFn K (.ref f_Both_names) = true)
    (pg_Either : PySem.W.plainGet K C_Either Str.empty = true)
    (hd_Either : PySem.W.hasDictIn K C_Either = true)
    (po_Either : PySem.W.plainOver K C_Either = true)
    (sa_Either : PySem.W.findIn K (.ref C_Either) "__setattr__" = some (some (.builtin "object.__setattr__")))
    (mm_Either : PySem.W.makesIn K C_Either = true)
    (kc_Either : PySem.W.keepIn K (.ref C_Either) = true)
    (ii_Either : PySem.W.isFn K (.ref f_PairU_initU) = true)
    (na_Either_chosen : PySem.W.findIn K (.ref C_Either) "chosen" = some none)
    (na_Either_first_rule : PySem.W.findIn K (.ref C_Either) "first_rule" = some none)
    (na_Either_most : PySem.W.findIn K (.ref C_Either) "most" = some none)
    (na_Either_second_rule : PySem.W.findIn K (.ref C_Either) "second_rule" = some none)
    (bp_Either : PySem.W.bopB K C_Either = true)
    (bt_Either : PySem.W.typeIn K (.ref C_Either) = some (.type "type"))
    (mn_Either_UandU : PySem.W.findIn K (.ref C_Either) (PySem.dunderR "and") = some none)
    (mi_Either_UandU : PySem.W.isFn K (.ref f_RuleU_andU) = true)
    (mf_Either_UcallU : PySem.W.fnIn K f_RuleU_callU = true)
    (mi_Either_UcallU : PySem.W.isFn K (.ref f_RuleU_callU) = true)
    (mn_Either_UorU : PySem.W.findIn K (.ref C_Either) (PySem.dunderR "or") = some none)
    (mi_Either_UorU : PySem.W.isFn K (.ref f_RuleU_orU) = true)
    (mn_Either_UsubU : PySem.W.findIn K (.ref C_Either) (PySem.dunderR "sub") = some none)
    (mi_Either_UsubU : PySem.W.isFn K (.ref f_RuleU_subU) = true)
    (mi_Either_names : PySem.W.isFn K (.ref f_Either_names) = true)
    (pg_Without : PySem.W.plainGet K C_Without Str.empty = true)
    (hd_Without : PySem.W.hasDictIn K C_Without = true)
    (po_Without : PySem.W.plainOver K C_Without = true)
    (sa_Without : PySem.W.findIn K (.ref C_Without) "__setattr__" = some (some (.builtin "object.__setattr__")))
    (mm_Without : PySem.W.makesIn K C_Without = true)
    (kc_Without : PySem.W.keepIn K (.ref C_Without) = true)
    (ii_Without : PySem.W.isFn K (.ref f_PairU_initU) = true)
    (na_Without_chosen : PySem.W.findIn K (.ref C_Without) "chosen" = some none)
    (na_Without_first_rule : PySem.W.findIn K (.ref C_Without) "first_rule" = some none)
    (na_Without_most : PySem.W.findIn K (.ref C_Without) "most" = some none)
    (na_Without_second_rule : PySem.W.findIn K (.ref C_Without) "second_rule" = some none)
    (bp_Without : PySem.W.bopB K C_Without = true)
    (bt_Without : PySem.W.typeIn K (.ref C_Without) = some (.type "type"))
    (mn_Without_UandU : PySem.W.findIn K (.ref C_Without) (PySem.dunderR "and") = some none)
    (mi_Without_UandU : PySem.W.isFn K (.ref f_RuleU_andU) = true)
    (mf_Without_UcallU : PySem.W.fnIn K f_RuleU_callU = true)
    (mi_Without_UcallU : PySem.W.isFn K (.ref f_RuleU_callU) = true)
    (mn_Without_UorU : PySem.W.findIn K (.ref C_Without) (PySem.dunderR "or") = some none)
    (mi_Without_UorU : PySem.W.isFn K (.ref f_RuleU_orU) = true)
    (mn_Without_UsubU : PySem.W.findIn K (.ref C_Without) (PySem.dunderR "sub") = some none)
    (mi_Without_UsubU : PySem.W.isFn K (.ref f_RuleU_subU) = true)
    (mi_Without_names : PySem.W.isFn K (.ref f_Without_names) = true)
    (pg_AtOnce : PySem.W.plainGet K C_AtOnce Str.empty = true)
    (hd_AtOnce : PySem.W.hasDictIn K C_AtOnce = true)
    (po_AtOnce : PySem.W.plainOver K C_AtOnce = true)
    (sa_AtOnce : PySem.W.findIn K (.ref C_AtOnce) "__setattr__" = some (some (.builtin "object.__setattr__")))
    (mm_AtOnce : PySem.W.makesIn K C_AtOnce = true)
    (kc_AtOnce : PySem.W.keepIn K (.ref C_AtOnce) = true)
    (ib_AtOnce : PySem.W.findIn K (.ref C_AtOnce) "__init__" = some (some (.builtin "object.__init__")))
    (mo_AtOnce : PySem.W.mroIn K C_AtOnce (.type "object") = some true)
    (na_AtOnce_chosen : PySem.W.findIn K (.ref C_AtOnce) "chosen" = some none)
    (na_AtOnce_first_rule : PySem.W.findIn K (.ref C_AtOnce) "first_rule" = some none)
    (na_AtOnce_most : PySem.W.findIn K (.ref C_AtOnce) "most" = some none)
    (na_AtOnce_second_rule : PySem.W.findIn K (.ref C_AtOnce) "second_rule" = some none)
    (bp_AtOnce : PySem.W.bopB K C_AtOnce = true)
    (bt_AtOnce : PySem.W.typeIn K (.ref C_AtOnce) = some (.type "type"))
    (mn_AtOnce_UandU : PySem.W.findIn K (.ref C_AtOnce) (PySem.dunderR "and") = some none)
    (mi_AtOnce_UandU : PySem.W.isFn K (.ref f_RuleU_andU) = true)
    (mf_AtOnce_UcallU : PySem.W.fnIn K f_RuleU_callU = true)
    (mi_AtOnce_UcallU : PySem.W.isFn K (.ref f_RuleU_callU) = true)
    (mn_AtOnce_UorU : PySem.W.findIn K (.ref C_AtOnce) (PySem.dunderR "or") = some none)
    (mi_AtOnce_UorU : PySem.W.isFn K (.ref f_RuleU_orU) = true)
    (mn_AtOnce_UsubU : PySem.W.findIn K (.ref C_AtOnce) (PySem.dunderR "sub") = some none)
    (mi_AtOnce_UsubU : PySem.W.isFn K (.ref f_RuleU_subU) = true)
    (mi_AtOnce_names : PySem.W.isFn K (.ref f_AtOnce_names) = true)
    (pg_Counting : PySem.W.plainGet K C_Counting Str.empty = true)
    (hd_Counting : PySem.W.hasDictIn K C_Counting = true)
    (po_Counting : PySem.W.plainOver K C_Counting = true)
    (sa_Counting : PySem.W.findIn K (.ref C_Counting) "__setattr__" = some (some (.builtin "object.__setattr__")))
    (mm_Counting : PySem.W.makesIn K C_Counting = true)
    (kc_Counting : PySem.W.keepIn K (.ref C_Counting) = true)
    (ib_Counting : PySem.W.findIn K (.ref C_Counting) "__init__" = some (some (.builtin "object.__init__")))
    (mo_Counting : PySem.W.mroIn K C_Counting (.type "object") = some true)
    (na_Counting_chosen : PySem.W.findIn K (.ref C_Counting) "chosen" = some none)
    (na_Counting_first_rule : PySem.W.findIn K (.ref C_Counting) "first_rule" = some none)
    (na_Counting_most : PySem.W.findIn K (.ref C_Counting) "most" = some none)
    (na_Counting_second_rule : PySem.W.findIn K (.ref C_Counting) "second_rule" = some none)
    (bp_Counting : PySem.W.bopB K C_Counting = true)
    (bt_Counting : PySem.W.typeIn K (.ref C_Counting) = some (.type "type"))
    (mn_Counting_UandU : PySem.W.findIn K (.ref C_Counting) (PySem.dunderR "and") = some none)
    (mi_Counting_UandU : PySem.W.isFn K (.ref f_RuleU_andU) = true)
    (mf_Counting_UcallU : PySem.W.fnIn K f_RuleU_callU = true)
    (mi_Counting_UcallU : PySem.W.isFn K (.ref f_RuleU_callU) = true)
    (mn_Counting_UorU : PySem.W.findIn K (.ref C_Counting) (PySem.dunderR "or") = some none)
    (mi_Counting_UorU : PySem.W.isFn K (.ref f_RuleU_orU) = true)
    (mn_Counting_UsubU : PySem.W.findIn K (.ref C_Counting) (PySem.dunderR "sub") = some none)
    (mi_Counting_UsubU : PySem.W.isFn K (.ref f_RuleU_subU) = true)
    (mi_Counting_names : PySem.W.isFn K (.ref f_Counting_names) = true)
    (pg_Places : PySem.W.plainGet K C_Places Str.empty = true)
    (hd_Places : PySem.W.hasDictIn K C_Places = true)
    (po_Places : PySem.W.plainOver K C_Places = true)
    (sa_Places : PySem.W.findIn K (.ref C_Places) "__setattr__" = some (some (.builtin "object.__setattr__")))
    (mm_Places : PySem.W.makesIn K C_Places = true)
    (kc_Places : PySem.W.keepIn K (.ref C_Places) = true)
    (ii_Places : PySem.W.isFn K (.ref f_PlacesU_initU) = true)
    (na_Places_chosen : PySem.W.findIn K (.ref C_Places) "chosen" = some none)
    (na_Places_first_rule : PySem.W.findIn K (.ref C_Places) "first_rule" = some none)
    (na_Places_most : PySem.W.findIn K (.ref C_Places) "most" = some none)
    (na_Places_second_rule : PySem.W.findIn K (.ref C_Places) "second_rule" = some none)
    (bp_Places : PySem.W.bopB K C_Places = true)
    (bt_Places : PySem.W.typeIn K (.ref C_Places) = some (.type "type"))
    (mn_Places_UandU : PySem.W.findIn K (.ref C_Places) (PySem.dunderR "and") = some none)
    (mi_Places_UandU : PySem.W.isFn K (.ref f_RuleU_andU) = true)
    (mf_Places_UcallU : PySem.W.fnIn K f_RuleU_callU = true)
    (mi_Places_UcallU : PySem.W.isFn K (.ref f_RuleU_callU) = true)
    (mn_Places_UorU : PySem.W.findIn K (.ref C_Places) (PySem.dunderR "or") = some none)
    (mi_Places_UorU : PySem.W.isFn K (.ref f_RuleU_orU) = true)
    (mn_Places_UsubU : PySem.W.findIn K (.ref C_Places) (PySem.dunderR "sub") = some none)
    (mi_Places_UsubU : PySem.W.isFn K (.ref f_RuleU_subU) = true)
    (mi_Places_names : PySem.W.isFn K (.ref f_Places_names) = true)
    (pg_Above : PySem.W.plainGet K C_Above Str.empty = true)
    (hd_Above : PySem.W.hasDictIn K C_Above = true)
    (po_Above : PySem.W.plainOver K C_Above = true)
    (sa_Above : PySem.W.findIn K (.ref C_Above) "__setattr__" = some (some (.builtin "object.__setattr__")))
    (mm_Above : PySem.W.makesIn K C_Above = true)
    (kc_Above : PySem.W.keepIn K (.ref C_Above) = true)
    (ii_Above : PySem.W.isFn K (.ref f_AboveU_initU) = true)
    (na_Above_chosen : PySem.W.findIn K (.ref C_Above) "chosen" = some none)
    (na_Above_first_rule : PySem.W.findIn K (.ref C_Above) "first_rule" = some none)
    (na_Above_most : PySem.W.findIn K (.ref C_Above) "most" = some none)
    (na_Above_second_rule : PySem.W.findIn K (.ref C_Above) "second_rule" = some none)
    (bp_Above : PySem.W.bopB K C_Above = true)
    (bt_Above : PySem.W.typeIn K (.ref C_Above) = some (.type "type"))
    (mn_Above_UandU : PySem.W.findIn K (.ref C_Above) (PySem.dunderR "and") = some none)
    (mi_Above_UandU : PySem.W.isFn K (.ref f_RuleU_andU) = true)
    (mf_Above_UcallU : PySem.W.fnIn K f_RuleU_callU = true)
    (mi_Above_UcallU : PySem.W.isFn K (.ref f_RuleU_callU) = true)
    (mn_Above_UorU : PySem.W.findIn K (.ref C_Above) (PySem.dunderR "or") = some none)
    (mi_Above_UorU : PySem.W.isFn K (.ref f_RuleU_orU) = true)
    (mn_Above_UsubU : PySem.W.findIn K (.ref C_Above) (PySem.dunderR "sub") = some none)
    (mi_Above_UsubU : PySem.W.isFn K (.ref f_RuleU_subU) = true)
    (mi_Above_names : PySem.W.isFn K (.ref f_Above_names) = true)
    (z_abs : PySem.W.nsIn K mainGlobals "abs" = some none)
    (z_all : PySem.W.nsIn K mainGlobals "all" = some none)
    (z_int : PySem.W.nsIn K mainGlobals "int" = some none)
    (z_len : PySem.W.nsIn K mainGlobals "len" = some none)
    (z_list : PySem.W.nsIn K mainGlobals "list" = some none)
    (z_max : PySem.W.nsIn K mainGlobals "max" = some none)
    (z_range : PySem.W.nsIn K mainGlobals "range" = some none)
    (z_repr : PySem.W.nsIn K mainGlobals "repr" = some none)
    (z_set : PySem.W.nsIn K mainGlobals "set" = some none)
    (z_sorted : PySem.W.nsIn K mainGlobals "sorted" = some none)
    (z_tuple : PySem.W.nsIn K mainGlobals "tuple" = some none) :
    ∃ (T : Tb) (fd : FuncData), T.K = K ∧ (∀ (s : Shared) (u : Value), BindsTo s fd ⟨[u], []⟩ [("_law_script", u)]) ∧ ∀ base : Heap, T.K.In base → base.Ns mainGlobals mg → FnG l.prog w T.K mg base 30 fa fd ["_law_script"] (SpM T 1 m_law) := by
  have e := hfa.symm.trans (PySem.W.mg_of X G a_law)
  cases e
  have F_Rule_names := fun_mk (st := st_Rule_names) l_Rule_names c_Rule_names k_Rule_names
  have b_Rule_names := F_Rule_names.binds (ps := ["self", "view"]) fun _ _ _ _ _ _ us hl => match us, hl with | [_, _], _ => rfl
  have F_all_unreached := fun_mk (st := st_all_unreached) l_all_unreached c_all_unreached k_all_unreached
  have b_all_unreached := F_all_unreached.binds (ps := ["view"]) fun _ _ _ _ _ _ us hl => match us, hl with | [_], _ => rfl
  have F_Above_names := fun_mk (st := st_Above_names) l_Above_names c_Above_names k_Above_names
  have b_Above_names := F_Above_names.binds (ps := ["self", "view"]) fun _ _ _ _ _ _ us hl => match us, hl with | [_, _], _ => rfl
  have F_AtOnce_names := fun_mk (st := st_AtOnce_names) l_AtOnce_names c_AtOnce_names k_AtOnce_names
  have b_AtOnce_names := F_AtOnce_names.binds (ps := ["self", "view"]) fun _ _ _ _ _ _ us hl => match us, hl with | [_, _], _ => rfl
  have F_Counting_names := fun_mk (st := st_Counting_names) l_Counting_names c_Counting_names k_Counting_names
  have b_Counting_names := F_Counting_names.binds (ps := ["self", "view"]) fun _ _ _ _ _ _ us hl => match us, hl with | [_, _], _ => rfl
  have F_Places_names := fun_mk (st := st_Places_names) l_Places_names c_Places_names k_Places_names
  have b_Places_names := F_Places_names.binds (ps := ["self", "view"]) fun _ _ _ _ _ _ us hl => match us, hl with | [_, _], _ => rfl
  have F_Both_names := fun_mk (st := st_Both_names) l_Both_names c_Both_names k_Both_names
  have b_Both_names := F_Both_names.binds (ps := ["self", "view"]) fun _ _ _ _ _ _ us hl => match us, hl with | [_, _], _ => rfl
  have F_Either_names := fun_mk (st := st_Either_names) l_Either_names c_Either_names k_Either_names
  have b_Either_names := F_Either_names.binds (ps := ["self", "view"]) fun _ _ _ _ _ _ us hl => match us, hl with | [_, _], _ => rfl
  have F_Without_names := fun_mk (st := st_Without_names) l_Without_names c_Without_names k_Without_names
  have b_Without_names := F_Without_names.binds (ps := ["self", "view"]) fun _ _ _ _ _ _ us hl => match us, hl with | [_, _], _ => rfl
  have F_RuleU_callU := fun_mk (st := st_RuleU_callU) l_RuleU_callU c_RuleU_callU k_RuleU_callU
  have b_RuleU_callU := F_RuleU_callU.binds (ps := ["self", "view"]) fun _ _ _ _ _ _ us hl => match us, hl with | [_, _], _ => rfl
  have F_PairU_initU := fun_mk (st := st_PairU_initU) l_PairU_initU c_PairU_initU k_PairU_initU
  have b_PairU_initU := F_PairU_initU.binds (ps := ["self", "first_rule", "second_rule"]) fun _ _ _ _ _ _ us hl => match us, hl with | [_, _, _], _ => rfl
  have F_RuleU_andU := fun_mk (st := st_RuleU_andU) l_RuleU_andU c_RuleU_andU k_RuleU_andU
  have b_RuleU_andU := F_RuleU_andU.binds (ps := ["self", "other"]) fun _ _ _ _ _ _ us hl => match us, hl with | [_, _], _ => rfl
  have F_RuleU_orU := fun_mk (st := st_RuleU_orU) l_RuleU_orU c_RuleU_orU k_RuleU_orU
  have b_RuleU_orU := F_RuleU_orU.binds (ps := ["self", "other"]) fun _ _ _ _ _ _ us hl => match us, hl with | [_, _], _ => rfl
  have F_RuleU_subU := fun_mk (st := st_RuleU_subU) l_RuleU_subU c_RuleU_subU k_RuleU_subU
  have b_RuleU_subU := F_RuleU_subU.binds (ps := ["self", "other"]) fun _ _ _ _ _ _ us hl => match us, hl with | [_, _], _ => rfl
  have F_PlacesU_initU := fun_mk (st := st_PlacesU_initU) l_PlacesU_initU c_PlacesU_initU k_PlacesU_initU
  have b_PlacesU_initU := Sm.Fun.bindV (ps := ["self"]) (pv := "places") F_PlacesU_initU fun _ _ _ _ _ _ us rest hl => match us, rest, hl with | [_], [], _ => rfl | [_], _ :: _, _ => rfl
  have F_AboveU_initU := fun_mk (st := st_AboveU_initU) l_AboveU_initU c_AboveU_initU k_AboveU_initU
  have b_AboveU_initU := F_AboveU_initU.binds (ps := ["self", "most"]) fun _ _ _ _ _ _ us hl => match us, hl with | [_, _], _ => rfl
  have F__law_deck := fun_mk (st := st__law_deck) l__law_deck c__law_deck k__law_deck
  have b__law_deck := F__law_deck.binds (ps := ["_law_script"]) fun _ _ _ _ _ _ us hl => match us, hl with | [_], _ => rfl
  have F__law_draw := fun_mk (st := st__law_draw) l__law_draw c__law_draw k__law_draw
  have b__law_draw := F__law_draw.binds (ps := ["_law_deck_here", "_law_many"]) fun _ _ _ _ _ _ us hl => match us, hl with | [_, _], _ => rfl
  have F__law_one := fun_mk (st := st__law_one) l__law_one c__law_one k__law_one
  have b__law_one := F__law_one.binds (ps := ["_law_deck_here", "_law_items"]) fun _ _ _ _ _ _ us hl => match us, hl with | [_, _], _ => rfl
  have F__law_view := fun_mk (st := st__law_view) l__law_view c__law_view k__law_view
  have b__law_view := F__law_view.binds (ps := ["_law_deck_here"]) fun _ _ _ _ _ _ us hl => match us, hl with | [_], _ => rfl
  have F__law_basic := fun_mk (st := st__law_basic) l__law_basic c__law_basic k__law_basic
  have b__law_basic := F__law_basic.binds (ps := ["_law_deck_here"]) fun _ _ _ _ _ _ us hl => match us, hl with | [_], _ => rfl
  have F__law_rule := fun_mk (st := st__law_rule) l__law_rule c__law_rule k__law_rule
  have b__law_rule := F__law_rule.binds (ps := ["_law_deck_here", "_law_deep"]) fun _ _ _ _ _ _ us hl => match us, hl with | [_, _], _ => rfl
  have F__law_counted := fun_mk (st := st__law_counted) l__law_counted c__law_counted k__law_counted
  have b__law_counted := F__law_counted.binds (ps := ["_law_rows"]) fun _ _ _ _ _ _ us hl => match us, hl with | [_], _ => rfl
  have F__law_named := fun_mk (st := st__law_named) l__law_named c__law_named k__law_named
  have b__law_named := F__law_named.binds (ps := ["_law_told", "_law_view_here"]) fun _ _ _ _ _ _ us hl => match us, hl with | [_, _], _ => rfl
  have F__law_same := fun_mk (st := st__law_same) l__law_same c__law_same k__law_same
  have b__law_same := F__law_same.binds (ps := ["_law_one_here", "_law_other", "_law_views"]) fun _ _ _ _ _ _ us hl => match us, hl with | [_, _, _], _ => rfl
  have F__law_sets_right := fun_mk (st := st__law_sets_right) l__law_sets_right c__law_sets_right k__law_sets_right
  have b__law_sets_right := F__law_sets_right.binds (ps := ["_law_one_here", "_law_other", "_law_third", "_law_views"]) fun _ _ _ _ _ _ us hl => match us, hl with | [_, _, _, _], _ => rfl
  have F__law_long := fun_mk (st := st__law_long) l__law_long c__law_long k__law_long
  have b__law_long := F__law_long.binds (ps := ["_law_deck_here", "_law_views"]) fun _ _ _ _ _ _ us hl => match us, hl with | [_, _], _ => rfl
  have F_law := fun_mk (st := st_law) l_law c_law k_law
  have b_law := F_law.binds (ps := ["_law_script"]) fun _ _ _ _ _ _ us hl => match us, hl with | [_], _ => rfl
  let Z : TX K mg := { C_Rule := C_Rule, C_Pair := C_Pair, C_Both := C_Both, C_Either := C_Either, C_Without := C_Without, C_AtOnce := C_AtOnce, C_Counting := C_Counting, C_Places := C_Places, C_Above := C_Above, f_Rule_names := _, d_Rule_names := _, F_Rule_names := F_Rule_names, b_Rule_names := b_Rule_names, f_all_unreached := _, d_all_unreached := _, F_all_unreached := F_all_unreached, b_all_unreached := b_all_unreached, g_all_unreached := PySem.W.mg_of X G a_all_unreached, f_Above_names := _, d_Above_names := _, F_Above_names := F_Above_names, b_Above_names := b_Above_names, f_AtOnce_names := _, d_AtOnce_names := _, F_AtOnce_names := F_AtOnce_names, b_AtOnce_names := b_AtOnce_names, f_Counting_names := _, d_Counting_names := _, F_Counting_names := F_Counting_names, b_Counting_names := b_Counting_names, f_Places_names := _, d_Places_names := _, F_Places_names := F_Places_names, b_Places_names := b_Places_names, f_Both_names := _, d_Both_names := _, F_Both_names := F_Both_names, b_Both_names := b_Both_names, f_Either_names := _, d_Either_names := _, F_Either_names := F_Either_names, b_Either_names := b_Either_names, f_Without_names := _, d_Without_names := _, F_Without_names := F_Without_names, b_Without_names := b_Without_names, f_RuleU_callU := _, d_RuleU_callU := _, F_RuleU_callU := F_RuleU_callU, b_RuleU_callU := b_RuleU_callU, f_PairU_initU := _, d_PairU_initU := _, F_PairU_initU := F_PairU_initU, b_PairU_initU := b_PairU_initU, f_RuleU_andU := _, d_RuleU_andU := _, F_RuleU_andU := F_RuleU_andU, b_RuleU_andU := b_RuleU_andU, f_RuleU_orU := _, d_RuleU_orU := _, F_RuleU_orU := F_RuleU_orU, b_RuleU_orU := b_RuleU_orU, f_RuleU_subU := _, d_RuleU_subU := _, F_RuleU_subU := F_RuleU_subU, b_RuleU_subU := b_RuleU_subU, f_PlacesU_initU := _, d_PlacesU_initU := _, F_PlacesU_initU := F_PlacesU_initU, b_PlacesU_initU := b_PlacesU_initU, f_AboveU_initU := _, d_AboveU_initU := _, F_AboveU_initU := F_AboveU_initU, b_AboveU_initU := b_AboveU_initU, f__law_deck := _, d__law_deck := _, F__law_deck := F__law_deck, b__law_deck := b__law_deck, g__law_deck := PySem.W.mg_of X G a__law_deck, f__law_draw := _, d__law_draw := _, F__law_draw := F__law_draw, b__law_draw := b__law_draw, g__law_draw := PySem.W.mg_of X G a__law_draw, f__law_one := _, d__law_one := _, F__law_one := F__law_one, b__law_one := b__law_one, g__law_one := PySem.W.mg_of X G a__law_one, f__law_view := _, d__law_view := _, F__law_view := F__law_view, b__law_view := b__law_view, g__law_view := PySem.W.mg_of X G a__law_view, f__law_basic := _, d__law_basic := _, F__law_basic := F__law_basic, b__law_basic := b__law_basic, g__law_basic := PySem.W.mg_of X G a__law_basic, f__law_rule := _, d__law_rule := _, F__law_rule := F__law_rule, b__law_rule := b__law_rule, g__law_rule := PySem.W.mg_of X G a__law_rule, f__law_counted := _, d__law_counted := _, F__law_counted := F__law_counted, b__law_counted := b__law_counted, g__law_counted := PySem.W.mg_of X G a__law_counted, f__law_named := _, d__law_named := _, F__law_named := F__law_named, b__law_named := b__law_named, g__law_named := PySem.W.mg_of X G a__law_named, f__law_same := _, d__law_same := _, F__law_same := F__law_same, b__law_same := b__law_same, g__law_same := PySem.W.mg_of X G a__law_same, f__law_sets_right := _, d__law_sets_right := _, F__law_sets_right := F__law_sets_right, b__law_sets_right := b__law_sets_right, g__law_sets_right := PySem.W.mg_of X G a__law_sets_right, f__law_long := _, d__law_long := _, F__law_long := F__law_long, b__law_long := b__law_long, g__law_long := PySem.W.mg_of X G a__law_long, f_law := _, d_law := _, F_law := F_law, b_law := b_law, g_law := PySem.W.mg_of X G a_law, cl_Rule := ⟨pg_Rule, hd_Rule, po_Rule, sa_Rule⟩, gc_Rule := PySem.W.mg_of X G aC_Rule, mb_Rule := ⟨mm_Rule, ib_Rule, mo_Rule, kc_Rule⟩, na_Rule_chosen := na_Rule_chosen, na_Rule_first_rule := na_Rule_first_rule, na_Rule_most := na_Rule_most, na_Rule_second_rule := na_Rule_second_rule, mt_Rule_UandU := PySem.W.bop_mk ma_Rule_UandU mi_Rule_UandU b3p bt_Rule mn_Rule_UandU bp_Rule (Or.inl PySem.W.type_rand) (by decide), mt_Rule_UcallU := ⟨ma_Rule_UcallU, mi_Rule_UcallU, mf_Rule_UcallU⟩, mt_Rule_UorU := PySem.W.bop_mk ma_Rule_UorU mi_Rule_UorU b3p bt_Rule mn_Rule_UorU bp_Rule (Or.inr rfl) (by decide), mt_Rule_UsubU := PySem.W.bop_mk ma_Rule_UsubU mi_Rule_UsubU b3p bt_Rule mn_Rule_UsubU bp_Rule (Or.inl PySem.W.type_rsub) (by decide), mt_Rule_names := ⟨ma_Rule_names, mi_Rule_names, k_Rule_names⟩, cl_Pair := ⟨pg_Pair, hd_Pair, po_Pair, sa_Pair⟩, na_Pair_chosen := na_Pair_chosen, na_Pair_first_rule := na_Pair_first_rule, na_Pair_most := na_Pair_most, na_Pair_second_rule := na_Pair_second_rule, mt_Pair_UandU := PySem.W.bop_mk ma_Pair_UandU mi_Pair_UandU b3p bt_Pair mn_Pair_UandU bp_Pair (Or.inl PySem.W.type_rand) (by decide), mt_Pair_UcallU := ⟨ma_Pair_UcallU, mi_Pair_UcallU, mf_Pair_UcallU⟩, mt_Pair_UorU := PySem.W.bop_mk ma_Pair_UorU mi_Pair_UorU b3p bt_Pair mn_Pair_UorU bp_Pair (Or.inr rfl) (by decide), mt_Pair_UsubU := PySem.W.bop_mk ma_Pair_UsubU mi_Pair_UsubU b3p bt_Pair mn_Pair_UsubU bp_Pair (Or.inl PySem.W.type_rsub) (by decide), mt_Pair_names := ⟨ma_Pair_names, mi_Pair_names, k_Rule_names⟩, cl_Both := ⟨pg_Both, hd_Both, po_Both, sa_Both⟩, gc_Both := PySem.W.mg_of X G aC_Both, mk_Both := ⟨mm_Both, in_Both, ii_Both, kc_Both⟩, na_Both_chosen := na_Both_chosen, na_Both_first_rule := na_Both_first_rule, na_Both_most := na_Both_most, na_Both_second_rule := na_Both_second_rule, mt_Both_UandU := PySem.W.bop_mk ma_Both_UandU mi_Both_UandU b3p bt_Both mn_Both_UandU bp_Both (Or.inl PySem.W.type_rand) (by decide), mt_Both_UcallU := ⟨ma_Both_UcallU, mi_Both_UcallU, mf_Both_UcallU⟩, mt_Both_UorU := PySem.W.bop_mk ma_Both_UorU mi_Both_UorU b3p bt_Both mn_Both_UorU bp_Both (Or.inr rfl) (by decide), mt_Both_UsubU := PySem.W.bop_mk ma_Both_UsubU mi_Both_UsubU b3p bt_Both mn_Both_UsubU bp_Both (Or.inl PySem.W.type_rsub) (by decide), mt_Both_names := ⟨ma_Both_names, mi_Both_names, k_Both_names⟩, cl_Either := ⟨pg_Either, hd_Either, po_Either, sa_Either⟩, gc_Either := PySem.W.mg_of X G aC_Either, mk_Either := ⟨mm_Either, in_Either, ii_Either, kc_Either⟩, na_Either_chosen := na_Either_chosen, na_Either_first_rule := na_Either_first_rule, na_Either_most := na_Either_most, na_Either_second_rule := na_Either_second_rule, mt_Either_UandU := PySem.W.bop_mk ma_Either_UandU mi_Either_UandU b3p bt_Either mn_Either_UandU bp_Either (Or.inl PySem.W.type_rand) (by decide), mt_Either_UcallU := ⟨ma_Either_UcallU, mi_Either_UcallU, mf_Either_UcallU⟩, mt_Either_UorU := PySem.W.bop_mk ma_Either_UorU mi_Either_UorU b3p bt_Either mn_Either_UorU bp_Either (Or.inr rfl) (by decide), mt_Either_UsubU := PySem.W.bop_mk ma_Either_UsubU mi_Either_UsubU b3p bt_Either mn_Either_UsubU bp_Either (Or.inl PySem.W.type_rsub) (by decide), mt_Either_names := ⟨ma_Either_names, mi_Either_names, k_Either_names⟩, cl_Without := ⟨pg_Without, hd_Without, po_Without, sa_Without⟩, gc_Without := PySem.W.mg_of X G aC_Without, mk_Without := ⟨mm_Without, in_Without, ii_Without, kc_Without⟩, na_Without_chosen := na_Without_chosen, na_Without_first_rule := na_Without_first_rule, na_Without_most := na_Without_most, na_Without_second_rule := na_Without_second_rule, mt_Without_UandU := PySem.W.bop_mk ma_Without_UandU mi_Without_UandU b3p bt_Without mn_Without_UandU bp_Without (Or.inl PySem.W.type_rand) (by decide), mt_Without_UcallU := ⟨ma_Without_UcallU, mi_Without_UcallU, mf_Without_UcallU⟩, mt_Without_UorU := PySem.W.bop_mk ma_Without_UorU mi_Without_UorU b3p bt_Without mn_Without_UorU bp_Without (Or.inr rfl) (by decide), mt_Without_UsubU := PySem.W.bop_mk ma_Without_UsubU mi_Without_UsubU b3p bt_Without mn_Without_UsubU bp_Without (Or.inl PySem.W.type_rsub) (by decide), mt_Without_names := ⟨ma_Without_names, mi_Without_names, k_Without_names⟩, cl_AtOnce := ⟨pg_AtOnce, hd_AtOnce, po_AtOnce, sa_AtOnce⟩, gc_AtOnce := PySem.W.mg_of X G aC_AtOnce, mb_AtOnce := ⟨mm_AtOnce, ib_AtOnce, mo_AtOnce, kc_AtOnce⟩, na_AtOnce_chosen := na_AtOnce_chosen, na_AtOnce_first_rule := na_AtOnce_first_rule, na_AtOnce_most := na_AtOnce_most, na_AtOnce_second_rule := na_AtOnce_second_rule, mt_AtOnce_UandU := PySem.W.bop_mk ma_AtOnce_UandU mi_AtOnce_UandU b3p bt_AtOnce mn_AtOnce_UandU bp_AtOnce (Or.inl PySem.W.type_rand) (by decide), mt_AtOnce_UcallU := ⟨ma_AtOnce_UcallU, mi_AtOnce_UcallU, mf_AtOnce_UcallU⟩, mt_AtOnce_UorU := PySem.W.bop_mk ma_AtOnce_UorU mi_AtOnce_UorU b3p bt_AtOnce mn_AtOnce_UorU bp_AtOnce (Or.inr rfl) (by decide), mt_AtOnce_UsubU := PySem.W.bop_mk ma_AtOnce_UsubU mi_AtOnce_UsubU b3p bt_AtOnce mn_AtOnce_UsubU bp_AtOnce (Or.inl PySem.W.type_rsub) (by decide), mt_AtOnce_names := ⟨ma_AtOnce_names, mi_AtOnce_names, k_AtOnce_names⟩, cl_Counting := ⟨pg_Counting, hd_Counting, po_Counting, sa_Counting⟩, gc_Counting := PySem.W.mg_of X G aC_Counting, mb_Counting := ⟨mm_Counting, ib_Counting, mo_Counting, kc_Counting⟩, na_Counting_chosen := na_Counting_chosen, na_Counting_first_rule := na_Counting_first_rule, na_Counting_most := na_Counting_most, na_Counting_second_rule := na_Counting_second_rule, mt_Counting_UandU := PySem.W.bop_mk ma_Counting_UandU mi_Counting_UandU b3p bt_Counting mn_Counting_UandU bp_Counting (Or.inl PySem.W.type_rand) (by decide), mt_Counting_UcallU := ⟨ma_Counting_UcallU, mi_Counting_UcallU, mf_Counting_UcallU⟩, mt_Counting_UorU := PySem.W.bop_mk ma_Counting_UorU mi_Counting_UorU b3p bt_Counting mn_Counting_UorU bp_Counting (Or.inr rfl) (by decide), mt_Counting_UsubU := PySem.W.bop_mk ma_Counting_UsubU mi_Counting_UsubU b3p bt_Counting mn_Counting_UsubU bp_Counting (Or.inl PySem.W.type_rsub) (by decide), mt_Counting_names := ⟨ma_Counting_names, mi_Counting_names, k_Counting_names⟩, cl_Places := ⟨pg_Places, hd_Places, po_Places, sa_Places⟩, gc_Places := PySem.W.mg_of X G aC_Places, mk_Places := ⟨mm_Places, in_Places, ii_Places, kc_Places⟩, na_Places_chosen := na_Places_chosen, na_Places_first_rule := na_Places_first_rule, na_Places_most := na_Places_most, na_Places_second_rule := na_Places_second_rule, mt_Places_UandU := PySem.W.bop_mk ma_Places_UandU mi_Places_UandU b3p bt_Places mn_Places_UandU bp_Places (Or.inl PySem.W.type_rand) (by decide), mt_Places_UcallU := ⟨ma_Places_UcallU, mi_Places_UcallU, mf_Places_UcallU⟩, mt_Places_UorU := PySem.W.bop_mk ma_Places_UorU mi_Places_UorU b3p bt_Places mn_Places_UorU bp_Places (Or.inr rfl) (by decide), mt_Places_UsubU := PySem.W.bop_mk ma_Places_UsubU mi_Places_UsubU b3p bt_Places mn_Places_UsubU bp_Places (Or.inl PySem.W.type_rsub) (by decide), mt_Places_names := ⟨ma_Places_names, mi_Places_names, k_Places_names⟩, cl_Above := ⟨pg_Above, hd_Above, po_Above, sa_Above⟩, gc_Above := PySem.W.mg_of X G aC_Above, mk_Above := ⟨mm_Above, in_Above, ii_Above, kc_Above⟩, na_Above_chosen := na_Above_chosen, na_Above_first_rule := na_Above_first_rule, na_Above_most := na_Above_most, na_Above_second_rule := na_Above_second_rule, mt_Above_UandU := PySem.W.bop_mk ma_Above_UandU mi_Above_UandU b3p bt_Above mn_Above_UandU bp_Above (Or.inl PySem.W.type_rand) (by decide), mt_Above_UcallU := ⟨ma_Above_UcallU, mi_Above_UcallU, mf_Above_UcallU⟩, mt_Above_UorU := PySem.W.bop_mk ma_Above_UorU mi_Above_UorU b3p bt_Above mn_Above_UorU bp_Above (Or.inr rfl) (by decide), mt_Above_UsubU := PySem.W.bop_mk ma_Above_UsubU mi_Above_UsubU b3p bt_Above mn_Above_UsubU bp_Above (Or.inl PySem.W.type_rsub) (by decide), mt_Above_names := ⟨ma_Above_names, mi_Above_names, k_Above_names⟩, n_abs := PySem.W.mg_none_of X G z_abs, n_all := PySem.W.mg_none_of X G z_all, n_int := PySem.W.mg_none_of X G z_int, n_len := PySem.W.mg_none_of X G z_len, n_list := PySem.W.mg_none_of X G z_list, n_max := PySem.W.mg_none_of X G z_max, n_range := PySem.W.mg_none_of X G z_range, n_repr := PySem.W.mg_none_of X G z_repr, n_set := PySem.W.mg_none_of X G z_set, n_sorted := PySem.W.mg_none_of X G z_sorted, n_tuple := PySem.W.mg_none_of X G z_tuple }
  exact ⟨Z.T w, Z.d_law, rfl, fun s u => .of_eq rfl, fun base _ _ => sim_law Z⟩
end K48

/-! S13: how pure programs are computed: weakest preconditions -/
namespace Sm
open PySem L2
/-- a mark that keeps simp from what it speaks of -/
inductive Tg {α : Type} (x : α) : Type where
  | a | b
/-- behind an expression: the value and the store (Q), or an exception (E) -/
def WE0 {α : Type} (m : M α) (s : Sto) (Q : α → Sto → Prop) (E : Ex → Sto → Prop) : Prop := match m s with
  | .ok a s' => Q a s'
  | .exc e s' => E e s'
  | .fail => False
structure WE {α : Type} (m : M α) (s : Sto) (Q : α → Sto → Prop) (E : Ex → Sto → Prop) (_ : Tg (Q, E) := .a) : Prop where
  h : WE0 m s Q E
theorem WE_eq {α : Type} {m : M α} {s : Sto} {Q : α → Sto → Prop} {E : Ex → Sto → Prop} : WE m s Q E = WE0 m s Q E := propext ⟨fun x => x.h, fun x => ⟨x⟩⟩
/-- behind a statement -/
structure RK where
  nx : Lo → Sto → Prop
  rt : Vl → Sto → Prop
  bk : Lo → Sto → Prop
  ct : Lo → Sto → Prop
  ex : Ex → Lo → Sto → Prop
def WS0 (b : SM) (lo : Lo) (s : Sto) (K : RK) : Prop := match b lo s with
  | .nx lo s => K.nx lo s
  | .rt v s => K.rt v s
  | .bk lo s => K.bk lo s
  | .ct lo s => K.ct lo s
  | .exc e lo s => K.ex e lo s
  | .fail => False
structure WS (b : SM) (lo : Lo) (s : Sto) (K : RK) (_ : Tg K := .a) : Prop where
  h : WS0 b lo s K
theorem WS_eq {b : SM} {lo : Lo} {s : Sto} {K : RK} : WS b lo s K = WS0 b lo s K := propext ⟨fun x => x.h, fun x => ⟨x⟩⟩
def WO0 {α : Type} (o : Option (α × Sto)) (Q : α → Sto → Prop) : Prop := match o with
  | some (a, s) => Q a s
  | none => False
structure WO {α : Type} (o : Option (α × Sto)) (Q : α → Sto → Prop) (_ : Tg Q := .a) : Prop where
  h : WO0 o Q
theorem WO_eq {α : Type} {o : Option (α × Sto)} {Q : α → Sto → Prop} : WO o Q = WO0 o Q := propext ⟨fun x => x.h, fun x => ⟨x⟩⟩
theorem WE_ext {α : Type} {m : M α} {s : Sto} {Q Q' : α → Sto → Prop} {E : Ex → Sto → Prop} (h : ∀ a s, Q a s = Q' a s) : WE m s Q E = WE m s Q' E := by
  have : Q = Q' := funext fun a => funext fun s => h a s
  subst this
  rfl
abbrev NoX : Ex → Sto → Prop := fun _ _ => False
theorem WE.mono {α : Type} {m : M α} {s : Sto} {Q Q' : α → Sto → Prop} {E E' : Ex → Sto → Prop} (h : WE m s Q E) (k : ∀ a s', Q a s' → Q' a s') (kx : ∀ e s', E e s' → E' e s') : WE m s Q' E' := by
  simp only [WE_eq] at h ⊢
  unfold WE0 at h ⊢
  cases e : m s with
  | ok a s' => rw [e] at h; exact k a s' h
  | exc x s' => rw [e] at h; exact kx x s' h
  | fail => rw [e] at h; exact h
/-- what is known of a call, used -/
theorem WE.use {α : Type} {m : M α} {s : Sto} {Q Q' : α → Sto → Prop} {E' : Ex → Sto → Prop} (h : WE m s Q NoX) (k : ∀ a s', Q a s' → Q' a s') : WE m s Q' E' := h.mono k fun _ _ z => z.elim
theorem WE.ok {α : Type} {m : M α} {s s' : Sto} {a : α} {Q : α → Sto → Prop} {E : Ex → Sto → Prop} (h : m s = .ok a s') (k : Q a s') : WE m s Q E := by
  simp only [WE_eq]
  unfold WE0; rw [h]; exact k
theorem WE.get {α : Type} {m : M α} {s : Sto} {Q : α → Sto → Prop} (h : WE m s Q NoX) : ∃ a s', m s = .ok a s' ∧ Q a s' := by
  simp only [WE_eq] at h
  unfold WE0 at h
  cases e : m s with
  | ok a s' => rw [e] at h; exact ⟨a, s', rfl, h⟩
  | exc x s' => rw [e] at h; exact h.elim
  | fail => rw [e] at h; exact h.elim
theorem WS.mono {b : SM} {lo : Lo} {s : Sto} {K K' : RK} (h : WS b lo s K) (k1 : ∀ lo s, K.nx lo s → K'.nx lo s) (k2 : ∀ v s, K.rt v s → K'.rt v s) (k3 : ∀ lo s, K.bk lo s → K'.bk lo s) (k4 : ∀ lo s, K.ct lo s → K'.ct lo s) (k5 : ∀ e lo s, K.ex e lo s → K'.ex e lo s) : WS b lo s K' := by
  simp only [WS_eq] at h ⊢
  unfold WS0 at h ⊢
  cases e : b lo s with
  | nx lo s => rw [e] at h; exact k1 lo s h
  | rt v s => rw [e] at h; exact k2 v s h
  | bk lo s => rw [e] at h; exact k3 lo s h
  | ct lo s => rw [e] at h; exact k4 lo s h
  | exc x lo s => rw [e] at h; exact k5 x lo s h
  | fail => rw [e] at h; exact h
section
variable {α β : Type} {m : M α} {s : Sto} {lo : Lo} {Q : α → Sto → Prop} {QV : Vl → Sto → Prop} {QB : Bool → Sto → Prop} {QA : List Vl → Sto → Prop} {Q' : β → Sto → Prop} {E : Ex → Sto → Prop} {K : RK}
@[simp ↓] theorem WO_some {a : α} : WO (some (a, s)) Q = Q a s := by simp only [WO_eq]; rfl
@[simp ↓] theorem WO_none : WO (none : Option (α × Sto)) Q = False := by simp only [WO_eq]; rfl
@[simp ↓] theorem WE_bnd {f : α → M β} : WE (bnd m f) s Q' E = WE m s (fun a s => WE (f a) s Q' E) E := by
  simp only [WE_eq]
  unfold WE0 bnd
  cases m s <;> rfl
@[simp ↓] theorem WE_ret {a : α} : WE (ret a) s Q E = Q a s := by simp only [WE_eq]; rfl
@[simp ↓] theorem WE_fail : WE (failM : M α) s Q E = False := by simp only [WE_eq]; rfl
@[simp ↓] theorem WE_lift {f : Sto → Option (α × Sto)} : WE (lift f) s Q E = WO (f s) Q := by
  simp only [WE_eq, WO_eq]
  unfold WE0 lift WO0
  cases f s with
  | none => rfl
  | some p => obtain ⟨a, s'⟩ := p; rfl
@[simp ↓] theorem WE_eVar' {i : Nat} : WE (eVar i lo) s QV E = (match lo[i]? with | some (some v) => QV v s | _ => False) := by
  simp only [WE_eq]
  unfold WE0 eVar
  cases lo[i]? with
  | none => rfl
  | some o => cases o <;> rfl
@[simp ↓] theorem WE_eC {v : Vl} : WE (eC v lo) s QV E = QV v s := by simp only [WE_eq]; rfl
@[simp ↓] theorem WE_eOp1 {f : O1} {a : EM} : WE (eOp1 f a lo) s QV E = WE (a lo) s (fun x s => WO (f x s) QV) E := by
  unfold eOp1
  rw [WE_bnd]
  exact WE_ext fun x s => WE_lift
@[simp ↓] theorem WE_eOp {f : O2} {a b : EM} : WE (eOp f a b lo) s QV E = WE (a lo) s (fun x s => WE (b lo) s (fun y s => WO (f x y s) QV) E) E := by
  unfold eOp
  rw [WE_bnd]
  refine WE_ext fun x s => ?_
  rw [WE_bnd]
  exact WE_ext fun y s => WE_lift
@[simp ↓] theorem WE_aNil : WE (aNil lo) s QA E = QA [] s := by simp only [WE_eq]; rfl
@[simp ↓] theorem WE_aCons {a : EM} {r : AM} : WE (aCons a r lo) s QA E = WE (a lo) s (fun x s => WE (r lo) s (fun xs s => QA (x :: xs) s) E) E := by
  unfold aCons
  rw [WE_bnd]
  refine WE_ext fun x s => ?_
  rw [WE_bnd]
  exact WE_ext fun xs s => WE_ret
@[simp ↓] theorem WE_eCB {f : OC} {a : AM} : WE (eCB f a lo) s QV E = WE (a lo) s (fun xs s => WO (f xs s) QV) E := by
  unfold eCB
  rw [WE_bnd]
  exact WE_ext fun x s => WE_lift
@[simp ↓] theorem WE_eCall {mf : List Vl → M Vl} {a : AM} : WE (eCall mf a lo) s QV E = WE (a lo) s (fun as s => WE (mf as) s QV E) E := by unfold eCall; rw [WE_bnd]
@[simp ↓] theorem WE_arg {n : Nat} {mf : List Vl → M Vl} {as : List Vl} : WE (arg n mf as) s QV E = (if as.length = n then WE (mf as) s QV E else False) := by
  by_cases h : as.length = n <;> simp [WE_eq, WE0, arg, h]
@[simp ↓] theorem WE_argI {n : Nat} {mf : List Vl → M Vl} {as : List Vl} : WE (argI n mf as) s QV E = (if as.length = n + 1 then WE (mf as) s QV E else False) := by
  by_cases h : as.length = n + 1 <;> simp [WE_eq, WE0, argI, h]
@[simp ↓] theorem WE_tVal {a : EM} : WE (tVal a lo) s QB E = WE (a lo) s (fun x s => match x with | .bl b => QB b s | _ => False) E := by
  unfold tVal
  rw [WE_bnd]
  refine WE_ext fun x s => ?_
  cases x <;> (simp only [WE_eq]; rfl)
@[simp ↓] theorem WE_tAndM {a b : TM} : WE (tAndM a b lo) s QB E = WE (a lo) s (fun x s => if x = true then WE (b lo) s QB E else QB false s) E := by
  unfold tAndM
  rw [WE_bnd]
  refine WE_ext fun x s => ?_
  cases x <;> simp
@[simp ↓] theorem WE_tOrM {a b : TM} : WE (tOrM a b lo) s QB E = WE (a lo) s (fun x s => if x = true then QB true s else WE (b lo) s QB E) E := by
  unfold tOrM
  rw [WE_bnd]
  refine WE_ext fun x s => ?_
  cases x <;> simp
@[simp ↓] theorem WE_tNotM {a : TM} : WE (tNotM a lo) s QB E = WE (a lo) s (fun x s => QB (!x) s) E := by unfold tNotM; rw [WE_bnd]; exact WE_ext fun x s => WE_ret
@[simp ↓] theorem WE_eAndM {a b : EM} : WE (eAndM a b lo) s QV E = WE (a lo) s (fun x s => match x with | .bl true => WE (b lo) s QV E | .bl false => QV (.bl false) s | _ => False) E := by
  unfold eAndM
  rw [WE_bnd]
  refine WE_ext fun x s => ?_
  cases x <;> try (simp only [WE_eq]; rfl)
  rename_i k
  cases k <;> simp only [WE_eq] <;> rfl
@[simp ↓] theorem WE_eOrM {a b : EM} : WE (eOrM a b lo) s QV E = WE (a lo) s (fun x s => match x with | .bl false => WE (b lo) s QV E | .bl true => QV (.bl true) s | _ => False) E := by
  unfold eOrM
  rw [WE_bnd]
  refine WE_ext fun x s => ?_
  cases x <;> try (simp only [WE_eq]; rfl)
  rename_i k
  cases k <;> simp only [WE_eq] <;> rfl
@[simp ↓] theorem WE_eNotM {a : EM} : WE (eNotM a lo) s QV E = WE (a lo) s (fun x s => match x with | .bl b => QV (.bl (!b)) s | _ => False) E := by
  unfold eNotM
  rw [WE_bnd]
  refine WE_ext fun x s => ?_
  cases x <;> (simp only [WE_eq]; rfl)
@[simp ↓] theorem WE_eIfM {t : TM} {a b : EM} : WE (eIfM t a b lo) s QV E = WE (t lo) s (fun x s => if x = true then WE (a lo) s QV E else WE (b lo) s QV E) E := by
  unfold eIfM
  rw [WE_bnd]
  refine WE_ext fun x s => ?_
  cases x <;> simp
@[simp ↓] theorem WE_eBm {t : Kd} {f : OMt} {o : EM} {a : AM} : WE (eBm t f o a lo) s QV E = WE (o lo) s (fun x s => if kd t x s = true then WE (a lo) s (fun xs s => WO (f x xs s) QV) E else False) E := by
  unfold eBm
  rw [WE_bnd]
  refine WE_ext fun x s => ?_
  show WE (fun s => match kd t x s with | true => bnd (a lo) (fun xs => lift (f x xs)) s | false => .fail) s QV E = _
  cases h : kd t x s with
  | true =>
    rw [if_pos rfl]
    have : WE (bnd (a lo) (fun xs => lift (f x xs))) s QV E = WE (a lo) s (fun xs s => WO (f x xs s) QV) E := by
      rw [WE_bnd]
      exact WE_ext fun xs s => WE_lift
    rw [← this]
    simp only [WE_eq]
    unfold WE0
    simp only [h]
  | false =>
    rw [if_neg (by decide)]
    simp only [WE_eq]
    unfold WE0
    simp only [h]
@[simp ↓] theorem WE_eBm0 {t : Kd} {f : OMt} {o : EM} : WE (eBm0 t f o lo) s QV E = WE (o lo) s (fun x s => if kd t x s = true then WO (f x [] s) QV else False) E := by
  unfold eBm0
  rw [WE_bnd]
  refine WE_ext fun x s => ?_
  show WE (fun s => match kd t x s with | true => lift (f x []) s | false => .fail) s QV E = _
  cases h : kd t x s with
  | true =>
    rw [if_pos rfl, ← WE_lift (E := E)]
    simp only [WE_eq]
    unfold WE0
    simp only [h]
  | false =>
    rw [if_neg (by decide)]
    simp only [WE_eq]
    unfold WE0
    simp only [h]
def fldW (cs : List Nat) (f : Str) (x : Vl) (s : Sto) (QV : Vl → Sto → Prop) : Prop := match x with
  | .ref j => match s[j]? with
    | some (.ins c fs) => c ∈ cs ∧ match getS fs f with
        | some v => QV v s
        | none => False
    | _ => False
  | _ => False
@[simp ↓] theorem WE_eFld {cs : List Nat} {f : Str} {o : EM} : WE (eFld cs f o lo) s QV E = WE (o lo) s (fun x s => fldW cs f x s QV) E := by
  unfold eFld
  rw [WE_bnd]
  refine WE_ext fun x s => ?_
  simp only [WE_eq]
  unfold WE0 fldW
  cases x <;> try rfl
  rename_i j
  simp only
  cases h : s[j]? with
  | none => simp only [h]
  | some o =>
    cases o <;> simp only [h]
    rename_i c fs
    by_cases hc : c ∈ cs
    · simp only [hc, if_true, true_and]
      cases getS fs f <;> rfl
    · simp [hc]
@[simp ↓] theorem WE_fnM {n : Nat} {b : SM} {as : List Vl} : WE (fnM n b as) s QV E = WS b (as.map some ++ List.replicate (n - as.length) none) s ⟨fun _ s => QV .non s, QV, fun _ _ => False, fun _ _ => False, fun e _ s => E e s⟩ := by
  simp only [WE_eq, WS_eq]
  unfold WE0 WS0 fnM
  cases b (as.map some ++ List.replicate (n - as.length) none) s <;> rfl
@[simp ↓] theorem WE_eSl {f : OSl} {a : EM} {l h : Option EM} : WE (eSl f a l h lo) s QV E = WE (a lo) s (fun x s => WE (oPart l lo) s (fun i s => WE (oPart h lo) s (fun j s => WO (f x i j s) QV) E) E) E := by
  unfold eSl
  rw [WE_bnd]
  refine WE_ext fun x s => ?_
  rw [WE_bnd]
  refine WE_ext fun i s => ?_
  rw [WE_bnd]
  exact WE_ext fun j s => WE_lift
@[simp ↓] theorem WE_oPartN {QO : Option Int → Sto → Prop} : WE (oPart none lo) s QO E = QO none s := by simp only [WE_eq]; rfl
@[simp ↓] theorem WE_oPartS {QO : Option Int → Sto → Prop} {a : EM} : WE (oPart (some a) lo) s QO E = WE (a lo) s (fun x s => match x with | .int i => QO (some i) s | _ => False) E := by
  show WE (bnd (a lo) _) s QO E = _
  rw [WE_bnd]
  refine WE_ext fun x s => ?_
  cases x <;> (simp only [WE_eq]; rfl)
@[simp ↓] theorem WE_eDict0 : WE (eDict0 lo) s QV E = QV (.ref s.length) (s ++ [.dic []]) := by simp only [WE_eq]; rfl
/-! statements -/
@[simp ↓] theorem WS_sNil : WS sNil lo s K = K.nx lo s := by simp only [WS_eq]; rfl
@[simp ↓] theorem WS_sBreak : WS sBreak lo s K = K.bk lo s := by simp only [WS_eq]; rfl
@[simp ↓] theorem WS_sCont : WS sCont lo s K = K.ct lo s := by simp only [WS_eq]; rfl
@[simp ↓] theorem WS_sRetN : WS sRetN lo s K = K.rt .non s := by simp only [WS_eq]; rfl
@[simp ↓] theorem WS_sSeq {a b : SM} : WS (sSeq a b) lo s K = WS a lo s ⟨fun lo s => WS b lo s K, K.rt, K.bk, K.ct, K.ex⟩ := by
  simp only [WS_eq]
  unfold WS0 sSeq
  cases a lo s <;> rfl
theorem WS_bndS {m : Lo → M α} {f : Lo → α → Sto → RS} : WS (bndS m f) lo s K = WE (m lo) s (fun a s => match f lo a s with | .nx lo s => K.nx lo s | .rt v s => K.rt v s | .bk lo s => K.bk lo s | .ct lo s => K.ct lo s | .exc e lo s => K.ex e lo s | .fail => False) (fun e s => K.ex e lo s) := by
  simp only [WS_eq, WE_eq]
  unfold WS0 WE0 bndS
  cases m lo s <;> rfl
@[simp ↓] theorem WS_sExpr {e : EM} : WS (sExpr e) lo s K = WE (e lo) s (fun _ s => K.nx lo s) (fun x s => K.ex x lo s) := by unfold sExpr; rw [WS_bndS]
@[simp ↓] theorem WS_sRet {e : EM} : WS (sRet e) lo s K = WE (e lo) s K.rt (fun x s => K.ex x lo s) := by unfold sRet; rw [WS_bndS]
@[simp ↓] theorem WS_sSet {i : Nat} {e : EM} : WS (sSet i e) lo s K = WE (e lo) s (fun v s => K.nx (lo.set i (some v)) s) (fun x s => K.ex x lo s) := by unfold sSet; rw [WS_bndS]
@[simp ↓] theorem WS_sIf {t : TM} {a b : SM} : WS (sIf t a b) lo s K = WE (t lo) s (fun c s => if c = true then WS a lo s K else WS b lo s K) (fun x s => K.ex x lo s) := by
  unfold sIf
  rw [WS_bndS]
  refine WE_ext fun c s => ?_
  cases c <;> simp [WS_eq, WS0]
@[simp ↓] theorem WS_sPar {i j : Nat} {a : AM} : WS (sPar i j a) lo s K = WE (a lo) s (fun vs s => match vs with | [v, w] => K.nx ((lo.set i (some v)).set j (some w)) s | _ => False) (fun x s => K.ex x lo s) := by
  unfold sPar
  rw [WS_bndS]
  refine WE_ext fun vs s => ?_
  match vs with
  | [] => rfl
  | [_] => rfl
  | [_, _] => rfl
  | _ :: _ :: _ :: _ => rfl
@[simp ↓] theorem WS_sPar3 {i j l : Nat} {a : AM} : WS (sPar3 i j l a) lo s K = WE (a lo) s (fun vs s => match vs with | [v, w, x] => K.nx (((lo.set i (some v)).set j (some w)).set l (some x)) s | _ => False) (fun x s => K.ex x lo s) := by
  unfold sPar3
  rw [WS_bndS]
  refine WE_ext fun vs s => ?_
  match vs with
  | [] => rfl
  | [_] => rfl
  | [_, _] => rfl
  | [_, _, _] => rfl
  | _ :: _ :: _ :: _ :: _ => rfl
/-- targets -/
structure WG (g : GM) (v : Vl) (lo : Lo) (s : Sto) (N : Lo → Sto → Prop) (E : Ex → Sto → Prop) (_ : Tg (N, E) := .a) : Prop where
  h : WE (g v lo) s N E
theorem WG_eq {g : GM} {v : Vl} {lo : Lo} {s : Sto} {N : Lo → Sto → Prop} {E : Ex → Sto → Prop} : WG g v lo s N E = WE (g v lo) s N E := propext ⟨fun x => x.h, fun x => ⟨x⟩⟩
@[simp ↓] theorem WG_gNm {i : Nat} {v : Vl} {N : Lo → Sto → Prop} : WG (gNm i) v lo s N E = N (lo.set i (some v)) s := by simp only [WG_eq, WE_eq]; rfl
@[simp ↓] theorem WG_gTp {js : List Nat} {xs : List Vl} {N : Lo → Sto → Prop} : WG (gTp js) (.tup xs) lo s N E = (match gNms js xs lo with | some lo' => N lo' s | none => False) := by
  simp only [WG_eq, WE_eq]
  unfold WE0 gTp
  simp only
  cases gNms js xs lo <;> rfl
@[simp] theorem gNms_nil {lo : Lo} : gNms [] [] lo = some lo := rfl
@[simp] theorem gNms_cons {j : Nat} {js : List Nat} {v : Vl} {vs : List Vl} {lo : Lo} : gNms (j :: js) (v :: vs) lo = gNms js vs (lo.set j (some v)) := rfl
@[simp ↓] theorem WG_gSb {f : OSet} {o i : EM} {v : Vl} {N : Lo → Sto → Prop} : WG (gSb f o i) v lo s N E = WE (o lo) s (fun x s => WE (i lo) s (fun y s => match f x y v s with | some s' => N lo s' | none => False) E) E := by
  simp only [WG_eq]
  unfold gSb
  rw [WE_bnd]
  refine WE_ext fun x s => ?_
  rw [WE_bnd]
  refine WE_ext fun y s => ?_
  simp only [WE_eq]
  unfold WE0 liftU
  cases f x y v s <;> rfl
@[simp ↓] theorem WS_sAsg {g : GM} {e : EM} : WS (sAsg g e) lo s K = WE (e lo) s (fun v s => WG g v lo s K.nx (fun x s => K.ex x lo s)) (fun x s => K.ex x lo s) := by
  unfold sAsg
  rw [WS_bndS]
  refine WE_ext fun v s => ?_
  simp only [WG_eq, WE_eq]
  unfold WE0
  cases g v lo s <;> rfl
@[simp ↓] theorem WS_sFldM {cs : List Nat} {f : Str} {o e : EM} : WS (sFldM cs f o e) lo s K = WE (e lo) s (fun v s => WE (o lo) s (fun x s => match setFld cs f x v s with | some s' => K.nx lo s' | none => False) (fun x s => K.ex x lo s)) (fun x s => K.ex x lo s) := by
  unfold sFldM
  rw [WS_bndS]
  refine WE_ext fun v s => ?_
  refine Eq.trans (b := WS (bndS o fun lo x s => match setFld cs f x v s with | some s' => .nx lo s' | none => .fail) lo s K) (by simp only [WS_eq]; rfl) ?_
  rw [WS_bndS]
  refine WE_ext fun x s => ?_
  cases setFld cs f x v s <;> rfl
/-! methods, making -/
def methW (m : Str) (tab : MTab) (x : Vl) (s : Sto) (P : (List Vl → M Vl) → Prop) : Prop := match x with
  | .ref j => match s[j]? with
    | some (.ins c fs) => match tab c, getS fs m with
      | some mf, none => P mf
      | _, _ => False
    | _ => False
  | _ => False
theorem WE_eMeth {m : Str} {tab : MTab} {o : EM} {a : AM} : WE (eMeth m tab o a lo) s QV E = WE (o lo) s (fun x s => methW m tab x s fun mf => WE (a lo) s (fun as s => WE (mf (x :: as)) s QV E) E) E := by
  unfold eMeth
  rw [WE_bnd]
  refine WE_ext fun x s => ?_
  cases x <;> try (simp only [WE_eq]; rfl)
  rename_i j
  unfold methW
  show WE (fun s => match s[j]? with | some (.ins c fs) => (match tab c, getS fs m with | some mf, none => bnd (a lo) (fun as => mf (.ref j :: as)) s | _, _ => .fail) | _ => .fail) s QV E = _
  have key : ∀ mf : List Vl → M Vl, WE (a lo) s (fun as s => WE (mf (.ref j :: as)) s QV E) E = WE (bnd (a lo) (fun as => mf (.ref j :: as))) s QV E := fun mf => by rw [WE_bnd]
  simp only [key]
  simp only [WE_eq]
  unfold WE0
  simp only
  cases h : s[j]? with
  | none => rfl
  | some o =>
    cases o <;> try rfl
    rename_i c fs
    simp only
    cases h1 : tab c with
    | none => rfl
    | some mf => cases h2 : getS fs m <;> rfl
theorem WE_eMake {c : Nat} {mi : List Vl → M Vl} {a : AM} : WE (eMake c mi a lo) s QV E = WE (a lo) s (fun as s => WE (mi (.ref s.length :: as)) (s ++ [.ins c []]) (fun v s' => match v with | .non => QV (.ref s.length) s' | _ => False) E) E := by
  unfold eMake
  rw [WE_bnd]
  refine WE_ext fun as s => ?_
  simp only [WE_eq]
  unfold WE0
  simp only
  cases h : mi (.ref s.length :: as) (s ++ [.ins c []]) with
  | ok v s' => cases v <;> rfl
  | exc e s' => rfl
  | fail => rfl
end
end Sm

/-! S14: loops and comprehensions of pure programs -/
namespace Sm
open PySem L2
section
variable {α : Type} {s : Sto} {lo : Lo} {QV : Vl → Sto → Prop} {QA : List Vl → Sto → Prop} {QN : NX → Sto → Prop} {E : Ex → Sto → Prop} {K : RK}
@[simp ↓] theorem WE_aTup {e : EM} : WE (aTup e lo) s QA E = WE (e lo) s (fun x s => match x with | .tup xs => QA xs s | _ => False) E := by
  unfold aTup
  rw [WE_bnd]
  refine WE_ext fun x s => ?_
  cases x <;> simp only [WE_eq] <;> rfl
def rngW (xs : List Vl) (s : Sto) (QA : List Vl → Sto → Prop) : Prop := match xs with
  | [.int n] => (-(2 ^ 62) ≤ n ∧ n < 2 ^ 62) ∧ QA (rng 0 n.toNat) s
  | _ => False
theorem rngW_one {n : Int} : rngW [.int n] s QA = ((-(2 ^ 62) ≤ n ∧ n < 2 ^ 62) ∧ QA (rng 0 n.toNat) s) := rfl
@[simp ↓] theorem WE_aRng {a : AM} : WE (aRng a lo) s QA E = WE (a lo) s (fun xs s => rngW xs s QA) E := by
  unfold aRng
  rw [WE_bnd]
  refine WE_ext fun xs s => ?_
  match xs with
  | [] => simp only [WE_eq]; rfl
  | [.int n] =>
    simp only [rngW]
    by_cases h : -(2 ^ 62) ≤ n ∧ n < 2 ^ 62
    · rw [if_pos h]; simp only [h, and_self, true_and, WE_ret]
    · rw [if_neg h, WE_fail]
      exact (propext ⟨fun z => z.elim, fun z => absurd z.1 h⟩)
  | .non :: _ => simp only [WE_eq]; rfl
  | .bl _ :: _ => simp only [WE_eq]; rfl
  | .str _ :: _ => simp only [WE_eq]; rfl
  | .tup _ :: _ => simp only [WE_eq]; rfl
  | .ref _ :: _ => simp only [WE_eq]; rfl
  | .scr _ :: _ => simp only [WE_eq]; rfl
  | .ty _ :: _ => simp only [WE_eq]; rfl
  | .fn _ :: _ => simp only [WE_eq]; rfl
  | .int _ :: _ :: _ => simp only [WE_eq]; rfl
def lstW (x : Vl) (s : Sto) (P : Nat → List Vl → Prop) : Prop := match x with
  | .ref j => match s[j]? with
    | some (.lst xs) => P j xs
    | _ => False
  | _ => False
@[simp] theorem lstW_ref {j : Nat} {P : Nat → List Vl → Prop} : lstW (.ref j) s P = (match s[j]? with | some (.lst xs) => P j xs | _ => False) := rfl
@[simp ↓] theorem WE_iLst {e : EM} : WE (iLst e lo) s QN E = WE (e lo) s (fun x s => lstW x s fun j _ => QN (nxLst j) s) E := by
  unfold iLst
  rw [WE_bnd]
  refine WE_ext fun x s => ?_
  cases x <;> try (simp only [WE_eq]; rfl)
  rename_i j
  simp only [WE_eq]
  unfold WE0 lstW
  simp only
  cases h : s[j]? with
  | none => rfl
  | some o => cases o <;> rfl
def lst1W (xs : List Vl) (s : Sto) (P : Nat → List Vl → Prop) : Prop := match xs with
  | [x] => lstW x s P
  | _ => False
@[simp] theorem lst1W_one {x : Vl} {P : Nat → List Vl → Prop} : lst1W [x] s P = lstW x s P := rfl
@[simp ↓] theorem WE_iEnm {a : AM} : WE (iEnm a lo) s QN E = WE (a lo) s (fun xs s => lst1W xs s fun j _ => QN (nxEnum j) s) E := by
  unfold iEnm
  rw [WE_bnd]
  refine WE_ext fun xs s => ?_
  match xs with
  | [] => simp only [WE_eq]; rfl
  | [.ref j] =>
    simp only [WE_eq]
    unfold WE0 lst1W lstW
    simp only
    cases h : s[j]? with
    | none => rfl
    | some o => cases o <;> rfl
  | .non :: _ => cases ‹List Vl› <;> simp only [WE_eq] <;> rfl
  | .bl _ :: _ => cases ‹List Vl› <;> simp only [WE_eq] <;> rfl
  | .int _ :: _ => cases ‹List Vl› <;> simp only [WE_eq] <;> rfl
  | .str _ :: _ => cases ‹List Vl› <;> simp only [WE_eq] <;> rfl
  | .tup _ :: _ => cases ‹List Vl› <;> simp only [WE_eq] <;> rfl
  | .scr _ :: _ => cases ‹List Vl› <;> simp only [WE_eq] <;> rfl
  | .ty _ :: _ => cases ‹List Vl› <;> simp only [WE_eq] <;> rfl
  | .fn _ :: _ => cases ‹List Vl› <;> simp only [WE_eq] <;> rfl
  | .ref _ :: _ :: _ => simp only [WE_eq]; rfl
@[simp ↓] theorem WS_sForX {ma : AM} {g : GM} {b : SM} : WS (sForX ma g b) lo s K = WE (ma lo) s (fun xs s => WS (loopX g b xs) lo s K) (fun e s => K.ex e lo s) := by
  unfold sForX
  rw [WS_bndS]
  refine WE_ext fun xs s => ?_
  simp only [WS_eq]
  rfl
@[simp ↓] theorem WS_sFor {n : Nat} {m : IM} {g : GM} {b : SM} : WS (sFor n m g b) lo s K = WE (m lo) s (fun nx s => WS (loopN nx g b n 0) lo s K) (fun e s => K.ex e lo s) := by
  unfold sFor
  rw [WS_bndS]
  refine WE_ext fun xs s => ?_
  simp only [WS_eq]
  rfl
/-- a for by its invariant -/
theorem loopX_inv {g : GM} {b : SM} {xs : List Vl} (I : Nat → Lo → Sto → Prop) (h0 : I 0 lo s)
    (hs : ∀ i v lo s, xs[i]? = some v → I i lo s → WG g v lo s (fun lo s => WS b lo s ⟨I (i + 1), K.rt, K.nx, I (i + 1), K.ex⟩) (fun e s => K.ex e lo s)) (hd : ∀ lo s, I xs.length lo s → K.nx lo s) : WS (loopX g b xs) lo s K := by
  have key : ∀ (ys : List Vl) (i : Nat) (lo : Lo) (s : Sto), xs.drop i = ys → i ≤ xs.length → I i lo s → WS (loopX g b ys) lo s K := by
    intro ys
    induction ys with
    | nil =>
      intro i lo s e hi h
      have : i = xs.length := Nat.le_antisymm hi (List.drop_eq_nil_iff.mp e)
      subst this
      exact ⟨hd lo s h⟩
    | cons y ys ih =>
      intro i lo s e hi h
      have hi' : i < xs.length := by
        rcases Nat.lt_or_ge i xs.length with q | q
        · exact q
        · rw [List.drop_eq_nil_of_le q] at e; cases e
      rw [List.drop_eq_getElem_cons hi'] at e
      obtain ⟨e1, e2⟩ := List.cons.inj e
      have st := hs i y lo s (by rw [List.getElem?_eq_getElem hi', e1]) h
      simp only [WS_eq]
      unfold WS0 loopX
      simp only [WG_eq, WE_eq] at st
      unfold WE0 at st
      cases q : g y lo s with
      | fail => simp only [q] at st
      | exc z s' => simp only [q] at st ⊢; exact st
      | ok lo' s' =>
        simp only [q] at st ⊢
        simp only [WS_eq] at st
        unfold WS0 at st
        cases q2 : b lo' s' with
        | nx lo2 s2 => simp only [q2] at st ⊢; exact (ih (i + 1) lo2 s2 e2 hi' st).h
        | ct lo2 s2 => simp only [q2] at st ⊢; exact (ih (i + 1) lo2 s2 e2 hi' st).h
        | bk lo2 s2 => simp only [q2] at st ⊢; exact st
        | rt v s2 => simp only [q2] at st ⊢; exact st
        | exc z lo2 s2 => simp only [q2] at st ⊢; exact st
        | fail => simp only [q2] at st
  exact key xs 0 lo s (by simp) (Nat.zero_le _) h0
/-- the same over what nx tells: n items, at each turn the i-th one is f i -/
theorem loopN_inv {nx : NX} {g : GM} {b : SM} {n fuel : Nat} (I : Nat → Lo → Sto → Prop) (f : Nat → Vl) (hf : n < fuel) (h0 : I 0 lo s) (hn : ∀ i lo s, i < n → I i lo s → nx i s = some (some (f i))) (he : ∀ lo s, I n lo s → nx n s = some none)
    (hs : ∀ i lo s, i < n → I i lo s → WG g (f i) lo s (fun lo s => WS b lo s ⟨I (i + 1), K.rt, K.nx, I (i + 1), K.ex⟩) (fun e s => K.ex e lo s)) (hd : ∀ lo s, I n lo s → K.nx lo s) : WS (loopN nx g b fuel 0) lo s K := by
  have key : ∀ (k i : Nat) (lo : Lo) (s : Sto), n - i < k → i ≤ n → I i lo s → WS (loopN nx g b k i) lo s K := by
    intro k
    induction k with
    | zero => intro i lo s h; omega
    | succ k ih =>
      intro i lo s hk hi h
      simp only [WS_eq]
      unfold WS0 loopN
      rcases Nat.lt_or_ge i n with q | q
      · simp only [hn i lo s q h]
        have st := hs i lo s q h
        simp only [WG_eq, WE_eq] at st
        unfold WE0 at st
        cases q1 : g (f i) lo s with
        | fail => simp only [q1] at st
        | exc z s' => simp only [q1] at st ⊢; exact st
        | ok lo' s' =>
          simp only [q1] at st ⊢
          simp only [WS_eq] at st
          unfold WS0 at st
          cases q2 : b lo' s' with
          | nx lo2 s2 => simp only [q2] at st ⊢; exact (ih (i + 1) lo2 s2 (by omega) q st).h
          | ct lo2 s2 => simp only [q2] at st ⊢; exact (ih (i + 1) lo2 s2 (by omega) q st).h
          | bk lo2 s2 => simp only [q2] at st ⊢; exact st
          | rt v s2 => simp only [q2] at st ⊢; exact st
          | exc z lo2 s2 => simp only [q2] at st ⊢; exact st
          | fail => simp only [q2] at st
      · have : i = n := Nat.le_antisymm hi q
        subst this
        simp only [he lo s h]
        exact hd lo s h
  exact key fuel 0 lo s (by omega) (Nat.zero_le _) h0
/-- over a list that the loop leaves as it is -/
theorem loopL_inv {j : Nat} {xs : List Vl} {g : GM} {b : SM} {fuel : Nat} (I : Nat → Lo → Sto → Prop) (hf : xs.length < fuel) (h0 : I 0 lo s) (hl : ∀ i lo s, I i lo s → s[j]? = some (.lst xs))
    (hs : ∀ i v lo s, xs[i]? = some v → I i lo s → WG g v lo s (fun lo s => WS b lo s ⟨I (i + 1), K.rt, K.nx, I (i + 1), K.ex⟩) (fun e s => K.ex e lo s)) (hd : ∀ lo s, I xs.length lo s → K.nx lo s) : WS (loopN (nxLst j) g b fuel 0) lo s K :=
  loopN_inv I (fun i => (xs[i]?).getD .non) hf h0 (fun i lo s hi h => by simp only [nxLst, hl i lo s h, List.getElem?_eq_getElem hi, Option.getD]) (fun lo s h => by simp only [nxLst, hl _ lo s h]; rw [List.getElem?_eq_none (Nat.le_refl _)])
    (fun i lo s hi h => by
      have := hs i xs[i] lo s (List.getElem?_eq_getElem hi) h
      simpa only [List.getElem?_eq_getElem hi, Option.getD] using this) hd
/-- while, by an invariant with a number that falls -/
theorem loopW_inv {t : TM} {b : SM} {n : Nat} (I : Nat → Lo → Sto → Prop) (m0 : Nat) (hm : m0 < n) (h0 : I m0 lo s)
    (hs : ∀ m lo s, I m lo s → WE (t lo) s (fun c s' => if c = true then WS b lo s' ⟨fun lo s => ∃ m', m' < m ∧ I m' lo s, K.rt, K.nx, fun lo s => ∃ m', m' < m ∧ I m' lo s, K.ex⟩ else K.nx lo s') (fun e s => K.ex e lo s)) : WS (loopW t b n) lo s K := by
  have key : ∀ (k m : Nat) (lo : Lo) (s : Sto), m < k → I m lo s → WS (loopW t b k) lo s K := by
    intro k
    induction k with
    | zero => intro m lo s h; omega
    | succ k ih =>
      intro m lo s hk h
      have st := hs m lo s h
      simp only [WS_eq]
      unfold WS0 loopW
      simp only [WE_eq] at st
      unfold WE0 at st
      cases q : t lo s with
      | fail => simp only [q] at st
      | exc z s' => simp only [q] at st ⊢; exact st
      | ok c s' =>
        cases c with
        | false => simp only [q] at st ⊢; exact (by simpa using st)
        | true =>
          simp only [q, if_true] at st ⊢
          simp only [WS_eq] at st
          unfold WS0 at st
          cases q2 : b lo s' with
          | nx lo2 s2 => simp only [q2] at st ⊢; obtain ⟨m', h1, h2⟩ := st; exact (ih m' lo2 s2 (by omega) h2).h
          | ct lo2 s2 => simp only [q2] at st ⊢; obtain ⟨m', h1, h2⟩ := st; exact (ih m' lo2 s2 (by omega) h2).h
          | bk lo2 s2 => simp only [q2] at st ⊢; exact st
          | rt v s2 => simp only [q2] at st ⊢; exact st
          | exc z lo2 s2 => simp only [q2] at st ⊢; exact st
          | fail => simp only [q2] at st
  exact key n m0 lo s hm h0
/-! ### comprehensions -/
def WL0 (o : Option Sto) (Q : Sto → Prop) : Prop := match o with
  | some s => Q s
  | none => False
structure WL (o : Option Sto) (Q : Sto → Prop) (_ : Tg Q := .a) : Prop where
  h : WL0 o Q
theorem WL_eq {o : Option Sto} {Q : Sto → Prop} : WL o Q = WL0 o Q := propext ⟨fun x => x.h, fun x => ⟨x⟩⟩
@[simp ↓] theorem WE_eLc {n : Nat} {m : IM} {g : GL} {t : TM} {e : EM} {vs : List Nat} : WE (eLc n m g t e vs lo) s QV E = WE (m lo) s (fun nx s => WL (lcN nx g t e s.length (wipeL lo vs) n 0 (s ++ [.lst []])) fun s' => QV (.ref s.length) s') E := by
  unfold eLc
  rw [WE_bnd]
  refine WE_ext fun nx s => ?_
  simp only [WE_eq, WL_eq]
  unfold WE0 WL0
  simp only
  cases lcN nx g t e s.length (wipeL lo vs) n 0 (s ++ [.lst []]) <;> rfl
@[simp ↓] theorem WE_eLcX {m : AM} {g : GL} {t : TM} {e : EM} {vs : List Nat} : WE (eLcX m g t e vs lo) s QV E = WE (m lo) s (fun xs s => WL (lcX g t e s.length (wipeL lo vs) xs (s ++ [.lst []])) fun s' => QV (.ref s.length) s') E := by
  unfold eLcX
  rw [WE_bnd]
  refine WE_ext fun xs s => ?_
  simp only [WE_eq, WL_eq]
  unfold WE0 WL0
  simp only
  cases lcX g t e s.length (wipeL lo vs) xs (s ++ [.lst []]) <;> rfl
/-- one turn -/
def LcT (t : TM) (e : EM) (d : Nat) (lo : Lo) (s : Sto) (Q : Sto → Prop) : Prop :=
  WE (t lo) s (fun c s => if c = true then WE (e lo) s (fun y s => match s[d]? with | some (.lst acc) => acc.length < LIM ∧ Q (s.set d (.lst (acc ++ [y]))) | _ => False) NoX else Q s) NoX
theorem lcStep_of {t : TM} {e : EM} {d : Nat} {lo : Lo} {s : Sto} {Q : Sto → Prop} (h : LcT t e d lo s Q) : ∃ s', lcStep t e d lo s = some s' ∧ Q s' := by
  unfold LcT at h
  simp only [WE_eq] at h
  unfold WE0 at h
  unfold lcStep
  cases q : t lo s with
  | fail => simp only [q] at h
  | exc z s1 => simp only [q] at h; exact h.elim
  | ok c s1 =>
    cases c with
    | false => simp only [q] at h ⊢; exact ⟨s1, rfl, by simpa using h⟩
    | true =>
      simp only [q, if_true] at h ⊢
      cases q2 : e lo s1 with
      | fail => simp only [q2] at h
      | exc z s2 => simp only [q2] at h; exact h.elim
      | ok y s2 =>
        simp only [q2] at h ⊢
        split at h
        · rename_i acc hacc
          simp only [hacc, if_pos h.1]
          exact ⟨_, rfl, h.2⟩
        · exact h.elim
theorem lcX_inv {g : GL} {t : TM} {e : EM} {d : Nat} {xs : List Vl} {s : Sto} {Q : Sto → Prop} (I : Nat → Sto → Prop) (h0 : I 0 s) (hs : ∀ i v s, xs[i]? = some v → I i s → ∃ lo', g v lo = some lo' ∧ LcT t e d lo' s (I (i + 1))) (hd : ∀ s, I xs.length s → Q s) :
    WL (lcX g t e d lo xs s) Q := by
  have key : ∀ (ys : List Vl) (i : Nat) (s : Sto), xs.drop i = ys → i ≤ xs.length → I i s → WL (lcX g t e d lo ys s) Q := by
    intro ys
    induction ys with
    | nil =>
      intro i s e hi h
      have : i = xs.length := Nat.le_antisymm hi (List.drop_eq_nil_iff.mp e)
      subst this
      exact ⟨hd s h⟩
    | cons y ys ih =>
      intro i s e hi h
      have hi' : i < xs.length := by
        rcases Nat.lt_or_ge i xs.length with q | q
        · exact q
        · rw [List.drop_eq_nil_of_le q] at e; cases e
      rw [List.drop_eq_getElem_cons hi'] at e
      obtain ⟨e1, e2⟩ := List.cons.inj e
      obtain ⟨lo', g1, g2⟩ := hs i y s (by rw [List.getElem?_eq_getElem hi', e1]) h
      obtain ⟨s', k1, k2⟩ := lcStep_of g2
      unfold lcX
      simp only [g1, k1]
      exact ih (i + 1) s' e2 hi' k2
  exact key xs 0 s (by simp) (Nat.zero_le _) h0
theorem lcN_inv {nx : NX} {g : GL} {t : TM} {e : EM} {d n fuel : Nat} {s : Sto} {Q : Sto → Prop} (I : Nat → Sto → Prop) (f : Nat → Vl) (hf : n < fuel) (h0 : I 0 s) (hn : ∀ i s, i < n → I i s → nx i s = some (some (f i))) (he : ∀ s, I n s → nx n s = some none)
    (hs : ∀ i s, i < n → I i s → ∃ lo', g (f i) lo = some lo' ∧ LcT t e d lo' s (I (i + 1))) (hd : ∀ s, I n s → Q s) : WL (lcN nx g t e d lo fuel 0 s) Q := by
  have key : ∀ (k i : Nat) (s : Sto), n - i < k → i ≤ n → I i s → WL (lcN nx g t e d lo k i s) Q := by
    intro k
    induction k with
    | zero => intro i s h; omega
    | succ k ih =>
      intro i s hk hi h
      unfold lcN
      rcases Nat.lt_or_ge i n with q | q
      · simp only [hn i s q h]
        obtain ⟨lo', g1, g2⟩ := hs i s q h
        obtain ⟨s', k1, k2⟩ := lcStep_of g2
        simp only [g1, k1]
        exact ih (i + 1) s' (by omega) q k2
      · have : i = n := Nat.le_antisymm hi q
        subst this
        simp only [he s h]
        exact ⟨hd s h⟩
  exact key fuel 0 s (by omega) (Nat.zero_le _) h0
theorem lcL_inv {j : Nat} {xs : List Vl} {g : GL} {t : TM} {e : EM} {d fuel : Nat} {s : Sto} {Q : Sto → Prop} (I : Nat → Sto → Prop) (hf : xs.length < fuel) (h0 : I 0 s) (hl : ∀ i s, I i s → s[j]? = some (.lst xs))
    (hs : ∀ i v s, xs[i]? = some v → I i s → ∃ lo', g v lo = some lo' ∧ LcT t e d lo' s (I (i + 1))) (hd : ∀ s, I xs.length s → Q s) : WL (lcN (nxLst j) g t e d lo fuel 0 s) Q :=
  lcN_inv I (fun i => (xs[i]?).getD .non) hf h0 (fun i s hi h => by simp only [nxLst, hl i s h, List.getElem?_eq_getElem hi, Option.getD]) (fun s h => by simp only [nxLst, hl _ s h]; rw [List.getElem?_eq_none (Nat.le_refl _)])
    (fun i s hi h => by
      have := hs i xs[i] s (List.getElem?_eq_getElem hi) h
      simpa only [List.getElem?_eq_getElem hi, Option.getD] using this) hd
/-- where neither test nor element changes the store: kept items by f -/
def LcP (g : GL) (t : TM) (e : EM) (lo : Lo) (s : Sto) (x : Vl) (r : Option Vl) : Prop := ∀ acc, ∃ lo', g x lo = some lo' ∧ WE (t lo') (s ++ [.lst acc]) (fun c s' => s' = s ++ [.lst acc] ∧ if c = true then WE (e lo') s' (fun y s'' => s'' = s ++ [.lst acc] ∧ r = some y) NoX else r = none) NoX
theorem LcP.turn {g : GL} {t : TM} {e : EM} {s : Sto} {x : Vl} {r : Option Vl} {acc : List Vl} (h : LcP g t e lo s x r) (hl : acc.length < LIM) : ∃ lo', g x lo = some lo' ∧ LcT t e s.length lo' (s ++ [.lst acc]) fun s' => s' = s ++ [.lst (acc ++ r.toList)] := by
  obtain ⟨lo', h1, h2⟩ := h acc
  refine ⟨lo', h1, WE.mono h2 (fun c s' hc => ?_) fun _ _ z => z⟩
  obtain ⟨rfl, h3⟩ := hc
  cases c with
  | false =>
    simp only [if_false, Bool.false_eq_true] at h3 ⊢
    subst h3
    simp
  | true =>
    simp only [if_true] at h3 ⊢
    refine WE.mono h3 (fun y s'' hy => ?_) fun _ _ z => z
    obtain ⟨rfl, rfl⟩ := hy
    simp [hl]
theorem lcX_pure {g : GL} {t : TM} {e : EM} {xs : List Vl} {s : Sto} {Q : Sto → Prop} (f : Vl → Option Vl) (hl : xs.length < LIM) (hx : ∀ x ∈ xs, LcP g t e lo s x (f x)) (hd : Q (s ++ [.lst (xs.filterMap f)])) : WL (lcX g t e s.length lo xs (s ++ [.lst []])) Q := by
  refine lcX_inv (fun i s' => s' = s ++ [.lst ((xs.take i).filterMap f)]) (by simp) (fun i v s' hv e => ?_) (fun s' e => by rw [e, List.take_length]; exact hd)
  subst e
  obtain ⟨hi, ev⟩ := List.getElem?_eq_some_iff.mp hv
  have hlen : ((xs.take i).filterMap f).length < LIM := Nat.lt_of_le_of_lt (Nat.le_trans (List.length_filterMap_le ..) (by rw [List.length_take]; exact Nat.min_le_right ..)) hl
  obtain ⟨lo', h1, h2⟩ := (hx v (List.mem_of_getElem? hv)).turn hlen
  refine ⟨lo', h1, ?_⟩
  have : (xs.take (i + 1)).filterMap f = (xs.take i).filterMap f ++ (f v).toList := by
    rw [List.take_add_one, hv, Option.toList, List.filterMap_append]
    cases h : f v <;> simp [List.filterMap_cons, h]
  rw [this]
  exact h2
theorem lcL_pure {j fuel : Nat} {g : GL} {t : TM} {e : EM} {xs : List Vl} {s : Sto} {Q : Sto → Prop} (f : Vl → Option Vl) (hj : s[j]? = some (.lst xs)) (hl : xs.length < LIM) (hf : xs.length < fuel) (hx : ∀ x ∈ xs, LcP g t e lo s x (f x)) (hd : Q (s ++ [.lst (xs.filterMap f)])) :
    WL (lcN (nxLst j) g t e s.length lo fuel 0 (s ++ [.lst []])) Q := by
  have hjl : j < s.length := (List.getElem?_eq_some_iff.mp hj).1
  refine lcL_inv (xs := xs) (fun i s' => s' = s ++ [.lst ((xs.take i).filterMap f)]) hf (by simp) (fun i s' e => by rw [e, List.getElem?_append_left hjl]; exact hj) (fun i v s' hv e => ?_) (fun s' e => by rw [e, List.take_length]; exact hd)
  subst e
  have hlen : ((xs.take i).filterMap f).length < LIM := Nat.lt_of_le_of_lt (Nat.le_trans (List.length_filterMap_le ..) (by rw [List.length_take]; exact Nat.min_le_right ..)) hl
  obtain ⟨lo', h1, h2⟩ := (hx v (List.mem_of_getElem? hv)).turn hlen
  refine ⟨lo', h1, ?_⟩
  have : (xs.take (i + 1)).filterMap f = (xs.take i).filterMap f ++ (f v).toList := by
    rw [List.take_add_one, hv, Option.toList, List.filterMap_append]
    cases h : f v <;> simp [List.filterMap_cons, h]
  rw [this]
  exact h2
end
end Sm

/-! S15: frames of stores; locked dicts; decks of numbers -/
namespace Sm
open PySem L2
/-- all that stood in s stands in s' but for the numbers X -/
structure Fr (X : List Nat) (s s' : Sto) : Prop where
  le : s.length ≤ s'.length
  get : ∀ i, i < s.length → i ∉ X → s'[i]? = s[i]?
section
variable {X Y : List Nat} {s s1 s2 : Sto}
theorem Fr.refl : Fr X s s := ⟨Nat.le_refl _, fun _ _ _ => rfl⟩
theorem Fr.trans (a : Fr X s s1) (b : Fr X s1 s2) : Fr X s s2 := ⟨Nat.le_trans a.le b.le, fun i hi hx => (b.get i (Nat.lt_of_lt_of_le hi a.le) hx).trans (a.get i hi hx)⟩
theorem Fr.mono (a : Fr X s s1) (h : ∀ i ∈ X, i ∈ Y) : Fr Y s s1 := ⟨a.le, fun i hi hx => a.get i hi fun z => hx (h i z)⟩
/-- what is changed in s1 may be new since s -/
theorem Fr.trans' (a : Fr X s s1) (b : Fr Y s1 s2) (h : ∀ i ∈ Y, i ∈ X ∨ s.length ≤ i) : Fr X s s2 := ⟨Nat.le_trans a.le b.le, fun i hi hx => (b.get i (Nat.lt_of_lt_of_le hi a.le) fun z => (h i z).elim hx fun q => absurd hi (Nat.not_lt.mpr q)).trans (a.get i hi hx)⟩
theorem Fr.at (a : Fr X s s1) {i : Nat} {o : Ob} (h : s[i]? = some o) (hx : i ∉ X) : s1[i]? = some o := (a.get i (List.getElem?_eq_some_iff.mp h).1 hx).trans h
theorem Fr.push (a : Fr X s s1) (o : Ob) : Fr X s (s1 ++ [o]) := ⟨by rw [List.length_append]; exact Nat.le_trans a.le (Nat.le_add_right ..), fun i hi hx => by rw [List.getElem?_append_left (Nat.lt_of_lt_of_le hi a.le)]; exact a.get i hi hx⟩
theorem Fr.app (a : Fr X s s1) (t : Sto) : Fr X s (s1 ++ t) := ⟨by rw [List.length_append]; exact Nat.le_trans a.le (Nat.le_add_right ..), fun i hi hx => by rw [List.getElem?_append_left (Nat.lt_of_lt_of_le hi a.le)]; exact a.get i hi hx⟩
theorem Fr.set (a : Fr X s s1) {i : Nat} {o : Ob} (h : i ∈ X ∨ s.length ≤ i) : Fr X s (s1.set i o) := ⟨by rw [List.length_set]; exact a.le, fun j hj hx => by
  rw [List.getElem?_set_ne (fun z => by subst z; exact h.elim hx fun q => absurd hj (Nat.not_lt.mpr q))]
  exact a.get j hj hx⟩
end
@[simp] theorem get_set_self {s : Sto} {i : Nat} {o o' : Ob} (h : s[i]? = some o) : (s.set i o')[i]? = some o' := List.getElem?_set_self (List.getElem?_eq_some_iff.mp h).1
theorem get_set_ne {s : Sto} {i j : Nat} {o' : Ob} (h : i ≠ j) : (s.set i o')[j]? = s[j]? := List.getElem?_set_ne h
theorem get_push {s : Sto} {i : Nat} {o o' : Ob} (h : s[i]? = some o) : (s ++ [o'])[i]? = some o := by rw [List.getElem?_append_left (List.getElem?_eq_some_iff.mp h).1]; exact h
theorem get_app {s t : Sto} {i : Nat} {o : Ob} (h : s[i]? = some o) : (s ++ t)[i]? = some o := by rw [List.getElem?_append_left (List.getElem?_eq_some_iff.mp h).1]; exact h
@[simp] theorem get_last {s : Sto} {o : Ob} : (s ++ [o])[s.length]? = some o := by simp
theorem lt_of_get {s : Sto} {i : Nat} {o : Ob} (h : s[i]? = some o) : i < s.length := (List.getElem?_eq_some_iff.mp h).1
section
variable {s : Sto} {lo : Lo} {QV : Vl → Sto → Prop} {E : Ex → Sto → Prop}
@[simp ↓] theorem WE_iVal {e : EM} {QN : NX → Sto → Prop} : WE (iVal e lo) s QN E = WE (e lo) s (fun x s => match x with | .ref j => (match s[j]? with | some (.fdic _) => QN (nxVals j) s | _ => False) | _ => False) E := by
  unfold iVal
  rw [WE_bnd]
  refine WE_ext fun x s => ?_
  cases x <;> try (simp only [WE_eq]; rfl)
  rename_i j
  simp only [WE_eq]
  unfold WE0
  simp only
  cases h : s[j]? with
  | none => rfl
  | some o => cases o <;> rfl
@[simp ↓] theorem WE_eListVals {e : EM} : WE (eListVals e lo) s QV E = WE (e lo) s (fun x s => match x with | .ref j => (match s[j]? with | some (.dic kvs) => QV (.ref s.length) (s ++ [.lst (kvs.map (·.2))]) | _ => False) | _ => False) E := by
  unfold eListVals
  rw [WE_bnd]
  refine WE_ext fun x s => ?_
  cases x <;> try (simp only [WE_eq]; rfl)
  rename_i j
  simp only [WE_eq]
  unfold WE0
  simp only
  cases h : s[j]? with
  | none => rfl
  | some o => cases o <;> rfl
end
/-- a deck: the cells at l and the count c, at d -/
structure Deck (s : Sto) (d l c : Nat) (cells : List Int) : Prop where
  top : s[d]? = some (.lst [.ref l, .int c])
  cel : s[l]? = some (.lst (cells.map Vl.int))
  nn : ∀ x ∈ cells, 0 ≤ x
  ne : l ≠ d
theorem Deck.fr {X : List Nat} {s s' : Sto} {d l c : Nat} {cells : List Int} (D : Deck s d l c cells) (f : Fr X s s') (h1 : d ∉ X) (h2 : l ∉ X) : Deck s' d l c cells := ⟨f.at D.top h1, f.at D.cel h2, D.nn, D.ne⟩
/-- some deck with at most c draws -/
def DeckLe (s : Sto) (d l c : Nat) : Prop := ∃ k cells, k ≤ c ∧ Deck s d l k cells
end Sm

/-! S16: operations on values that are known, as rewriting rules -/
namespace Sm
open PySem L2
section
variable {α : Type} {s : Sto} {lo : Lo} {i j : Int} {a b : Nat} {xs ys : List Vl} {x y : Str} {v w : Vl} {kvs : List (Key × Vl)} {k : Bool}
@[simp] theorem opAdd_int : opAdd (.int i) (.int j) s = some (.int (i + j), s) := rfl
@[simp] theorem opSub_int : opSub (.int i) (.int j) s = some (.int (i - j), s) := rfl
@[simp] theorem opNeg_int : opNeg (.int i) s = some (.int (-i), s) := rfl
@[simp] theorem opAdd_tup (h : xs.length + ys.length ≤ LIM) : opAdd (.tup xs) (.tup ys) s = some (.tup (xs ++ ys), s) := by simp only [opAdd, if_pos h]
@[simp] theorem opAdd_str (h : x.length + y.length ≤ LIM) : opAdd (.str x) (.str y) s = some (.str (x ++ y), s) := by simp only [opAdd, if_pos h]
@[simp] theorem opAdd_lst (h1 : s[a]? = some (.lst xs)) (h2 : s[b]? = some (.lst ys)) (h : xs.length + ys.length ≤ LIM) : opAdd (.ref a) (.ref b) s = some (.ref s.length, s ++ [.lst (xs ++ ys)]) := by simp only [opAdd, h1, h2, if_pos h]
@[simp] theorem opMul_int (h : (-(2 ^ 64) < i ∧ i < 2 ^ 64) ∨ (-(2 ^ 64) < j ∧ j < 2 ^ 64)) : opMul (.int i) (.int j) s = some (.int (i * j), s) := by simp only [opMul, if_pos h]
@[simp] theorem opMul_lst (h1 : s[a]? = some (.lst xs)) (h : 0 ≤ i ∧ i < 2 ^ 60 ∧ xs.length * i.toNat ≤ LIM) : opMul (.ref a) (.int i) s = some (.ref s.length, s ++ [.lst (List.replicate i.toNat xs).flatten]) := by simp only [opMul, h1, if_pos h]
@[simp] theorem opFdiv_int (h : 0 < j ∧ j < 1073741824) : opFdiv (.int i) (.int j) s = some (.int (i / j), s) := by
  have h2 : 0 < j ∧ j < 1267650600228229401496703205376 := ⟨h.1, by omega⟩
  simp only [opFdiv, if_pos h2]
@[simp] theorem opFdiv_intW (h : 0 < j ∧ j < 1267650600228229401496703205376) : opFdiv (.int i) (.int j) s = some (.int (i / j), s) := by simp only [opFdiv, if_pos h]
@[simp] theorem opMod_int (h : 0 < j) : opMod (.int i) (.int j) s = some (.int (i % j), s) := by simp only [opMod, if_pos h]
@[simp] theorem opPow_int (h : 0 ≤ j ∧ j ≤ 1000000 ∧ i.natAbs < 2 ^ 64) : opPow (.int i) (.int j) s = some (.int (i ^ j.toNat), s) := by simp only [opPow, if_pos h]
@[simp] theorem opLt_int : opLt (.int i) (.int j) s = some (.bl (decide (i < j)), s) := rfl
@[simp] theorem opLe_int : opLe (.int i) (.int j) s = some (.bl (decide (i ≤ j)), s) := rfl
@[simp] theorem opGt_int : opGt (.int i) (.int j) s = some (.bl (decide (j < i)), s) := rfl
@[simp] theorem opGe_int : opGe (.int i) (.int j) s = some (.bl (decide (j ≤ i)), s) := rfl
@[simp] theorem opIsN_non : opIsN v .non s = some (.bl (isNon v), s) := by cases v <;> rfl
@[simp] theorem opNotN_non : opNotN v .non s = some (.bl (!isNon v), s) := by cases v <;> rfl
@[simp] theorem isNon_non : isNon .non = true := rfl
@[simp] theorem isNon_int : isNon (.int i) = false := rfl
@[simp] theorem isNon_str : isNon (.str x) = false := rfl
@[simp] theorem isNon_tup : isNon (.tup xs) = false := rfl
@[simp] theorem isNon_ref : isNon (.ref a) = false := rfl
@[simp] theorem isNon_bl : isNon (.bl k) = false := rfl
@[simp] theorem opEq_int : opEq (.int i) (.int j) s = some (.bl (i == j), s) := rfl
@[simp] theorem opNe_int : opNe (.int i) (.int j) s = some (.bl (!(i == j)), s) := rfl
@[simp] theorem opEq_str : opEq (.str x) (.str y) s = some (.bl (x == y), s) := rfl
@[simp] theorem opNe_str : opNe (.str x) (.str y) s = some (.bl (!(x == y)), s) := rfl
@[simp] theorem opIx_tup : opIx (.tup xs) (.int i) s = (atI xs i).map fun v => (v, s) := rfl
@[simp] theorem opIx_lst (h : s[a]? = some (.lst xs)) : opIx (.ref a) (.int i) s = (atI xs i).map fun v => (v, s) := by simp only [opIx, h]
@[simp] theorem opIx_dicI (h : s[a]? = some (.dic kvs)) : opIx (.ref a) (.int i) s = (look kvs (.inl i)).map fun v => (v, s) := by simp only [opIx, h, keyOf]
@[simp] theorem opIx_dicS (h : s[a]? = some (.dic kvs)) : opIx (.ref a) (.str x) s = (look kvs (.inr x)).map fun v => (v, s) := by simp only [opIx, h, keyOf]
@[simp] theorem opSet_lst (h : s[a]? = some (.lst xs)) : opSet (.ref a) (.int i) v s = (ixN xs.length i).map fun n => s.set a (.lst (xs.set n v)) := by
  simp only [opSet, h]
  cases ixN xs.length i <;> rfl
@[simp] theorem opSet_dicI (h : s[a]? = some (.dic kvs)) (hl : kvs.length < LIM) : opSet (.ref a) (.int i) v s = some (s.set a (.dic (put kvs (.inl i) v))) := by simp only [opSet, h, keyOf, if_pos hl]
@[simp] theorem opSet_dicS (h : s[a]? = some (.dic kvs)) (hl : kvs.length < LIM) : opSet (.ref a) (.str x) v s = some (s.set a (.dic (put kvs (.inr x) v))) := by simp only [opSet, h, keyOf, if_pos hl]
@[simp] theorem oLen_lst (h : s[a]? = some (.lst xs)) : oLen [.ref a] s = some (.int xs.length, s) := by simp [oLen, lenM, h]
@[simp] theorem oLen_dic (h : s[a]? = some (.dic kvs)) : oLen [.ref a] s = some (.int kvs.length, s) := by simp [oLen, lenM, h]
@[simp] theorem oLen_tup : oLen [.tup xs] s = some (.int xs.length, s) := rfl
@[simp] theorem oAbs_int : oAbs [.int i] s = some (.int (if i < 0 then -i else i), s) := rfl
@[simp] theorem oInt_int : oInt [.int i] s = some (.int i, s) := rfl
@[simp] theorem oInt_bl : oInt [.bl k] s = some (.int (if k then 1 else 0), s) := rfl
@[simp] theorem oMax_int : oMax [.int i, .int j] s = some (.int (if j > i then j else i), s) := rfl
@[simp] theorem oMin_int : oMin [.int i, .int j] s = some (.int (if j < i then j else i), s) := rfl
@[simp] theorem oTup_ok (h : xs.length ≤ LIM) : oTup xs s = some (.tup xs, s) := by simp only [oTup, if_pos h]
@[simp] theorem oLst_ok (h : xs.length ≤ LIM) : oLst xs s = some (.ref s.length, s ++ [.lst xs]) := by simp only [oLst, if_pos h]
@[simp] theorem oTuple_lst (h : s[a]? = some (.lst xs)) : oTuple [.ref a] s = some (.tup xs, s) := by simp only [oTuple, h]
@[simp] theorem oTuple_tup : oTuple [.tup xs] s = some (.tup xs, s) := rfl
@[simp] theorem oList_lst (h : s[a]? = some (.lst xs)) : oList [.ref a] s = some (.ref s.length, s ++ [.lst xs]) := by simp only [oList, h]
@[simp] theorem oList_tup : oList [.tup xs] s = some (.ref s.length, s ++ [.lst xs]) := rfl
@[simp] theorem oList_dic (h : s[a]? = some (.dic kvs)) : oList [.ref a] s = some (.ref s.length, s ++ [.lst (kvs.map fun kv => keyVl kv.1)]) := by simp only [oList, h]
@[simp] theorem oAppend_lst (h : s[a]? = some (.lst xs)) (hl : xs.length < LIM) : oAppend (.ref a) [v] s = some (.non, s.set a (.lst (xs ++ [v]))) := by simp only [oAppend, h, if_pos hl]
@[simp] theorem oExtend_lst (h : s[a]? = some (.lst xs)) (h2 : s[b]? = some (.lst ys)) (hl : xs.length + ys.length ≤ LIM) : oExtend (.ref a) [.ref b] s = some (.non, s.set a (.lst (xs ++ ys))) := by simp only [oExtend, h, h2, if_pos hl]
@[simp] theorem oExtend_tup (h : s[a]? = some (.lst xs)) (hl : xs.length + ys.length ≤ LIM) : oExtend (.ref a) [.tup ys] s = some (.non, s.set a (.lst (xs ++ ys))) := by simp only [oExtend, h, if_pos hl]
@[simp] theorem oPop_lst (h : s[a]? = some (.lst (xs ++ [v]))) : oPop (.ref a) [] s = some (v, s.set a (.lst xs)) := by
  simp only [oPop, h]
  simp
@[simp] theorem kd_lst (h : s[a]? = some (.lst xs)) : kd .list (.ref a) s = true := by simp only [kd, h]
@[simp] theorem kd_dic (h : s[a]? = some (.dic kvs)) : kd .dict (.ref a) s = true := by simp only [kd, h]
@[simp] theorem kd_str : kd .str (.str x) s = true := rfl
@[simp] theorem opSl_tup {lo hi : Option Int} : opSl (.tup xs) lo hi s = some (.tup (cutL xs lo hi), s) := rfl
@[simp] theorem opSl_lst {lo hi : Option Int} (h : s[a]? = some (.lst xs)) : opSl (.ref a) lo hi s = some (.ref s.length, s ++ [.lst (cutL xs lo hi)]) := by simp only [opSl, h]
@[simp] theorem opSl_scr {lo hi : Option Int} {ns : List Int} : opSl (.scr ns) lo hi s = some (.ref s.length, s ++ [.lst ((cutL ns lo hi).map Vl.int)]) := rfl
@[simp] theorem opIn_lst (h : s[a]? = some (.lst xs)) (hf : flat v = true) (ha : xs.all flat = true) : opIn v (.ref a) s = some (.bl (inF v xs), s) := by simp only [opIn, inM, h, hf, ha, Bool.and_self, if_true]
@[simp] theorem opNotIn_lst (h : s[a]? = some (.lst xs)) (hf : flat v = true) (ha : xs.all flat = true) : opNotIn v (.ref a) s = some (.bl (!inF v xs), s) := by simp only [opNotIn, inM, h, hf, ha, Bool.and_self, if_true]
@[simp] theorem opIn_tup (hf : flat v = true) (ha : xs.all flat = true) : opIn v (.tup xs) s = some (.bl (inF v xs), s) := by simp only [opIn, inM, hf, ha, Bool.and_self, if_true]
@[simp] theorem opNotIn_tup (hf : flat v = true) (ha : xs.all flat = true) : opNotIn v (.tup xs) s = some (.bl (!inF v xs), s) := by simp only [opNotIn, inM, hf, ha, Bool.and_self, if_true]
@[simp] theorem opIn_dicI (h : s[a]? = some (.dic kvs)) : opIn (.int i) (.ref a) s = some (.bl (hasK kvs (.inl i)), s) := by simp only [opIn, inM, h, keyOf]
@[simp] theorem opNotIn_dicI (h : s[a]? = some (.dic kvs)) : opNotIn (.int i) (.ref a) s = some (.bl (!hasK kvs (.inl i)), s) := by simp only [opNotIn, inM, h, keyOf]
@[simp] theorem opIn_dicS (h : s[a]? = some (.dic kvs)) : opIn (.str x) (.ref a) s = some (.bl (hasK kvs (.inr x)), s) := by simp only [opIn, inM, h, keyOf]
@[simp] theorem opNotIn_dicS (h : s[a]? = some (.dic kvs)) : opNotIn (.str x) (.ref a) s = some (.bl (!hasK kvs (.inr x)), s) := by simp only [opNotIn, inM, h, keyOf]
@[simp] theorem flat_int : flat (.int i) = true := rfl
@[simp] theorem flat_str : flat (.str x) = true := rfl
@[simp] theorem flat_bl : flat (.bl k) = true := rfl
@[simp] theorem flat_non : flat .non = true := rfl
@[simp] theorem oSortS_ints {ns : List Int} (h : s[a]? = some (.lst (ns.map Vl.int))) : oSortS [.ref a] s = some (.ref s.length, s ++ [.lst ((srt ns).map Vl.int)]) := by simp [oSortS, h, mapO_ints]
@[simp] theorem oSortS_set {ns : List Int} (h : s[a]? = some (.set ns)) (hl : ns.length < 64) : oSortS [.ref a] s = some (.ref s.length, s ++ [.lst ((srt ns).map Vl.int)]) := by simp [oSortS, h, hl]
@[simp] theorem oSet_ints {ns : List Int} (h : s[a]? = some (.lst (ns.map Vl.int))) (hl : ns.length < 4000) : oSet [.ref a] s = some (.ref s.length, s ++ [.set (ddup ns)]) := by simp [oSet, lstOf, h, mapO_ints, hl]
@[simp] theorem oAll_bls {bs : List Bool} (h : s[a]? = some (.lst (bs.map Vl.bl))) : oAll [.ref a] s = some (.bl (bs.all id), s) := by simp [oAll, lstOf, h, mapO_bls]
@[simp] theorem oAny_bls {bs : List Bool} (h : s[a]? = some (.lst (bs.map Vl.bl))) : oAny [.ref a] s = some (.bl (bs.any id), s) := by simp [oAny, lstOf, h, mapO_bls]
@[simp] theorem oSum_ints {ns : List Int} (h : s[a]? = some (.lst (ns.map Vl.int))) : oSum [.ref a] s = some (.int ns.sum, s) := by simp [oSum, lstOf, h, mapO_ints]
theorem fldW_ins {cs : List Nat} {f : Str} {c : Nat} {fs : List (Str × Vl)} {QV : Vl → Sto → Prop} (h : s[a]? = some (.ins c fs)) : fldW cs f (.ref a) s QV = (c ∈ cs ∧ match getS fs f with | some v => QV v s | none => False) := by
  simp only [fldW, h] <;> rfl
theorem setFld_ins {cs : List Nat} {f : Str} {c : Nat} {fs : List (Str × Vl)} (h : s[a]? = some (.ins c fs)) (hc : c ∈ cs ∧ fs.length < 1000) : setFld cs f (.ref a) v s = some (s.set a (.ins c (putS f v fs))) := by simp only [setFld, h, if_pos hc]
theorem methW_ins {m : Str} {tab : MTab} {c : Nat} {fs : List (Str × Vl)} {mf : List Vl → M Vl} {P : (List Vl → M Vl) → Prop} (h : s[a]? = some (.ins c fs)) (ht : tab c = some mf) (hg : getS fs m = none) : methW m tab (.ref a) s P = P mf := by simp only [methW, h, ht, hg]
@[simp] theorem lim0 : (0 ≤ LIM) = True := eq_true (by decide)
@[simp] theorem lim1 : (1 ≤ LIM) = True := eq_true (by decide)
@[simp] theorem lim2 : (2 ≤ LIM) = True := eq_true (by decide)
@[simp] theorem lim3 : (3 ≤ LIM) = True := eq_true (by decide)
@[simp] theorem lim4 : (4 ≤ LIM) = True := eq_true (by decide)
@[simp] theorem lim5 : (5 ≤ LIM) = True := eq_true (by decide)
@[simp] theorem lim6 : (6 ≤ LIM) = True := eq_true (by decide)
@[simp] theorem limz : (0 < LIM) = True := eq_true (by decide)
theorem limB {n : Nat} (h : n ≤ 1000000) : n ≤ LIM := Nat.le_trans h (by decide)
theorem limC {n : Nat} (h : n < 1000000) : n < LIM := Nat.lt_of_lt_of_le h (by decide)
end
theorem ixN_nat {n m : Nat} (h : n < m) : ixN m (n : Int) = some n := by
  simp [ixN, h]
theorem atN {α : Type} {xs : List α} {n : Nat} : atI xs (n : Int) = xs[n]? := by
  by_cases h : n < xs.length
  · simp [atI, ixN_nat h]
  · simp [atI, ixN, h, List.getElem?_eq_none (Nat.le_of_not_lt h)]
@[simp] theorem atI_0 {α : Type} {xs : List α} : atI xs 0 = xs[0]? := atN (n := 0)
@[simp] theorem atI_1 {α : Type} {xs : List α} : atI xs 1 = xs[1]? := atN (n := 1)
@[simp] theorem atI_2 {α : Type} {xs : List α} : atI xs 2 = xs[2]? := atN (n := 2)
@[simp] theorem atI_3 {α : Type} {xs : List α} : atI xs 3 = xs[3]? := atN (n := 3)
@[simp] theorem atLast {α : Type} {xs : List α} {v : α} : atI (xs ++ [v]) (-1) = some v := by
  have : ixN (xs ++ [v]).length (-1) = some xs.length := by
    simp [ixN]
    omega
  unfold atI
  rw [this]
  simp
@[simp] theorem cutL_nat {α : Type} {xs : List α} {n : Nat} : cutL xs none (some (n : Int)) = xs.take n := by
  unfold cutL
  rw [HT.sIx_none, HT.sIx_nat]
  simp [List.take_eq_take_iff]
theorem lcX_p {g : GL} {t : TM} {e : EM} {lo : Lo} {d : Nat} {xs : List Vl} {s0 : Sto} {Q : Sto → Prop} (s : Sto) (f : Vl → Option Vl) (h1 : d = s.length) (h2 : s0 = s ++ [.lst []]) (hl : xs.length < 1000000) (hx : ∀ x ∈ xs, LcP g t e lo s x (f x)) (hd : Q (s ++ [.lst (xs.filterMap f)])) : WL (lcX g t e d lo xs s0) Q := by
  subst h1 h2
  exact lcX_pure f (limC hl) hx hd
theorem lcL_p {j : Nat} {g : GL} {t : TM} {e : EM} {lo : Lo} {d : Nat} {xs : List Vl} {s0 : Sto} {Q : Sto → Prop} (s : Sto) (f : Vl → Option Vl) (h1 : d = s.length) (h2 : s0 = s ++ [.lst []]) (hj : s[j]? = some (.lst xs)) (hf : xs.length < 100000) (hx : ∀ x ∈ xs, LcP g t e lo s x (f x)) (hd : Q (s ++ [.lst (xs.filterMap f)])) :
    WL (lcN (nxLst j) g t e d lo 100000 0 s0) Q := by
  subst h1 h2
  exact lcL_pure f hj (limC (by omega)) hf hx hd
end Sm

/-! S17: texts of plain values; == with an empty list -/
namespace Sm
open PySem L2
/-- a plain value, at most n deep, at most w wide -/
def Pn (n w : Nat) (v : Vl) : Prop := ∃ d : PyData, (∀ s m, n ≤ m → toD m s v = some d) ∧ d.leavesShort 13 = true ∧ d.showable = true ∧ d.weight ≤ w
theorem Pn.mono {n m w z : Nat} {v : Vl} (h : Pn n w v) (h1 : n ≤ m) (h2 : w ≤ z) : Pn m z v := by
  obtain ⟨d, a, b, c, e⟩ := h
  exact ⟨d, fun s k hk => a s k (Nat.le_trans h1 hk), b, c, Nat.le_trans e h2⟩
theorem Pn.non : Pn 1 64 .non := by
  refine ⟨.none, fun s m hm => ?_, rfl, rfl, by simp [PyData.weight]⟩
  obtain ⟨m, rfl⟩ : ∃ k, m = k + 1 := ⟨m - 1, by omega⟩
  rfl
theorem Pn.int {i : Int} (h : i.natAbs < 10 ^ 12) : Pn 1 64 (.int i) := by
  refine ⟨.int i, fun s m hm => ?_, ?_, ?_, ?_⟩
  · obtain ⟨m, rfl⟩ : ∃ k, m = k + 1 := ⟨m - 1, by omega⟩
    rfl
  · have := int_text_length_le10 (a := i) (k := 12) (by omega) h
    simp only [PyData.leavesShort, PyData.shown]
    refine decide_eq_true ?_
    have e : (Str.ofString (toString i)).length = (toString i).length := ofString_length _
    omega
  · simp only [PyData.showable, decide_eq_true_eq]
    rcases Nat.eq_zero_or_pos i.natAbs with z | z
    · rw [z]; decide
    · have : i.natAbs.log2 < 40 := by
        rw [Nat.log2_lt (by omega)]
        exact Nat.lt_of_lt_of_le h (by decide)
      omega
  · simp only [PyData.weight]
    split
    · omega
    · rename_i z
      have z : i.natAbs ≠ 0 := by simp at z; omega
      have : i.natAbs.log2 < 40 := by
        rw [Nat.log2_lt z]
        exact Nat.lt_of_lt_of_le h (by decide)
      omega
theorem Pn.str {x : Str} (h : (x.cps.toList.all fun c => decide (c < 16 ^ 8)) = true) (hl : x.length ≤ 64) : Pn 1 64 (.str x) := by
  refine ⟨.str x, fun s m hm => ?_, ?_, rfl, ?_⟩
  · obtain ⟨m, rfl⟩ : ∃ k, m = k + 1 := ⟨m - 1, by omega⟩
    rfl
  · exact h
  · exact hl
theorem Pn.all {n w : Nat} : ∀ {xs : List Vl}, (∀ x ∈ xs, Pn n w x) → ∃ ds : List PyData, (∀ s m, n ≤ m → mapO (toD m s) xs = some ds) ∧ PyData.leavesShortAll 13 ds = true ∧ PyData.showableAll ds = true ∧ PyData.weightAll ds ≤ xs.length * (w + 1)
  | [], _ => ⟨[], fun _ _ _ => rfl, rfl, rfl, by simp [PyData.weightAll]⟩
  | x :: xs, h => by
    obtain ⟨d, a, b, c, e⟩ := h x (List.mem_cons_self ..)
    obtain ⟨ds, a', b', c', e'⟩ := Pn.all fun y hy => h y (List.mem_cons_of_mem _ hy)
    refine ⟨d :: ds, fun s m hm => ?_, ?_, ?_, ?_⟩
    · simp only [mapO, a s m hm, a' s m hm]
    · simp only [PyData.leavesShortAll, b, b', Bool.and_self]
    · simp only [PyData.showableAll, c, c', Bool.and_self]
    · simp only [PyData.weightAll, List.length_cons, Nat.add_mul, Nat.one_mul]
      omega
theorem Pn.tup {n w : Nat} {xs : List Vl} (h : ∀ x ∈ xs, Pn n w x) : Pn (n + 1) (xs.length * (w + 1)) (.tup xs) := by
  obtain ⟨ds, a, b, c, e⟩ := Pn.all h
  refine ⟨.tuple ds, fun s m hm => ?_, ?_, ?_, ?_⟩
  · obtain ⟨m, rfl⟩ : ∃ k, m = k + 1 := ⟨m - 1, by omega⟩
    simp only [toD, a s m (by omega), Option.map]
  · simpa only [PyData.leavesShort] using b
  · simpa only [PyData.showable] using c
  · simpa only [PyData.weight] using e
theorem Pn.repr {n w : Nat} {v : Vl} (h : Pn n w v) (hn : n ≤ 40) (hw : w ≤ 2 ^ 20) : ∃ x, ∀ s, oRepr [v] s = some (.str x, s) := by
  obtain ⟨d, a, b, c, e⟩ := h
  refine ⟨d.shown, fun s => ?_⟩
  have : d.shown.length ≤ LIM := by
    rw [← lim_eq]
    exact PyData.shown_fits (by omega) (by omega) b (by omega)
  simp only [oRepr, a s 40 hn, c, this, decide_true, Bool.and_self, if_true]
theorem canLay_ints : ∀ ns : List Int, PyData.canLayAll0 (ns.map PyData.int) = true
  | [] => rfl
  | n :: ns => by simp only [List.map_cons, PyData.canLayAll0, PyData.canLay0, canLay_ints ns, Bool.and_self]
theorem toD_ints {s : Sto} {m : Nat} : ∀ ns : List Int, mapO (toD (m + 1) s) (ns.map Vl.int) = some (ns.map PyData.int)
  | [] => rfl
  | n :: ns => by
    have e : toD (m + 1) s (.int n) = some (.int n) := rfl
    simp only [List.map_cons, mapO, e, toD_ints ns]
theorem toD_lst {s : Sto} {m a : Nat} {xs : List Vl} (h : s[a]? = some (.lst xs)) : toD (m + 1) s (.ref a) = (mapO (toD m s) xs).map .list := by
  unfold toD
  simp only [h]
theorem eqM_nil {s : Sto} {a b : Nat} {ns : List Int} (h1 : s[a]? = some (.lst (ns.map Vl.int))) (h2 : s[b]? = some (.lst [])) : eqM (.ref a) (.ref b) s = some ns.isEmpty := by
  have e1 : toD 40 s (.ref a) = some (.list (ns.map PyData.int)) := by
    rw [toD_lst (m := 39) h1, toD_ints (m := 38)]
    rfl
  have e2 : toD 40 s (.ref b) = some (.list []) := by
    rw [toD_lst (m := 39) h2]
    rfl
  have e3 : PyData.canLay0 (.list (ns.map PyData.int)) = true := by simpa only [PyData.canLay0] using canLay_ints ns
  have e4 : PyData.canLay0 (.list []) = true := rfl
  simp only [eqM, eqS, e1, e2, e3, e4, Bool.and_self, if_true, PyData.eqv]
  cases ns <;> simp [PyData.eqvAll]
theorem opEq_nil {s : Sto} {a b : Nat} {ns : List Int} (h1 : s[a]? = some (.lst (ns.map Vl.int))) (h2 : s[b]? = some (.lst [])) : opEq (.ref a) (.ref b) s = some (.bl ns.isEmpty, s) := by
  simp only [opEq, eqM_nil h1 h2]
section
variable {mf : List Vl → M Vl} {s : Sto} {QV : Vl → Sto → Prop} {E : Ex → Sto → Prop} {x y z : Vl}
end
@[simp] theorem rngW_nat {n : Nat} {s : Sto} {QA : List Vl → Sto → Prop} (h : n < 1000000) : rngW [.int (n : Int)] s QA = QA (rng 0 n) s := by
  rw [rngW_one]
  have h1 : -(2 ^ 62) ≤ (n : Int) := by omega
  have h2 : (n : Int) < 2 ^ 62 := by omega
  have e : (n : Int).toNat = n := Int.toNat_natCast n
  rw [e]
  exact propext ⟨fun z => z.2, fun z => ⟨⟨h1, h2⟩, z⟩⟩
theorem rng_get {n i : Nat} {v : Vl} (h : (rng 0 n)[i]? = some v) : i < n ∧ v = .int (i : Nat) := by
  have h1 := (List.getElem?_eq_some_iff.mp h).1
  have h2 : i < n := by simpa [rng] using h1
  refine ⟨h2, ?_⟩
  simp [rng, h2] at h
  exact h.symm
@[simp] theorem rng_len {n : Nat} : (rng 0 n).length = n := by simp [rng]
end Sm

/-! S23: dicts, lists of ints, new rules of the pure programs; plain lemmas -/
namespace Sm
open PySem L2
section
variable {s : Sto} {lo : Lo} {QV : Vl → Sto → Prop} {E : Ex → Sto → Prop}
@[simp ↓] theorem WE_eMakeB {c : Nat} : WE (eMakeB c lo) s QV E = QV (.ref s.length) (s ++ [.ins c []]) := by simp only [WE_eq]; rfl
@[simp ↓] theorem WE_starM {n : Nat} {mf : List Vl → M Vl} {as : List Vl} : WE (starM n mf as) s QV E = (if n ≤ as.length ∧ as.length ≤ LIM then WE (mf (as.take n ++ [.tup (as.drop n)])) s QV E else False) := by
  by_cases h : n ≤ as.length ∧ as.length ≤ LIM
  · simp only [WE_eq, WE0, starM, if_pos h]
  · simp only [WE_eq, WE0, starM, if_neg h]
def callW (tab : MTab) (j : Nat) (s : Sto) (P : (List Vl → M Vl) → Prop) : Prop := match s[j]? with
  | some (.ins c _) => match tab c with
    | some mf => P mf
    | none => False
  | _ => False
theorem callW_ins {tab : MTab} {c j : Nat} {fs : List (Str × Vl)} {mf : List Vl → M Vl} {P : (List Vl → M Vl) → Prop} (h : s[j]? = some (.ins c fs)) (ht : tab c = some mf) : callW tab j s P = P mf := by simp only [callW, h, ht]
theorem WE_eCallO {tab : MTab} {o : EM} {a : AM} : WE (eCallO tab o a lo) s QV E = WE (o lo) s (fun x s => match x with | .ref j => WE (a lo) s (fun as s => callW tab j s fun mf => WE (mf (.ref j :: as)) s QV E) E | _ => False) E := by
  unfold eCallO
  rw [WE_bnd]
  refine WE_ext fun x s => ?_
  cases x <;> try (simp only [WE_eq]; rfl)
  rename_i j
  show WE (bnd (a lo) _) s QV E = _
  rw [WE_bnd]
  refine WE_ext fun as s => ?_
  simp only [WE_eq]
  unfold WE0 callW
  simp only
  cases h : s[j]? with
  | none => rfl
  | some o =>
    cases o <;> try rfl
    rename_i c fs
    simp only
    cases h1 : tab c with
    | none => rfl
    | some mf => simp only [WE_eq] <;> rfl
end
theorem put_len {κ : Type} [DecidableEq κ] {kvs : List (κ × Vl)} {k : κ} {v : Vl} : (put kvs k v).length ≤ kvs.length + 1 := by
  induction kvs with
  | nil => simp [put]
  | cons p r ih =>
    unfold put
    split
    · simp
    · simp; omega
@[simp] theorem look_put_self {κ : Type} [DecidableEq κ] {kvs : List (κ × Vl)} {k : κ} {v : Vl} : look (put kvs k v) k = some v := by
  induction kvs with
  | nil => simp [put, look]
  | cons p r ih =>
    unfold put
    split
    · simp [look]
    · rename_i h
      simp [look, h, ih]
theorem look_put_ne {κ : Type} [DecidableEq κ] {kvs : List (κ × Vl)} {k k' : κ} {v : Vl} (h : k ≠ k') : look (put kvs k v) k' = look kvs k' := by
  induction kvs with
  | nil => simp [put, look, h]
  | cons p r ih =>
    unfold put
    split
    · rename_i e
      simp only [look]
      rw [if_neg h, if_neg (by rw [e]; exact h)]
    · simp only [look]
      split
      · rfl
      · exact ih
theorem hasK_keys {y : Int} : ∀ {kvs : List (Key × Vl)} {K : List Int}, kvs.map (·.1) = K.map Sum.inl → hasK kvs (.inl y) = decide (y ∈ K)
  | [], [], _ => by simp [hasK]
  | [], _ :: _, h => by simp at h
  | _ :: _, [], h => by simp at h
  | p :: r, k :: K, h => by
    simp only [List.map_cons, List.cons.injEq] at h
    unfold hasK
    by_cases q : p.1 = .inl y
    · have : k = y := by rw [q] at h; have := h.1; cases this; rfl
      simp [q, this]
    · have : y ≠ k := fun e => q (by rw [h.1, e])
      rw [if_neg q, hasK_keys h.2]
      simp [this]
theorem put_new {y : Int} {v : Vl} : ∀ {kvs : List (Key × Vl)} {K : List Int}, kvs.map (·.1) = K.map Sum.inl → y ∉ K → (put kvs (.inl y) v).map (·.1) = (K ++ [y]).map Sum.inl
  | [], [], _, _ => rfl
  | [], _ :: _, h, _ => by simp at h
  | _ :: _, [], h, _ => by simp at h
  | p :: r, k :: K, h, hy => by
    simp only [List.map_cons, List.cons.injEq] at h
    simp only [List.mem_cons, not_or] at hy
    unfold put
    have q : p.1 ≠ .inl y := fun e => hy.1 (by rw [h.1] at e; cases e; rfl)
    rw [if_neg q]
    simp only [List.map_cons, List.cons_append, put_new h.2 hy.2, h.1]
theorem nodup_sub : ∀ {A B : List Int}, A.Nodup → (∀ x ∈ A, x ∈ B) → A.length ≤ B.length
  | [], B, _, _ => Nat.zero_le _
  | a :: A, B, nd, h => by
    have ha := h a (List.mem_cons_self ..)
    simp only [List.nodup_cons] at nd
    have ih := nodup_sub (B := B.erase a) nd.2 fun x hx => (List.mem_erase_of_ne (show x ≠ a from fun e => nd.1 (e ▸ hx))).mpr (h x (List.mem_cons_of_mem _ hx))
    rw [List.length_erase_of_mem ha] at ih
    have := List.length_pos_of_mem ha
    simp only [List.length_cons]
    omega
abbrev Inc (A : List Int) : Prop := A.Pairwise (· < ·)
theorem Inc.nodup {A : List Int} (h : Inc A) : A.Nodup := h.imp fun a => by omega
theorem srt_inc {A : List Int} (nd : A.Nodup) : Inc (srt A) := by
  have h1 := srt_sorted A
  have h2 : (srt A).Nodup := (srt_perm A).nodup_iff.mpr nd
  exact (h1.and h2).imp fun h => by omega
theorem mem_srt {A : List Int} {x : Int} : x ∈ srt A ↔ x ∈ A := (srt_perm A).mem_iff
theorem srt_len {A : List Int} : (srt A).length = A.length := (srt_perm A).length_eq
@[simp] theorem inF_ints {c : Int} : ∀ C : List Int, inF (.int c) (C.map Vl.int) = decide (c ∈ C)
  | [] => by simp [inF]
  | x :: C => by
    have := inF_ints (c := c) C
    have e : eqF (.int x) (.int c) = decide (c = x) := by
      simp [eqF]
      by_cases q : x = c
      · simp [q]
      · simp [q, Ne.symm q]
    simp [inF, e] at this ⊢
    rw [this]
@[simp] theorem flat_ints {xs : List Int} : (xs.map Vl.int).all flat = true := by simp [List.all_map]
theorem keys_list {kvs : List (Key × Vl)} {K : List Int} (h : kvs.map (·.1) = K.map Sum.inl) : (kvs.map fun kv => keyVl kv.1) = K.map Vl.int := by
  have : (kvs.map fun kv => keyVl kv.1) = (kvs.map (·.1)).map keyVl := by simp
  rw [this, h, List.map_map]
  rfl
end Sm

/-! PD: the deck of numbers (the texts _law_deck, _law_draw, _law_one) -/
namespace K48
open PySem L2 Sm
theorem map_int_get {cells : List Int} {p : Nat} (h : p < (cells ++ [0]).length) : ∃ x, ((cells ++ [(0 : Int)]).map Vl.int)[p]? = some (.int x) ∧ (cells ++ [0])[p]? = some x := by
  refine ⟨(cells ++ [0])[p], ?_, ?_⟩
  · rw [List.getElem?_map, List.getElem?_eq_getElem h]; rfl
  · exact List.getElem?_eq_getElem h
theorem draw_spec {s : Sto} {d l c : Nat} {cells : List Int} {many : Int} (D : Deck s d l c cells) (hl : cells.length ≤ 63) (hm : 0 < many) (hm2 : many < 1073741824) (hc : c < 1000000) :
    WE (m__law_draw [.ref d, .int many]) s (fun v s' => ∃ (r : Int) (cells' : List Int), v = .int r ∧ 0 ≤ r ∧ r < many ∧ Deck s' d l (c + 1) cells' ∧ cells'.length = cells.length ∧ Fr [d, l] s s') NoX := by
  have h1 := D.top
  have h2 := D.cel
  have hne := D.ne
  have hld := lt_of_get h1
  unfold m__law_draw b__law_draw
  simp [h1, h2, ixN, atI, List.replicate, get_set_self h1, get_set_ne hne.symm]
  obtain ⟨M, hM, hM1, hM2⟩ : ∃ M : Int, M = (if 1 < (cells.length : Int) then (cells.length : Int) else 1) ∧ 0 < M ∧ M ≤ cells.length + 1 := ⟨_, rfl, by split <;> omega, by split <;> omega⟩
  rw [← hM]
  have hp0 := Int.emod_nonneg ((c : Int) + 1) (Int.ne_of_gt hM1)
  have hp1 := Int.emod_lt_of_pos ((c : Int) + 1) hM1
  obtain ⟨p, hp⟩ : ∃ p : Nat, ((c : Int) + 1) % M = p := ⟨_, (Int.toNat_of_nonneg hp0).symm⟩
  have hpl : p < (cells ++ [(0 : Int)]).length := by simp; omega
  obtain ⟨x, hx, hx'⟩ := map_int_get hpl
  have hx0 : 0 ≤ x := by
    have := List.mem_of_getElem? hx'
    simp at this
    rcases this with h | h
    · exact D.nn x h
    · omega
  generalize hs1 : s.set d (Ob.lst [Vl.ref l, Vl.int (↑c + 1)]) = s1
  have e1 : s1[d]? = some (.lst [.ref l, .int (c + 1)]) := by rw [← hs1]; exact get_set_self h1
  have e2 : s1[l]? = some (.lst (cells.map Vl.int)) := by rw [← hs1, get_set_ne hne.symm]; exact h2
  have f1 : Fr [d, l] s s1 := hs1 ▸ Fr.refl.set (Or.inl (List.mem_cons_self ..))
  have g1 : ∀ {o : Ob}, (s1 ++ [o])[d]? = some (.lst [.ref l, .int (c + 1)]) := get_push e1
  have g2 : ∀ {o : Ob}, (s1 ++ [o])[l]? = some (.lst (cells.map Vl.int)) := get_push e2
  have g3 : ∀ {t : Sto}, (s1 ++ t)[d]? = some (.lst [.ref l, .int (c + 1)]) := get_app e1
  have g4 : ∀ {t : Sto}, (s1 ++ t)[l]? = some (.lst (cells.map Vl.int)) := get_app e2
  rw [opMod_int hM1, hp]
  have hll : cells.length + 1 ≤ LIM := limB (by omega)
  simp only [List.map_append, List.map_cons, List.map_nil] at hx
  have hlt : p < cells.length + 1 := by simpa using hpl
  simp [e1, e2, g1, g2, g3, g4, atN, opAdd_lst g2 get_last, hll, hx]
  generalize hs2 : s1 ++ [Ob.lst [Vl.int 0], Ob.lst (List.map Vl.int cells ++ [Vl.int 0])] = s2
  have k1 : s2[d]? = some (.lst [.ref l, .int (c + 1)]) := by rw [← hs2]; exact g3
  have k2 : s2[l]? = some (.lst (cells.map Vl.int)) := by rw [← hs2]; exact g4
  have f2 : Fr [d, l] s s2 := hs2 ▸ f1.app _
  by_cases hbig : 1000000000000000000 ≤ x
  · have hpc : p < cells.length := by
      rcases Nat.lt_or_ge p cells.length with h | h
      · exact h
      · have : p = cells.length := by omega
        subst this
        simp at hx'
        omega
    have hq : 0 ≤ x / many := Int.ediv_nonneg hx0 (by omega)
    have i2 := ixN_nat hpc
    simp [hbig, k1, k2, hm, hm2, i2]
    refine ⟨Int.emod_nonneg x (by omega), Int.emod_lt_of_pos x hm, cells.set p (x / many), ⟨?_, ?_, ?_, hne⟩, by simp, f2.set (by simp)⟩
    · rw [get_set_ne hne]; exact k1
    · rw [get_set_self k2, List.map_set]
    · intro y hy
      rcases List.mem_or_eq_of_mem_set hy with h | h
      · exact D.nn y h
      · omega
  · have hq0 : 0 ≤ x % 2147483587 := Int.emod_nonneg x (by omega)
    have hq1 : x % 2147483587 < 2147483587 := Int.emod_lt_of_pos x (by omega)
    generalize x % 2147483587 = q at hq0 hq1
    have hb : (q + 7919 * ((c : Int) + 1) + 1).natAbs < 2 ^ 64 := by omega
    simp [hbig, k1, k2, hm, hm2, hb]
    exact ⟨Int.emod_nonneg _ (by omega), Int.emod_lt_of_pos _ hm, cells, ⟨k1, k2, D.nn, hne⟩, rfl, f2⟩
/-- a deck of at most 63 numbers, at most c of them drawn -/
def Dk (s : Sto) (d l c : Nat) : Prop := ∃ k cells, k ≤ c ∧ cells.length ≤ 63 ∧ Deck s d l k cells
theorem Dk.fr {X : List Nat} {s s' : Sto} {d l c : Nat} (D : Dk s d l c) (f : Fr X s s') (h1 : d ∉ X) (h2 : l ∉ X) : Dk s' d l c := by
  obtain ⟨k, cells, a, b, D⟩ := D
  exact ⟨k, cells, a, b, D.fr f h1 h2⟩
theorem Dk.mono {s : Sto} {d l c c' : Nat} (D : Dk s d l c) (h : c ≤ c') : Dk s d l c' := by
  obtain ⟨k, cells, a, b, D⟩ := D
  exact ⟨k, cells, Nat.le_trans a h, b, D⟩
theorem Dk.lt {s : Sto} {d l c : Nat} (D : Dk s d l c) : d < s.length ∧ l < s.length := by
  obtain ⟨k, cells, a, b, D⟩ := D
  exact ⟨lt_of_get D.top, lt_of_get D.cel⟩
theorem draw {s : Sto} {d l c : Nat} {many : Int} (D : Dk s d l c) (hm : 0 < many) (hm2 : many < 1073741824) (hc : c < 1000000) :
    WE (m__law_draw [.ref d, .int many]) s (fun v s' => ∃ (r : Nat), v = .int r ∧ (r : Int) < many ∧ Dk s' d l (c + 1) ∧ Fr [d, l] s s') NoX := by
  obtain ⟨k, cells, a, b, D⟩ := D
  refine (draw_spec D b hm hm2 (by omega)).use ?_
  rintro v s' ⟨r, cells', rfl, h0, h1, h2, h3, h4⟩
  exact ⟨r.toNat, by rw [Int.toNat_of_nonneg h0], by omega, ⟨k + 1, cells', by omega, by omega, h2⟩, h4⟩
theorem one {s : Sto} {d l c a : Nat} {xs : List Vl} (D : Dk s d l c) (ha : s[a]? = some (.lst xs)) (hd : a ∉ [d, l]) (h0 : 0 < xs.length) (h1 : xs.length < 1073741824) (hc : c < 1000000) :
    WE (m__law_one [.ref d, .ref a]) s (fun v s' => v ∈ xs ∧ Dk s' d l (c + 1) ∧ Fr [d, l] s s') NoX := by
  unfold m__law_one b__law_one
  simp [ha]
  refine (draw D (by omega) (by omega) hc).use ?_
  rintro v s' ⟨r, rfl, h2, h3, h4⟩
  have h5 := h4.at ha hd
  have h6 : r < xs.length := by omega
  simp [opIx_lst h5, atN, h6, h3, h4]
theorem deck {s : Sto} {ns : List Int} (h : ns.length ≤ 63) : WE (m__law_deck [.scr ns]) s (fun v s' => ∃ d l, v = .ref d ∧ Dk s' d l 0 ∧ Fr [] s s') NoX := by
  unfold m__law_deck b__law_deck
  have e63 : cutL ns none (some 63) = ns.take 63 := cutL_nat (n := 63)
  simp
  rw [e63]
  refine lcL_p (xs := (ns.take 63).map Vl.int) (s ++ [.lst ((ns.take 63).map Vl.int)]) (fun v => match v with | .int i => some (.int (if i < 0 then -i else i)) | _ => none) (by simp) (by simp) get_last (by simp; omega) ?_ ?_
  · intro x hx acc
    obtain ⟨i, _, rfl⟩ := List.mem_map.mp hx
    refine ⟨_, rfl, ?_⟩
    simp [tTrue, wipeL]
  · have e : ((ns.take 63).map Vl.int).filterMap (fun v => match v with | .int i => some (.int (if i < 0 then -i else i)) | _ => none) = ((ns.take 63).map fun i : Int => if i < 0 then -i else i).map Vl.int := by
      rw [List.filterMap_map, List.map_map, ← List.filterMap_eq_map]
      rfl
    rw [e]
    have hcl : ((ns.take 63).map fun i : Int => if i < 0 then -i else i).length ≤ 63 := by simp; omega
    have hcn : ∀ x ∈ ((ns.take 63).map fun i : Int => if i < 0 then -i else i), 0 ≤ x := by
      intro x hx
      obtain ⟨a, _, rfl⟩ := List.mem_map.mp hx
      split <;> omega
    generalize ((ns.take 63).map fun i : Int => if i < 0 then -i else i) = cs at hcl hcn
    generalize (ns.take 63).map Vl.int = o1
    simp
    refine ⟨⟨s.length + 1, 0, cs, Nat.le_refl _, hcl, ⟨?_, ?_, hcn, ?_⟩⟩, Fr.refl.app _⟩
    · rw [List.getElem?_append_right (by omega)]
      simp
    · rw [List.getElem?_append_right (by omega)]
      simp
    · omega
end K48

/-! QV: views that the law draws -/
namespace K48
open PySem L2 Sm
structure Rw where
  cell : Int
  st : Bool
  re : Bool
  hs : List Int
def Rw.vl (r : Rw) : Vl := .tup [.int r.cell, .bl r.st, .bl r.re, .tup (r.hs.map Vl.int)]
structure View where
  m : Nat
  p : Nat
  rows : List Rw
def View.vl (V : View) : Vl := .tup [.int V.m, .int V.p, .tup (V.rows.map Rw.vl)]
structure Rw.ok (r : Rw) : Prop where
  c : 0 ≤ r.cell ∧ r.cell < 1000
  n : r.hs.length ≤ 8
  h : ∀ x ∈ r.hs, 0 ≤ x ∧ x < 1000
structure View.ok (V : View) : Prop where
  m : V.m < 1000
  p : V.p < 24
  n : V.rows.length ≤ 8
  r : ∀ r ∈ V.rows, r.ok
  i : Inc (V.rows.map (·.cell))
theorem oneNew {s : Sto} {d l c : Nat} {xs : List Vl} (D : Dk s d l c) (h0 : 0 < xs.length) (h1 : xs.length < 1073741824) (hc : c < 1000000) :
    WE (m__law_one [.ref d, .ref s.length]) (s ++ [.lst xs]) (fun v s' => v ∈ xs ∧ Dk s' d l (c + 1) ∧ Fr [d, l] s s') NoX := by
  have hlt := D.lt
  refine (one (D.fr (Fr.refl.push (X := []) _) (by simp) (by simp)) get_last (by simp; omega) h0 h1 hc).use ?_
  rintro v s' ⟨a, b, f⟩
  exact ⟨a, b, (Fr.refl.push _).trans f⟩
/-- what a dict of held cells tells of a cell -/
structure HeldE (s : Sto) (base : Nat) (kh : List (Key × Vl)) (cells : List Int) (x : Int) : Prop where
  ex : ∃ (r : Nat) (row : List Int), look kh (.inl x) = some (.ref r) ∧ s[r]? = some (.lst (row.map Vl.int)) ∧ (∀ y ∈ row, y ∈ cells) ∧ row.length ≤ 2 ∧ base ≤ r
theorem HeldE.fr {X : List Nat} {s s' : Sto} {base : Nat} {kh : List (Key × Vl)} {cells : List Int} {x : Int} (h : HeldE s base kh cells x) (f : Fr X s s') (hx : ∀ i ∈ X, i < base) : HeldE s' base kh cells x := by
  obtain ⟨r, row, a, b, c, d, e⟩ := h
  exact ⟨r, row, a, f.at b (fun z => by have := hx r z; omega), c, d, e⟩
/-- the row of one cell: what it holds -/
theorem rowC {s : Sto} {d l c ic : Nat} {cells : List Int} {lo : Lo} {Q : Sto → Prop} {n : Nat} (D : Dk s d l c) (hic : s[ic]? = some (.lst (cells.map Vl.int))) (hd : ic ∉ [d, l]) (h0 : 0 < cells.length) (h8 : cells.length ≤ 8) (hn : n ≤ 2) (hc : c + 10 < 1000000)
    (l0 : lo[0]? = some (some (.ref d))) (l1 : 1 < lo.length) (l6 : lo[6]? = some (some (.ref ic)))
    (hQ : ∀ (s' : Sto) (row : List Int), s'[s.length]? = some (.lst (row.map Vl.int)) → (∀ y ∈ row, y ∈ cells) → row.length ≤ 2 → Dk s' d l (c + 2) → Fr [d, l] s s' → Q s') :
    WL (lcX (glN 1) tTrue (eCall (arg 2 m__law_one) (aCons (eVar 0) (aCons (eVar 6) aNil))) s.length lo (rng 0 n) (s ++ [.lst []])) Q := by
  have hlt := D.lt
  refine lcX_inv (fun i s' => ∃ row : List Int, s'[s.length]? = some (.lst (row.map Vl.int)) ∧ (∀ y ∈ row, y ∈ cells) ∧ row.length = i ∧ Dk s' d l (c + i) ∧ Fr [d, l] s s') ?_ ?_ ?_
  · exact ⟨[], by simp, by simp, rfl, D.fr (Fr.refl.push (X := []) _) (by simp) (by simp), Fr.refl.push _⟩
  · rintro i v s1 hv ⟨row, g1, g2, g3, D1, f1⟩
    obtain ⟨hi, rfl⟩ := rng_get hv
    refine ⟨_, rfl, ?_⟩
    unfold LcT tTrue
    have e0 : (lo.set 1 (some (Vl.int (i : Nat))))[0]? = some (some (.ref d)) := by rw [List.getElem?_set_ne (by omega)]; exact l0
    have e6 : (lo.set 1 (some (Vl.int (i : Nat))))[6]? = some (some (.ref ic)) := by rw [List.getElem?_set_ne (by omega)]; exact l6
    simp [e0, e6, l0, l6]
    refine (one D1 (f1.at hic hd) hd (by simpa using h0) (by simp; omega) (by omega)).use ?_
    rintro v s2 ⟨hv2, D2, f2⟩
    obtain ⟨y, hy, rfl⟩ := List.mem_map.mp hv2
    have g4 := f2.at g1 (by simp; omega)
    simp only [g4]
    refine ⟨limC (by simp; omega), row ++ [y], ?_, ?_, by simp [g3], ?_, ?_⟩
    · rw [get_set_self g4]; simp
    · intro z hz
      rcases List.mem_append.mp hz with q | q
      · exact g2 z q
      · simp at q; rw [q]; exact hy
    · exact D2.fr (Fr.refl.set (X := [s.length]) (by simp)) (by simp; omega) (by simp; omega)
    · exact (f1.trans f2).set (Or.inr (Nat.le_refl _))
  · rintro s1 ⟨row, g1, g2, g3, D1, f1⟩
    rw [rng_len] at g3 D1
    exact hQ s1 row g1 g2 (by omega) (D1.mono (by omega)) f1
end K48

/-! QW: the law's view -/
namespace K48
open PySem L2 Sm
/-- a cell's truth -/
def StE (ks : List (Key × Vl)) (x : Int) : Prop := ∃ b, look ks (.inl x) = some (.bl b)
/-- the second loop's state -/
structure J2 (s : Sto) (d l ic many : Nat) (at_ : Int) (cells : List Int) (B i : Nat) (lo : Lo) (s' : Sto) (kh ks : List (Key × Vl)) : Prop where
  lo : ∃ x1 x2, lo = [some (.ref d), x1, x2, none, some (.int many), some (.int at_), some (.ref ic), some (.ref (ic + 1)), some (.ref (ic + 2)), none, none, none]
  c : s'[ic]? = some (.lst (cells.map Vl.int))
  h : s'[ic + 1]? = some (.dic kh)
  t : s'[ic + 2]? = some (.dic ks)
  lh : kh.length ≤ i
  ls : ks.length ≤ i
  hh : ∀ x ∈ cells.take i, HeldE s' (ic + 3) kh cells x
  hs : ∀ x ∈ cells.take i, StE ks x
  D : Dk s' d l (B + 4 * i)
  f : Fr [d, l] s s'
def I2 (s : Sto) (d l ic many : Nat) (at_ : Int) (cells : List Int) (B i : Nat) (lo : Lo) (s' : Sto) : Prop := ∃ kh ks, J2 s d l ic many at_ cells B i lo s' kh ks
def stB (ks : List (Key × Vl)) (x : Int) : Bool := match look ks (.inl x) with
  | some (.bl b) => b
  | _ => false
theorem StE.eq {ks : List (Key × Vl)} {x : Int} (h : StE ks x) : look ks (.inl x) = some (.bl (stB ks x)) := by
  obtain ⟨b, hb⟩ := h
  simp [stB, hb]
/-- items that a truth picks -/
def pick (p : Int → Bool) (v : Vl) : Option Vl := match v with
  | .int x => if p x = true then some (.int x) else none
  | _ => none
theorem pick_eq {p : Int → Bool} : ∀ xs : List Int, (xs.map Vl.int).filterMap (pick p) = (xs.filter p).map Vl.int
  | [] => rfl
  | x :: xs => by
    have ih := pick_eq (p := p) xs
    by_cases h : p x = true
    · simp only [List.map_cons, List.filterMap_cons, pick, if_pos h, List.filter_cons, ih]
    · simp only [List.map_cons, List.filterMap_cons, pick, if_neg h, List.filter_cons, ih]
def hold (s : Sto) (kh : List (Key × Vl)) (x y : Int) : Bool := match look kh (.inl y) with
  | some (.ref r) => match s[r]? with
    | some (.lst xs) => inF (.int x) xs
    | _ => false
  | _ => false
theorem ddup_sub {xs : List Int} {x : Int} : x ∈ ddup xs ↔ x ∈ xs := mem_ddup
structure J3 (s : Sto) (d l ic many : Nat) (cells : List Int) (s4 : Sto) (y1 y2 : Option Vl) (m : Nat) (lo : Lo) (s' : Sto) (re : List Int) (at_ : Nat) : Prop where
  lo : lo = [some (.ref d), y1, y2, none, some (.int many), some (.int at_), some (.ref ic), some (.ref (ic + 1)), some (.ref (ic + 2)), some (.ref s4.length), none, none]
  r : s'[s4.length]? = some (.lst (re.map Vl.int))
  nd : re.Nodup
  sub : ∀ x ∈ re, x ∈ cells
  le : at_ ≤ re.length
  m : m + at_ = cells.length
  f : Fr [] s4 s'
def I3 (s : Sto) (d l ic many : Nat) (cells : List Int) (s4 : Sto) (y1 y2 : Option Vl) (m : Nat) (lo : Lo) (s' : Sto) : Prop := ∃ re at_, J3 s d l ic many cells s4 y1 y2 m lo s' re at_
theorem view {s : Sto} {d l c : Nat} (D : Dk s d l c) (hc : c + 200 < 1000000) : WE (m__law_view [.ref d]) s (fun v s' => ∃ V : View, v = V.vl ∧ V.ok ∧ Dk s' d l (c + 60) ∧ Fr [d, l] s s') NoX := by
  unfold m__law_view b__law_view
  simp
  refine (draw D (by omega) (by omega) (by omega)).use ?_
  rintro v s1 ⟨many, rfl, hm, D1, f1⟩
  have lt1 := D1.lt
  have le1 := f1.le
  simp
  rw [rngW_nat (by omega)]
  generalize hs2 : s1 ++ [Ob.lst [], Ob.dic [], Ob.dic []] = s2
  have f12 : Fr [] s1 s2 := hs2 ▸ Fr.refl.app _
  have D2 : Dk s2 d l (c + 1) := D1.fr f12 (by simp) (by simp)
  have f2 : Fr [d, l] s s2 := hs2 ▸ f1.app _
  have gc : s2[s1.length]? = some (.lst []) := by rw [← hs2]; simp
  have gh : s2[s1.length + 1]? = some (.dic []) := by rw [← hs2]; simp [List.getElem?_append_right]
  have gs : s2[s1.length + 2]? = some (.dic []) := by rw [← hs2]; simp [List.getElem?_append_right]
  have len2 : s2.length = s1.length + 3 := by rw [← hs2]; simp
  generalize hic : s1.length = ic at gc gh gs len2 ⊢
  have hd : ∀ j, ic ≤ j → j ∉ [d, l] := fun j hj => by simp; omega
  refine loopX_inv (fun i lo s' => ∃ (cells : List Int) (at_ : Int) (x1 : Option Vl), lo = [some (.ref d), x1, none, none, some (.int many), some (.int at_), some (.ref ic), some (.ref (ic + 1)), some (.ref (ic + 2)), none, none, none] ∧ s'[ic]? = some (.lst (cells.map Vl.int)) ∧ s'[ic + 1]? = some (.dic []) ∧ s'[ic + 2]? = some (.dic []) ∧ cells.length = i ∧ Inc cells ∧ (∀ x ∈ cells, 0 ≤ x ∧ x ≤ at_) ∧ 0 ≤ at_ ∧ at_ ≤ 3 * i ∧ Dk s' d l (c + 1 + i) ∧ Fr [d, l] s s') ?_ ?_ ?_
  · exact ⟨[], 0, none, rfl, gc, gh, gs, rfl, by simp, by simp, by omega, by omega, D2, f2⟩
  · rintro i v lo s3 hv ⟨cells, at_, x1, rfl, hcs, hhs, hss, hlen, hinc, hrng, ha0, ha1, D3, f3⟩
    obtain ⟨hi, rfl⟩ := rng_get hv
    simp
    refine (draw D3 (by omega) (by omega) (by omega)).use ?_
    rintro v s4 ⟨r, rfl, hr, D4, f4⟩
    have h4 := f4.at hcs (hd _ (by omega))
    simp [h4, oAppend_lst h4 (limC (by simp; omega))]
    refine ⟨cells ++ [at_ + 1 + r], by simp, f4.at hhs (hd _ (by omega)), f4.at hss (hd _ (by omega)), by simp [hlen], ?_, ?_, by omega, by omega, ?_, ?_⟩
    · refine List.pairwise_append.mpr ⟨hinc, by simp, fun a ha b hb => ?_⟩
      simp at hb
      have := hrng a ha
      omega
    · intro x hx
      rcases List.mem_append.mp hx with q | q
      · have := hrng x q; omega
      · simp at q; omega
    · exact (D4.fr (Fr.refl.set (X := [ic]) (by simp)) (by simp; omega) (by simp; omega)).mono (by omega)
    · exact (f3.trans f4).set (Or.inr (by omega))
  rintro lo s3 ⟨cells, at_, x1, rfl, hcs, hhs, hss, hlen, hinc, hrng, ha0, ha1, D3, f3⟩
  rw [rng_len] at hlen ha1 D3
  have hn8 : cells.length ≤ 8 := by omega
  have len3 : ic + 3 ≤ s3.length := by have := lt_of_get hss; omega
  simp [hcs]
  generalize hB : c + 1 + many = B at D3
  refine loopL_inv (xs := cells.map Vl.int) (I2 s d l ic many at_ cells B) (by simp; omega) ?_ ?_ ?_ ?_
  · exact ⟨[], [], ⟨x1, none, rfl⟩, hcs, hhs, hss, by simp, by simp, by simp, by simp, D3, f3⟩
  · rintro i lo s4 ⟨kh, ks, J⟩
    exact J.c
  · rintro i v lo s4 hv ⟨kh, ks, ⟨y1, y2, rfl⟩, h1, h2, h3, h4, h5, h6, h7, D4, f4⟩
    have hi : i < cells.length := by simpa using (List.getElem?_eq_some_iff.mp hv).1
    obtain ⟨x, hx⟩ : ∃ x, cells[i]? = some x := ⟨_, List.getElem?_eq_getElem hi⟩
    obtain rfl : v = .int x := by rw [List.getElem?_map, hx] at hv; simpa using hv.symm
    have lt4 := D4.lt
    simp
    refine (oneNew D4 (by simp) (by simp) (by omega)).use ?_
    rintro v s5 ⟨hv5, D5, f5⟩
    obtain ⟨n, rfl, hn⟩ : ∃ n : Nat, v = .int n ∧ n ≤ 2 := by
      simp only [List.mem_cons, List.not_mem_nil, or_false] at hv5
      rcases hv5 with rfl | rfl | rfl | rfl | rfl
      · exact ⟨0, rfl, by omega⟩
      · exact ⟨0, rfl, by omega⟩
      · exact ⟨1, rfl, by omega⟩
      · exact ⟨1, rfl, by omega⟩
      · exact ⟨2, rfl, by omega⟩
    have len5 : ic + 3 ≤ s5.length := by have := lt_of_get h3; have := f5.le; omega
    simp [rngW_nat (n := n) (by omega)]
    refine rowC D5 (f5.at h1 (hd _ (by omega))) (hd _ (by omega)) (by omega) hn8 hn (by omega) (by simp [wipeL]) (by simp [wipeL]) (by simp [wipeL]) ?_
    intro s6 row g1 g2 g3 D6 f6
    have f56 := (f5.trans f6)
    have hh := f56.at h2 (hd _ (by omega))
    have hsn := f56.at h3 (hd _ (by omega))
    have hcn := f56.at h1 (hd _ (by omega))
    have k1 : kh.length < LIM := limC (by omega)
    have k2 : ks.length < LIM := limC (by omega)
    simp [opSet_dicI hh k1]
    generalize hs7 : s6.set (ic + 1) (.dic (put kh (.inl x) (.ref s5.length))) = s7
    have D7 : Dk s7 d l (B + 4 * i + 3) := hs7 ▸ D6.fr (Fr.refl.set (X := [ic + 1]) (by simp)) (by simp; omega) (by simp; omega)
    have f67 : Fr [ic + 1] s6 s7 := hs7 ▸ Fr.refl.set (by simp)
    have hh7 : s7[ic + 1]? = some (.dic (put kh (.inl x) (.ref s5.length))) := by rw [← hs7]; exact get_set_self hh
    refine (draw D7 (by omega) (by omega) (by omega)).use ?_
    rintro v s8 ⟨q, rfl, hq, D8, f8⟩
    have hs8 := f8.at (f67.at hsn (by simp)) (hd _ (by omega))
    simp [opSet_dicI hs8 k2]
    generalize hs9 : s8.set (ic + 2) (.dic (put ks (.inl x) (.bl ((q : Int) == 0)))) = s9
    have f89 : Fr [ic + 2] s8 s9 := hs9 ▸ Fr.refl.set (by simp)
    have f09 : Fr [d, l] s s9 := hs9 ▸ (((f4.trans f56).trans' (Y := [ic + 1]) f67 (by simp; omega)).trans f8).set (Or.inr (by omega))
    have hcell : ∀ y, y ∈ cells.take (i + 1) → y ∈ cells.take i ∨ y = x := fun y hy => by
      rw [List.take_add_one, hx] at hy
      simpa using hy
    refine ⟨put kh (.inl x) (.ref s5.length), put ks (.inl x) (.bl ((q : Int) == 0)), ⟨y1, some (.int x), rfl⟩, ?_, ?_, by rw [← hs9]; exact get_set_self hs8, Nat.le_trans put_len (Nat.succ_le_succ h4), Nat.le_trans put_len (Nat.succ_le_succ h5), ?_, ?_, ?_, f09⟩
    · exact f89.at (f8.at (f67.at hcn (by simp)) (hd _ (by omega))) (by simp)
    · exact f89.at (f8.at hh7 (hd _ (by omega))) (by simp)
    · intro y hy
      by_cases e : y = x
      · subst e
        refine ⟨s5.length, row, look_put_self, ?_, g2, g3, len5⟩
        exact f89.at (f8.at (f67.at g1 (by simp; omega)) (hd _ (by omega))) (by simp; omega)
      · obtain ⟨r, row', a1, a2, a3, a4, a5⟩ := h6 y ((hcell y hy).resolve_right e)
        refine ⟨r, row', by rw [look_put_ne (fun z => e (by cases z; rfl))]; exact a1, ?_, a3, a4, a5⟩
        exact f89.at (f8.at (f67.at (f56.at a2 (hd _ (by omega))) (by simp; omega)) (hd _ (by omega))) (by simp; omega)
    · intro y hy
      by_cases e : y = x
      · subst e
        exact ⟨_, look_put_self⟩
      · obtain ⟨b, hb⟩ := h7 y ((hcell y hy).resolve_right e)
        exact ⟨b, by rw [look_put_ne (fun z => e (by cases z; rfl))]; exact hb⟩
    · exact (D8.fr f89 (by simp; omega) (by simp; omega)).mono (by omega)
  rintro lo s4 ⟨kh, ks, ⟨y1, y2, rfl⟩, h1, h2, h3, h4, h5, h6, h7, D4, f4⟩
  have hxs : (cells.map Vl.int).length = cells.length := by simp
  rw [hxs] at h4 h5 h6 h7 D4
  rw [List.take_length] at h6 h7
  have hnd : cells.Nodup := hinc.nodup
  simp [h1]
  refine lcL_p (xs := cells.map Vl.int) s4 (pick (stB ks)) rfl rfl h1 (by simp; omega) ?_ ?_
  · intro v hv acc
    obtain ⟨x, hx, rfl⟩ := List.mem_map.mp hv
    refine ⟨_, rfl, ?_⟩
    have e := (h7 x hx).eq
    simp [wipeL, opIx_dicI (get_push h3), e, pick]
  rw [pick_eq]
  simp
  refine loopW_inv (I3 s d l ic many cells s4 y1 y2) cells.length (by omega) ?_ ?_
  · refine ⟨cells.filter (stB ks), 0, rfl, by simp, hnd.filter _, fun x hx => (List.mem_filter.mp hx).1, Nat.zero_le _, rfl, Fr.refl.push _⟩
  · rintro m lo s5 ⟨re, at_, rfl, g1, g2, g3, g4, g5, f5⟩
    have hre : re.length ≤ cells.length := nodup_sub g2 g3
    simp [g1]
    by_cases hlt : at_ < re.length
    · have hlt' : (at_ : Int) < re.length := by omega
      obtain ⟨y, hy⟩ : ∃ y, re[at_]? = some y := ⟨_, List.getElem?_eq_getElem hlt⟩
      have hyc := g3 y (List.mem_of_getElem? hy)
      obtain ⟨r, row, a1, a2, a3, a4, a5⟩ := h6 y hyc
      have a2' := f5.at a2 (by simp)
      have h2' := f5.at h2 (by simp)
      have hy' : re[at_] = y := (List.getElem?_eq_some_iff.mp hy).2
      have hdl : (ddup row).length ≤ row.length := nodup_sub (ddup_nodup row) fun x hx => ddup_sub.mp hx
      have hrc : cells.length < 100 := by omega
      simp [hlt, hlt', g1, opIx_lst g1, atN, hy', opIx_dicI h2', a1, oSet_ints a2' (show row.length < 4000 by omega)]
      rw [oSortS_set (ns := ddup row) get_last (by omega)]
      simp
      obtain ⟨s6, hs6⟩ : ∃ s6, s5 ++ [Ob.set (ddup row), Ob.lst ((srt (ddup row)).map Vl.int)] = s6 := ⟨_, rfl⟩
      have e6 : s5.length + 2 = s6.length := by rw [← hs6]; simp
      have f6 : Fr [] s5 s6 := hs6 ▸ Fr.refl.app _
      have k6 : s6[s5.length + 1]? = some (.lst ((srt (ddup row)).map Vl.int)) := by rw [← hs6]; simp [List.getElem?_append_right]
      have r6 := f6.at g1 (by simp)
      have hsl : (srt (ddup row)).length ≤ 2 := by rw [srt_len]; omega
      rw [e6]
      refine lcL_p (xs := (srt (ddup row)).map Vl.int) s6 (pick fun x => !decide (x ∈ re)) rfl (by rw [← hs6]; simp) k6 (by simp; omega) ?_ ?_
      · intro v hv acc
        obtain ⟨x, hx, rfl⟩ := List.mem_map.mp hv
        refine ⟨_, rfl, ?_⟩
        simp [wipeL, opNotIn_lst (v := Vl.int x) (get_push r6) rfl flat_ints, pick]
      rw [pick_eq]
      generalize hnw : (srt (ddup row)).filter (fun x => !decide (x ∈ re)) = nw
      have hnwm : ∀ x, x ∈ nw ↔ x ∈ row ∧ x ∉ re := fun x => by rw [← hnw]; simp [mem_srt, mem_ddup]
      have hnwn : nw.Nodup := by rw [← hnw]; exact (srt_inc (ddup_nodup row)).nodup.filter _
      have hnwl : nw.length ≤ cells.length := nodup_sub hnwn fun x hx => a3 x ((hnwm x).mp hx).1
      have hl1 : re.length + nw.length ≤ LIM := limB (by omega)
      have e7 : (s5 ++ [Ob.set (ddup row)] ++ [Ob.lst ((srt (ddup row)).map Vl.int)]).length = s6.length := by rw [← hs6]; simp
      rw [e7, WE_aNil, oExtend_lst (get_push r6) get_last (by simpa using hl1)]
      simp
      refine ⟨m - 1, by omega, re ++ nw, at_ + 1, rfl, ?_, ?_, ?_, by simp; omega, by omega, ?_⟩
      · rw [get_set_self (get_push r6)]; simp
      · rw [List.nodup_append]
        exact ⟨g2, hnwn, fun a ha b hb e => ((hnwm b).mp hb).2 (e ▸ ha)⟩
      · intro x hx
        rcases List.mem_append.mp hx with q | q
        · exact g3 x q
        · exact a3 x ((hnwm x).mp q).1
      · exact ((f5.trans f6).push _).set (Or.inr (Nat.le_refl _))
    · have hlt' : ¬ (at_ : Int) < re.length := by omega
      simp [hlt, hlt']
      have g6 := get_push (o' := Ob.lst []) g1
      have f56 : Fr [] s4 (s5 ++ [Ob.lst []]) := f5.push _
      have g7 : (s5 ++ [Ob.lst []])[s5.length]? = some (.lst []) := get_last
      have hle5 := f5.le
      generalize s5 ++ [Ob.lst []] = s6 at g6 f56 g7
      have h1' := f56.at h1 (by simp)
      simp [h1']
      refine loopL_inv (xs := cells.map Vl.int) (fun i lo s' => ∃ (rows : List Rw) (z2 z10 : Option Vl), lo = [some (.ref d), y1, z2, some (.ref s5.length), some (.int many), some (.int at_), some (.ref ic), some (.ref (ic + 1)), some (.ref (ic + 2)), some (.ref s4.length), z10, none] ∧ s'[s4.length]? = some (.lst (re.map Vl.int)) ∧ s'[s5.length]? = some (.lst (rows.map Rw.vl)) ∧ rows.length = i ∧ (∀ r ∈ rows, r.ok) ∧ rows.map (·.cell) = cells.take i ∧ Fr [] s4 s') (by simp; omega) ?_ ?_ ?_ ?_
      · exact ⟨[], y2, none, rfl, g6, g7, rfl, by simp, by simp, f56⟩
      · rintro i lo s7 ⟨rows, z2, z10, rfl, r7, k1, k2, k3, k4, f7⟩
        exact f7.at h1 (by simp)
      · rintro i v lo s7 hv ⟨rows, z2, z10, rfl, r7, k1, k2, k3, k4, f7⟩
        have hi : i < cells.length := by simpa using (List.getElem?_eq_some_iff.mp hv).1
        obtain ⟨x, hx⟩ : ∃ x, cells[i]? = some x := ⟨_, List.getElem?_eq_getElem hi⟩
        obtain rfl : v = .int x := by rw [List.getElem?_map, hx] at hv; simpa using hv.symm
        have hxc := List.mem_of_getElem? hx
        have c7 := f7.at h1 (by simp)
        have d7 := f7.at h2 (by simp)
        have t7 := f7.at h3 (by simp)
        simp [c7]
        refine lcL_p (xs := cells.map Vl.int) s7 (pick fun y => hold s7 kh x y) rfl rfl c7 (by simp; omega) ?_ ?_
        · intro v hv acc
          obtain ⟨y, hy, rfl⟩ := List.mem_map.mp hv
          refine ⟨_, rfl, ?_⟩
          obtain ⟨r, row, a1, a2, a3, a4, a5⟩ := (h6 y hy).fr f7 (by simp)
          have e : hold s7 kh x y = decide (x ∈ row) := by simp [hold, a1, a2]
          simp [wipeL, opIx_dicI (get_push d7), a1, opIn_lst (v := Vl.int x) (get_push a2) rfl flat_ints, pick, e]
        rw [pick_eq]
        generalize hho : cells.filter (fun y => hold s7 kh x y) = ho
        have hhl : ho.length ≤ 8 := by rw [← hho]; exact Nat.le_trans (List.length_filter_le ..) hn8
        have hhm : ∀ y ∈ ho, y ∈ cells := fun y hy => by rw [← hho] at hy; exact (List.mem_filter.mp hy).1
        have e := (h7 x hxc).eq
        have k1' := get_push (o' := Ob.lst (ho.map Vl.int)) k1
        simp [opIx_dicI (get_push t7), e, opIn_lst (v := Vl.int x) (get_push r7) rfl flat_ints, oAppend_lst k1' (limC (by simp; omega))]
        refine ⟨kd_lst k1', ?_, rows ++ [⟨x, stB ks x, decide (x ∈ re), ho⟩], ?_, by simp [k2], ?_, by rw [List.map_append, k4, List.take_add_one, hx]; rfl, (f7.push _).set (Or.inr hle5)⟩
        · rw [get_set_ne (by have := lt_of_get g1; omega)]
          exact get_push r7
        · rw [get_set_self k1']
          simp [Rw.vl]
        intro r hr
        rcases List.mem_append.mp hr with q | q
        · exact k3 r q
        · simp at q
          subst q
          have hb := hrng x hxc
          exact ⟨by simp; omega, hhl, fun y hy => by have := hrng y (hhm y hy); omega⟩
      · rintro lo s7 ⟨rows, z2, z10, rfl, r7, k1, k2, k3, k4, f7⟩
        simp at k2
        have D7 : Dk s7 d l (B + 4 * cells.length) := D4.fr f7 (by simp) (by simp)
        have F7 : Fr [d, l] s s7 := f4.trans' f7 (by simp)
        simp
        refine (draw D7 (by omega) (by omega) (by omega)).use ?_
        rintro v s8 ⟨q, rfl, hq, D8, f8⟩
        simp
        refine (draw D8 (by omega) (by omega) (by omega)).use ?_
        rintro v s9 ⟨q2, rfl, hq2, D9, f9⟩
        have hl4 := lt_of_get h3
        have k9 := f9.at (f8.at k1 (hd _ (by omega))) (hd _ (by omega))
        simp [oTuple_lst k9]
        exact ⟨⟨30 + q, q2, rows⟩, by simp [View.vl], ⟨by show 30 + q < 1000; omega, by show q2 < 24; omega, by show rows.length ≤ 8; omega, k3, by show Inc (rows.map (·.cell)); rw [k4, List.length_map, List.take_length]; exact hinc⟩, D9.mono (by omega), (F7.trans f8).trans f9⟩
end K48

/-! QX: counting, both ways -/
namespace K48
open PySem L2 Sm
def unr (V : View) : List Int := (V.rows.filter fun r => !r.re).map (·.cell)
def inAll (F : List Int) (r : Rw) : Bool := r.hs.all fun h => decide (h ∈ F)
def stp (F : List Int) (r : Rw) : List Int := if r.cell ∉ F ∧ r.st = false ∧ inAll F r = true then F ++ [r.cell] else F
def pas (rows : List Rw) (F : List Int) : List Int := rows.foldl stp F
def It (rows : List Rw) : Nat → List Int
  | 0 => []
  | n + 1 => pas rows (It rows n)
theorem stp_le {F : List Int} {r : Rw} : F.length ≤ (stp F r).length := by
  unfold stp; split <;> simp
theorem fold_le : ∀ (rows : List Rw) (F : List Int), F.length ≤ (rows.foldl stp F).length
  | [], F => Nat.le_refl _
  | r :: rows, F => Nat.le_trans stp_le (fold_le rows _)
theorem stp_eq {F : List Int} {r : Rw} (h : (stp F r).length ≤ F.length) : stp F r = F := by
  unfold stp at h ⊢
  by_cases q : r.cell ∉ F ∧ r.st = false ∧ inAll F r = true
  · rw [if_pos q, List.length_append, List.length_singleton] at h
    omega
  · rw [if_neg q]
theorem fold_eq : ∀ (rows : List Rw) (F : List Int), (rows.foldl stp F).length ≤ F.length → rows.foldl stp F = F
  | [], F, _ => rfl
  | r :: rows, F, h => by
    have h1 := fold_le rows (stp F r)
    have h2 : (rows.foldl stp (stp F r)).length ≤ F.length := h
    have e := stp_eq (F := F) (r := r) (by omega)
    show rows.foldl stp (stp F r) = F
    rw [e] at h2 ⊢
    exact fold_eq rows F h2
structure Fk (rows : List Rw) (F : List Int) : Prop where
  nd : F.Nodup
  sub : ∀ x ∈ F, x ∈ rows.map (·.cell)
theorem Fk.stp {rows : List Rw} {F : List Int} (h : Fk rows F) {r : Rw} (hr : r ∈ rows) : Fk rows (stp F r) := by
  unfold K48.stp; split
  · rename_i q
    refine ⟨List.nodup_append.mpr ⟨h.nd, by simp, fun a ha b hb e => ?_⟩, fun x hx => ?_⟩
    · simp at hb; exact q.1 (by rw [← hb, ← e]; exact ha)
    · rcases List.mem_append.mp hx with z | z
      · exact h.sub x z
      · simp at z; rw [z]; exact List.mem_map.mpr ⟨r, hr, rfl⟩
  · exact h
theorem Fk.fold {rows : List Rw} : ∀ (rs : List Rw) {F : List Int}, Fk rows F → (∀ r ∈ rs, r ∈ rows) → Fk rows (rs.foldl K48.stp F)
  | [], _, h, _ => h
  | r :: rs, _, h, s => Fk.fold rs (h.stp (s r (List.mem_cons_self ..))) fun x hx => s x (List.mem_cons_of_mem _ hx)
theorem Fk.it {rows : List Rw} : ∀ n, Fk rows (It rows n)
  | 0 => ⟨by simp [It], by simp [It]⟩
  | n + 1 => Fk.fold rows (Fk.it n) fun _ h => h
theorem Fk.len {rows : List Rw} {F : List Int} (h : Fk rows F) : F.length ≤ rows.length := by
  have := nodup_sub h.nd h.sub
  simpa using this
theorem it_stay {rows : List Rw} {n : Nat} (h : pas rows (It rows n) = It rows n) : ∀ m, It rows (n + m) = It rows n
  | 0 => rfl
  | m + 1 => by
    show pas rows (It rows (n + m)) = _
    rw [it_stay h m, h]
theorem it_uniq {rows : List Rw} {n m : Nat} (h : pas rows (It rows n) = It rows n) (h' : pas rows (It rows m) = It rows m) : It rows n = It rows m := by
  rcases Nat.le_total n m with q | q
  · have := it_stay h (m - n)
    rw [← this, Nat.add_sub_cancel' q]
  · have := it_stay h' (n - m)
    rw [← this, Nat.add_sub_cancel' q]
/-- F is what counting ends with -/
structure Cn (rows : List Rw) (F : List Int) : Prop where
  ex : ∃ n, F = It rows n
  st : pas rows F = F
theorem Cn.uniq {rows : List Rw} {F G : List Int} (a : Cn rows F) (b : Cn rows G) : F = G := by
  obtain ⟨n, rfl⟩ := a.ex
  obtain ⟨m, rfl⟩ := b.ex
  exact it_uniq a.st b.st
theorem allK {F : List Int} {kvs : List (Key × Vl)} (h : kvs.map (·.1) = F.map Sum.inl) (hs : List Int) : (hs.map fun x => Vl.bl (hasK kvs (.inl x))) = (hs.map fun x => decide (x ∈ F)).map Vl.bl := by
  rw [List.map_map]
  exact List.map_congr_left fun x _ => by simp [hasK_keys h]
theorem countNames {s : Sto} {V : View} {x : Vl} (O : V.ok) : WE (m_Counting_names [x, V.vl]) s (fun v s' => ∃ F, v = .tup ((srt F).map Vl.int) ∧ Cn V.rows F ∧ Fr [] s s') NoX := by
  have hn := O.n
  unfold m_Counting_names b_Counting_names
  simp
  have g0 : (s ++ [Ob.dic []])[s.length]? = some (.dic []) := get_last
  have f0 : Fr [] s (s ++ [Ob.dic []]) := Fr.refl.push _
  generalize s ++ [Ob.dic []] = s1 at g0 f0
  refine loopW_inv (fun m lo s' => ∃ (b : Bool) (kvs : List (Key × Vl)) (F : List Int) (y4 y5 y6 y7 : Option Vl), lo = [some x, some V.vl, some (.ref s.length), some (.bl b), y4, y5, y6, y7, none] ∧ s'[s.length]? = some (.dic kvs) ∧ kvs.map (·.1) = F.map Sum.inl ∧ (∃ n, F = It V.rows n) ∧ (b = false → pas V.rows F = F) ∧ Fr [] s s' ∧ m = if b then 1 + (8 - F.length) else 0) 9 (by omega) ?_ ?_
  · exact ⟨true, [], [], none, none, none, none, rfl, g0, rfl, ⟨0, rfl⟩, by simp, f0, rfl⟩
  · rintro m lo s2 ⟨b, kvs, F, y4, y5, y6, y7, rfl, g2, ek, ⟨n, hF⟩, hst, f2, hm⟩
    have kF : Fk V.rows F := hF ▸ Fk.it n
    have lF := kF.len
    simp
    cases b with
    | false =>
      have ek2 := keys_list ek
      have gk : (s2 ++ [Ob.lst (kvs.map fun kv => keyVl kv.1)])[s2.length]? = some (.lst (F.map Vl.int)) := by rw [← ek2]; exact get_last
      simp [oList_dic g2, oSortS_ints gk]
      exact ⟨F, rfl, ⟨⟨n, hF⟩, hst rfl⟩, f2.app _⟩
    | true =>
      simp [View.vl]
      refine loopX_inv (xs := V.rows.map Rw.vl) (fun i lo s' => ∃ (b : Bool) (kvs : List (Key × Vl)) (y4 y5 y6 y7 : Option Vl), lo = [some x, some V.vl, some (.ref s.length), some (.bl b), y4, y5, y6, y7, none] ∧ s'[s.length]? = some (.dic kvs) ∧ kvs.map (·.1) = ((V.rows.take i).foldl stp F).map Sum.inl ∧ ((b = false ∧ (V.rows.take i).foldl stp F = F) ∨ (b = true ∧ F.length < ((V.rows.take i).foldl stp F).length)) ∧ Fr [] s s') ?_ ?_ ?_
      · exact ⟨false, kvs, y4, y5, y6, y7, rfl, g2, ek, .inl ⟨rfl, rfl⟩, f2⟩
      · rintro i v lo s3 hv ⟨b, kvs, y4, y5, y6, y7, rfl, g3, ek, hb, f3⟩
        rw [List.getElem?_map] at hv
        obtain ⟨r, hr, rfl⟩ : ∃ r, V.rows[i]? = some r ∧ v = r.vl := by
          cases q : V.rows[i]? with
          | none => rw [q] at hv; cases hv
          | some e => rw [q] at hv; exact ⟨e, rfl, by simpa using hv.symm⟩
        have hrm := List.mem_of_getElem? hr
        have hro := O.r r hrm
        have hrn := hro.n
        have e1 : (V.rows.take (i + 1)).foldl stp F = stp ((V.rows.take i).foldl stp F) r := by
          rw [List.take_add_one, hr, List.foldl_append]; rfl
        have kG : Fk V.rows ((V.rows.take i).foldl stp F) := Fk.fold _ kF fun z hz => List.mem_of_mem_take hz
        have lG := kG.len
        rw [e1]
        generalize (V.rows.take i).foldl stp F = G at ek hb kG lG
        have hkl : kvs.length < LIM := by
          have := congrArg List.length ek
          simp at this
          exact limC (by omega)
        have hk : ∀ y : Int, hasK kvs (.inl y) = decide (y ∈ G) := fun y => hasK_keys ek
        simp [Rw.vl, opNotIn_dicI g3, hk]
        by_cases hc : r.cell ∈ G
        · simp [hc, stp]
          exact ⟨kvs, g3, ek, hb, f3⟩
        · by_cases hs : r.st = true
          · simp [hc, hs, stp]
            exact ⟨kvs, g3, ek, hb, f3⟩
          · simp [hc, hs]
            refine lcX_p (xs := r.hs.map Vl.int) s3 (fun v => match v with | .int x => some (.bl (hasK kvs (.inl x))) | _ => none) rfl rfl (by simp; omega) ?_ ?_
            · intro v hv acc
              obtain ⟨y, hy, rfl⟩ := List.mem_map.mp hv
              refine ⟨_, rfl, ?_⟩
              simp [wipeL, tTrue, opIn_dicI (get_push g3)]
            · have e2 : (r.hs.map Vl.int).filterMap (fun v => match v with | .int x => some (.bl (hasK kvs (.inl x))) | _ => none) = (r.hs.map fun x => decide (x ∈ G)).map Vl.bl := by
                rw [← allK ek, List.filterMap_map, ← List.filterMap_eq_map]
                rfl
              rw [e2]
              have gl : (s3 ++ [Ob.lst ((r.hs.map fun x => decide (x ∈ G)).map Vl.bl)])[s3.length]? = some (.lst ((r.hs.map fun x => decide (x ∈ G)).map Vl.bl)) := get_last
              have g4 := get_push (o' := Ob.lst ((r.hs.map fun x => decide (x ∈ G)).map Vl.bl)) g3
              have f4 : Fr [] s _ := f3.push (Ob.lst ((r.hs.map fun x => decide (x ∈ G)).map Vl.bl))
              have e3 : (r.hs.map fun x => decide (x ∈ G)).all id = inAll G r := by simp [inAll, List.all_map, Function.comp_def]
              generalize s3 ++ [Ob.lst ((r.hs.map fun x => decide (x ∈ G)).map Vl.bl)] = s4 at gl g4 f4
              rw [WE_aNil, oAll_bls gl, e3]
              cases ha : inAll G r with
              | false =>
                simp [stp, ha]
                exact ⟨kvs, g4, ek, hb, f4⟩
              | true =>
                simp [stp, ha, hc, hs, opSet_dicI g4 hkl]
                refine ⟨_, get_set_self g4, ?_, ?_, f4.set (Or.inr (Nat.le_refl _))⟩
                · rw [put_new ek hc]; simp
                · rcases hb with ⟨_, rfl⟩ | ⟨_, h⟩
                  · omega
                  · omega
      · rintro lo s3 ⟨b, kvs, y4, y5, y6, y7, rfl, g3, ek, hb, f3⟩
        have e0 : V.rows.take (V.rows.map Rw.vl).length = V.rows := by rw [List.length_map, List.take_length]
        rw [e0] at ek hb
        have kG : Fk V.rows (V.rows.foldl stp F) := Fk.fold _ kF fun z hz => hz
        have lG := kG.len
        have hm' : m = 1 + (8 - F.length) := by simpa using hm
        rcases hb with ⟨rfl, h⟩ | ⟨rfl, h⟩
        · exact ⟨0, by omega, false, kvs, _, y4, y5, y6, y7, rfl, g3, ek, ⟨n + 1, by rw [hF]; rfl⟩, fun _ => by rw [h]; exact h, f3, rfl⟩
        · exact ⟨1 + (8 - (V.rows.foldl stp F).length), by omega, true, kvs, _, y4, y5, y6, y7, rfl, g3, ek, ⟨n + 1, by rw [hF]; rfl⟩, by simp, f3, rfl⟩
theorem counted {s : Sto} {V : View} (O : V.ok) : WE (m__law_counted [.tup (V.rows.map Rw.vl)]) s (fun v s' => ∃ F r, v = .ref r ∧ s'[r]? = some (.lst ((srt F).map Vl.int)) ∧ Cn V.rows F ∧ Fr [] s s') NoX := by
  have hn := O.n
  unfold m__law_counted b__law_counted
  simp
  have g0 : (s ++ [Ob.lst []])[s.length]? = some (.lst []) := get_last
  have f0 : Fr [] s (s ++ [Ob.lst []]) := Fr.refl.push _
  generalize s ++ [Ob.lst []] = s1 at g0 f0
  refine loopW_inv (fun m lo s' => ∃ (many : Int) (F : List Int) (y3 y4 y5 y6 y7 : Option Vl), lo = [some (.tup (V.rows.map Rw.vl)), some (.ref s.length), some (.int many), y3, y4, y5, y6, y7, none] ∧ s'[s.length]? = some (.lst (F.map Vl.int)) ∧ (∃ n, F = It V.rows n) ∧ ((F.length : Int) ≤ many → pas V.rows F = F) ∧ Fr [] s s' ∧ m = (if many < F.length then 1 else 0) + (8 - F.length)) 9 (by omega) ?_ ?_
  · exact ⟨-1, [], none, none, none, none, none, rfl, g0, ⟨0, rfl⟩, by simp, f0, rfl⟩
  · rintro m lo s2 ⟨many, F, y3, y4, y5, y6, y7, rfl, g2, ⟨n, hF⟩, hst, f2, hm⟩
    have kF : Fk V.rows F := hF ▸ Fk.it n
    have lF := kF.len
    simp [g2]
    by_cases hlt : many < F.length
    · simp [hlt, g2]
      refine loopX_inv (xs := V.rows.map Rw.vl) (fun i lo s' => ∃ (y3 y4 y5 y6 y7 : Option Vl), lo = [some (.tup (V.rows.map Rw.vl)), some (.ref s.length), some (.int F.length), y3, y4, y5, y6, y7, none] ∧ s'[s.length]? = some (.lst (((V.rows.take i).foldl stp F).map Vl.int)) ∧ Fr [] s s') ?_ ?_ ?_
      · exact ⟨y3, y4, y5, y6, y7, rfl, g2, f2⟩
      · rintro i v lo s3 hv ⟨y3, y4, y5, y6, y7, rfl, g3, f3⟩
        rw [List.getElem?_map] at hv
        obtain ⟨r, hr, rfl⟩ : ∃ r, V.rows[i]? = some r ∧ v = r.vl := by
          cases q : V.rows[i]? with
          | none => rw [q] at hv; cases hv
          | some e => rw [q] at hv; exact ⟨e, rfl, by simpa using hv.symm⟩
        have hrm := List.mem_of_getElem? hr
        have hro := O.r r hrm
        have hrn := hro.n
        have e1 : (V.rows.take (i + 1)).foldl stp F = stp ((V.rows.take i).foldl stp F) r := by
          rw [List.take_add_one, hr, List.foldl_append]; rfl
        have kG : Fk V.rows ((V.rows.take i).foldl stp F) := Fk.fold _ kF fun z hz => List.mem_of_mem_take hz
        have lG := kG.len
        rw [e1]
        generalize (V.rows.take i).foldl stp F = G at g3 kG lG
        simp [Rw.vl]
        refine lcX_p (xs := r.hs.map Vl.int) s3 (pick fun y => !decide (y ∈ G)) rfl rfl (by simp; omega) ?_ ?_
        · intro v hv acc
          obtain ⟨y, hy, rfl⟩ := List.mem_map.mp hv
          refine ⟨_, rfl, ?_⟩
          simp [wipeL, opNotIn_lst (v := Vl.int y) (get_push g3) rfl flat_ints, pick]
        rw [pick_eq]
        generalize hleft : r.hs.filter (fun y => !decide (y ∈ G)) = left
        have hemp : left.isEmpty = inAll G r := by
          rw [← hleft]
          cases h : inAll G r with
          | true => simp [inAll] at h; simp; exact h
          | false => simp [inAll] at h; obtain ⟨z, z1, z2⟩ := h; simp; exact ⟨z, z1, z2⟩
        have gl : (s3 ++ [Ob.lst (left.map Vl.int)])[s3.length]? = some (.lst (left.map Vl.int)) := get_last
        have g4 := get_push (o' := Ob.lst (left.map Vl.int)) g3
        have f4 : Fr [] s _ := f3.push (Ob.lst (left.map Vl.int))
        generalize s3 ++ [Ob.lst (left.map Vl.int)] = s4 at gl g4 f4
        simp [opNotIn_lst (v := Vl.int r.cell) g4 rfl flat_ints]
        by_cases hs : r.st = true
        · simp [hs, stp]
          exact ⟨g4, f4⟩
        · by_cases hc : r.cell ∈ G
          · simp [hs, hc, stp]
            exact ⟨g4, f4⟩
          · simp [hs, hc]
            rw [opEq_nil (get_push gl) get_last, hemp]
            have g5 := get_push (o' := Ob.lst []) g4
            have f5 : Fr [] s _ := f4.push (Ob.lst [])
            generalize s4 ++ [Ob.lst []] = s5 at g5 f5
            cases ha : inAll G r with
            | false =>
              simp [stp, ha]
              exact ⟨g5, f5⟩
            | true =>
              simp [stp, ha, hc, hs, g5, oAppend_lst g5 (limC (by simp; omega))]
              exact f5.set (Or.inr (Nat.le_refl _))
      · rintro lo s3 ⟨y3, y4, y5, y6, y7, rfl, g3, f3⟩
        have e0 : V.rows.take (V.rows.map Rw.vl).length = V.rows := by rw [List.length_map, List.take_length]
        rw [e0] at g3
        have kG : Fk V.rows (V.rows.foldl stp F) := Fk.fold _ kF fun z hz => hz
        have lG := kG.len
        have hle := fold_le V.rows F
        have hm' : m = 1 + (8 - F.length) := by rw [hm, if_pos hlt]
        refine ⟨_, ?_, F.length, _, y3, y4, y5, y6, y7, rfl, g3, ⟨n + 1, by rw [hF]; rfl⟩, fun h => ?_, f3, rfl⟩
        · split <;> omega
        · have := fold_eq V.rows F (by omega)
          rw [this]
          exact this
    · simp [hlt, oSortS_ints g2]
      exact ⟨F, rfl, ⟨⟨n, hF⟩, hst (by omega)⟩, f2.push _⟩
end K48

/-! S24: texts that are written out; small rules -/
namespace Sm
open PySem L2
theorem toNat_map_inj : ∀ {a b : List Char}, a.map Char.toNat = b.map Char.toNat → a = b
  | [], [], _ => rfl
  | [], _ :: _, h => by simp at h
  | _ :: _, [], h => by simp at h
  | x :: a, y :: b, h => by
    simp only [List.map_cons, List.cons.injEq] at h
    rw [toNat_map_inj h.2, Char.toNat_inj.mp h.1]
theorem ofString_inj {a b : String} (h : Str.ofString a = Str.ofString b) : a = b := by
  rw [Str.ofString_eq_toList, Str.ofString_eq_toList] at h
  have h1 := congrArg (fun z => z.cps.toList) h
  simp only at h1
  exact String.toList_inj.mp (toNat_map_inj h1)
@[simp] theorem ofString_eq_iff {a b : String} : (Str.ofString a = Str.ofString b) = (a = b) := propext ⟨ofString_inj, fun h => by rw [h]⟩
@[simp] theorem ofString_beq {a b : String} : (Str.ofString a == Str.ofString b) = (a == b) := by
  by_cases h : a = b
  · subst h; simp
  · rw [beq_eq_false_iff_ne.mpr h, beq_eq_false_iff_ne.mpr fun z => h (ofString_inj z)]
@[simp] theorem eqF_str {a b : Str} : eqF (.str a) (.str b) = (a == b) := rfl
@[simp] theorem eqF_int {a b : Int} : eqF (.int a) (.int b) = (a == b) := rfl
@[simp] theorem inF_nil {x : Vl} : inF x [] = false := rfl
@[simp] theorem inF_cons {x y : Vl} {ys : List Vl} : inF x (y :: ys) = (eqF y x || inF x ys) := rfl
section
variable {s : Sto} {x : Str} {i : Int} {xs : List Vl} {a : Nat}
@[simp] theorem opIn_tupS : opIn (.str x) (.tup xs) s = if xs.all flat = true then some (.bl (inF (.str x) xs), s) else none := by
  by_cases h : xs.all flat = true
  · rw [if_pos h, opIn_tup rfl h]
  · have h' : xs.all flat = false := by simpa using h
    rw [if_neg h]; simp only [opIn, inM, h', Bool.and_false]; rfl
@[simp] theorem opNotIn_tupS : opNotIn (.str x) (.tup xs) s = if xs.all flat = true then some (.bl (!inF (.str x) xs), s) else none := by
  by_cases h : xs.all flat = true
  · rw [if_pos h, opNotIn_tup rfl h]
  · have h' : xs.all flat = false := by simpa using h
    rw [if_neg h]; simp only [opNotIn, inM, h', Bool.and_false]; rfl
@[simp] theorem opIn_tupI : opIn (.int i) (.tup xs) s = if xs.all flat = true then some (.bl (inF (.int i) xs), s) else none := by
  by_cases h : xs.all flat = true
  · rw [if_pos h, opIn_tup rfl h]
  · have h' : xs.all flat = false := by simpa using h
    rw [if_neg h]; simp only [opIn, inM, h', Bool.and_false]; rfl
@[simp] theorem opNotIn_tupI : opNotIn (.int i) (.tup xs) s = if xs.all flat = true then some (.bl (!inF (.int i) xs), s) else none := by
  by_cases h : xs.all flat = true
  · rw [if_pos h, opNotIn_tup rfl h]
  · have h' : xs.all flat = false := by simpa using h
    rw [if_neg h]; simp only [opNotIn, inM, h', Bool.and_false]; rfl
@[simp] theorem opIn_lstS (h1 : s[a]? = some (.lst xs)) : opIn (.str x) (.ref a) s = if xs.all flat = true then some (.bl (inF (.str x) xs), s) else none := by
  by_cases h : xs.all flat = true
  · rw [if_pos h, opIn_lst h1 rfl h]
  · have h' : xs.all flat = false := by simpa using h
    rw [if_neg h]; simp only [opIn, inM, h1, h', Bool.and_false]; rfl
@[simp] theorem opNotIn_lstS (h1 : s[a]? = some (.lst xs)) : opNotIn (.str x) (.ref a) s = if xs.all flat = true then some (.bl (!inF (.str x) xs), s) else none := by
  by_cases h : xs.all flat = true
  · rw [if_pos h, opNotIn_lst h1 rfl h]
  · have h' : xs.all flat = false := by simpa using h
    rw [if_neg h]; simp only [opNotIn, inM, h1, h', Bool.and_false]; rfl
@[simp] theorem opIn_lstI (h1 : s[a]? = some (.lst xs)) : opIn (.int i) (.ref a) s = if xs.all flat = true then some (.bl (inF (.int i) xs), s) else none := by
  by_cases h : xs.all flat = true
  · rw [if_pos h, opIn_lst h1 rfl h]
  · have h' : xs.all flat = false := by simpa using h
    rw [if_neg h]; simp only [opIn, inM, h1, h', Bool.and_false]; rfl
@[simp] theorem opNotIn_lstI (h1 : s[a]? = some (.lst xs)) : opNotIn (.int i) (.ref a) s = if xs.all flat = true then some (.bl (!inF (.int i) xs), s) else none := by
  by_cases h : xs.all flat = true
  · rw [if_pos h, opNotIn_lst h1 rfl h]
  · have h' : xs.all flat = false := by simpa using h
    rw [if_neg h]; simp only [opNotIn, inM, h1, h', Bool.and_false]; rfl
end
theorem eqM_tupN {s : Sto} {ns : List Int} : eqM (.tup (ns.map Vl.int)) (.tup []) s = some ns.isEmpty := by
  have e1 : toD 40 s (.tup (ns.map Vl.int)) = some (.tuple (ns.map PyData.int)) := by
    unfold toD
    simp only [toD_ints (m := 38), Option.map]
  have e2 : toD 40 s (.tup []) = some (.tuple []) := rfl
  have e3 : PyData.canLay0 (.tuple (ns.map PyData.int)) = true := by simpa only [PyData.canLay0] using canLay_ints ns
  have e4 : PyData.canLay0 (.tuple []) = true := rfl
  simp only [eqM, eqS, e1, e2, e3, e4, Bool.and_self, if_true, PyData.eqv]
  cases ns <;> simp [PyData.eqvAll]
theorem opEq_tupN {s : Sto} {ns : List Int} : opEq (.tup (ns.map Vl.int)) (.tup []) s = some (.bl ns.isEmpty, s) := by
  simp only [opEq, eqM_tupN]
@[simp] theorem lim7 : (7 ≤ LIM) = True := eq_true (by decide)
@[simp] theorem lim8 : (8 ≤ LIM) = True := eq_true (by decide)
@[simp] theorem lim9 : (9 ≤ LIM) = True := eq_true (by decide)
@[simp] theorem lim10 : (10 ≤ LIM) = True := eq_true (by decide)
@[simp] theorem lim11 : (11 ≤ LIM) = True := eq_true (by decide)
@[simp] theorem lim12 : (12 ≤ LIM) = True := eq_true (by decide)
@[simp] theorem lim13 : (13 ≤ LIM) = True := eq_true (by decide)
@[simp] theorem lim14 : (14 ≤ LIM) = True := eq_true (by decide)
@[simp] theorem lim15 : (15 ≤ LIM) = True := eq_true (by decide)
@[simp] theorem lim16 : (16 ≤ LIM) = True := eq_true (by decide)
@[simp] theorem lim17 : (17 ≤ LIM) = True := eq_true (by decide)
@[simp] theorem lim18 : (18 ≤ LIM) = True := eq_true (by decide)
@[simp] theorem lim19 : (19 ≤ LIM) = True := eq_true (by decide)
@[simp] theorem lim20 : (20 ≤ LIM) = True := eq_true (by decide)
@[simp] theorem lim21 : (21 ≤ LIM) = True := eq_true (by decide)
@[simp] theorem lim22 : (22 ≤ LIM) = True := eq_true (by decide)
@[simp] theorem lim23 : (23 ≤ LIM) = True := eq_true (by decide)
@[simp] theorem lim24 : (24 ≤ LIM) = True := eq_true (by decide)
@[simp] theorem lim25 : (25 ≤ LIM) = True := eq_true (by decide)
@[simp] theorem lim26 : (26 ≤ LIM) = True := eq_true (by decide)
@[simp] theorem lim27 : (27 ≤ LIM) = True := eq_true (by decide)
@[simp] theorem lim28 : (28 ≤ LIM) = True := eq_true (by decide)
@[simp] theorem lim29 : (29 ≤ LIM) = True := eq_true (by decide)
@[simp] theorem lim30 : (30 ≤ LIM) = True := eq_true (by decide)
@[simp] theorem lim31 : (31 ≤ LIM) = True := eq_true (by decide)
@[simp] theorem lim32 : (32 ≤ LIM) = True := eq_true (by decide)
@[simp] theorem lim33 : (33 ≤ LIM) = True := eq_true (by decide)
@[simp] theorem lim34 : (34 ≤ LIM) = True := eq_true (by decide)
@[simp] theorem lim35 : (35 ≤ LIM) = True := eq_true (by decide)
@[simp] theorem lim36 : (36 ≤ LIM) = True := eq_true (by decide)
@[simp] theorem lim37 : (37 ≤ LIM) = True := eq_true (by decide)
@[simp] theorem lim38 : (38 ≤ LIM) = True := eq_true (by decide)
@[simp] theorem lim39 : (39 ≤ LIM) = True := eq_true (by decide)
@[simp] theorem lim40 : (40 ≤ LIM) = True := eq_true (by decide)
theorem Pn.bl {b : Bool} : Pn 1 64 (.bl b) := by
  refine ⟨.bool b, fun s m hm => ?_, by cases b <;> decide, rfl, by simp [PyData.weight]⟩
  obtain ⟨m, rfl⟩ : ∃ k, m = k + 1 := ⟨m - 1, by omega⟩
  rfl
theorem Pn.ints {ns : List Int} {n : Nat} (h : ∀ x ∈ ns, x.natAbs < 10 ^ 12) (hn : ns.length ≤ n) : Pn 2 (n * 65) (.tup (ns.map Vl.int)) :=
  (Pn.tup (n := 1) (w := 64) fun x hx => by
    obtain ⟨i, hi, rfl⟩ := List.mem_map.mp hx
    exact Pn.int (h i hi)).mono (Nat.le_refl _) (by simp; omega)
theorem take_succ_get {α : Type} {xs : List α} {i : Nat} {x : α} (h : xs[i]? = some x) : xs.take (i + 1) = xs.take i ++ [x] := by
  rw [List.take_add_one, h]; rfl
theorem rngW_lit {n : Nat} {s : Sto} {QA : List Vl → Sto → Prop} (h : n < 1000000) : rngW [.int (OfNat.ofNat n)] s QA = QA (rng 0 n) s := rngW_nat h
end Sm

/-! QY: the basic rules -/
namespace K48
open PySem L2 Sm
inductive Bs where
  | never | all | counting | above (m : Int) | places (ps : List Nat)
def pL (ps : List Nat) : List Vl := (ps.map fun n : Nat => (n : Int)).map Vl.int
def Bs.told : Bs → Vl
  | .never => .tup [.str "never", .non]
  | .all => .tup [.str "all", .non]
  | .counting => .tup [.str "counting", .non]
  | .above m => .tup [.str "above", .int m]
  | .places ps => .tup [.str "places", .tup (pL ps)]
def Bs.c : Bs → Nat
  | .never => 0
  | .all => 5
  | .counting => 6
  | .above _ => 8
  | .places _ => 7
def Bs.fs : Bs → List (Str × Vl)
  | .above m => [("most", .int m)]
  | .places ps => [("chosen", .tup (pL ps))]
  | _ => []
def Bs.ob (b : Bs) : Ob := .ins b.c b.fs
def Bs.mf : Bs → List Vl → M Vl
  | .never => m_Rule_names
  | .all => m_AtOnce_names
  | .counting => m_Counting_names
  | .above _ => m_Above_names
  | .places _ => m_Places_names
theorem Bs.tab (b : Bs) : tab_names b.c = some b.mf := by cases b <;> rfl
theorem Bs.nof (b : Bs) : getS b.fs "names" = none := by cases b <;> (simp [Bs.fs, getS] <;> decide)
/-- what a basic rule names -/
def Nm (V : View) (L : List Int) : Bs → Prop
  | .never => L = []
  | .all => L = unr V
  | .counting => ∃ F, Cn V.rows F ∧ L = srt F
  | .above m => L = if m < V.rows.length then unr V else []
  | .places ps => L = if (V.p : Int) ∈ ps.map (fun n : Nat => (n : Int)) then unr V else []
theorem Nm.uniq {V : View} {L L' : List Int} {b : Bs} (h : Nm V L b) (h' : Nm V L' b) : L = L' := by
  cases b with
  | counting =>
    obtain ⟨F, a, rfl⟩ := h
    obtain ⟨F', a', rfl⟩ := h'
    rw [a.uniq a']
  | _ => exact h.trans h'.symm
def unP (v : Vl) : Option Vl := match v with
  | .tup [c, _, .bl k, _] => if k then none else some c
  | _ => none
theorem unP_eq : ∀ rows : List Rw, (rows.map Rw.vl).filterMap unP = ((rows.filter fun r => !r.re).map (·.cell)).map Vl.int
  | [] => rfl
  | r :: rows => by
    have ih := unP_eq rows
    cases h : r.re with
    | true =>
      have e : unP r.vl = none := by simp [unP, Rw.vl, h]
      simp only [List.map_cons, List.filterMap_cons, e, ih, List.filter_cons, h]
      rfl
    | false =>
      have e : unP r.vl = some (.int r.cell) := by simp [unP, Rw.vl, h]
      simp only [List.map_cons, List.filterMap_cons, e, ih, List.filter_cons, h]
      rfl
section
variable {s : Sto} {V : View} {Q : Vl → Sto → Prop} {E : Ex → Sto → Prop}
theorem allUn (O : V.ok) (k : ∀ s', Fr [] s s' → Q (.tup ((unr V).map Vl.int)) s') : WE (m_all_unreached [V.vl]) s Q E := by
  have hn := O.n
  unfold m_all_unreached b_all_unreached
  simp [View.vl]
  refine lcX_p (xs := V.rows.map Rw.vl) s unP rfl rfl (by simp; omega) ?_ ?_
  · intro v hv acc
    obtain ⟨r, hr, rfl⟩ := List.mem_map.mp hv
    refine ⟨_, rfl, ?_⟩
    simp [wipeL, Rw.vl, unP]
  · rw [unP_eq]
    show WE _ _ _ _
    rw [WE_aNil, oTuple_lst get_last, WO_some]
    exact k _ (Fr.refl.push _)
theorem names {b : Bs} {r : Nat} (O : V.ok) (h : s[r]? = some b.ob) (k : ∀ L s', Nm V L b → Fr [] s s' → Q (.tup (L.map Vl.int)) s') : WE (b.mf [.ref r, V.vl]) s Q E := by
  cases b with
  | never =>
    show WE (m_Rule_names _) _ _ _
    unfold m_Rule_names b_Rule_names
    simp
    exact k [] s rfl Fr.refl
  | all =>
    show WE (m_AtOnce_names _) _ _ _
    unfold m_AtOnce_names b_AtOnce_names
    simp
    exact allUn O fun s' f => k _ s' rfl f
  | counting =>
    refine (countNames O).use ?_
    rintro v s' ⟨F, rfl, h1, f⟩
    exact k _ _ ⟨F, h1, rfl⟩ f
  | above m =>
    show WE (m_Above_names _) _ _ _
    unfold m_Above_names b_Above_names
    simp [View.vl, fldW_ins h, cs_most, Bs.c, Bs.fs, getS]
    by_cases q : m < V.rows.length
    · simp [q]
      exact allUn O fun s' f => k _ s' (by simp [Nm, q]) f
    · simp [q]
      exact k [] s (by simp [Nm, q]) Fr.refl
  | places ps =>
    show WE (m_Places_names _) _ _ _
    unfold m_Places_names b_Places_names
    have hf : (pL ps).all flat = true := flat_ints
    simp [View.vl, fldW_ins h, cs_chosen, Bs.c, Bs.fs, getS, opIn_tup (v := Vl.int V.p) rfl hf]
    have e : inF (.int V.p) (pL ps) = decide ((V.p : Int) ∈ ps.map (fun n : Nat => (n : Int))) := inF_ints _
    rw [e]
    by_cases q : (V.p : Int) ∈ ps.map (fun n : Nat => (n : Int))
    · rw [decide_eq_true q]
      simp
      exact allUn O fun s' f => k _ s' (by simp only [Nm, if_pos q]) f
    · rw [decide_eq_false q]
      simp
      exact k [] s (by simp only [Nm, if_neg q]) Fr.refl
theorem rowsL {lo : Lo} {QS : Sto → Prop} (h7 : 7 < lo.length) (O : V.ok) (k : QS (s ++ [.lst ((unr V).map Vl.int)])) : WL (lcX (glN 7) (tNotM (tVal (eOp opIx (eVar 7) (eC (.int 2))))) (eOp opIx (eVar 7) (eC (.int 0))) s.length lo (V.rows.map Rw.vl) (s ++ [.lst []])) QS := by
  have hn := O.n
  refine lcX_p (xs := V.rows.map Rw.vl) s unP rfl rfl (by simp; omega) ?_ ?_
  · intro v hv acc
    obtain ⟨r, hr, rfl⟩ := List.mem_map.mp hv
    refine ⟨_, rfl, ?_⟩
    simp [h7, Rw.vl, unP]
  · rw [unP_eq]
    exact k
theorem lawNamed {b : Bs} {RR : Nat → List Vl → M Vl} (O : V.ok) (k : ∀ L r s', s'[r]? = some (.lst (L.map Vl.int)) → Nm V L b → Fr [] s s' → Q (.ref r) s') : WE (fnM 9 (b__law_named RR) [b.told, V.vl]) s Q E := by
  have hn := O.n
  unfold b__law_named
  have ke : ∀ s', Nm V [] b → s' = s ++ [Ob.lst []] → Q (.ref s.length) s' := fun s' h1 h2 => by
    subst h2
    exact k [] s.length _ get_last h1 (Fr.refl.push _)
  have ku : Nm V (unr V) b → Q (.ref s.length) (s ++ [.lst ((unr V).map Vl.int)]) := fun h => k _ _ _ get_last h (Fr.refl.push _)
  cases b with
  | never =>
    simp [View.vl, Bs.told]
    exact ke _ rfl rfl
  | all =>
    simp [View.vl, Bs.told]
    exact rowsL (by simp [wipeL]) O (ku rfl)
  | counting =>
    simp [View.vl, Bs.told]
    refine (counted O).use ?_
    rintro v s' ⟨F, r, rfl, h1, h2, f⟩
    exact k _ _ _ h1 ⟨F, h2, rfl⟩ f
  | above m =>
    simp [View.vl, Bs.told]
    by_cases q : m < V.rows.length
    · have q' : ¬ (V.rows.length : Int) ≤ m := by omega
      simp [q']
      exact rowsL (by simp [wipeL]) O (ku (by simp [Nm, q]))
    · have q' : (V.rows.length : Int) ≤ m := by omega
      simp [q']
      exact ke _ (by simp [Nm, q]) rfl
  | places ps =>
    have hf : (pL ps).all flat = true := flat_ints
    have e : inF (.int V.p) (pL ps) = decide ((V.p : Int) ∈ ps.map (fun n : Nat => (n : Int))) := inF_ints _
    simp [View.vl, Bs.told, opNotIn_tup (v := Vl.int V.p) rfl hf]
    rw [e]
    by_cases q : (V.p : Int) ∈ ps.map (fun n : Nat => (n : Int))
    · rw [decide_eq_true q]
      simp
      exact rowsL (by simp [wipeL]) O (ku (by simp only [Nm, if_pos q]))
    · rw [decide_eq_false q]
      simp
      exact ke _ (by simp only [Nm, if_neg q]) rfl
theorem placesInit {v : Vl} : WE (m_PlacesU_initU [.ref s.length, v]) (s ++ [.ins 7 []]) Q E = Q .non (s ++ [.ins 7 [("chosen", v)]]) := by
  unfold m_PlacesU_initU b_PlacesU_initU
  simp [setFld_ins get_last (show (7 ∈ cs_chosen ∧ ([] : List (Str × Vl)).length < 1000) from by simp [cs_chosen]), putS]
theorem aboveInit {v : Vl} : WE (m_AboveU_initU [.ref s.length, v]) (s ++ [.ins 8 []]) Q E = Q .non (s ++ [.ins 8 [("most", v)]]) := by
  unfold m_AboveU_initU b_AboveU_initU
  simp [setFld_ins get_last (show (8 ∈ cs_most ∧ ([] : List (Str × Vl)).length < 1000) from by simp [cs_most]), putS]
theorem basic {d l c : Nat} (D : Dk s d l c) (hc : c + 100 < 1000000) (k : ∀ (b : Bs) (r : Nat) s', s'[r]? = some b.ob → r ∉ [d, l] → Dk s' d l (c + 10) → Fr [d, l] s s' → Q (.tup [.ref r, b.told]) s') : WE (m__law_basic [.ref d]) s Q E := by
  unfold m__law_basic b__law_basic
  simp
  refine (draw D (by omega) (by omega) (by omega)).use ?_
  rintro v s1 ⟨kind, rfl, hk, D1, f1⟩
  have hlt := D1.lt
  have fin : ∀ (b : Bs) (s2 : Sto), Dk s2 d l (c + 9) → Fr [d, l] s s2 → Q (.tup [.ref s2.length, b.told]) (s2 ++ [b.ob]) := fun b s2 D2 f2 => by
    have := D2.lt
    exact k b _ _ get_last (by simp; omega) ((D2.fr (Fr.refl.push (X := []) _) (by simp) (by simp)).mono (by omega)) (f2.push _)
  obtain rfl | rfl | rfl | rfl | rfl | rfl | rfl : kind = 0 ∨ kind = 1 ∨ kind = 2 ∨ kind = 3 ∨ kind = 4 ∨ kind = 5 ∨ kind = 6 := by omega
  · simp
    exact fin .never s1 (D1.mono (by omega)) f1
  · simp
    exact fin .all s1 (D1.mono (by omega)) f1
  · simp
    exact fin .all s1 (D1.mono (by omega)) f1
  · simp
    exact fin .counting s1 (D1.mono (by omega)) f1
  · simp
    exact fin .counting s1 (D1.mono (by omega)) f1
  · simp
    refine (oneNew D1 (by simp) (by simp) (by omega)).use ?_
    rintro v s2 ⟨hv, D2, f2⟩
    obtain ⟨m, rfl⟩ : ∃ m : Int, v = .int m := by
      simp only [List.mem_cons, List.not_mem_nil, or_false] at hv
      rcases hv with rfl | rfl | rfl | rfl | rfl | rfl | rfl <;> exact ⟨_, rfl⟩
    simp [WE_eMake, aboveInit]
    exact fin (.above m) s2 (D2.mono (by omega)) (f1.trans f2)
  · simp
    refine (draw D1 (by omega) (by omega) (by omega)).use ?_
    rintro v s2 ⟨n, rfl, hn, D2, f2⟩
    have lt2 := D2.lt
    simp [rngW_nat (n := n) (by omega)]
    refine lcX_inv (fun i s' => ∃ ps : List Nat, s'[s2.length]? = some (.lst (pL ps)) ∧ ps.length = i ∧ Dk s' d l (c + 2 + i) ∧ Fr [d, l] s2 s') ?_ ?_ ?_
    · exact ⟨[], get_last, rfl, D2.fr (Fr.refl.push (X := []) _) (by simp) (by simp), Fr.refl.push _⟩
    · rintro i v s3 hv ⟨ps, g3, hl, D3, f3⟩
      obtain ⟨hi, rfl⟩ := rng_get hv
      refine ⟨_, rfl, ?_⟩
      unfold LcT tTrue
      simp [wipeL]
      refine (draw D3 (by omega) (by omega) (by omega)).use ?_
      rintro v s4 ⟨q, rfl, hq, D4, f4⟩
      have g4 := f4.at g3 (by simp; omega)
      simp only [g4]
      refine ⟨limC (by simp [pL]; omega), ps ++ [q], ?_, by simp [hl], ?_, ?_⟩
      · rw [get_set_self g4]; simp [pL]
      · exact (D4.fr (Fr.refl.set (X := [s2.length]) (by simp)) (by simp; omega) (by simp; omega)).mono (by omega)
      · exact (f3.trans f4).set (Or.inr (Nat.le_refl _))
    · rintro s3 ⟨ps, g3, hl, D3, f3⟩
      rw [rng_len] at hl D3
      simp [oTuple_lst g3]
      have fp := fin (.places ps) s3 (D3.mono (by omega)) ((f1.trans f2).trans f3)
      have e1 : ∀ s, opEq (.tup (pL ps)) (.tup []) s = some (.bl ps.isEmpty, s) := fun s => by
        unfold pL
        rw [opEq_tupN]
        simp
      match ps, hl with
      | [], _ =>
        have e1 := e1 s3
        simp [pL] at e1 ⊢
        simp [e1, WE_eMake, placesInit]
        exact fp
      | [a], _ =>
        have e1 := e1 s3
        simp [pL] at e1 ⊢
        simp [e1, WE_eMake, placesInit]
        exact fp
      | [a, b], _ =>
        simp [pL, WE_eMake, placesInit]
        exact fp
      | [a, b, e], _ =>
        simp [pL, WE_eMake, placesInit]
        exact fp
      | [a, b, e, g], _ =>
        simp [pL, WE_eMake, placesInit]
        exact fp
      | _ :: _ :: _ :: _ :: _ :: _, hl => simp at hl; omega
end
end K48

/-! S199: pure rules of own operators and of set comprehensions with two fors -/
namespace PySem.W
open PySem
def bopC (C : Addr) (cd : ClassData) : Bool := decide (nmBytes cd.name ≤ 100) && decide (cd.name.cps.size ≤ 1000) && (cd.mro.head? == some (.ref C))
theorem bopB_of {K : Frag} {C : Addr} {cd : ClassData} (h : clsIn K C = some cd) (b : bopC C cd = true) : bopB K C = true := by
  unfold bopB
  rw [h]
  exact b
end PySem.W
namespace Sm
open PySem L2
section
variable {s : Sto} {lo : Lo} {QV : Vl → Sto → Prop} {E : Ex → Sto → Prop}
def opW (tab : MTab) (x y : Vl) (s : Sto) (QV : Vl → Sto → Prop) (E : Ex → Sto → Prop) : Prop := match x, y with
  | .ref i, .ref j => match s[i]?, s[j]? with
    | some (.ins c _), some (.ins c' _) => match tab c, tab c' with
      | some mf, some _ => WE (mf [.ref i, .ref j]) s (fun v s' => match v with | .ref q => QV (.ref q) s' | _ => False) E
      | _, _ => False
    | _, _ => False
  | _, _ => False
theorem opW_ok {tab : MTab} {i j c c' : Nat} {fs fs' : List (Str × Vl)} {mf mf' : List Vl → M Vl} (hi : s[i]? = some (.ins c fs)) (hj : s[j]? = some (.ins c' fs')) (h1 : tab c = some mf) (h2 : tab c' = some mf') :
    opW tab (.ref i) (.ref j) s QV E = WE (mf [.ref i, .ref j]) s (fun v s' => match v with | .ref q => QV (.ref q) s' | _ => False) E := by
  simp only [opW, hi, hj, h1, h2]
theorem opv_W {tab : MTab} {x y : Vl} : WE (opOv tab x y) s QV E = opW tab x y s QV E := by
  unfold opOv opW
  cases x <;> try (simp only [WE_eq]; rfl)
  cases y <;> try (simp only [WE_eq]; rfl)
  rename_i i j
  simp only [WE_eq]
  unfold WE0
  simp only
  cases h1 : s[i]? with
  | none => rfl
  | some o =>
    cases h2 : s[j]? with
    | none => cases o <;> rfl
    | some o' =>
      cases o <;> try rfl
      cases o' <;> try rfl
      rename_i c fs c' fs'
      simp only
      cases h3 : tab c with
      | none => rfl
      | some mf =>
        cases h4 : tab c' with
        | none => rfl
        | some mf' =>
          simp only
          cases h5 : mf [.ref i, .ref j] s with
          | fail => rfl
          | exc e s' => rfl
          | ok v s' => cases v <;> rfl
@[simp ↓] theorem WE_eOpO {tab : MTab} {a b : EM} : WE (eOpO tab a b lo) s QV E = WE (a lo) s (fun x s => WE (b lo) s (fun y s => opW tab x y s QV E) E) E := by
  unfold eOpO
  rw [WE_bnd]
  refine WE_ext fun x s => ?_
  rw [WE_bnd]
  exact WE_ext fun y s => opv_W
end
/-- many members put into a set -/
def addAll (L : List Int) (ys : List Int) : List Int := ys.foldl (fun L k => addS k L) L
theorem addAll_nd {ys : List Int} : ∀ {L : List Int}, L.Nodup → (addAll L ys).Nodup := by
  induction ys with
  | nil => exact fun h => h
  | cons y ys ih => exact fun h => ih (addS_nd h)
theorem mem_addAll {ys : List Int} {z : Int} : ∀ {L : List Int}, z ∈ addAll L ys ↔ z ∈ L ∨ z ∈ ys := by
  induction ys with
  | nil => intro L; simp [addAll]
  | cons y ys ih =>
    intro L
    show z ∈ addAll (addS y L) ys ↔ _
    rw [ih, mem_addS, List.mem_cons]
    constructor
    · rintro ((h | h) | h)
      · exact .inr (.inl h)
      · exact .inl h
      · exact .inr (.inr h)
    · rintro (h | h | h)
      · exact .inl (.inr h)
      · exact .inl (.inl h)
      · exact .inr h
theorem addS_len {k : Int} {L : List Int} : (addS k L).length ≤ L.length + 1 := by
  unfold addS
  split <;> simp
theorem addAll_len {ys : List Int} : ∀ {L : List Int}, (addAll L ys).length ≤ L.length + ys.length := by
  induction ys with
  | nil => intro L; exact Nat.le_refl _
  | cons y ys ih =>
    intro L
    have h1 : (addAll (addS y L) ys).length ≤ _ := ih
    have h2 := addS_len (k := y) (L := L)
    show (addAll (addS y L) ys).length ≤ _
    rw [List.length_cons]
    omega
theorem addAll_app {L ys zs : List Int} : addAll L (ys ++ zs) = addAll (addAll L ys) zs := by unfold addAll; rw [List.foldl_append]
/-- rising lists with the same members -/
theorem Inc.ext : ∀ {A B : List Int}, Inc A → Inc B → (∀ z, z ∈ A ↔ z ∈ B) → A = B
  | [], [], _, _, _ => rfl
  | [], b :: B, _, _, h => by have := (h b).mpr (List.mem_cons_self ..); simp at this
  | a :: A, [], _, _, h => by have := (h a).mp (List.mem_cons_self ..); simp at this
  | a :: A, b :: B, ha, hb, h => by
    obtain ⟨a1, a2⟩ := List.pairwise_cons.mp ha
    obtain ⟨b1, b2⟩ := List.pairwise_cons.mp hb
    have e : a = b := by
      rcases List.mem_cons.mp ((h a).mp (List.mem_cons_self ..)) with e | e
      · exact e
      · have h1 := b1 a e
        rcases List.mem_cons.mp ((h b).mpr (List.mem_cons_self ..)) with f | f
        · omega
        · have h2 := a1 b f
          omega
    subst e
    have : A = B := Inc.ext a2 b2 fun z => by
      constructor
      · intro hz
        have := a1 z hz
        rcases List.mem_cons.mp ((h z).mp (List.mem_cons_of_mem _ hz)) with f | f
        · omega
        · exact f
      · intro hz
        have := b1 z hz
        rcases List.mem_cons.mp ((h z).mpr (List.mem_cons_of_mem _ hz)) with f | f
        · omega
        · exact f
    rw [this]
section
variable {s : Sto} {lo : Lo} {QV : Vl → Sto → Prop} {E : Ex → Sto → Prop}
theorem scX_ints {g : GL} {e : EM} {d : Nat} {lo : Lo} {L : List Int} : ∀ {ys : List Int} {s : Sto} {acc : List Int}, s[d]? = some (.set acc) → acc.length + ys.length < 4000 → (∀ y : Int, ∃ lo2, g (.int y) lo = some lo2 ∧ ∀ s, e lo2 s = .ok (.int y) s) → scX g e d lo (ys.map Vl.int) s = some (s.set d (.set (addAll acc ys)))
  | [], s, acc, hd, _, _ => by
    have hlt := (List.getElem?_eq_some_iff.mp hd)
    obtain ⟨h1, h2⟩ := hlt
    show some s = some _
    congr 1
    refine (List.ext_getElem? fun i => ?_)
    by_cases e : d = i
    · subst e
      rw [List.getElem?_set_self h1, hd]
      rfl
    · rw [List.getElem?_set_ne e]
  | y :: ys, s, acc, hd, hl, hg => by
    obtain ⟨lo2, e1, e2⟩ := hg y
    rw [List.length_cons] at hl
    show (match g (.int y) lo with | none => none | some lo' => _) = _
    rw [e1]
    have e3 : scStep e d lo2 s = some (s.set d (.set (addS y acc))) := by
      unfold scStep
      rw [e2]
      simp only [hd]
      rw [if_pos (by omega)]
    simp only [e3]
    have h1 := addS_len (k := y) (L := acc)
    rw [scX_ints (L := L) (acc := addS y acc) (get_set_self hd) (by omega) hg, List.set_set]
    rfl
/-- {e for a in xs for b in ..}: each inner source answers a tuple of ints -/
theorem WE_eSc2 {n : Nat} {g g1 : GL} {ma0 ma : AM} {e : EM} {vs ws : List Nat} {xs : List Vl} {yss : List (List Int)} (hy : yss.length = xs.length) (h0 : WE (ma0 lo) s (fun as s' => as = xs ∧ s' = s) NoX) (hn : xs.length < n) (ht : yss.flatten.length < 4000)
    (hin : ∀ (i : Nat) (x : Vl) (ys : List Int), xs[i]? = some x → yss[i]? = some ys → ∃ lo', g x (wipeL lo vs) = some lo' ∧ (∀ s', Fr [] s s' → WE (ma lo') s' (fun as s'' => as = ys.map Vl.int ∧ Fr [] s' s'') NoX) ∧ ∀ y : Int, ∃ lo2, g1 (.int y) (wipeL lo' ws) = some lo2 ∧ ∀ s, e lo2 s = .ok (.int y) s)
    (k : ∀ s', s'[s.length]? = some (.set (addAll [] yss.flatten)) → Fr [] s s' → QV (.ref s.length) s') : WE (eSc2 n (iFix ma0) g ma g1 e vs ws lo) s QV E := by
  have key : ∀ (m i : Nat) (s1 : Sto), xs.length - i < m → i ≤ xs.length → s1[s.length]? = some (.set (addAll [] (yss.take i).flatten)) → Fr [] s s1 → ∃ s2, scN2 (nxFix xs) g ma g1 e s.length ws (wipeL lo vs) m i s1 = some s2 ∧ s2[s.length]? = some (.set (addAll [] yss.flatten)) ∧ Fr [] s s2 := by
    intro m
    induction m with
    | zero => intro i s1 h; omega
    | succ m ih =>
      intro i s1 hm hi h1 f1
      unfold scN2
      rcases Nat.lt_or_ge i xs.length with q | q
      · have ex : xs[i]? = some xs[i] := List.getElem?_eq_getElem q
        have hq : i < yss.length := by omega
        have ey : yss[i]? = some yss[i] := List.getElem?_eq_getElem hq
        obtain ⟨lo', a1, a2, a3⟩ := hin i _ _ ex ey
        obtain ⟨as, s2, e2, rfl, f2⟩ := (a2 s1 f1).get
        have d2 : s2[s.length]? = some (.set (addAll [] (yss.take i).flatten)) := f2.at h1 (by simp)
        have tk := take_succ_get ey
        have hlen : (yss.take i).flatten.length + yss[i].length ≤ yss.flatten.length := by
          have := congrArg (fun l : List (List Int) => l.flatten.length) (List.take_append_drop (i + 1) yss)
          simp only [List.flatten_append, List.length_append, tk, List.flatten_cons, List.flatten_nil, List.append_nil] at this
          omega
        have al := addAll_len (ys := (yss.take i).flatten) (L := [])
        rw [List.length_nil] at al
        have e3 : scStep2 ma g1 e s.length ws lo' s1 = some (s2.set s.length (.set (addAll (addAll [] (yss.take i).flatten) yss[i]))) := by
          unfold scStep2
          rw [e2]
          exact scX_ints (L := []) d2 (by omega) a3
        simp only [nxFix, ex, a1, e3]
        refine ih (i + 1) _ (by omega) q ?_ ((f1.trans f2).set (Or.inr (Nat.le_refl _)))
        rw [get_set_self d2, tk, List.flatten_append, addAll_app]
        simp
      · have ex : xs[i]? = none := List.getElem?_eq_none q
        simp only [nxFix, ex]
        refine ⟨s1, rfl, ?_, f1⟩
        rw [h1, List.take_of_length_le (by omega)]
  obtain ⟨as, s', e0, rfl, rfl⟩ := h0.get
  obtain ⟨s2, e1, e2, f⟩ := key n 0 (s' ++ [.set []]) (by omega) (Nat.zero_le _) (by simp [addAll]) (Fr.refl.push _)
  have ei : eSc2 n (iFix ma0) g ma g1 e vs ws lo s' = .ok (.ref s'.length) s2 := by
    unfold eSc2 iFix bnd
    rw [e0]
    simp only [ret]
    rw [e1]
  simp only [WE_eq]
  unfold WE0
  rw [ei]
  exact k s2 e2 f
end
end Sm

/-! S29: how the newer parts of pure programs are computed -/
namespace Sm
open PySem L2
section
variable {s : Sto} {lo : Lo} {QV : Vl → Sto → Prop} {QA : List Vl → Sto → Prop} {E : Ex → Sto → Prop} {K : RK} {N : Lo → Sto → Prop}
def WGs0 (gs : List GM) (vs : List Vl) (lo : Lo) (s : Sto) (N : Lo → Sto → Prop) : Prop := match gAll gs vs lo s with
  | some (lo', s') => N lo' s'
  | none => False
structure WGs (gs : List GM) (vs : List Vl) (lo : Lo) (s : Sto) (N : Lo → Sto → Prop) (_ : Tg N := .a) : Prop where
  h : WGs0 gs vs lo s N
theorem WGs_eq {gs : List GM} {vs : List Vl} : WGs gs vs lo s N = WGs0 gs vs lo s N := propext ⟨fun x => x.h, fun x => ⟨x⟩⟩
@[simp ↓] theorem WG_gTs {gs : List GM} {xs : List Vl} : WG (gTs gs) (.tup xs) lo s N E = WGs gs xs lo s N := by
  simp only [WG_eq, WE_eq, WGs_eq]
  unfold WE0 gTs WGs0
  simp only
  cases gAll gs xs lo s with
  | none => rfl
  | some p => obtain ⟨a, b⟩ := p; rfl
@[simp ↓] theorem WGs_nil : WGs [] [] lo s N = N lo s := by simp only [WGs_eq]; rfl
@[simp ↓] theorem WGs_cons {g : GM} {gs : List GM} {v : Vl} {vs : List Vl} : WGs (g :: gs) (v :: vs) lo s N = WG g v lo s (fun lo s => WGs gs vs lo s N) NoX := by
  simp only [WG_eq, WE_eq, WGs_eq]
  unfold WE0 WGs0
  have e : gAll (g :: gs) (v :: vs) lo s = match g v lo s with | .ok lo' s' => gAll gs vs lo' s' | _ => none := rfl
  rw [e]
  cases g v lo s with
  | ok a b => simp only [WGs_eq] <;> rfl
  | exc a b => rfl
  | fail => rfl
def ulW (x : Vl) (s : Sto) (P : List Vl → Prop) : Prop := match x with
  | .ref j => match s[j]? with
    | some (.lst xs) => P xs
    | _ => False
  | _ => False
@[simp] theorem ulW_ref {j : Nat} {P : List Vl → Prop} {xs : List Vl} (h : s[j]? = some (.lst xs)) : ulW (.ref j) s P = P xs := by simp [ulW, h]
@[simp ↓] theorem WG_gUl {gs : List GM} {x : Vl} : WG (gUl gs) x lo s N E = ulW x s fun xs => WGs gs xs lo s N := by
  simp only [WG_eq, WE_eq, WGs_eq]
  unfold WE0 gUl ulW WGs0
  cases x <;> try rfl
  rename_i j
  dsimp only
  cases s[j]? with
  | none => rfl
  | some o =>
    cases o <;> try rfl
    rename_i xs
    dsimp only
    cases gAll gs xs lo s with
    | none => rfl
    | some p => obtain ⟨a, b⟩ := p; rfl
def atW (lo : Lo) (i : Nat) (P : Vl → Prop) : Prop := match lo[i]? with
  | some (some x) => P x
  | _ => False
@[simp ↓] theorem WS_sAug {i : Nat} {f : O2} {e : EM} : WS (sAug i f e) lo s K = (match lo[i]? with | some (some x) => WE (e lo) s (fun v s => WO (f x v s) fun z s => K.nx (lo.set i (some z)) s) (fun x s => K.ex x lo s) | _ => False) := by
  simp only [WS_eq]
  unfold WS0 sAug
  cases h : lo[i]? with
  | none => simp only [h]
  | some o =>
    cases o with
    | none => simp only [h]
    | some x =>
      simp only [h]
      have := WS_bndS (m := e) (lo := lo) (s := s) (K := K) (f := fun lo v s => match f x v s with | some (z, s') => .nx (lo.set i (some z)) s' | none => .fail)
      refine Eq.trans (b := WS (bndS e fun lo v s => match f x v s with | some (z, s') => .nx (lo.set i (some z)) s' | none => .fail) lo s K) (by simp only [WS_eq]; rfl) (this.trans ?_)
      refine WE_ext fun v s => ?_
      simp only [WO_eq]
      unfold WO0
      cases f x v s with
      | none => rfl
      | some p => obtain ⟨a, b⟩ := p; rfl
@[simp] theorem opIAdd_int {i j : Int} : opIAdd (.int i) (.int j) s = some (.int (i + j), s) := rfl
@[simp] theorem opISub_int {i j : Int} : opISub (.int i) (.int j) s = some (.int (i - j), s) := rfl
@[simp] theorem opIAdd_str {x y : Str} (h : x.length + y.length ≤ LIM) : opIAdd (.str x) (.str y) s = some (.str (x ++ y), s) := by simp only [opIAdd, if_pos h]
@[simp ↓] theorem WE_eChain {f f' : O2} {a b c : EM} : WE (eChain f f' a b c lo) s QV E = WE (a lo) s (fun x s => WE (b lo) s (fun y s => WO (f x y s) fun z s => match z with | .bl true => WE (c lo) s (fun w s => WO (f' y w s) QV) E | .bl false => QV (.bl false) s | _ => False) E) E := by
  unfold eChain
  rw [WE_bnd]
  refine WE_ext fun x s => ?_
  rw [WE_bnd]
  refine WE_ext fun y s => ?_
  rw [WE_bnd, WE_lift]
  have : ∀ (o : Option (Vl × Sto)) (P P' : Vl → Sto → Prop), (∀ a s, P a s = P' a s) → WO o P = WO o P' := fun o P P' h => by
    have : P = P' := funext fun a => funext fun s => h a s
    subst this; rfl
  refine this _ _ _ fun z s => ?_
  cases z <;> try (simp only [WE_eq]; rfl)
  rename_i k
  cases k with
  | false => simp only [WE_eq]; rfl
  | true =>
    simp only
    rw [WE_bnd]
    exact WE_ext fun w s => WE_lift
def dicW (x : Vl) (s : Sto) (P : Nat → Prop) : Prop := match x with
  | .ref j => isDic j s = true ∧ P j
  | _ => False
@[simp] theorem dicW_ref {j : Nat} {P : Nat → Prop} {kvs : List (Key × Vl)} (h : s[j]? = some (.dic kvs)) : dicW (.ref j) s P = P j := by simp [dicW, isDic, h]
def getW (j : Nat) (y : Vl) (s : Sto) (P : List (Key × Vl) → Key → Prop) : Prop := match s[j]?, keyOf y with
  | some (.dic kvs), some key => P kvs key
  | _, _ => False
@[simp] theorem getW_str {j : Nat} {x : Str} {kvs : List (Key × Vl)} {P : List (Key × Vl) → Key → Prop} (h : s[j]? = some (.dic kvs)) : getW j (.str x) s P = P kvs (.inr x) := by simp [getW, h, keyOf]
@[simp] theorem getW_int {j : Nat} {x : Int} {kvs : List (Key × Vl)} {P : List (Key × Vl) → Key → Prop} (h : s[j]? = some (.dic kvs)) : getW j (.int x) s P = P kvs (.inl x) := by simp [getW, h, keyOf]
@[simp ↓] theorem WE_eDGet1 {d k : EM} : WE (eDGet1 d k lo) s QV E = WE (d lo) s (fun x s => dicW x s fun j => WE (k lo) s (fun y s => getW j y s fun kvs key => QV ((look kvs key).getD .non) s) E) E := by
  unfold eDGet1
  rw [WE_bnd]
  refine WE_ext fun x s => ?_
  cases x <;> try (simp only [WE_eq]; rfl)
  rename_i j
  unfold dicW
  by_cases h : isDic j s = true
  · simp only [h, true_and]
    refine Eq.trans (b := WE (bnd (k lo) fun y s => match s[j]?, keyOf y with | some (.dic kvs), some key => .ok ((look kvs key).getD .non) s | _, _ => .fail) s QV E) ?_ ?_
    · simp only [WE_eq]; unfold WE0; simp only [h, if_true] <;> rfl
    · rw [WE_bnd]
      refine WE_ext fun y s => ?_
      simp only [WE_eq]
      unfold WE0 getW
      dsimp only
      cases s[j]? with
      | none => rfl
      | some o => cases o <;> cases keyOf y <;> rfl
  · simp only [h, false_and, Bool.false_eq_true]
    simp only [WE_eq]; unfold WE0; simp only [h, if_false, Bool.false_eq_true]
@[simp ↓] theorem WE_eDGet2 {d k v : EM} : WE (eDGet2 d k v lo) s QV E = WE (d lo) s (fun x s => dicW x s fun j => WE (k lo) s (fun y s => WE (v lo) s (fun z s => getW j y s fun kvs key => QV ((look kvs key).getD z) s) E) E) E := by
  unfold eDGet2
  rw [WE_bnd]
  refine WE_ext fun x s => ?_
  cases x <;> try (simp only [WE_eq]; rfl)
  rename_i j
  unfold dicW
  by_cases h : isDic j s = true
  · simp only [h, true_and]
    refine Eq.trans (b := WE (bnd (k lo) fun y => bnd (v lo) fun z s => match s[j]?, keyOf y with | some (.dic kvs), some key => .ok ((look kvs key).getD z) s | _, _ => .fail) s QV E) ?_ ?_
    · simp only [WE_eq]; unfold WE0; simp only [h, if_true] <;> rfl
    · rw [WE_bnd]
      refine WE_ext fun y s => ?_
      rw [WE_bnd]
      refine WE_ext fun z s => ?_
      simp only [WE_eq]
      unfold WE0 getW
      dsimp only
      cases s[j]? with
      | none => rfl
      | some o => cases o <;> cases keyOf y <;> rfl
  · simp only [h, false_and, Bool.false_eq_true]
    simp only [WE_eq]; unfold WE0; simp only [h, if_false, Bool.false_eq_true]
@[simp ↓] theorem WE_aEnm {e : AM} : WE (aEnm e lo) s QA E = WE (e lo) s (fun as s => match as with | [.tup xs] => QA (enmL xs) s | _ => False) E := by
  unfold aEnm
  rw [WE_bnd]
  refine WE_ext fun as s => ?_
  match as with
  | [] => simp only [WE_eq]; rfl
  | [.tup xs] => simp only [WE_eq]; rfl
  | .non :: _ => cases ‹List Vl› <;> simp only [WE_eq] <;> rfl
  | .bl _ :: _ => cases ‹List Vl› <;> simp only [WE_eq] <;> rfl
  | .int _ :: _ => cases ‹List Vl› <;> simp only [WE_eq] <;> rfl
  | .str _ :: _ => cases ‹List Vl› <;> simp only [WE_eq] <;> rfl
  | .ref _ :: _ => cases ‹List Vl› <;> simp only [WE_eq] <;> rfl
  | .scr _ :: _ => cases ‹List Vl› <;> simp only [WE_eq] <;> rfl
  | .ty _ :: _ => cases ‹List Vl› <;> simp only [WE_eq] <;> rfl
  | .fn _ :: _ => cases ‹List Vl› <;> simp only [WE_eq] <;> rfl
  | .tup _ :: _ :: _ => simp only [WE_eq]; rfl
@[simp ↓] theorem WE_dflM {n : Nat} {das as : List Vl} {mf : List Vl → M Vl} : WE (dflM n das mf as) s QV E = (if as.length + das.length = n then WE (mf (as ++ das)) s QV E else False) := by
  by_cases h : as.length + das.length = n
  · simp only [WE_eq, WE0, dflM, if_pos h]
  · simp only [WE_eq, WE0, dflM, if_neg h]
end
section
variable {s : Sto} {a : Nat} {x : Str} {xs : List Vl} {kvs : List (Key × Vl)}
@[simp] theorem oDict_dic (h : s[a]? = some (.dic kvs)) : oDict [.ref a] s = some (.ref s.length, s ++ [.dic kvs]) := by simp only [oDict, h]
theorem strKeys_eq : ∀ {kvs : List (Key × Vl)} {ks : List Str}, kvs.map (·.1) = ks.map Sum.inr → strKeys kvs = some ks
  | [], [], _ => rfl
  | [], _ :: _, h => by simp at h
  | _ :: _, [], h => by simp at h
  | p :: r, k :: ks, h => by
    simp only [List.map_cons, List.cons.injEq] at h
    obtain ⟨⟨k1, v⟩, r⟩ : ∃ q : Key × Vl, q = p := ⟨p, rfl⟩
    have ih := strKeys_eq h.2
    cases p with
    | mk q v =>
      obtain ⟨h1, h2⟩ := h
      simp only at h1
      subst h1
      simp [strKeys, ih]
@[simp] theorem kd_join : kd .str (.str x) s = true := rfl
@[simp] theorem oLen_str (h : x.length ≤ LIM) : oLen [.str x] s = some (.int x.length, s) := by simp [oLen, lenM, h]
@[simp] theorem opIx_str {i : Int} (h : x.length ≤ LIM) : opIx (.str x) (.int i) s = (atI x.cps.toList i).map fun c => (.str ⟨#[c]⟩, s) := by simp only [opIx, if_pos h]
@[simp] theorem oStr_int {i : Int} (h : i.natAbs.log2 < 1920) : oStr [.int i] s = some (.str (toString i), s) := by simp only [oStr, if_pos h]
end
theorem toD_strs {s : Sto} {m : Nat} : ∀ ns : List Str, mapO (toD (m + 1) s) (ns.map Vl.str) = some (ns.map PyData.str)
  | [] => rfl
  | n :: ns => by
    have e : toD (m + 1) s (.str n) = some (.str n) := rfl
    simp only [List.map_cons, mapO, e, toD_strs ns]
theorem canLay_strs : ∀ {ns : List Str}, (∀ z ∈ ns, PyData.strOk z = true) → PyData.canLayAll0 (ns.map PyData.str) = true
  | [], _ => rfl
  | n :: ns, h => by
    have h1 := h n (List.mem_cons_self ..)
    have h2 := canLay_strs (ns := ns) fun z hz => h z (List.mem_cons_of_mem _ hz)
    simp only [List.map_cons, PyData.canLayAll0, PyData.canLay0, h1, h2, Bool.and_self]
/-- plain values, each with its own weight -/
theorem Pn.tupS {n : Nat} : ∀ {xs : List Vl} {ws : List Nat}, ws.length = xs.length → (∀ (i : Nat) (x : Vl) (w : Nat), xs[i]? = some x → ws[i]? = some w → Pn n w x) → Pn (n + 1) ((ws.map (· + 1)).sum) (.tup xs) := by
  intro xs ws hl h
  have key : ∃ ds : List PyData, (∀ s m, n ≤ m → mapO (toD m s) xs = some ds) ∧ PyData.leavesShortAll 13 ds = true ∧ PyData.showableAll ds = true ∧ PyData.weightAll ds ≤ (ws.map (· + 1)).sum := by
    induction xs generalizing ws with
    | nil =>
      cases ws with
      | nil => exact ⟨[], fun _ _ _ => rfl, rfl, rfl, by simp [PyData.weightAll]⟩
      | cons w ws => simp at hl
    | cons x xs ih =>
      cases ws with
      | nil => simp at hl
      | cons w ws =>
        obtain ⟨d, a, b, c, e⟩ := h 0 x w rfl rfl
        obtain ⟨ds, a', b', c', e'⟩ := ih (by simpa using hl) fun i y v h1 h2 => h (i + 1) y v (by simpa using h1) (by simpa using h2)
        refine ⟨d :: ds, fun s m hm => ?_, ?_, ?_, ?_⟩
        · simp only [mapO, a s m hm, a' s m hm]
        · simp only [PyData.leavesShortAll, b, b', Bool.and_self]
        · simp only [PyData.showableAll, c, c', Bool.and_self]
        · simp only [PyData.weightAll, List.map_cons, List.sum_cons]
          omega
  obtain ⟨ds, a, b, c, e⟩ := key
  refine ⟨.tuple ds, fun s m hm => ?_, ?_, ?_, ?_⟩
  · obtain ⟨m, rfl⟩ : ∃ k, m = k + 1 := ⟨m - 1, by omega⟩
    simp only [toD, a s m (by omega), Option.map]
  · simpa only [PyData.leavesShort] using b
  · simpa only [PyData.showable] using c
  · simpa only [PyData.weight] using e
end Sm

/-! S30: programs of cells: tests, statements, blocks -/
namespace Sm
open PySem L2
/-- a short text of plain signs -/
structure Nice (x : Str) : Prop where
  len : x.length ≤ 20
  sgn : ∀ c ∈ x.cps.toList, c < 128
theorem Nice.pn {x : Str} (h : Nice x) : Pn 1 64 (.str x) := Pn.str (by
  rw [List.all_eq_true]
  intro c hc
  have := h.sgn c hc
  exact decide_eq_true (by omega)) (by have := h.len; omega)
theorem Nice.strOk {x : Str} (h : Nice x) : PyData.strOk x = true := by
  unfold PyData.strOk
  rw [← Array.all_toList, List.all_eq_true]
  intro c hc
  have := h.sgn c hc
  exact decide_eq_true (by omega)
inductive Tst where
  | given (i : Nat) | set (x : Str) | same (x y : Str) | full (x f : Str) | wished (w : Str) | not (t : Tst)
def Tst.vl : Tst → Vl
  | .given i => .tup [.str "given", .int (i : Nat)]
  | .set x => .tup [.str "set", .str x]
  | .same x y => .tup [.str "same", .str x, .str y]
  | .full x f => .tup [.str "full", .str x, .str f]
  | .wished w => .tup [.str "wished", .str w]
  | .not t => .tup [.str "not", t.vl]
/-- a right test, at most n "not" in one another, g givens -/
def Tst.ok (g : Nat) : Nat → Tst → Prop
  | _, .given i => i < g
  | _, .set x => Nice x
  | _, .same x y => Nice x ∧ Nice y
  | _, .full x f => Nice x ∧ Nice f
  | _, .wished w => Nice w
  | n + 1, .not t => Tst.ok g n t
  | 0, .not _ => False
theorem Tst.ok.mono {g : Nat} : ∀ {n m : Nat} {t : Tst}, t.ok g n → n ≤ m → t.ok g m
  | n, m, .given i, h, _ => by cases n <;> cases m <;> exact h
  | n, m, .set x, h, _ => by cases n <;> cases m <;> exact h
  | n, m, .same x y, h, _ => by cases n <;> cases m <;> exact h
  | n, m, .full x y, h, _ => by cases n <;> cases m <;> exact h
  | n, m, .wished x, h, _ => by cases n <;> cases m <;> exact h
  | n + 1, 0, .not t, h, e => by omega
  | n + 1, m + 1, .not t, h, e => Tst.ok.mono (t := t) (n := n) (m := m) h (by omega)
  | 0, _, .not t, h, _ => h.elim
inductive Stm where
  | make (x : Str) | wish (x w : Str) | keep (x : Str) | name (x y : Str) | drop (x : Str)
  | hold (x f y : Str) | weak (x f y : Str) | cut (x f : Str) | take (z x f : Str) | say (w : Str) | ask (t : Tst)
  | ife (t : Tst) (yes no : List Stm) | rep (k : Nat) (b : List Stm)
mutual
def Stm.vl : Stm → Vl
  | .make x => .tup [.str "make", .str x]
  | .wish x w => .tup [.str "wish", .str x, .str w]
  | .keep x => .tup [.str "keep", .str x]
  | .name x y => .tup [.str "name", .str x, .str y]
  | .drop x => .tup [.str "drop", .str x]
  | .hold x f y => .tup [.str "hold", .str x, .str f, .str y]
  | .weak x f y => .tup [.str "weak", .str x, .str f, .str y]
  | .cut x f => .tup [.str "cut", .str x, .str f]
  | .take z x f => .tup [.str "take", .str z, .str x, .str f]
  | .say w => .tup [.str "say", .str w]
  | .ask t => .tup [.str "ask", t.vl]
  | .ife t a b => .tup [.str "if", t.vl, .tup (Stm.vls a), .tup (Stm.vls b)]
  | .rep k b => .tup [.str "repeat", .int (k : Nat), .tup (Stm.vls b)]
def Stm.vls : List Stm → List Vl
  | [] => []
  | x :: xs => x.vl :: Stm.vls xs
end
mutual
/-- how many statements -/
def Stm.cnt : Stm → Nat
  | .ife _ a b => 1 + Stm.cnts a + Stm.cnts b
  | .rep _ b => 1 + Stm.cnts b
  | _ => 1
def Stm.cnts : List Stm → Nat
  | [] => 0
  | x :: xs => x.cnt + Stm.cnts xs
end
mutual
def Stm.wgt : Stm → Nat
  | .ife _ a b => 1 + Stm.wgts a + Stm.wgts b
  | .rep k b => 1 + k * Stm.wgts b
  | _ => 1
def Stm.wgts : List Stm → Nat
  | [] => 0
  | x :: xs => x.wgt + Stm.wgts xs
end
mutual
/-- a right statement: g givens, at most n blocks in one another -/
def Stm.ok (g : Nat) : Nat → Stm → Prop
  | _, .make x => Nice x
  | _, .wish x w => Nice x ∧ Nice w
  | _, .keep x => Nice x
  | _, .name x y => Nice x ∧ Nice y
  | _, .drop x => Nice x
  | _, .hold x f y => Nice x ∧ Nice f ∧ Nice y
  | _, .weak x f y => Nice x ∧ Nice f ∧ Nice y
  | _, .cut x f => Nice x ∧ Nice f
  | _, .take z x f => Nice z ∧ Nice x ∧ Nice f
  | _, .say w => Nice w
  | _, .ask t => t.ok g 3
  | n, .ife t a b => 0 < n ∧ t.ok g 3 ∧ Stm.oks g (n - 1) a ∧ Stm.oks g (n - 1) b
  | n, .rep k b => 0 < n ∧ k ≤ 12 ∧ Stm.oks g (n - 1) b
def Stm.oks (g : Nat) : Nat → List Stm → Prop
  | _, [] => True
  | n, x :: xs => x.ok g n ∧ Stm.oks g n xs
end
mutual
/-- the statements in the order of their places, with their depth -/
def Stm.flat (d : Nat) : Stm → List (Nat × Stm)
  | .ife t a b => (d, .ife t a b) :: (Stm.flats (d + 1) a ++ Stm.flats (d + 1) b)
  | .rep k b => (d, .rep k b) :: Stm.flats (d + 1) b
  | x => [(d, x)]
def Stm.flats (d : Nat) : List Stm → List (Nat × Stm)
  | [] => []
  | x :: xs => x.flat d ++ Stm.flats d xs
end
theorem Stm.vls_map : ∀ xs : List Stm, Stm.vls xs = xs.map Stm.vl
  | [] => rfl
  | x :: xs => by rw [Stm.vls, Stm.vls_map xs]; rfl
mutual
theorem Stm.ok.mono {g : Nat} : ∀ {n m : Nat} {x : Stm}, x.ok g n → n ≤ m → x.ok g m
  | n, m, .make x, h, _ => by unfold Stm.ok at h ⊢; exact h
  | n, m, .wish x w, h, _ => by unfold Stm.ok at h ⊢; exact h
  | n, m, .keep x, h, _ => by unfold Stm.ok at h ⊢; exact h
  | n, m, .name x y, h, _ => by unfold Stm.ok at h ⊢; exact h
  | n, m, .drop x, h, _ => by unfold Stm.ok at h ⊢; exact h
  | n, m, .hold x f y, h, _ => by unfold Stm.ok at h ⊢; exact h
  | n, m, .weak x f y, h, _ => by unfold Stm.ok at h ⊢; exact h
  | n, m, .cut x f, h, _ => by unfold Stm.ok at h ⊢; exact h
  | n, m, .take z x f, h, _ => by unfold Stm.ok at h ⊢; exact h
  | n, m, .say w, h, _ => by unfold Stm.ok at h ⊢; exact h
  | n, m, .ask t, h, _ => by unfold Stm.ok at h ⊢; exact h
  | n, m, .ife t a b, h, e => by
    unfold Stm.ok at h ⊢
    exact ⟨by omega, h.2.1, Stm.oks.mono h.2.2.1 (by omega), Stm.oks.mono h.2.2.2 (by omega)⟩
  | n, m, .rep k b, h, e => by
    unfold Stm.ok at h ⊢
    exact ⟨by omega, h.2.1, Stm.oks.mono h.2.2 (by omega)⟩
theorem Stm.oks.mono {g : Nat} : ∀ {n m : Nat} {xs : List Stm}, Stm.oks g n xs → n ≤ m → Stm.oks g m xs
  | _, _, [], _, _ => trivial
  | _, _, x :: xs, h, e => ⟨Stm.ok.mono h.1 e, Stm.oks.mono h.2 e⟩
end
/-! ### they are plain values -/
theorem Pn.tup2 {n u v : Nat} {a b : Vl} (ha : Pn n u a) (hb : Pn n v b) : Pn (n + 1) (u + v + 2) (.tup [a, b]) :=
  (Pn.tupS (ws := [u, v]) rfl fun i x w h1 h2 => by
    match i with
    | 0 => simp at h1 h2; subst h1 h2; exact ha
    | 1 => simp at h1 h2; subst h1 h2; exact hb
    | i + 2 => simp at h1).mono (Nat.le_refl _) (by simp; omega)
theorem Pn.tup3 {n u v w : Nat} {a b c : Vl} (ha : Pn n u a) (hb : Pn n v b) (hc : Pn n w c) : Pn (n + 1) (u + v + w + 3) (.tup [a, b, c]) :=
  (Pn.tupS (ws := [u, v, w]) rfl fun i x w h1 h2 => by
    match i with
    | 0 => simp at h1 h2; subst h1 h2; exact ha
    | 1 => simp at h1 h2; subst h1 h2; exact hb
    | 2 => simp at h1 h2; subst h1 h2; exact hc
    | i + 3 => simp at h1).mono (Nat.le_refl _) (by simp; omega)
theorem Pn.tup4 {n u v w z : Nat} {a b c d : Vl} (ha : Pn n u a) (hb : Pn n v b) (hc : Pn n w c) (hd : Pn n z d) : Pn (n + 1) (u + v + w + z + 4) (.tup [a, b, c, d]) :=
  (Pn.tupS (ws := [u, v, w, z]) rfl fun i x w h1 h2 => by
    match i with
    | 0 => simp at h1 h2; subst h1 h2; exact ha
    | 1 => simp at h1 h2; subst h1 h2; exact hb
    | 2 => simp at h1 h2; subst h1 h2; exact hc
    | 3 => simp at h1 h2; subst h1 h2; exact hd
    | i + 4 => simp at h1).mono (Nat.le_refl _) (by simp; omega)
theorem Pn.lit {x : Str} (h : (x.cps.toList.all fun c => decide (c < 16 ^ 8)) = true := by decide) (hl : x.length ≤ 64 := by decide) : Pn 1 64 (.str x) := Pn.str h hl
theorem Tst.pn {g : Nat} (hg : g ≤ 100) : ∀ {n : Nat} {t : Tst}, t.ok g n → Pn (2 + n) (195 + 66 * n) t.vl
  | n, .given i, h => by
    have h : i < g := by cases n <;> exact h
    exact (Pn.tup2 Pn.lit (Pn.int (by omega))).mono (by omega) (by omega)
  | n, .set x, h => by
    have h : Nice x := by cases n <;> exact h
    exact (Pn.tup2 Pn.lit h.pn).mono (by omega) (by omega)
  | n, .same x y, h => by
    have h : Nice x ∧ Nice y := by cases n <;> exact h
    exact (Pn.tup3 Pn.lit h.1.pn h.2.pn).mono (by omega) (by omega)
  | n, .full x y, h => by
    have h : Nice x ∧ Nice y := by cases n <;> exact h
    exact (Pn.tup3 Pn.lit h.1.pn h.2.pn).mono (by omega) (by omega)
  | n, .wished x, h => by
    have h : Nice x := by cases n <;> exact h
    exact (Pn.tup2 Pn.lit h.pn).mono (by omega) (by omega)
  | n + 1, .not t, h => by
    have ih := Tst.pn hg (n := n) (t := t) h
    exact (Pn.tup2 (Pn.mono Pn.lit (by omega) (Nat.le_refl _)) ih).mono (by omega) (by omega)
  | 0, .not t, h => h.elim
theorem Pn.listS {n : Nat} : ∀ {xs : List Vl} {w : Nat}, (∃ ws : List Nat, ws.length = xs.length ∧ (∀ (i : Nat) (x : Vl) (v : Nat), xs[i]? = some x → ws[i]? = some v → Pn n v x) ∧ (ws.map (· + 1)).sum ≤ w) → Pn (n + 1) w (.tup xs) := by
  rintro xs w ⟨ws, h1, h2, h3⟩
  exact (Pn.tupS h1 h2).mono (Nat.le_refl _) h3
mutual
theorem Stm.pn {g : Nat} (hg : g ≤ 100) : ∀ {n : Nat} {x : Stm}, x.ok g n → Pn (6 + 2 * n) (2000 * x.cnt - 1000) x.vl
  | n, .make x, h => by unfold Stm.ok at h; unfold Stm.vl Stm.cnt; exact (Pn.tup2 Pn.lit h.pn).mono (by omega) (by omega)
  | n, .wish x w, h => by unfold Stm.ok at h; unfold Stm.vl Stm.cnt; exact (Pn.tup3 Pn.lit h.1.pn h.2.pn).mono (by omega) (by omega)
  | n, .keep x, h => by unfold Stm.ok at h; unfold Stm.vl Stm.cnt; exact (Pn.tup2 Pn.lit h.pn).mono (by omega) (by omega)
  | n, .name x y, h => by unfold Stm.ok at h; unfold Stm.vl Stm.cnt; exact (Pn.tup3 Pn.lit h.1.pn h.2.pn).mono (by omega) (by omega)
  | n, .drop x, h => by unfold Stm.ok at h; unfold Stm.vl Stm.cnt; exact (Pn.tup2 Pn.lit h.pn).mono (by omega) (by omega)
  | n, .hold x f y, h => by unfold Stm.ok at h; unfold Stm.vl Stm.cnt; exact (Pn.tup4 Pn.lit h.1.pn h.2.1.pn h.2.2.pn).mono (by omega) (by omega)
  | n, .weak x f y, h => by unfold Stm.ok at h; unfold Stm.vl Stm.cnt; exact (Pn.tup4 Pn.lit h.1.pn h.2.1.pn h.2.2.pn).mono (by omega) (by omega)
  | n, .cut x f, h => by unfold Stm.ok at h; unfold Stm.vl Stm.cnt; exact (Pn.tup3 Pn.lit h.1.pn h.2.pn).mono (by omega) (by omega)
  | n, .take z x f, h => by unfold Stm.ok at h; unfold Stm.vl Stm.cnt; exact (Pn.tup4 Pn.lit h.1.pn h.2.1.pn h.2.2.pn).mono (by omega) (by omega)
  | n, .say w, h => by unfold Stm.ok at h; unfold Stm.vl Stm.cnt; exact (Pn.tup2 Pn.lit h.pn).mono (by omega) (by omega)
  | n, .ask t, h => by
    unfold Stm.ok at h; unfold Stm.vl Stm.cnt
    exact (Pn.tup2 (Pn.mono Pn.lit (show 1 ≤ 5 by omega) (Nat.le_refl _)) (Tst.pn hg h)).mono (by omega) (by omega)
  | n, .ife t a b, h => by
    unfold Stm.ok at h; unfold Stm.vl Stm.cnt
    have h1 := Stm.pns hg h.2.2.1
    have h2 := Stm.pns hg h.2.2.2
    have h3 := Tst.pn hg h.2.1
    have e : 6 + 2 * (n - 1) + 1 = 5 + 2 * n := by omega
    rw [e] at h1 h2
    exact (Pn.tup4 (Pn.mono Pn.lit (show 1 ≤ 5 + 2 * n by omega) (Nat.le_refl _)) (h3.mono (by omega) (Nat.le_refl _)) h1 h2).mono (by omega) (by omega)
  | n, .rep k b, h => by
    unfold Stm.ok at h; unfold Stm.vl Stm.cnt
    have h1 := Stm.pns hg h.2.2
    have e : 6 + 2 * (n - 1) + 1 = 5 + 2 * n := by omega
    rw [e] at h1
    exact (Pn.tup3 (Pn.mono Pn.lit (show 1 ≤ 5 + 2 * n by omega) (Nat.le_refl _)) ((Pn.int (by have := h.2.1; omega)).mono (show 1 ≤ 5 + 2 * n by omega) (Nat.le_refl _)) h1).mono (by omega) (by omega)
theorem Stm.pns {g : Nat} (hg : g ≤ 100) : ∀ {n : Nat} {xs : List Stm}, Stm.oks g n xs → Pn (6 + 2 * n + 1) (2000 * Stm.cnts xs) (.tup (Stm.vls xs))
  | n, xs, h => Pn.listS (Stm.pnw hg h)
theorem Stm.pnw {g : Nat} (hg : g ≤ 100) : ∀ {n : Nat} {xs : List Stm}, Stm.oks g n xs → ∃ ws : List Nat, ws.length = (Stm.vls xs).length ∧ (∀ (i : Nat) (x : Vl) (v : Nat), (Stm.vls xs)[i]? = some x → ws[i]? = some v → Pn (6 + 2 * n) v x) ∧ (ws.map (· + 1)).sum ≤ 2000 * Stm.cnts xs
  | n, [], _ => ⟨[], rfl, fun i x v h => by simp [Stm.vls] at h, by simp⟩
  | n, x :: xs, h => by
    have h1 := Stm.pn hg h.1
    obtain ⟨ws, a, b, c⟩ := Stm.pnw hg h.2
    have hc : 1 ≤ x.cnt := by cases x <;> unfold Stm.cnt <;> omega
    refine ⟨(2000 * x.cnt - 1000) :: ws, by simp [Stm.vls, a], fun i y v e1 e2 => ?_, ?_⟩
    · cases i with
      | zero => simp [Stm.vls] at e1 e2; subst e1 e2; exact h1
      | succ i => simp [Stm.vls] at e1 e2; exact b i y v e1 e2
    · simp only [List.map_cons, List.sum_cons, Stm.cnts]
      omega
end
end Sm

/-! S32: slices of lists -/
namespace Sm
open PySem L2
end Sm

/-! S33: programs of cells: words, inner blocks, rows -/
namespace Sm
open PySem L2
def Stm.word : Stm → Str
  | .make _ => "make"
  | .wish _ _ => "wish"
  | .keep _ => "keep"
  | .name _ _ => "name"
  | .drop _ => "drop"
  | .hold _ _ _ => "hold"
  | .weak _ _ _ => "weak"
  | .cut _ _ => "cut"
  | .take _ _ _ => "take"
  | .say _ => "say"
  | .ask _ => "ask"
  | .ife _ _ _ => "if"
  | .rep _ _ => "repeat"
def blk (b : List Stm) : Vl := .tup (Stm.vls b)
def Stm.args : Stm → List Vl
  | .make x => [.str x]
  | .wish x w => [.str x, .str w]
  | .keep x => [.str x]
  | .name x y => [.str x, .str y]
  | .drop x => [.str x]
  | .hold x f y => [.str x, .str f, .str y]
  | .weak x f y => [.str x, .str f, .str y]
  | .cut x f => [.str x, .str f]
  | .take z x f => [.str z, .str x, .str f]
  | .say w => [.str w]
  | .ask t => [t.vl]
  | .ife t a b => [t.vl, blk a, blk b]
  | .rep k b => [.int (k : Nat), blk b]
/-- the blocks within a statement -/
def Stm.ins : Stm → List (List Stm)
  | .ife _ a b => [a, b]
  | .rep _ b => [b]
  | _ => []
mutual
theorem Stm.flat_len : ∀ (d : Nat) (x : Stm), (x.flat d).length = x.cnt
  | d, .make x => rfl
  | d, .wish x w => rfl
  | d, .keep x => rfl
  | d, .name x y => rfl
  | d, .drop x => rfl
  | d, .hold x f y => rfl
  | d, .weak x f y => rfl
  | d, .cut x f => rfl
  | d, .take z x f => rfl
  | d, .say w => rfl
  | d, .ask t => rfl
  | d, .ife t a b => by
    have h1 := Stm.flats_len (d + 1) a
    have h2 := Stm.flats_len (d + 1) b
    simp only [Stm.flat, Stm.cnt, List.length_cons, List.length_append, h1, h2]
    omega
  | d, .rep k b => by
    have h1 := Stm.flats_len (d + 1) b
    simp only [Stm.flat, Stm.cnt, List.length_cons, h1]
    omega
theorem Stm.flats_len : ∀ (d : Nat) (b : List Stm), (Stm.flats d b).length = Stm.cnts b
  | d, [] => rfl
  | d, x :: b => by
    have h1 := Stm.flat_len d x
    have h2 := Stm.flats_len d b
    simp only [Stm.flats, Stm.cnts, List.length_append, h1, h2]
end
mutual
theorem Stm.flat_ok {g : Nat} : ∀ {n : Nat} (d : Nat) {x : Stm}, x.ok g n → ∀ q ∈ x.flat d, q.2.ok g n ∧ q.2.cnt ≤ x.cnt
  | n, d, .make x, h, q, hq => by simp only [Stm.flat, List.mem_singleton] at hq; subst hq; exact ⟨h, Nat.le_refl _⟩
  | n, d, .wish x w, h, q, hq => by simp only [Stm.flat, List.mem_singleton] at hq; subst hq; exact ⟨h, Nat.le_refl _⟩
  | n, d, .keep x, h, q, hq => by simp only [Stm.flat, List.mem_singleton] at hq; subst hq; exact ⟨h, Nat.le_refl _⟩
  | n, d, .name x w, h, q, hq => by simp only [Stm.flat, List.mem_singleton] at hq; subst hq; exact ⟨h, Nat.le_refl _⟩
  | n, d, .drop x, h, q, hq => by simp only [Stm.flat, List.mem_singleton] at hq; subst hq; exact ⟨h, Nat.le_refl _⟩
  | n, d, .hold x f y, h, q, hq => by simp only [Stm.flat, List.mem_singleton] at hq; subst hq; exact ⟨h, Nat.le_refl _⟩
  | n, d, .weak x f y, h, q, hq => by simp only [Stm.flat, List.mem_singleton] at hq; subst hq; exact ⟨h, Nat.le_refl _⟩
  | n, d, .cut x f, h, q, hq => by simp only [Stm.flat, List.mem_singleton] at hq; subst hq; exact ⟨h, Nat.le_refl _⟩
  | n, d, .take z x f, h, q, hq => by simp only [Stm.flat, List.mem_singleton] at hq; subst hq; exact ⟨h, Nat.le_refl _⟩
  | n, d, .say w, h, q, hq => by simp only [Stm.flat, List.mem_singleton] at hq; subst hq; exact ⟨h, Nat.le_refl _⟩
  | n, d, .ask t, h, q, hq => by simp only [Stm.flat, List.mem_singleton] at hq; subst hq; exact ⟨h, Nat.le_refl _⟩
  | n, d, .ife t a b, h, q, hq => by
    have h0 := h
    unfold Stm.ok at h0
    simp only [Stm.flat, List.mem_cons, List.mem_append] at hq
    simp only [Stm.cnt]
    rcases hq with rfl | hq | hq
    · exact ⟨h, by simp [Stm.cnt]⟩
    · have := Stm.flats_ok (d + 1) h0.2.2.1 q hq
      exact ⟨this.1.mono (by omega), by omega⟩
    · have := Stm.flats_ok (d + 1) h0.2.2.2 q hq
      exact ⟨this.1.mono (by omega), by omega⟩
  | n, d, .rep k b, h, q, hq => by
    have h0 := h
    unfold Stm.ok at h0
    simp only [Stm.flat, List.mem_cons] at hq
    simp only [Stm.cnt]
    rcases hq with rfl | hq
    · exact ⟨h, by simp [Stm.cnt]⟩
    · have := Stm.flats_ok (d + 1) h0.2.2 q hq
      exact ⟨this.1.mono (by omega), by omega⟩
theorem Stm.flats_ok {g : Nat} : ∀ {n : Nat} (d : Nat) {b : List Stm}, Stm.oks g n b → ∀ q ∈ Stm.flats d b, q.2.ok g n ∧ q.2.cnt ≤ Stm.cnts b
  | n, d, [], h, q, hq => by simp [Stm.flats] at hq
  | n, d, x :: b, h, q, hq => by
    simp only [Stm.flats, List.mem_append] at hq
    simp only [Stm.cnts]
    rcases hq with hq | hq
    · have := Stm.flat_ok d h.1 q hq
      exact ⟨this.1, by omega⟩
    · have := Stm.flats_ok d h.2 q hq
      exact ⟨this.1, by omega⟩
end
def rowD (q : Nat × Stm) : Vl := .tup [.int (q.1 : Nat), q.2.vl]
def rowS (q : Nat × Stm) : Vl := q.2.vl
end Sm

/-! S35: pure rules of S34 -/
namespace Sm
open PySem L2
section
variable {lo : Lo} {s : Sto} {QV : Vl → Sto → Prop} {E : Ex → Sto → Prop}
def fmtW (x : Vl) (P : Str → Prop) : Prop := match x with
  | .str y => y.length ≤ LIM ∧ P y
  | .int i => i.natAbs.log2 < 1920 ∧ P (Str.ofString (toString i))
  | _ => False
@[simp] theorem fmtW_str {y : Str} {P : Str → Prop} (h : y.length ≤ LIM) : fmtW (.str y) P = P y := by simp [fmtW, h]
@[simp] theorem fmtW_int {i : Int} {P : Str → Prop} (h : i.natAbs.log2 < 1920) : fmtW (.int i) P = P (Str.ofString (toString i)) := by simp [fmtW, h]
@[simp ↓] theorem WE_eFmt {m : EM} : WE (eFmt m lo) s QV E = WE (m lo) s (fun x s => fmtW x fun y => QV (.str y) s) E := by
  unfold eFmt
  rw [WE_bnd]
  refine WE_ext fun x s => ?_
  unfold fmtM
  cases x <;> try (simp only [WE_eq]; rfl)
  · rename_i i
    by_cases h : i.natAbs.log2 < 1920
    · simp only [WE_eq, if_pos h, fmtW, h, true_and]; rfl
    · simp only [WE_eq, if_neg h, fmtW, h, false_and]; rfl
  · rename_i y
    by_cases h : y.length ≤ LIM
    · simp only [WE_eq, if_pos h, fmtW, h, true_and]; rfl
    · simp only [WE_eq, if_neg h, fmtW, h, false_and]; rfl
def strW (x : Vl) (P : Str → Prop) : Prop := match x with
  | .str y => P y
  | _ => False
@[simp] theorem strW_str {y : Str} {P : Str → Prop} : strW (.str y) P = P y := rfl
theorem WE_eJnd {ms : List EM} : WE (eJnd ms lo) s QV E = WE (jnd ms Str.empty lo) s QV E := rfl
@[simp ↓] theorem WE_eOrL {a b : EM} : WE (eOrL a b lo) s QV E = WE (a lo) s (fun x s => match lstOf x s with | some xs => if xs.isEmpty = true then WE (b lo) s QV E else QV x s | none => False) E := by
  unfold eOrL
  rw [WE_bnd]
  refine WE_ext fun x s => ?_
  simp only [WE_eq]
  unfold WE0
  cases h : lstOf x s with
  | none => simp only [h]
  | some xs =>
    by_cases q : xs.isEmpty = true
    · simp only [h, q, if_true]
    · simp only [h, q, if_false, Bool.false_eq_true]
@[simp] theorem lstOf_ref {j : Nat} {xs : List Vl} (h : s[j]? = some (.lst xs)) : lstOf (.ref j) s = some xs := by simp only [lstOf, h]
@[simp] theorem oSplit0_str {a : Str} (h : a.length + 2 ≤ LIM) : oSplit0 (.str a) [] s = some (.ref s.length, s ++ [.lst ((Txt.words a).map Vl.str)]) := by simp only [oSplit0, if_pos h]
@[simp] theorem oStrD_str {y : Str} : oStrD [.str y] s = some (.str y, s) := rfl
@[simp] theorem oStrD_int {i : Int} (h : i.natAbs.log2 < 1920) : oStrD [.int i] s = some (.str (Str.ofString (toString i)), s) := by simp only [oStrD, if_pos h]
end
end Sm

/-! S36: programs of cells whose names and words are of a kind -/
namespace Sm
open PySem L2
section
variable (N W : Str → Prop)
def Tst.sat : Tst → Prop
  | .given _ => True
  | .set x => N x
  | .same x y => N x ∧ N y
  | .full x f => N x ∧ N f
  | .wished w => W w
  | .not t => t.sat
mutual
def Stm.sat : Stm → Prop
  | .make x => N x
  | .wish x w => N x ∧ W w
  | .keep x => N x
  | .name x y => N x ∧ N y
  | .drop x => N x
  | .hold x f y => N x ∧ N f ∧ N y
  | .weak x f y => N x ∧ N f ∧ N y
  | .cut x f => N x ∧ N f
  | .take z x f => N z ∧ N x ∧ N f
  | .say w => W w
  | .ask t => t.sat N W
  | .ife t a b => t.sat N W ∧ Stm.sats a ∧ Stm.sats b
  | .rep _ b => Stm.sats b
def Stm.sats : List Stm → Prop
  | [] => True
  | x :: xs => x.sat ∧ Stm.sats xs
end
end
end Sm

/-! S37: the texts of tests, statements and blocks -/
namespace Sm
open PySem L2
def nums (i : Nat) : Str := Str.ofString (toString ((i : Nat) : Int))
def Tst.txt : Tst → Str
  | .given i => "given " ++ nums i
  | .set x => "set " ++ x
  | .same x y => x ++ " is " ++ y
  | .full x f => "full " ++ x ++ "." ++ f
  | .wished w => "wished " ++ w
  | .not t => "not " ++ t.txt
def Stm.line : Stm → Str
  | .make x => "make " ++ x
  | .wish x w => "wish " ++ x ++ " " ++ w
  | .keep x => "keep " ++ x
  | .name x y => x ++ " = " ++ y
  | .drop x => "drop " ++ x
  | .hold x f y => x ++ "." ++ f ++ " = " ++ y
  | .weak x f y => x ++ "." ++ f ++ " ~ " ++ y
  | .cut x f => "cut " ++ x ++ "." ++ f
  | .take z x f => z ++ " = " ++ x ++ "." ++ f
  | .say w => "say " ++ w
  | .ask t => "ask " ++ t.txt
  | .ife t _ _ => "if " ++ t.txt
  | .rep k _ => "repeat " ++ nums k
mutual
/-- the lines of a statement -/
def Stm.lines (a : Str) : Stm → List Str
  | .ife t x y => (a ++ (Stm.ife t x y).line) :: ((match Stm.liness (a ++ "  ") x with | [] => [a ++ "  pass"] | ls => ls) ++ (match Stm.liness (a ++ "  ") y with | [] => [] | ls => (a ++ "else") :: ls))
  | .rep k x => (a ++ (Stm.rep k x).line) :: (match Stm.liness (a ++ "  ") x with | [] => [a ++ "  pass"] | ls => ls)
  | x => [a ++ x.line]
def Stm.liness (a : Str) : List Stm → List Str
  | [] => []
  | x :: xs => x.lines a ++ Stm.liness a xs
end
end Sm

/-! S38: values that can be laid out (==); short loops unrolled; lines -/
namespace Sm
open PySem L2
def La (n : Nat) (v : Vl) : Prop := ∃ d : PyData, (∀ s m, n ≤ m → toD m s v = some d) ∧ d.canLay0 = true
theorem La.mono {n m : Nat} {v : Vl} (h : La n v) (h1 : n ≤ m) : La m v := by
  obtain ⟨d, a, b⟩ := h
  exact ⟨d, fun s k hk => a s k (Nat.le_trans h1 hk), b⟩
theorem La.int {i : Int} : La 1 (.int i) := by
  refine ⟨.int i, fun s m hm => ?_, rfl⟩
  obtain ⟨m, rfl⟩ : ∃ k, m = k + 1 := ⟨m - 1, by omega⟩
  rfl
theorem La.str {x : Str} (h : PyData.strOk x = true) : La 1 (.str x) := by
  refine ⟨.str x, fun s m hm => ?_, h⟩
  obtain ⟨m, rfl⟩ : ∃ k, m = k + 1 := ⟨m - 1, by omega⟩
  rfl
theorem La.lit {x : Str} (h : (x.cps.toList.all fun c => decide (c < 128)) = true := by decide) : La 1 (.str x) := La.str (by
  unfold PyData.strOk
  rw [← Array.all_toList, List.all_eq_true]
  intro c hc
  have := of_decide_eq_true (List.all_eq_true.mp h c hc)
  exact decide_eq_true (by omega))
theorem Nice.la {x : Str} (h : Nice x) : La 1 (.str x) := La.str h.strOk
theorem La.all {n : Nat} : ∀ {xs : List Vl}, (∀ x ∈ xs, La n x) → ∃ ds : List PyData, (∀ s m, n ≤ m → mapO (toD m s) xs = some ds) ∧ PyData.canLayAll0 ds = true
  | [], _ => ⟨[], fun _ _ _ => rfl, rfl⟩
  | x :: xs, h => by
    obtain ⟨d, a, b⟩ := h x (List.mem_cons_self ..)
    obtain ⟨ds, a', b'⟩ := La.all fun y hy => h y (List.mem_cons_of_mem _ hy)
    refine ⟨d :: ds, fun s m hm => ?_, ?_⟩
    · simp only [mapO, a s m hm, a' s m hm]
    · simp only [PyData.canLayAll0, b, b', Bool.and_self]
theorem La.tup {n : Nat} {xs : List Vl} (h : ∀ x ∈ xs, La n x) : La (n + 1) (.tup xs) := by
  obtain ⟨ds, a, b⟩ := La.all h
  refine ⟨.tuple ds, fun s m hm => ?_, ?_⟩
  · obtain ⟨m, rfl⟩ : ∃ k, m = k + 1 := ⟨m - 1, by omega⟩
    simp only [toD, a s m (by omega), Option.map]
  · simpa only [PyData.canLay0] using b
theorem La.tup2 {n : Nat} {a b : Vl} (h1 : La n a) (h2 : La n b) : La (n + 1) (.tup [a, b]) := La.tup fun x hx => by
  simp at hx; rcases hx with rfl | rfl <;> assumption
theorem La.tup3 {n : Nat} {a b c : Vl} (h1 : La n a) (h2 : La n b) (h3 : La n c) : La (n + 1) (.tup [a, b, c]) := La.tup fun x hx => by
  simp at hx; rcases hx with rfl | rfl | rfl <;> assumption
theorem La.tup4 {n : Nat} {a b c d : Vl} (h1 : La n a) (h2 : La n b) (h3 : La n c) (h4 : La n d) : La (n + 1) (.tup [a, b, c, d]) := La.tup fun x hx => by
  simp at hx; rcases hx with rfl | rfl | rfl | rfl <;> assumption
theorem Tst.la {g : Nat} : ∀ {n : Nat} {t : Tst}, t.ok g n → La (2 + n) t.vl
  | n, .given i, h => (La.tup2 La.lit La.int).mono (by omega)
  | n, .set x, h => by
    have h : Nice x := by cases n <;> exact h
    exact (La.tup2 La.lit h.la).mono (by omega)
  | n, .same x y, h => by
    have h : Nice x ∧ Nice y := by cases n <;> exact h
    exact (La.tup3 La.lit h.1.la h.2.la).mono (by omega)
  | n, .full x y, h => by
    have h : Nice x ∧ Nice y := by cases n <;> exact h
    exact (La.tup3 La.lit h.1.la h.2.la).mono (by omega)
  | n, .wished x, h => by
    have h : Nice x := by cases n <;> exact h
    exact (La.tup2 La.lit h.la).mono (by omega)
  | n + 1, .not t, h => by
    have ih := Tst.la (n := n) (t := t) h
    exact (La.tup2 (La.mono La.lit (by omega)) ih).mono (by omega)
  | 0, .not t, h => h.elim
mutual
theorem Stm.la {g : Nat} : ∀ {n : Nat} {x : Stm}, x.ok g n → La (6 + 2 * n) x.vl
  | n, .make x, h => by unfold Stm.ok at h; unfold Stm.vl; exact (La.tup2 La.lit h.la).mono (by omega)
  | n, .wish x w, h => by unfold Stm.ok at h; unfold Stm.vl; exact (La.tup3 La.lit h.1.la h.2.la).mono (by omega)
  | n, .keep x, h => by unfold Stm.ok at h; unfold Stm.vl; exact (La.tup2 La.lit h.la).mono (by omega)
  | n, .name x y, h => by unfold Stm.ok at h; unfold Stm.vl; exact (La.tup3 La.lit h.1.la h.2.la).mono (by omega)
  | n, .drop x, h => by unfold Stm.ok at h; unfold Stm.vl; exact (La.tup2 La.lit h.la).mono (by omega)
  | n, .hold x f y, h => by unfold Stm.ok at h; unfold Stm.vl; exact (La.tup4 La.lit h.1.la h.2.1.la h.2.2.la).mono (by omega)
  | n, .weak x f y, h => by unfold Stm.ok at h; unfold Stm.vl; exact (La.tup4 La.lit h.1.la h.2.1.la h.2.2.la).mono (by omega)
  | n, .cut x f, h => by unfold Stm.ok at h; unfold Stm.vl; exact (La.tup3 La.lit h.1.la h.2.la).mono (by omega)
  | n, .take z x f, h => by unfold Stm.ok at h; unfold Stm.vl; exact (La.tup4 La.lit h.1.la h.2.1.la h.2.2.la).mono (by omega)
  | n, .say w, h => by unfold Stm.ok at h; unfold Stm.vl; exact (La.tup2 La.lit h.la).mono (by omega)
  | n, .ask t, h => by
    unfold Stm.ok at h; unfold Stm.vl
    exact (La.tup2 (La.mono La.lit (show 1 ≤ 5 by omega)) (Tst.la h)).mono (by omega)
  | n, .ife t a b, h => by
    unfold Stm.ok at h; unfold Stm.vl
    have h1 : La (6 + 2 * (n - 1) + 1) (.tup (Stm.vls a)) := La.tup (Stm.lam h.2.2.1)
    have h2 : La (6 + 2 * (n - 1) + 1) (.tup (Stm.vls b)) := La.tup (Stm.lam h.2.2.2)
    have h3 := Tst.la h.2.1
    have e : 6 + 2 * (n - 1) + 1 = 5 + 2 * n := by omega
    rw [e] at h1 h2
    exact (La.tup4 (La.mono La.lit (show 1 ≤ 5 + 2 * n by omega)) (h3.mono (by omega)) h1 h2).mono (by omega)
  | n, .rep k b, h => by
    unfold Stm.ok at h; unfold Stm.vl
    have h1 : La (6 + 2 * (n - 1) + 1) (.tup (Stm.vls b)) := La.tup (Stm.lam h.2.2)
    have e : 6 + 2 * (n - 1) + 1 = 5 + 2 * n := by omega
    rw [e] at h1
    exact (La.tup3 (La.mono La.lit (show 1 ≤ 5 + 2 * n by omega)) (La.int.mono (show 1 ≤ 5 + 2 * n by omega)) h1).mono (by omega)
theorem Stm.lam {g : Nat} : ∀ {n : Nat} {xs : List Stm}, Stm.oks g n xs → ∀ v ∈ Stm.vls xs, La (6 + 2 * n) v
  | n, [], _, v, hv => by simp [Stm.vls] at hv
  | n, x :: xs, h, v, hv => by
    simp only [Stm.vls, List.mem_cons] at hv
    rcases hv with rfl | hv
    · exact Stm.la h.1
    · exact Stm.lam h.2 v hv
end
/-! ### short loops -/
section
variable {s : Sto} {lo : Lo} {K : RK} {g : GM} {b : SM}
theorem WS_loopX_cons {v : Vl} {vs : List Vl} : WS (loopX g b (v :: vs)) lo s K = WG g v lo s (fun lo s => WS b lo s ⟨fun lo s => WS (loopX g b vs) lo s K, K.rt, K.nx, fun lo s => WS (loopX g b vs) lo s K, K.ex⟩) (fun e s => K.ex e lo s) := by
  simp only [WS_eq, WG_eq, WE_eq]
  unfold WS0 WE0
  have e : loopX g b (v :: vs) lo s = match g v lo s with | .ok lo' s' => (match b lo' s' with | .nx lo2 s2 => loopX g b vs lo2 s2 | .ct lo2 s2 => loopX g b vs lo2 s2 | .bk lo2 s2 => .nx lo2 s2 | .rt v s2 => .rt v s2 | .exc z lo2 s2 => .exc z lo2 s2 | .fail => .fail) | .exc z s' => .exc z lo s' | .fail => .fail := by
    conv => lhs; unfold loopX
    cases g v lo s with
    | fail => rfl
    | exc z s' => rfl
    | ok lo' s' => rfl
  rw [e]
  cases g v lo s with
  | fail => rfl
  | exc z s' => rfl
  | ok lo' s' =>
    simp only [WS_eq]
    cases b lo' s' <;> rfl
end
section
variable {s : Sto} {xs : List Vl} {x : Str} {i : Int} {k : Bool}
@[simp] theorem oIsi_tup_tuple : oIsi [.tup xs, .ty "tuple"] s = some (.bl true, s) := rfl
@[simp] theorem oIsi_tup_str : oIsi [.tup xs, .ty "str"] s = some (.bl false, s) := rfl
@[simp] theorem oIsi_tup_int : oIsi [.tup xs, .ty "int"] s = some (.bl false, s) := rfl
@[simp] theorem oIsi_tup_bool : oIsi [.tup xs, .ty "bool"] s = some (.bl false, s) := rfl
@[simp] theorem oIsi_tup_list : oIsi [.tup xs, .ty "list"] s = some (.bl false, s) := rfl
@[simp] theorem oIsi_tup_dict : oIsi [.tup xs, .ty "dict"] s = some (.bl false, s) := rfl
@[simp] theorem oIsi_str_tuple : oIsi [.str x, .ty "tuple"] s = some (.bl false, s) := rfl
@[simp] theorem oIsi_str_str : oIsi [.str x, .ty "str"] s = some (.bl true, s) := rfl
@[simp] theorem oIsi_str_int : oIsi [.str x, .ty "int"] s = some (.bl false, s) := rfl
@[simp] theorem oIsi_str_bool : oIsi [.str x, .ty "bool"] s = some (.bl false, s) := rfl
@[simp] theorem oIsi_str_list : oIsi [.str x, .ty "list"] s = some (.bl false, s) := rfl
@[simp] theorem oIsi_str_dict : oIsi [.str x, .ty "dict"] s = some (.bl false, s) := rfl
@[simp] theorem oIsi_int_tuple : oIsi [.int i, .ty "tuple"] s = some (.bl false, s) := rfl
@[simp] theorem oIsi_int_str : oIsi [.int i, .ty "str"] s = some (.bl false, s) := rfl
@[simp] theorem oIsi_int_int : oIsi [.int i, .ty "int"] s = some (.bl true, s) := rfl
@[simp] theorem oIsi_int_bool : oIsi [.int i, .ty "bool"] s = some (.bl false, s) := rfl
@[simp] theorem oIsi_int_list : oIsi [.int i, .ty "list"] s = some (.bl false, s) := rfl
@[simp] theorem oIsi_int_dict : oIsi [.int i, .ty "dict"] s = some (.bl false, s) := rfl
@[simp] theorem oIsi_bl_tuple : oIsi [.bl k, .ty "tuple"] s = some (.bl false, s) := rfl
@[simp] theorem oIsi_bl_str : oIsi [.bl k, .ty "str"] s = some (.bl false, s) := rfl
@[simp] theorem oIsi_bl_int : oIsi [.bl k, .ty "int"] s = some (.bl true, s) := rfl
@[simp] theorem oIsi_bl_bool : oIsi [.bl k, .ty "bool"] s = some (.bl true, s) := rfl
@[simp] theorem oIsi_bl_list : oIsi [.bl k, .ty "list"] s = some (.bl false, s) := rfl
@[simp] theorem oIsi_bl_dict : oIsi [.bl k, .ty "dict"] s = some (.bl false, s) := rfl
@[simp] theorem oIsi_non_tuple : oIsi [.non, .ty "tuple"] s = some (.bl false, s) := rfl
@[simp] theorem oIsi_non_str : oIsi [.non, .ty "str"] s = some (.bl false, s) := rfl
@[simp] theorem oIsi_non_int : oIsi [.non, .ty "int"] s = some (.bl false, s) := rfl
@[simp] theorem oIsi_non_bool : oIsi [.non, .ty "bool"] s = some (.bl false, s) := rfl
@[simp] theorem oIsi_non_list : oIsi [.non, .ty "list"] s = some (.bl false, s) := rfl
@[simp] theorem oIsi_non_dict : oIsi [.non, .ty "dict"] s = some (.bl false, s) := rfl
end
/-! ### lines -/
def padL (a : Str) (p : List Stm) : List Str := match Stm.liness (a ++ "  ") p with | [] => [a ++ "  pass"] | ls => ls
def elsL (a : Str) (p : List Stm) : List Str := match Stm.liness (a ++ "  ") p with | [] => [] | ls => (a ++ "else") :: ls
theorem Stm.lines_eq (a : Str) (x : Stm) : x.lines a = (a ++ x.line) :: (match x.ins with | [] => [] | [p] => padL a p | p :: q :: _ => padL a p ++ elsL a q) := by
  cases x
  case ife t p q => simp only [Stm.lines, Stm.ins, padL, elsL] <;> cases Stm.liness (a ++ "  ") p <;> cases Stm.liness (a ++ "  ") q <;> rfl
  case rep k p => simp only [Stm.lines, Stm.ins, padL, elsL] <;> cases Stm.liness (a ++ "  ") p <;> rfl
  all_goals simp [Stm.lines, Stm.ins]
theorem Stm.lines_ne {a : Str} {x : Stm} : x.lines a ≠ [] := by rw [Stm.lines_eq]; simp
theorem Stm.liness_nil {a : Str} {b : List Stm} : Stm.liness a b = [] ↔ b = [] := by
  cases b with
  | nil => simp [Stm.liness]
  | cons x b => simp [Stm.liness, Stm.lines_ne]
theorem padL_ne {a : Str} {p : List Stm} (h : p ≠ []) : padL a p = Stm.liness (a ++ "  ") p := by
  unfold padL
  cases q : Stm.liness (a ++ "  ") p with
  | nil => exact absurd (Stm.liness_nil.mp q) h
  | cons _ _ => rfl
theorem elsL_ne {a : Str} {p : List Stm} (h : p ≠ []) : elsL a p = (a ++ "else") :: Stm.liness (a ++ "  ") p := by
  unfold elsL
  cases q : Stm.liness (a ++ "  ") p with
  | nil => exact absurd (Stm.liness_nil.mp q) h
  | cons _ _ => rfl
end Sm

/-! S73: list(range(n)) -/
namespace Sm
open PySem PySem.Spec PyProof.Rows L2
def eListRg (a : EM) : EM := fun lo => bnd (a lo) fun x s => match x with
  | .int n => if 0 ≤ n ∧ n < 1000000 then .ok (.ref s.length) (s ++ [.lst (rng 0 n.toNat)]) else .fail
  | _ => .fail
section
variable {X : Cx} {T : Tb} {W : WX} {pos pos2 p p2 : Pos} {e : Expr} {a : EM}
end
end Sm

/-! S74: list(range(n)), computed -/
namespace Sm
open PySem L2
section
variable {s : Sto} {lo : Lo} {QV : Vl → Sto → Prop} {E : Ex → Sto → Prop}
@[simp ↓] theorem WE_eListRg {a : EM} : WE (eListRg a lo) s QV E = WE (a lo) s (fun x s => match x with | .int n => if 0 ≤ n ∧ n < 1000000 then QV (.ref s.length) (s ++ [.lst (rng 0 n.toNat)]) else False | _ => False) E := by
  unfold eListRg
  rw [WE_bnd]
  refine WE_ext fun x s => ?_
  cases x <;> try (simp only [WE_eq]; rfl)
  rename_i n
  simp only [WE_eq]
  unfold WE0
  simp only
  by_cases h : 0 ≤ n ∧ n < 1000000
  · simp only [if_pos h]
  · simp only [if_neg h]
end
end Sm

/-! S77: tuple(range(n)), list(range(a, b)) -/
namespace Sm
open PySem PySem.Spec PyProof.Rows L2
def eTupRg (a : EM) : EM := fun lo => bnd (a lo) fun x s => match x with
  | .int n => if 0 ≤ n ∧ n < 1000000 then .ok (.tup (rng 0 n.toNat)) s else .fail
  | _ => .fail
/-- the integers from a up to b, left out -/
def rngI (a b : Int) : List Vl := (List.range (b - a).toNat).map fun i : Nat => Vl.int (a + (i : Nat))
def rg2F (x y : Vl) : M Vl := fun s => match x, y with
  | .int i, .int j => if 0 ≤ i ∧ i < 1000000 ∧ 0 ≤ j ∧ j < 1000000 then .ok (.ref s.length) (s ++ [.lst (rngI i j)]) else .fail
  | _, _ => .fail
def eListRg2 (a b : EM) : EM := fun lo => bnd (a lo) fun x => bnd (b lo) fun y => rg2F x y
section
variable {X : Cx} {T : Tb} {W : WX} {pos pos2 p p2 : Pos} {e e2 : Expr} {a b : EM}
end
end Sm

/-! S78: tuple(range(n)), list(range(a, b)), computed -/
namespace Sm
open PySem L2
section
variable {s : Sto} {lo : Lo} {QV : Vl → Sto → Prop} {E : Ex → Sto → Prop}
@[simp ↓] theorem WE_eTupRg {a : EM} : WE (eTupRg a lo) s QV E = WE (a lo) s (fun x s => match x with | .int n => if 0 ≤ n ∧ n < 1000000 then QV (.tup (rng 0 n.toNat)) s else False | _ => False) E := by
  unfold eTupRg
  rw [WE_bnd]
  refine WE_ext fun x s => ?_
  cases x <;> try (simp only [WE_eq]; rfl)
  rename_i n
  simp only [WE_eq]
  unfold WE0
  simp only
  by_cases h : 0 ≤ n ∧ n < 1000000
  · simp only [if_pos h]
  · simp only [if_neg h]
def rg2W (x y : Vl) (s : Sto) (QV : Vl → Sto → Prop) : Prop := match x, y with
  | .int i, .int j => if 0 ≤ i ∧ i < 1000000 ∧ 0 ≤ j ∧ j < 1000000 then QV (.ref s.length) (s ++ [.lst (rngI i j)]) else False
  | _, _ => False
@[simp] theorem rg2W_int {i j : Int} (h : 0 ≤ i ∧ i < 1000000 ∧ 0 ≤ j ∧ j < 1000000) : rg2W (.int i) (.int j) s QV = QV (.ref s.length) (s ++ [.lst (rngI i j)]) := by unfold rg2W; simp only [if_pos h]
@[simp ↓] theorem WE_eListRg2 {a b : EM} : WE (eListRg2 a b lo) s QV E = WE (a lo) s (fun x s => WE (b lo) s (fun y s => rg2W x y s QV) E) E := by
  unfold eListRg2
  rw [WE_bnd]
  refine WE_ext fun x s => ?_
  rw [WE_bnd]
  refine WE_ext fun y s => ?_
  cases x <;> cases y <;> try (simp only [WE_eq]; rfl)
  rename_i i j
  simp only [WE_eq]
  unfold WE0 rg2W rg2F
  simp only
  by_cases h : 0 ≤ i ∧ i < 1000000 ∧ 0 ≤ j ∧ j < 1000000
  · simp only [if_pos h]
  · simp only [if_neg h]
end
end Sm

/-! K8A: rules made by operators: what they name -/
namespace K48
open PySem L2 Sm
inductive Rl where
  | bas (b : Bs) | and (x y : Rl) | or (x y : Rl) | less (x y : Rl)
def Rl.dep : Rl → Nat
  | .bas _ => 0
  | .and x y => max x.dep y.dep + 1
  | .or x y => max x.dep y.dep + 1
  | .less x y => max x.dep y.dep + 1
def Rl.told : Rl → Vl
  | .bas b => b.told
  | .and x y => .tup [.str "and", .tup [x.told, y.told]]
  | .or x y => .tup [.str "or", .tup [x.told, y.told]]
  | .less x y => .tup [.str "less", .tup [x.told, y.told]]
def Rl.c : Rl → Nat
  | .bas b => b.c
  | .and _ _ => 2
  | .or _ _ => 3
  | .less _ _ => 4
/-- what a rule names -/
def NmR (V : View) : Rl → List Int → Prop
  | .bas b, L => Nm V L b
  | .and x y, L => ∃ A B, NmR V x A ∧ NmR V y B ∧ L = A.filter fun c => decide (c ∈ B)
  | .or x y, L => ∃ A B, NmR V x A ∧ NmR V y B ∧ L = srt (ddup (A ++ B))
  | .less x y, L => ∃ A B, NmR V x A ∧ NmR V y B ∧ L = A.filter fun c => !decide (c ∈ B)
theorem NmR.uniq {V : View} : ∀ {R : Rl} {L L' : List Int}, NmR V R L → NmR V R L' → L = L'
  | .bas b, _, _, h, h' => Nm.uniq h h'
  | .and x y, _, _, ⟨A, B, a, b, e⟩, ⟨A', B', a', b', e'⟩ => by rw [e, e', NmR.uniq a a', NmR.uniq b b']
  | .or x y, _, _, ⟨A, B, a, b, e⟩, ⟨A', B', a', b', e'⟩ => by rw [e, e', NmR.uniq a a', NmR.uniq b b']
  | .less x y, _, _, ⟨A, B, a, b, e⟩, ⟨A', B', a', b', e'⟩ => by rw [e, e', NmR.uniq a a', NmR.uniq b b']
theorem Nm.ex {V : View} (O : V.ok) (b : Bs) : ∃ L, Nm V L b := by
  have h := names (b := b) (s := [b.ob]) (r := 0) (Q := fun _ _ => ∃ L, Nm V L b) (E := NoX) O rfl fun L s' h _ => ⟨L, h⟩
  obtain ⟨_, _, _, L, hL⟩ := h.get
  exact ⟨L, hL⟩
theorem NmR.ex {V : View} (O : V.ok) : ∀ R : Rl, ∃ L, NmR V R L
  | .bas b => Nm.ex O b
  | .and x y => let ⟨A, a⟩ := NmR.ex O x; let ⟨B, b⟩ := NmR.ex O y; ⟨_, A, B, a, b, rfl⟩
  | .or x y => let ⟨A, a⟩ := NmR.ex O x; let ⟨B, b⟩ := NmR.ex O y; ⟨_, A, B, a, b, rfl⟩
  | .less x y => let ⟨A, a⟩ := NmR.ex O x; let ⟨B, b⟩ := NmR.ex O y; ⟨_, A, B, a, b, rfl⟩
def cellsV (V : View) : List Int := V.rows.map (·.cell)
theorem unr_sub {V : View} : ∀ x ∈ unr V, x ∈ cellsV V := fun x hx => by
  obtain ⟨r, hr, rfl⟩ := List.mem_map.mp hx
  exact List.mem_map.mpr ⟨r, (List.mem_filter.mp hr).1, rfl⟩
theorem unr_inc {V : View} (O : V.ok) : Inc (unr V) := by
  have h := O.i
  unfold unr
  exact List.Pairwise.sublist (List.Sublist.map _ (List.filter_sublist)) h
theorem Nm.inc {V : View} (O : V.ok) {b : Bs} {L : List Int} (h : Nm V L b) : Inc L ∧ ∀ x ∈ L, x ∈ cellsV V := by
  have h0 : Inc ([] : List Int) ∧ ∀ x ∈ ([] : List Int), x ∈ cellsV V := ⟨List.Pairwise.nil, by simp⟩
  have hu : Inc (unr V) ∧ ∀ x ∈ unr V, x ∈ cellsV V := ⟨unr_inc O, unr_sub⟩
  cases b with
  | never => subst h; exact h0
  | all => subst h; exact hu
  | counting =>
    obtain ⟨F, hF, rfl⟩ := h
    obtain ⟨n, rfl⟩ := hF.ex
    have kF := Fk.it (rows := V.rows) n
    exact ⟨srt_inc kF.nd, fun x hx => kF.sub x (mem_srt.mp hx)⟩
  | above m =>
    have h : L = if m < V.rows.length then unr V else [] := h
    split at h
    · subst h; exact hu
    · subst h; exact h0
  | places ps =>
    have h : L = if (V.p : Int) ∈ ps.map (fun n : Nat => (n : Int)) then unr V else [] := h
    split at h
    · subst h; exact hu
    · subst h; exact h0
theorem Inc.filter {A : List Int} {p : Int → Bool} (h : Inc A) : Inc (A.filter p) := List.Pairwise.sublist List.filter_sublist h
theorem NmR.inc {V : View} (O : V.ok) : ∀ {R : Rl} {L : List Int}, NmR V R L → Inc L ∧ ∀ x ∈ L, x ∈ cellsV V
  | .bas b, _, h => Nm.inc O h
  | .and x y, _, ⟨A, B, a, b, e⟩ => by
    subst e
    obtain ⟨i, m⟩ := NmR.inc O a
    exact ⟨Inc.filter i, fun x hx => m x (List.mem_filter.mp hx).1⟩
  | .less x y, _, ⟨A, B, a, b, e⟩ => by
    subst e
    obtain ⟨i, m⟩ := NmR.inc O a
    exact ⟨Inc.filter i, fun x hx => m x (List.mem_filter.mp hx).1⟩
  | .or x y, _, ⟨A, B, a, b, e⟩ => by
    subst e
    obtain ⟨_, m⟩ := NmR.inc O a
    obtain ⟨_, m'⟩ := NmR.inc O b
    refine ⟨srt_inc (ddup_nodup _), fun x hx => ?_⟩
    rcases List.mem_append.mp (mem_ddup.mp (mem_srt.mp hx)) with q | q
    · exact m x q
    · exact m' x q
theorem NmR.len {V : View} (O : V.ok) {R : Rl} {L : List Int} (h : NmR V R L) : L.length ≤ 8 := by
  obtain ⟨i, m⟩ := NmR.inc O h
  have h1 : L.length ≤ (cellsV V).length := List.Nodup.length_le_of_subset i.nodup m
  have h2 := O.n
  unfold cellsV at h1
  rw [List.length_map] at h1
  omega
theorem NmR.repr {V : View} (O : V.ok) {R : Rl} {L : List Int} (h : NmR V R L) : ∃ x, ∀ s, oRepr [.tup (L.map Vl.int)] s = some (.str x, s) := by
  refine (Pn.ints (fun x hx => ?_) (NmR.len O h)).repr (by omega) (by omega)
  obtain ⟨r, hr, rfl⟩ := List.mem_map.mp ((NmR.inc O h).2 x hx)
  have := (O.r r hr).c
  omega
/-- the same cells, so the same list -/
theorem NmR.same {V : View} (O : V.ok) {R R' : Rl} {L L' : List Int} (h : NmR V R L) (h' : NmR V R' L') (e : ∀ z, z ∈ L ↔ z ∈ L') : L = L' := Inc.ext (NmR.inc O h).1 (NmR.inc O h').1 e
/-- the object of a rule -/
def RlAt (s : Sto) : Rl → Nat → Prop
  | .bas b, r => s[r]? = some b.ob
  | .and x y, r => ∃ i j, s[r]? = some (.ins 2 [("first_rule", .ref i), ("second_rule", .ref j)]) ∧ RlAt s x i ∧ RlAt s y j
  | .or x y, r => ∃ i j, s[r]? = some (.ins 3 [("first_rule", .ref i), ("second_rule", .ref j)]) ∧ RlAt s x i ∧ RlAt s y j
  | .less x y, r => ∃ i j, s[r]? = some (.ins 4 [("first_rule", .ref i), ("second_rule", .ref j)]) ∧ RlAt s x i ∧ RlAt s y j
theorem RlAt.ins {s : Sto} : ∀ {R : Rl} {r : Nat}, RlAt s R r → ∃ fs, s[r]? = some (.ins R.c fs) ∧ getS fs "names" = none
  | .bas b, r, h => ⟨b.fs, h, b.nof⟩
  | .and x y, r, ⟨i, j, h, _⟩ => ⟨_, h, by simp [getS] <;> decide⟩
  | .or x y, r, ⟨i, j, h, _⟩ => ⟨_, h, by simp [getS] <;> decide⟩
  | .less x y, r, ⟨i, j, h, _⟩ => ⟨_, h, by simp [getS] <;> decide⟩
theorem RlAt.fr {X : List Nat} {s s' : Sto} (f : Fr X s s') (hX : ∀ i ∈ X, ∀ c fs, s[i]? ≠ some (.ins c fs)) : ∀ {R : Rl} {r : Nat}, RlAt s R r → RlAt s' R r := by
  have at_ : ∀ {r c fs}, s[r]? = some (Ob.ins c fs) → s'[r]? = some (Ob.ins c fs) := fun {r c fs} h => f.at h fun m => hX r m c fs h
  intro R
  induction R with
  | bas b => exact fun h => at_ h
  | and x y ihx ihy => rintro r ⟨i, j, h, a, b⟩; exact ⟨i, j, at_ h, ihx a, ihy b⟩
  | or x y ihx ihy => rintro r ⟨i, j, h, a, b⟩; exact ⟨i, j, at_ h, ihx a, ihy b⟩
  | less x y ihx ihy => rintro r ⟨i, j, h, a, b⟩; exact ⟨i, j, at_ h, ihx a, ihy b⟩
theorem RlAt.fr0 {s s' : Sto} (f : Fr [] s s') {R : Rl} {r : Nat} (h : RlAt s R r) : RlAt s' R r := RlAt.fr f (by simp) h
theorem noins {s : Sto} {d l c : Nat} (D : Dk s d l c) : ∀ i ∈ [d, l], ∀ c fs, s[i]? ≠ some (.ins c fs) := by
  obtain ⟨k, cells, _, _, DD⟩ := D
  intro i hi c fs
  simp at hi
  rcases hi with rfl | rfl
  · rw [DD.top]; simp
  · rw [DD.cel]; simp
theorem RlAt.frD {s s' : Sto} {d l c : Nat} (D : Dk s d l c) (f : Fr [d, l] s s') {R : Rl} {r : Nat} (h : RlAt s R r) : RlAt s' R r := RlAt.fr f (noins D) h
/-! ### names, called -/
theorem flatI (C : List Int) : (C.map Vl.int).all flat = true := by simp [flat]
theorem filtI (A : List Int) (p : Int → Bool) (f : Vl → Option Vl) (h : ∀ z, f (.int z) = if p z then some (.int z) else none) : (A.map Vl.int).filterMap f = (A.filter p).map Vl.int := by
  induction A with
  | nil => rfl
  | cons a A ih =>
    rw [List.map_cons, List.filterMap_cons, h, List.filter_cons]
    cases p a <;> simp [ih]
theorem selIn {lo : Lo} {A B : List Int} {s : Sto} {QS : Sto → Prop} (h2 : lo[2]? = some (some (.tup (B.map Vl.int)))) (hl : 3 < lo.length) (hn : A.length < 1000000) (k : QS (s ++ [.lst ((A.filter fun c => decide (c ∈ B)).map Vl.int)])) :
    WL (lcX (glN 3) (tVal (eOp opIn (eVar 3) (eVar 2))) (eVar 3) s.length lo (A.map Vl.int) (s ++ [.lst []])) QS := by
  refine lcX_p s (fun v => match v with | .int z => if decide (z ∈ B) then some (.int z) else none | _ => none) rfl rfl (by simpa using hn) ?_ (by rw [filtI _ (fun c => decide (c ∈ B)) _ fun z => rfl]; exact k)
  intro v hv acc
  obtain ⟨z, _, rfl⟩ := List.mem_map.mp hv
  refine ⟨_, rfl, ?_⟩
  have e : (lo.set 3 (some (Vl.int z)))[2]? = some (some (.tup (B.map Vl.int))) := by rw [List.getElem?_set_ne (by omega)]; exact h2
  simp [e, hl, opIn_tup (v := Vl.int z) rfl (flatI B), inF_ints]
theorem selNotIn {lo : Lo} {A B : List Int} {s : Sto} {QS : Sto → Prop} (h2 : lo[2]? = some (some (.tup (B.map Vl.int)))) (hl : 3 < lo.length) (hn : A.length < 1000000) (k : QS (s ++ [.lst ((A.filter fun c => !decide (c ∈ B)).map Vl.int)])) :
    WL (lcX (glN 3) (tVal (eOp opNotIn (eVar 3) (eVar 2))) (eVar 3) s.length lo (A.map Vl.int) (s ++ [.lst []])) QS := by
  refine lcX_p s (fun v => match v with | .int z => if !decide (z ∈ B) then some (.int z) else none | _ => none) rfl rfl (by simpa using hn) ?_ (by rw [filtI _ (fun c => !decide (c ∈ B)) _ fun z => rfl]; exact k)
  intro v hv acc
  obtain ⟨z, _, rfl⟩ := List.mem_map.mp hv
  refine ⟨_, rfl, ?_⟩
  have e : (lo.set 3 (some (Vl.int z)))[2]? = some (some (.tup (B.map Vl.int))) := by rw [List.getElem?_set_ne (by omega)]; exact h2
  simp [e, hl, opNotIn_tup (v := Vl.int z) rfl (flatI B), inF_ints]
section
variable {V : View}
theorem namesA (O : V.ok) : ∀ (n : Nat) (R : Rl), R.dep ≤ n → ∀ {s : Sto} {r : Nat} {Q : Vl → Sto → Prop} {E : Ex → Sto → Prop}, RlAt s R r → (∀ L s', NmR V R L → Fr [] s s' → Q (.tup (L.map Vl.int)) s') →
    ∃ mf, tabR0_names (R0 n) R.c = some mf ∧ WE (mf [.ref r, V.vl]) s Q E := by
  intro n
  induction n with
  | zero =>
    intro R hd s r Q E hr k
    cases R with
    | bas b => exact ⟨b.mf, by cases b <;> rfl, names O hr k⟩
    | _ => unfold Rl.dep at hd; omega
  | succ n ih =>
    intro R hd s r Q E hr k
    -- one side
    have side : ∀ {R : Rl} (hd : R.dep ≤ n) {s : Sto} {i : Nat} {Q : Vl → Sto → Prop} {E : Ex → Sto → Prop}, RlAt s R i → (∀ L s', NmR V R L → Fr [] s s' → Q (.tup (L.map Vl.int)) s') →
        methW "names" (tabA 1 (tabR0_names (R0 n))) (.ref i) s (fun mf => WE (mf [.ref i, V.vl]) s Q E) := fun {R} hd {s i Q E} h k => by
      obtain ⟨mf, e, w⟩ := ih R hd (Q := Q) (E := E) h k
      obtain ⟨fs, hi, hg⟩ := h.ins
      rw [methW_ins (m := "names") (mf := arg 2 mf) hi (by simp [tabA, e]) hg]
      simpa [WE_arg] using w
    cases R with
    | bas b => exact ⟨b.mf, by cases b <;> rfl, names O hr k⟩
    | and x y =>
      obtain ⟨i, j, h, hx, hy⟩ := hr
      have d1 : x.dep ≤ n := by unfold Rl.dep at hd; omega
      have d2 : y.dep ≤ n := by unfold Rl.dep at hd; omega
      refine ⟨_, rfl, ?_⟩
      show WE (fnM 4 (b_Both_names (R0 n)) _) _ _ _
      unfold b_Both_names
      simp [WE_eMeth, fldW_ins h, cs_second_rule, cs_first_rule, getS]
      refine side d2 hy fun B s1 hB f1 => ?_
      simp [WE_eMeth, fldW_ins (f1.at h (by simp)), cs_first_rule, getS]
      refine side d1 (RlAt.fr0 f1 hx) fun A s2 hA f2 => ?_
      simp [wipeL]
      refine selIn (A := A) (B := B) (by simp) (by simp) (by have := NmR.len O hA; omega) ?_
      simp [oTuple_lst get_last]
      exact k _ _ ⟨A, B, hA, hB, rfl⟩ ((f1.trans f2).push _)
    | or x y =>
      obtain ⟨i, j, h, hx, hy⟩ := hr
      have d1 : x.dep ≤ n := by unfold Rl.dep at hd; omega
      have d2 : y.dep ≤ n := by unfold Rl.dep at hd; omega
      obtain ⟨A, hA⟩ := NmR.ex O x
      obtain ⟨B, hB⟩ := NmR.ex O y
      refine ⟨_, rfl, ?_⟩
      show WE (fnM 4 (b_Either_names (R0 n)) _) _ _ _
      unfold b_Either_names
      simp
      have lA := NmR.len O hA
      have lB := NmR.len O hB
      refine WE_eSc2 (xs := [.ref i, .ref j]) (yss := [A, B]) rfl ?_ (by simp) (by simp; omega) ?_ ?_
      · simp [fldW_ins h, cs_second_rule, cs_first_rule, getS]
      · intro m v ys hv hys
        have main : ∃ (R : Rl) (C : List Int) (e : Nat), R.dep ≤ n ∧ RlAt s R e ∧ NmR V R C ∧ v = .ref e ∧ ys = C := by
          rcases m with _ | _ | m
          · cases hv; cases hys
            exact ⟨x, A, i, d1, hx, hA, rfl, rfl⟩
          · cases hv; cases hys
            exact ⟨y, B, j, d2, hy, hB, rfl, rfl⟩
          · simp at hv
        obtain ⟨R, C, e, hd, he, hC, rfl, rfl⟩ := main
        refine ⟨_, rfl, fun s' f => ?_, fun y => ⟨_, rfl, fun s => by rfl⟩⟩
        simp [WE_eMeth]
        refine side hd (RlAt.fr0 f he) fun L s2 hL f2 => ?_
        exact ⟨by rw [NmR.uniq hL hC], f2⟩
      · intro s1 h1 f1
        have al := addAll_len (ys := [A, B].flatten) (L := [])
        simp only [List.flatten_cons, List.flatten_nil, List.append_nil, List.length_append, List.length_nil] at al h1
        simp [oSortS_set h1 (by omega), oTuple_lst get_last]
        have e : srt (addAll [] (A ++ B)) = srt (ddup (A ++ B)) := by
          refine Inc.ext (srt_inc (addAll_nd List.nodup_nil)) (srt_inc (ddup_nodup _)) fun z => ?_
          rw [mem_srt, mem_srt, mem_addAll, mem_ddup]
          simp
        rw [e]
        exact k _ _ ⟨A, B, hA, hB, rfl⟩ (f1.push _)
    | less x y =>
      obtain ⟨i, j, h, hx, hy⟩ := hr
      have d1 : x.dep ≤ n := by unfold Rl.dep at hd; omega
      have d2 : y.dep ≤ n := by unfold Rl.dep at hd; omega
      refine ⟨_, rfl, ?_⟩
      show WE (fnM 4 (b_Without_names (R0 n)) _) _ _ _
      unfold b_Without_names
      simp [WE_eMeth, fldW_ins h, cs_second_rule, cs_first_rule, getS]
      refine side d2 hy fun B s1 hB f1 => ?_
      simp [WE_eMeth, fldW_ins (f1.at h (by simp)), cs_first_rule, getS]
      refine side d1 (RlAt.fr0 f1 hx) fun A s2 hA f2 => ?_
      simp [wipeL]
      refine selNotIn (A := A) (B := B) (by simp) (by simp) (by have := NmR.len O hA; omega) ?_
      simp [oTuple_lst get_last]
      exact k _ _ ⟨A, B, hA, hB, rfl⟩ ((f1.trans f2).push _)
end
end K48

/-! K8B: operators; the law's rules -/
namespace K48
open PySem L2 Sm
theorem Rl.tabAnd (R : Rl) : tab_UandU R.c = some m_RuleU_andU := by cases R <;> first | rfl | (rename_i b; cases b <;> rfl)
theorem Rl.tabOr (R : Rl) : tab_UorU R.c = some m_RuleU_orU := by cases R <;> first | rfl | (rename_i b; cases b <;> rfl)
theorem Rl.tabSub (R : Rl) : tab_UsubU R.c = some m_RuleU_subU := by cases R <;> first | rfl | (rename_i b; cases b <;> rfl)
theorem Rl.tabCall (R : Rl) : tab_UcallU R.c = some m_RuleU_callU := by cases R <;> first | rfl | (rename_i b; cases b <;> rfl)
theorem Rl.tabT (R : Rl) : tab_names R.c = tabR0_names (R0 24) R.c := by cases R <;> first | rfl | (rename_i b; cases b <;> rfl)
section
variable {s : Sto} {V : View} {Q : Vl → Sto → Prop} {E : Ex → Sto → Prop} {x y : Rl} {i j r : Nat}
theorem pairInit {c : Nat} {a b : Vl} (hc : c = 2 ∨ c = 3 ∨ c = 4) : WE (m_PairU_initU [.ref s.length, a, b]) (s ++ [.ins c []]) Q E = Q .non (s ++ [.ins c [("first_rule", a), ("second_rule", b)]]) := by
  have h1 : c ∈ cs_first_rule := by rcases hc with rfl | rfl | rfl <;> simp [cs_first_rule]
  have h2 : c ∈ cs_second_rule := by rcases hc with rfl | rfl | rfl <;> simp [cs_second_rule]
  unfold m_PairU_initU b_PairU_initU
  have e : (s ++ [Ob.ins c []]).set s.length (.ins c [("first_rule", a)]) = s ++ [.ins c [("first_rule", a)]] := by simp
  simp [setFld_ins get_last (show (c ∈ cs_first_rule ∧ ([] : List (Str × Vl)).length < 1000) from ⟨h1, by simp⟩), putS]
  rw [setFld_ins get_last (show (c ∈ cs_second_rule ∧ ([("first_rule", a)] : List (Str × Vl)).length < 1000) from ⟨h2, by simp⟩)]
  simp [putS]
theorem andU (hx : RlAt s x i) (hy : RlAt s y j) (k : ∀ q s', RlAt s' (.and x y) q → Fr [] s s' → Q (.ref q) s') : opW tab_UandU (.ref i) (.ref j) s Q E := by
  obtain ⟨fs, h1, _⟩ := hx.ins
  obtain ⟨fs', h2, _⟩ := hy.ins
  rw [opW_ok h1 h2 x.tabAnd y.tabAnd]
  unfold m_RuleU_andU b_RuleU_andU
  simp [WE_eMake, pairInit]
  have f : Fr [] s (s ++ [Ob.ins 2 [("first_rule", .ref i), ("second_rule", .ref j)]]) := Fr.refl.push _
  exact k _ _ ⟨i, j, get_last, hx.fr0 f, hy.fr0 f⟩ f
theorem orU (hx : RlAt s x i) (hy : RlAt s y j) (k : ∀ q s', RlAt s' (.or x y) q → Fr [] s s' → Q (.ref q) s') : opW tab_UorU (.ref i) (.ref j) s Q E := by
  obtain ⟨fs, h1, _⟩ := hx.ins
  obtain ⟨fs', h2, _⟩ := hy.ins
  rw [opW_ok h1 h2 x.tabOr y.tabOr]
  unfold m_RuleU_orU b_RuleU_orU
  simp [WE_eMake, pairInit]
  have f : Fr [] s (s ++ [Ob.ins 3 [("first_rule", .ref i), ("second_rule", .ref j)]]) := Fr.refl.push _
  exact k _ _ ⟨i, j, get_last, hx.fr0 f, hy.fr0 f⟩ f
theorem subU (hx : RlAt s x i) (hy : RlAt s y j) (k : ∀ q s', RlAt s' (.less x y) q → Fr [] s s' → Q (.ref q) s') : opW tab_UsubU (.ref i) (.ref j) s Q E := by
  obtain ⟨fs, h1, _⟩ := hx.ins
  obtain ⟨fs', h2, _⟩ := hy.ins
  rw [opW_ok h1 h2 x.tabSub y.tabSub]
  unfold m_RuleU_subU b_RuleU_subU
  simp [WE_eMake, pairInit]
  have f : Fr [] s (s ++ [Ob.ins 4 [("first_rule", .ref i), ("second_rule", .ref j)]]) := Fr.refl.push _
  exact k _ _ ⟨i, j, get_last, hx.fr0 f, hy.fr0 f⟩ f
/-- names by the whole table -/
theorem namesT (O : V.ok) (hd : x.dep ≤ 24) (h : RlAt s x r) (k : ∀ L s', NmR V x L → Fr [] s s' → Q (.tup (L.map Vl.int)) s') : methW "names" (tabA 1 tab_names) (.ref r) s (fun mf => WE (mf [.ref r, V.vl]) s Q E) := by
  obtain ⟨mf, e, w⟩ := namesA O 24 x hd (Q := Q) (E := E) h k
  obtain ⟨fs, hi, hg⟩ := h.ins
  rw [methW_ins (m := "names") (mf := arg 2 mf) hi (by simp [tabA, x.tabT, e]) hg]
  simpa [WE_arg] using w
theorem callR (O : V.ok) (hd : x.dep ≤ 24) (h : RlAt s x r) (k : ∀ L s', NmR V x L → Fr [] s s' → Q (.tup (L.map Vl.int)) s') : WE (m_RuleU_callU [.ref r, V.vl]) s Q E := by
  unfold m_RuleU_callU b_RuleU_callU
  simp [WE_eMeth]
  have := namesT (E := E) O hd h k
  simpa using this
theorem callW_R {P : (List Vl → M Vl) → Prop} (h : RlAt s x r) : callW (tabA 1 tab_UcallU) r s P = P (arg 2 m_RuleU_callU) := by
  obtain ⟨fs, hi, _⟩ := h.ins
  exact callW_ins hi (by simp [tabA, x.tabCall])
end
end K48

/-! K8C: what the law says that a rule names -/
namespace K48
open PySem L2 Sm
theorem opEq_bb {a b : Bool} {s : Sto} : opEq (.bl a) (.bl b) s = some (.bl (a == b), s) := rfl
theorem selEq {lo : Lo} {A B : List Int} {s : Sto} {QS : Sto → Prop} {r1 r2 : Nat} {w : Str} (hr1 : s[r1]? = some (.lst (A.map Vl.int))) (h3 : lo[3]? = some (some (.str w))) (h6 : lo[6]? = some (some (.ref r2))) (hr : s[r2]? = some (.lst (B.map Vl.int))) (hl : 8 < lo.length) (hn : A.length < 100000)
    (k : QS (s ++ [.lst ((A.filter fun c => decide (c ∈ B) == decide (w = "and")).map Vl.int)])) :
    WL (lcN (nxLst r1) (glN 8) (tVal (eOp opEq (eOp opIn (eVar 8) (eVar 6)) (eOp opEq (eVar 3) (eC (.str "and"))))) (eVar 8) s.length lo 100000 0 (s ++ [.lst []])) QS := by
  refine lcL_p (xs := A.map Vl.int) s (fun v => match v with | .int z => if (decide (z ∈ B) == decide (w = "and")) then some (.int z) else none | _ => none) rfl rfl hr1 (by simpa using hn) ?_ (by rw [filtI _ (fun c => decide (c ∈ B) == decide (w = "and")) _ fun z => rfl]; exact k)
  intro v hv acc
  obtain ⟨z, _, rfl⟩ := List.mem_map.mp hv
  refine ⟨_, rfl, ?_⟩
  have e6 : (lo.set 8 (some (Vl.int z)))[6]? = some (some (.ref r2)) := by rw [List.getElem?_set_ne (by omega)]; exact h6
  have e3 : (lo.set 8 (some (Vl.int z)))[3]? = some (some (.str w)) := by rw [List.getElem?_set_ne (by omega)]; exact h3
  simp [e6, e3, hl, opIn_lst (v := Vl.int z) (get_push hr) rfl (flatI B), inF_ints, opEq_bb]
  have ew : (w == (Str.ofString "and")) = decide (w = Str.ofString "and") := by by_cases q : w = Str.ofString "and" <;> simp [q]
  rw [ew]
  cases (decide (z ∈ B) == decide (w = Str.ofString "and")) <;> simp [hl]
section
variable {V : View}
theorem namedR (O : V.ok) : ∀ (n : Nat) (R : Rl), R.dep < n → ∀ {s : Sto} {Q : Vl → Sto → Prop} {E : Ex → Sto → Prop}, (∀ L r s', s'[r]? = some (.lst (L.map Vl.int)) → NmR V R L → Fr [] s s' → Q (.ref r) s') → WE (R2 n 0 [R.told, V.vl]) s Q E := by
  intro n
  induction n with
  | zero => intro R hd; omega
  | succ n ih =>
    intro R hd s Q E k
    cases R with
    | bas b => exact lawNamed (b := b) (RR := R2 n) O k
    | and x y =>
      have d1 : x.dep < n := by unfold Rl.dep at hd; omega
      have d2 : y.dep < n := by unfold Rl.dep at hd; omega
      show WE (fnM 9 (b__law_named (R2 n)) _) _ _ _
      unfold b__law_named
      simp [View.vl, Rl.told]
      refine ih x d1 fun A r1 s1 a1 hA f1 => ?_
      simp
      refine ih y d2 fun B r2 s2 a2 hB f2 => ?_
      have b1 := f2.at a1 (by simp)
      simp [a2, b1]
      refine selEq (A := A) (B := B) (w := "and") b1 rfl rfl a2 (by simp [wipeL]) (by have := NmR.len O hA; omega) ?_
      have e : (fun c => decide (c ∈ B) == decide (Str.ofString "and" = Str.ofString "and")) = fun c => decide (c ∈ B) := by
        funext c
        rw [decide_eq_true rfl]
        cases decide (c ∈ B) <;> rfl
      rw [e]
      exact k _ _ _ get_last ⟨A, B, hA, hB, rfl⟩ ((f1.trans f2).push _)
    | or x y =>
      have d1 : x.dep < n := by unfold Rl.dep at hd; omega
      have d2 : y.dep < n := by unfold Rl.dep at hd; omega
      show WE (fnM 9 (b__law_named (R2 n)) _) _ _ _
      unfold b__law_named
      simp [View.vl, Rl.told]
      refine ih x d1 fun A r1 s1 a1 hA f1 => ?_
      simp
      refine ih y d2 fun B r2 s2 a2 hB f2 => ?_
      have b1 := f2.at a1 (by simp)
      have lA := NmR.len O hA
      have lB := NmR.len O hB
      simp [a2, b1]
      have hs : (A.map Vl.int).length + (B.map Vl.int).length < 1000000 := by rw [List.length_map, List.length_map]; omega
      rw [opAdd_lst b1 a2 (limB (Nat.le_of_lt hs))]
      simp
      rw [← List.map_append, oSet_ints get_last (by simp; omega)]
      have hl : (ddup (A ++ B)).length ≤ 16 := Nat.le_trans (nodup_sub (ddup_nodup _) fun x hx => mem_ddup.mp hx) (by simp; omega)
      simp
      rw [oSortS_set (ns := ddup (A ++ B)) (by simp) (by omega)]
      simp
      exact k _ _ _ (by simp [List.getElem?_append_right]) ⟨A, B, hA, hB, rfl⟩ (((f1.trans f2).app _))
    | less x y =>
      have d1 : x.dep < n := by unfold Rl.dep at hd; omega
      have d2 : y.dep < n := by unfold Rl.dep at hd; omega
      show WE (fnM 9 (b__law_named (R2 n)) _) _ _ _
      unfold b__law_named
      simp [View.vl, Rl.told]
      refine ih x d1 fun A r1 s1 a1 hA f1 => ?_
      simp
      refine ih y d2 fun B r2 s2 a2 hB f2 => ?_
      have b1 := f2.at a1 (by simp)
      simp [a2, b1]
      refine selEq (A := A) (B := B) (w := "less") b1 rfl rfl a2 (by simp [wipeL]) (by have := NmR.len O hA; omega) ?_
      have e : (fun c => decide (c ∈ B) == decide (Str.ofString "less" = Str.ofString "and")) = fun c => !decide (c ∈ B) := by
        funext c
        rw [show decide (Str.ofString "less" = Str.ofString "and") = false by decide]
        cases decide (c ∈ B) <;> rfl
      rw [e]
      exact k _ _ _ get_last ⟨A, B, hA, hB, rfl⟩ ((f1.trans f2).push _)
end
end K48

/-! K8D: a rule of the law, drawn -/
namespace K48
open PySem L2 Sm
theorem RlAt.frX {s s' : Sto} {d l c : Nat} (D : Dk s d l c) (f : Fr [d, l] s s') {R : Rl} {r : Nat} (h : RlAt s R r) : RlAt s' R r := RlAt.frD D f h
theorem ruleS : ∀ (m n : Nat), n < m → ∀ {s : Sto} {d l c : Nat} {Q : Vl → Sto → Prop} {E : Ex → Sto → Prop}, Dk s d l c → c + 14 * 2 ^ n + 100 < 1000000 →
    (∀ R r s', R.dep ≤ n → RlAt s' R r → Dk s' d l (c + 12 * 2 ^ n - 2) → Fr [d, l] s s' → Q (.tup [.ref r, R.told]) s') → WE (R1 m 0 [.ref d, .int n]) s Q E := by
  intro m
  induction m with
  | zero => intro n h; omega
  | succ m ih =>
    intro n hn s d l c Q E D hc k
    show WE (fnM 7 (b__law_rule (R1 m)) _) _ _ _
    unfold b__law_rule
    have bas : ∀ (s1 : Sto) (c1 : Nat), Dk s1 d l c1 → Fr [d, l] s s1 → c1 + 10 ≤ c + 12 * 2 ^ n - 2 → WE (m__law_basic [.ref d]) s1 Q E := fun s1 c1 D1 f1 h1 =>
      basic D1 (by omega) fun b r s2 h2 _ D2 f2 => k (.bas b) r s2 (Nat.zero_le _) h2 (D2.mono (by omega)) (f1.trans f2)
    cases n with
    | zero =>
      simp
      exact bas s c D Fr.refl (by simp)
    | succ n =>
      have hp : 2 ^ (n + 1) = 2 * 2 ^ n := by rw [Nat.pow_succ]; omega
      have hp1 : 1 ≤ 2 ^ n := Nat.one_le_two_pow
      generalize 2 ^ (n + 1) = p' at hp hc k bas
      subst hp
      have e0 : ((n + 1 : Nat) : Int) ≠ 0 := by omega
      simp
      refine (draw D (by omega) (by omega) (by omega)).use ?_
      rintro v s1 ⟨kd, rfl, hk, D1, f1⟩
      simp
      by_cases q : kd = 0
      · subst q
        simp
        exact bas s1 _ D1 f1 (by omega)
      · simp [q]
        refine ih n (by omega) D1 (by omega) fun R1 r1 s2 d1 h1 D2 f2 => ?_
        simp
        refine ih n (by omega) D2 (by omega) fun R2 r2 s3 d2 h2 D3 f3 => ?_
        simp
        have h1' := RlAt.frX D2 f3 h1
        refine (draw D3 (by omega) (by omega) (by omega)).use ?_
        rintro v s4 ⟨kd, rfl, hk, D4, f4⟩
        have h1'' := RlAt.frX D3 f4 h1'
        have h2'' := RlAt.frX D3 f4 h2
        have f := ((f1.trans f2).trans f3).trans f4
        simp
        split
        · refine andU h1'' h2'' fun q s5 hq f5 => k (.and R1 R2) q s5 (by unfold Rl.dep; omega) hq ((D4.fr f5 (by simp) (by simp)).mono (by omega)) (f.trans (Fr.mono f5 (by simp)))
        · split
          · refine orU h1'' h2'' fun q s5 hq f5 => k (.or R1 R2) q s5 (by unfold Rl.dep; omega) hq ((D4.fr f5 (by simp) (by simp)).mono (by omega)) (f.trans (Fr.mono f5 (by simp)))
          · refine subU h1'' h2'' fun q s5 hq f5 => k (.less R1 R2) q s5 (by unfold Rl.dep; omega) hq ((D4.fr f5 (by simp) (by simp)).mono (by omega)) (f.trans (Fr.mono f5 (by simp)))
end K48

/-! K8E: the laws of sets -/
namespace K48
open PySem L2 Sm
/-- a comprehension of tests over a list -/
theorem allL {j : Nat} {g : GL} {e : EM} {lo : Lo} {xs : List Vl} {s : Sto} {QS : Sto → Prop} (hj : s[j]? = some (.lst xs)) (hf : xs.length < 100000)
    (hx : ∀ x ∈ xs, ∃ lo', g x lo = some lo' ∧ ∀ s', Fr [] s s' → WE (e lo') s' (fun v s'' => v = .bl true ∧ Fr [] s' s'') NoX) (k : ∀ s' n, s'[s.length]? = some (.lst ((List.replicate n true).map Vl.bl)) → Fr [] s s' → QS s') :
    WL (lcN (nxLst j) g tTrue e s.length lo 100000 0 (s ++ [.lst []])) QS := by
  refine lcL_inv (xs := xs) (fun i s' => s'[s.length]? = some (.lst ((List.replicate i true).map Vl.bl)) ∧ Fr [] s s') hf ⟨get_last, Fr.refl.push _⟩ (fun i s' h => h.2.at hj (by simp)) ?_ (fun s' h => k s' _ h.1 h.2)
  rintro i v s1 hv ⟨h1, f1⟩
  obtain ⟨lo', e1, e2⟩ := hx v (List.mem_of_getElem? hv)
  refine ⟨lo', e1, ?_⟩
  unfold LcT tTrue
  simp
  refine (e2 s1 f1).use ?_
  rintro w s2 ⟨rfl, f2⟩
  have h2 := f2.at h1 (by simp)
  have hi := (List.getElem?_eq_some_iff.mp hv).1
  simp only [h2]
  refine ⟨limC (by simp; omega), ?_, (f1.trans f2).set (Or.inr (Nat.le_refl _))⟩
  rw [get_set_self h2, List.replicate_succ', List.map_append]
  rfl
def VsAt (s : Sto) (v : Nat) (Vs : List View) : Prop := s[v]? = some (.lst (Vs.map View.vl)) ∧ Vs.length ≤ 10 ∧ ∀ V ∈ Vs, V.ok
theorem VsAt.fr {s s' : Sto} {v : Nat} {Vs : List View} (h : VsAt s v Vs) {X : List Nat} (f : Fr X s s') (hX : v ∉ X) : VsAt s' v Vs := ⟨f.at h.1 hX, h.2⟩
/-- what a rule names, as a property of cells -/
def Mem (V : View) (z : Int) : Rl → Prop
  | .bas b => ∃ L, Nm V L b ∧ z ∈ L
  | .and x y => Mem V z x ∧ Mem V z y
  | .or x y => Mem V z x ∨ Mem V z y
  | .less x y => Mem V z x ∧ ¬ Mem V z y
theorem NmR.mem {V : View} {z : Int} : ∀ {R : Rl} {L : List Int}, NmR V R L → (z ∈ L ↔ Mem V z R)
  | .bas b, L, h => ⟨fun m => ⟨L, h, m⟩, fun ⟨L', h', m⟩ => (Nm.uniq h h') ▸ m⟩
  | .and x y, L, ⟨A, B, a, b, e⟩ => by subst e; simp [Mem, NmR.mem a, NmR.mem b]
  | .or x y, L, ⟨A, B, a, b, e⟩ => by subst e; simp [Mem, NmR.mem a, NmR.mem b, mem_srt, mem_ddup]
  | .less x y, L, ⟨A, B, a, b, e⟩ => by subst e; simp [Mem, NmR.mem a, NmR.mem b]
/-- rules that name the same -/
def SameR (P Q : Rl) : Prop := ∀ V z, Mem V z P ↔ Mem V z Q
theorem SameR.eq {P Q : Rl} (h : SameR P Q) {V : View} (O : V.ok) {L L' : List Int} (a : NmR V P L) (b : NmR V Q L') : L = L' := NmR.same O a b fun z => (NmR.mem a).trans ((h V z).trans (NmR.mem b).symm)
theorem sameS {s : Sto} {P R : Rl} {i j v : Nat} {Vs : List View} {Q : Vl → Sto → Prop} {E : Ex → Sto → Prop} (hp : RlAt s P i) (hr : RlAt s R j) (dp : P.dep ≤ 24) (dr : R.dep ≤ 24) (H : VsAt s v Vs) (sm : SameR P R) (k : ∀ s', Fr [] s s' → Q (.bl true) s') :
    WE (m__law_same [.ref i, .ref j, .ref v]) s Q E := by
  unfold m__law_same b__law_same
  simp [H.1]
  refine allL H.1 (by have := H.2.1; simp; omega) ?_ ?_
  · intro x hx
    obtain ⟨V, hV, rfl⟩ := List.mem_map.mp hx
    have O := H.2.2 V hV
    refine ⟨_, rfl, fun s1 f1 => ?_⟩
    have hp1 := hp.fr0 f1
    have hr1 := hr.fr0 f1
    simp [wipeL, WE_eCallO]
    rw [callW_R hp1]
    simp
    refine callR O dp hp1 fun L s2 hL f2 => ?_
    obtain ⟨y, hy⟩ := NmR.repr O hL
    simp [hy, WE_eCallO]
    rw [callW_R (hr1.fr0 f2)]
    simp
    refine callR O dr (hr1.fr0 f2) fun L' s3 hL' f3 => ?_
    obtain rfl := SameR.eq sm O hL hL'
    simp [hy]
    exact f2.trans f3
  · intro s1 n h1 f1
    simp [oAll_bls h1]
    exact k s1 f1
end K48

/-! K8F: the laws of sets, asked -/
namespace K48
open PySem L2 Sm
def Good (s : Sto) (x : Vl) : Prop := ∃ P R p r, x = .tup [.ref p, .ref r] ∧ RlAt s P p ∧ RlAt s R r ∧ P.dep ≤ 24 ∧ R.dep ≤ 24 ∧ SameR P R
theorem Good.fr0 {s s' : Sto} (f : Fr [] s s') {x : Vl} (h : Good s x) : Good s' x := by
  obtain ⟨P, R, p, r, a, b, c, d⟩ := h
  exact ⟨P, R, p, r, a, b.fr0 f, c.fr0 f, d⟩
theorem Good.fr {X : List Nat} {s s' : Sto} (f : Fr X s s') (hX : ∀ i ∈ X, ∀ c fs, s[i]? ≠ some (.ins c fs)) {x : Vl} (h : Good s x) : Good s' x := by
  obtain ⟨P, R, p, r, a, b, c, d⟩ := h
  exact ⟨P, R, p, r, a, b.fr f hX, c.fr f hX, d⟩
structure Cxt (s : Sto) (X Y Z : Rl) (i j k v : Nat) (Vs : List View) (xs : List Vl) : Prop where
  x : RlAt s X i
  y : RlAt s Y j
  z : RlAt s Z k
  v : VsAt s v Vs
  g : ∀ x ∈ xs, Good s x
theorem Cxt.fr {s s' : Sto} {X Y Z : Rl} {i j k v : Nat} {Vs : List View} {xs : List Vl} (C : Cxt s X Y Z i j k v Vs xs) (f : Fr [] s s') : Cxt s' X Y Z i j k v Vs xs := ⟨C.x.fr0 f, C.y.fr0 f, C.z.fr0 f, C.v.fr f (by simp), fun x hx => (C.g x hx).fr0 f⟩
theorem Cxt.add {s : Sto} {X Y Z : Rl} {i j k v : Nat} {Vs : List View} {xs : List Vl} (C : Cxt s X Y Z i j k v Vs xs) {P R : Rl} {p r : Nat} (a : RlAt s P p) (b : RlAt s R r) (dp : P.dep ≤ 24) (dr : R.dep ≤ 24) (sm : SameR P R) : Cxt s X Y Z i j k v Vs (xs ++ [.tup [.ref p, .ref r]]) :=
  ⟨C.x, C.y, C.z, C.v, fun x hx => by
    rcases List.mem_append.mp hx with h | h
    · exact C.g x h
    · rw [List.mem_singleton] at h
      exact ⟨P, R, p, r, h, a, b, dp, dr, sm⟩⟩
theorem newRule1 {s : Sto} : RlAt (s ++ [.ins 0 [], .ins 0 []]) (.bas .never) s.length := by
  show (s ++ [_, _])[s.length]? = some (Bs.ob .never)
  rw [List.getElem?_append_right (Nat.le_refl _), Nat.sub_self]
  rfl
theorem newRule2 {s : Sto} : RlAt (s ++ [.ins 0 [], .ins 0 []]) (.bas .never) (s.length + 1) := by
  show (s ++ [_, _])[s.length + 1]? = some (Bs.ob .never)
  rw [List.getElem?_append_right (Nat.le_succ _), show s.length + 1 - s.length = 1 by omega]
  rfl
theorem Cxt.at {s : Sto} {X Y Z : Rl} {i j k v : Nat} {Vs : List View} {xs : List Vl} (C : Cxt s X Y Z i j k v Vs xs) {l : Nat} {ys : List Vl} {o : Ob} (h : s[l]? = some (.lst ys)) (hv : l ≠ v) : Cxt (s.set l o) X Y Z i j k v Vs xs := by
  have f : Fr [l] s (s.set l o) := Fr.refl.set (.inl (by simp))
  have n : ∀ e ∈ [l], ∀ c fs, s[e]? ≠ some (Ob.ins c fs) := fun e he c fs => by
    rw [List.mem_singleton] at he
    subst he
    rw [h]
    simp
  exact ⟨C.x.fr f n, C.y.fr f n, C.z.fr f n, C.v.fr f (by simpa using Ne.symm hv), fun x hx => (C.g x hx).fr f n⟩
theorem setsRight {s : Sto} {X Y Z : Rl} {i j k v : Nat} {Vs : List View} {Q : Vl → Sto → Prop} {E : Ex → Sto → Prop} (C : Cxt s X Y Z i j k v Vs []) (dx : X.dep ≤ 4) (dy : Y.dep ≤ 4) (dz : Z.dep ≤ 4) (kk : ∀ s', Fr [] s s' → Q (.bl true) s') :
    WE (m__law_sets_right [.ref i, .ref j, .ref k, .ref v]) s Q E := by
  have dN : (Rl.bas .never).dep = 0 := rfl
  unfold m__law_sets_right b__law_sets_right
  simp
  have F0 : Fr [] s s := Fr.refl
  have hvl : v < s.length := (List.getElem?_eq_some_iff.mp C.v.1).1
  refine andU C.x C.y fun p1 s1 h1 f => ?_
  have C := C.fr f
  have F0 := F0.trans f
  clear f
  refine andU C.y C.x fun p2 s2 h2 f => ?_
  have C := C.fr f
  have F0 := F0.trans f
  have h1 := h1.fr0 f
  clear f
  have C := C.add h1 h2 (P := (Rl.and X Y)) (R := (Rl.and Y X)) (by first | omega | (simp only [Rl.dep]; omega)) (by first | omega | (simp only [Rl.dep]; omega)) (fun V z => by simp only [Mem]; by_cases a : Mem V z X <;> by_cases b : Mem V z Y <;> by_cases c : Mem V z Z <;> simp [a, b, c, Nm])
  refine orU C.x C.y fun p3 s3 h3 f => ?_
  have C := C.fr f
  have F0 := F0.trans f
  clear f
  refine orU C.y C.x fun p4 s4 h4 f => ?_
  have C := C.fr f
  have F0 := F0.trans f
  have h3 := h3.fr0 f
  clear f
  have C := C.add h3 h4 (P := (Rl.or X Y)) (R := (Rl.or Y X)) (by first | omega | (simp only [Rl.dep]; omega)) (by first | omega | (simp only [Rl.dep]; omega)) (fun V z => by simp only [Mem]; by_cases a : Mem V z X <;> by_cases b : Mem V z Y <;> by_cases c : Mem V z Z <;> simp [a, b, c, Nm])
  refine subU C.x C.y fun p5 s5 h5 f => ?_
  have C := C.fr f
  have F0 := F0.trans f
  clear f
  refine andU C.x C.y fun p6 s6 h6 f => ?_
  have C := C.fr f
  have F0 := F0.trans f
  have h5 := h5.fr0 f
  clear f
  refine subU C.x h6 fun p7 s7 h7 f => ?_
  have C := C.fr f
  have F0 := F0.trans f
  have h5 := h5.fr0 f
  clear f
  have C := C.add h5 h7 (P := (Rl.less X Y)) (R := (Rl.less X (Rl.and X Y))) (by first | omega | (simp only [Rl.dep]; omega)) (by first | omega | (simp only [Rl.dep]; omega)) (fun V z => by simp only [Mem]; by_cases a : Mem V z X <;> by_cases b : Mem V z Y <;> by_cases c : Mem V z Z <;> simp [a, b, c, Nm])
  have f := Fr.push (X := []) (Fr.refl (s := s7)) (.lst [.tup [.ref p1, .ref p2], .tup [.ref p3, .ref p4], .tup [.ref p5, .ref p7]])
  have hl := get_last (s := s7) (o := .lst [.tup [.ref p1, .ref p2], .tup [.ref p3, .ref p4], .tup [.ref p5, .ref p7]])
  have sl := F0.le
  have C := C.fr f
  have F0 := F0.trans f
  clear f
  generalize s7 ++ [Ob.lst [.tup [.ref p1, .ref p2], .tup [.ref p3, .ref p4], .tup [.ref p5, .ref p7]]] = t at *
  generalize s7.length = l at *
  refine orU C.y C.z fun p8 s8 h8 f => ?_
  have C := C.fr f
  have F0 := F0.trans f
  have hl := f.at hl (by simp)
  clear f
  refine andU C.x h8 fun p9 s9 h9 f => ?_
  have C := C.fr f
  have F0 := F0.trans f
  have hl := f.at hl (by simp)
  clear f
  refine andU C.x C.y fun p10 s10 h10 f => ?_
  have C := C.fr f
  have F0 := F0.trans f
  have hl := f.at hl (by simp)
  have h9 := h9.fr0 f
  clear f
  refine andU C.x C.z fun p11 s11 h11 f => ?_
  have C := C.fr f
  have F0 := F0.trans f
  have hl := f.at hl (by simp)
  have h9 := h9.fr0 f
  have h10 := h10.fr0 f
  clear f
  refine orU h10 h11 fun p12 s12 h12 f => ?_
  have C := C.fr f
  have F0 := F0.trans f
  have hl := f.at hl (by simp)
  have h9 := h9.fr0 f
  clear f
  have C := C.add h9 h12 (P := (Rl.and X (Rl.or Y Z))) (R := (Rl.or (Rl.and X Y) (Rl.and X Z))) (by first | omega | (simp only [Rl.dep]; omega)) (by first | omega | (simp only [Rl.dep]; omega)) (fun V z => by simp only [Mem]; by_cases a : Mem V z X <;> by_cases b : Mem V z Y <;> by_cases c : Mem V z Z <;> simp [a, b, c, Nm])
  rw [oAppend_lst hl (limC (by simp))]
  simp only [List.cons_append, List.nil_append]
  have C := C.at (o := (.lst [.tup [.ref p1, .ref p2], .tup [.ref p3, .ref p4], .tup [.ref p5, .ref p7], .tup [.ref p9, .ref p12]])) hl (by omega)
  have F0 := F0.set (i := l) (o := (.lst [.tup [.ref p1, .ref p2], .tup [.ref p3, .ref p4], .tup [.ref p5, .ref p7], .tup [.ref p9, .ref p12]])) (.inr sl)
  have hl := get_set_self (o' := (.lst [.tup [.ref p1, .ref p2], .tup [.ref p3, .ref p4], .tup [.ref p5, .ref p7], .tup [.ref p9, .ref p12]])) hl
  generalize s12.set l (Ob.lst [.tup [.ref p1, .ref p2], .tup [.ref p3, .ref p4], .tup [.ref p5, .ref p7], .tup [.ref p9, .ref p12]]) = t4 at *
  simp [hl]
  refine orU C.y C.z fun p13 s13 h13 f => ?_
  have C := C.fr f
  have F0 := F0.trans f
  have hl := f.at hl (by simp)
  clear f
  refine subU C.x h13 fun p14 s14 h14 f => ?_
  have C := C.fr f
  have F0 := F0.trans f
  have hl := f.at hl (by simp)
  clear f
  refine subU C.x C.y fun p15 s15 h15 f => ?_
  have C := C.fr f
  have F0 := F0.trans f
  have hl := f.at hl (by simp)
  have h14 := h14.fr0 f
  clear f
  refine subU h15 C.z fun p16 s16 h16 f => ?_
  have C := C.fr f
  have F0 := F0.trans f
  have hl := f.at hl (by simp)
  have h14 := h14.fr0 f
  clear f
  have C := C.add h14 h16 (P := (Rl.less X (Rl.or Y Z))) (R := (Rl.less (Rl.less X Y) Z)) (by first | omega | (simp only [Rl.dep]; omega)) (by first | omega | (simp only [Rl.dep]; omega)) (fun V z => by simp only [Mem]; by_cases a : Mem V z X <;> by_cases b : Mem V z Y <;> by_cases c : Mem V z Z <;> simp [a, b, c, Nm])
  rw [oAppend_lst hl (limC (by simp))]
  simp only [List.cons_append, List.nil_append]
  have C := C.at (o := (.lst [.tup [.ref p1, .ref p2], .tup [.ref p3, .ref p4], .tup [.ref p5, .ref p7], .tup [.ref p9, .ref p12], .tup [.ref p14, .ref p16]])) hl (by omega)
  have F0 := F0.set (i := l) (o := (.lst [.tup [.ref p1, .ref p2], .tup [.ref p3, .ref p4], .tup [.ref p5, .ref p7], .tup [.ref p9, .ref p12], .tup [.ref p14, .ref p16]])) (.inr sl)
  have hl := get_set_self (o' := (.lst [.tup [.ref p1, .ref p2], .tup [.ref p3, .ref p4], .tup [.ref p5, .ref p7], .tup [.ref p9, .ref p12], .tup [.ref p14, .ref p16]])) hl
  generalize s16.set l (Ob.lst [.tup [.ref p1, .ref p2], .tup [.ref p3, .ref p4], .tup [.ref p5, .ref p7], .tup [.ref p9, .ref p12], .tup [.ref p14, .ref p16]]) = t5 at *
  simp [hl]
  refine andU C.x C.y fun p17 s17 h17 f => ?_
  have C := C.fr f
  have F0 := F0.trans f
  have hl := f.at hl (by simp)
  clear f
  refine orU C.x h17 fun p18 s18 h18 f => ?_
  have C := C.fr f
  have F0 := F0.trans f
  have hl := f.at hl (by simp)
  clear f
  have C := C.add h18 C.x (P := (Rl.or X (Rl.and X Y))) (R := X) (by first | omega | (simp only [Rl.dep]; omega)) (by first | omega | (simp only [Rl.dep]; omega)) (fun V z => by simp only [Mem]; by_cases a : Mem V z X <;> by_cases b : Mem V z Y <;> by_cases c : Mem V z Z <;> simp [a, b, c, Nm])
  refine andU C.x C.x fun p19 s19 h19 f => ?_
  have C := C.fr f
  have F0 := F0.trans f
  have hl := f.at hl (by simp)
  clear f
  have C := C.add h19 C.x (P := (Rl.and X X)) (R := X) (by first | omega | (simp only [Rl.dep]; omega)) (by first | omega | (simp only [Rl.dep]; omega)) (fun V z => by simp only [Mem]; by_cases a : Mem V z X <;> by_cases b : Mem V z Y <;> by_cases c : Mem V z Z <;> simp [a, b, c, Nm])
  refine subU C.x C.x fun p20 s20 h20 f => ?_
  have C := C.fr f
  have F0 := F0.trans f
  have hl := f.at hl (by simp)
  clear f
  have n1 := newRule1 (s := s20)
  have n2 := newRule2 (s := s20)
  have f := Fr.app (X := []) (Fr.refl (s := s20)) [.ins 0 [], .ins 0 []]
  have C := C.fr f
  have F0 := F0.trans f
  have hl := f.at hl (by simp)
  have h20 := h20.fr0 f
  clear f
  generalize s20 ++ [Ob.ins 0 [], Ob.ins 0 []] = u at *
  generalize hq : s20.length = q at *
  have C := C.add h20 n1 (P := (Rl.less X X)) (R := (Rl.bas .never)) (by first | omega | (simp only [Rl.dep]; omega)) (by first | omega | (simp only [Rl.dep]; omega)) (fun V z => by simp only [Mem]; by_cases a : Mem V z X <;> by_cases b : Mem V z Y <;> by_cases c : Mem V z Z <;> simp [a, b, c, Nm])
  refine orU C.x n2 fun p21 s21 h21 f => ?_
  have C := C.fr f
  have F0 := F0.trans f
  have hl := f.at hl (by simp)
  clear f
  have C := C.add h21 C.x (P := (Rl.or X (Rl.bas .never))) (R := X) (by first | omega | (simp only [Rl.dep]; omega)) (by first | omega | (simp only [Rl.dep]; omega)) (fun V z => by simp only [Mem]; by_cases a : Mem V z X <;> by_cases b : Mem V z Y <;> by_cases c : Mem V z Z <;> simp [a, b, c, Nm])
  have f := Fr.push (X := []) (Fr.refl (s := s21)) (.lst [.tup [.ref p18, .ref i], .tup [.ref p19, .ref i], .tup [.ref p20, .ref q], .tup [.ref p21, .ref i]])
  have hm := get_last (s := s21) (o := .lst [.tup [.ref p18, .ref i], .tup [.ref p19, .ref i], .tup [.ref p20, .ref q], .tup [.ref p21, .ref i]])
  have C := C.fr f
  have F0 := F0.trans f
  have hl := f.at hl (by simp)
  clear f
  generalize s21 ++ [Ob.lst [.tup [.ref p18, .ref i], .tup [.ref p19, .ref i], .tup [.ref p20, .ref q], .tup [.ref p21, .ref i]]] = u2 at *
  generalize s21.length = m at *
  rw [oExtend_lst hl hm (limB (by simp))]
  simp only [List.cons_append, List.nil_append]
  have C := C.at (o := (.lst [.tup [.ref p1, .ref p2], .tup [.ref p3, .ref p4], .tup [.ref p5, .ref p7], .tup [.ref p9, .ref p12], .tup [.ref p14, .ref p16], .tup [.ref p18, .ref i], .tup [.ref p19, .ref i], .tup [.ref p20, .ref q], .tup [.ref p21, .ref i]])) hl (by omega)
  have F0 := F0.set (i := l) (o := (.lst [.tup [.ref p1, .ref p2], .tup [.ref p3, .ref p4], .tup [.ref p5, .ref p7], .tup [.ref p9, .ref p12], .tup [.ref p14, .ref p16], .tup [.ref p18, .ref i], .tup [.ref p19, .ref i], .tup [.ref p20, .ref q], .tup [.ref p21, .ref i]])) (.inr sl)
  have hl := get_set_self (o' := (.lst [.tup [.ref p1, .ref p2], .tup [.ref p3, .ref p4], .tup [.ref p5, .ref p7], .tup [.ref p9, .ref p12], .tup [.ref p14, .ref p16], .tup [.ref p18, .ref i], .tup [.ref p19, .ref i], .tup [.ref p20, .ref q], .tup [.ref p21, .ref i]])) hl
  generalize u2.set l (Ob.lst [.tup [.ref p1, .ref p2], .tup [.ref p3, .ref p4], .tup [.ref p5, .ref p7], .tup [.ref p9, .ref p12], .tup [.ref p14, .ref p16], .tup [.ref p18, .ref i], .tup [.ref p19, .ref i], .tup [.ref p20, .ref q], .tup [.ref p21, .ref i]]) = t9 at *
  simp [hl]
  have G : ∀ x ∈ [Vl.tup [.ref p1, .ref p2], Vl.tup [.ref p3, .ref p4], Vl.tup [.ref p5, .ref p7], Vl.tup [.ref p9, .ref p12], Vl.tup [.ref p14, .ref p16], Vl.tup [.ref p18, .ref i], Vl.tup [.ref p19, .ref i], Vl.tup [.ref p20, .ref q], Vl.tup [.ref p21, .ref i]], Good t9 x := C.g
  refine allL hl (by simp) (fun x hx => ?_) fun s' n h1 f1 => ?_
  · obtain ⟨P, R, p, r, rfl, a, b, da, db, sm⟩ := G x hx
    refine ⟨_, rfl, fun s1 f1 => ?_⟩
    simp [wipeL]
    exact sameS (a.fr0 f1) (b.fr0 f1) da db (C.v.fr f1 (by simp)) sm fun s2 f2 => ⟨rfl, f2⟩
  · simp [oAll_bls h1]
    exact kk _ (F0.trans f1)
end K48

/-! K8G: a long rule; what a rule answers, as the law asks -/
namespace K48
open PySem L2 Sm
section
variable {s : Sto} {V : View} {R : Rl} {r : Nat} {Q : Vl → Sto → Prop}
/-- the rule's answer and the due one, as texts -/
theorem askW {lo : Lo} {a b v : Nat} (O : V.ok) (hR : RlAt s R r) (hd : R.dep ≤ 20) (ha : lo[a]? = some (some (.ref r))) (hb : lo[b]? = some (some R.told)) (hv : lo[v]? = some (some V.vl)) (k : ∀ s', Fr [] s s' → Q (.bl true) s') :
    WE ((eOp opEq (eCB oRepr (aCons (eCallO (tabA 1 tab_UcallU) (eVar a) (aCons (eVar v) aNil)) aNil)) (eCB oRepr (aCons (eCB oTuple (aCons (eCall (arg 2 m__law_named) (aCons (eVar b) (aCons (eVar v) aNil))) aNil)) aNil))) lo) s Q NoX := by
  simp [WE_eCallO, ha, hb, hv]
  rw [callW_R hR]
  simp
  refine callR O (by omega) hR fun L s1 hL f1 => ?_
  obtain ⟨y, hy⟩ := NmR.repr O hL
  simp [hy, ha, hb, hv]
  refine namedR O 24 R (by omega) fun L' q s2 h2 hL' f2 => ?_
  obtain rfl := NmR.uniq hL hL'
  simp [oTuple_lst h2, hy]
  exact k _ (f1.trans f2)
end
theorem longS {s : Sto} {d l c v : Nat} {Vs : List View} {Q : Vl → Sto → Prop} {E : Ex → Sto → Prop} (D : Dk s d l c) (hc : c + 1000 < 1000000) (H : VsAt s v Vs) (hv : v ∉ [d, l]) (k : ∀ s', Q (.bl true) s') : WE (m__law_long [.ref d, .ref v]) s Q E := by
  unfold m__law_long b__law_long
  simp
  refine basic D (by omega) fun b r s1 h1 _ D1 f1 => ?_
  simp
  rw [rngW_lit (n := 20) (by omega)]
  refine loopX_inv (fun t lo s' => ∃ x2 x5 x6 x7 x8 R r, lo = [some (.ref d), some (.ref v), x2, some (.ref r), some (Rl.told R), x5, x6, x7, x8] ∧ Dk s' d l (c + 10 + 20 * t) ∧ RlAt s' R r ∧ R.dep ≤ t ∧ VsAt s' v Vs) ?_ ?_ ?_
  · exact ⟨_, _, _, _, _, .bas b, r, rfl, D1, h1, Nat.zero_le _, H.fr f1 hv⟩
  · rintro t w lo s2 hw ⟨x2, x5, x6, x7, x8, R, r, rfl, D2, hR, hd, H2⟩
    obtain ⟨ht, rfl⟩ := rng_get hw
    simp
    refine basic D2 (by omega) fun b' r' s3 h3 _ D3 f3 => ?_
    have hR3 := RlAt.frX D2 f3 hR
    have H3 := H2.fr f3 hv
    simp
    refine (draw D3 (by omega) (by omega) (by omega)).use ?_
    rintro w s4 ⟨kd, rfl, hk, D4, f4⟩
    have hR4 := RlAt.frX D3 f4 hR3
    have hb4 : RlAt s4 (.bas b') r' := RlAt.frX (R := .bas b') D3 f4 h3
    have H4 := H3.fr f4 hv
    have fin : ∀ (R' : Rl) (q : Nat) (s5 : Sto) (o : Ob), R'.dep ≤ max R.dep 0 + 1 → RlAt s5 R' q → Fr [] s4 s5 → Dk (s5 ++ [o]) d l (c + 10 + 20 * (t + 1)) ∧ RlAt (s5 ++ [o]) R' q ∧ R'.dep ≤ t + 1 ∧ VsAt (s5 ++ [o]) v Vs := fun R' q s5 o hd' hq f5 => by
      have f6 := f5.push o
      exact ⟨(D4.fr f6 (by simp) (by simp)).mono (by omega), hq.fr0 (Fr.refl.push o), by omega, H4.fr f6 (by simp)⟩
    obtain rfl | rfl | rfl : kd = 0 ∨ kd = 1 ∨ kd = 2 := by omega
    · simp
      refine andU hR4 hb4 fun q s5 hq f5 => ?_
      simp
      exact ⟨_, _, _, _, _, .and R (.bas b'), q, ⟨rfl, rfl, rfl, rfl, rfl, rfl, rfl⟩, fin (.and R (.bas b')) q s5 _ (Nat.le_refl _) hq f5⟩
    · simp
      refine orU hR4 hb4 fun q s5 hq f5 => ?_
      simp
      exact ⟨_, _, _, _, _, .or R (.bas b'), q, ⟨rfl, rfl, rfl, rfl, rfl, rfl, rfl⟩, fin (.or R (.bas b')) q s5 _ (Nat.le_refl _) hq f5⟩
    · simp
      refine subU hR4 hb4 fun q s5 hq f5 => ?_
      simp
      exact ⟨_, _, _, _, _, .less R (.bas b'), q, ⟨rfl, rfl, rfl, rfl, rfl, rfl, rfl⟩, fin (.less R (.bas b')) q s5 _ (Nat.le_refl _) hq f5⟩
  · rintro lo s2 ⟨x2, x5, x6, x7, x8, R, r, rfl, D2, hR, hd, H2⟩
    rw [rng_len] at hd
    simp [H2.1]
    refine allL H2.1 (by have := H2.2.1; simp; omega) (fun x hx => ?_) fun s' n h1 f1 => ?_
    · obtain ⟨V, hV, rfl⟩ := List.mem_map.mp hx
      refine ⟨_, rfl, fun s3 f3 => ?_⟩
      exact askW (H2.2.2 V hV) (hR.fr0 f3) hd rfl rfl rfl fun s4 f4 => ⟨rfl, f4⟩
    · simp [oAll_bls h1]
      exact k _
end K48

/-! L48: the law's pure program answers True -/
namespace K48
open PySem L2 Sm
theorem ruleW {n : Nat} {s : Sto} {d l c : Nat} {Q : Vl → Sto → Prop} {E : Ex → Sto → Prop} (hn : n ≤ 4) (D : Dk s d l c) (hc : c + 1000 < 1000000) (k : ∀ R r s', R.dep ≤ n → RlAt s' R r → Dk s' d l (c + 200) → Fr [d, l] s s' → Q (.tup [.ref r, R.told]) s') : WE (m__law_rule [.ref d, .int n]) s Q E := by
  have h2 : 2 ^ n ≤ 16 := Nat.le_trans (Nat.pow_le_pow_right (by omega) hn) (by decide)
  exact ruleS 12 n (by omega) D (by omega) fun R r s' a b e f => k R r s' a b (e.mono (by omega)) f
theorem pure_law : ∀ ns : List Int, ns.length ≤ 63 → ∃ st, m_law [.scr ns] [] = .ok (.bl true) st := by
  intro ns hns
  have key : WE (m_law [.scr ns]) [] (fun v _ => v = .bl true) NoX := by
    unfold m_law b_law
    simp
    refine (deck hns).use ?_
    rintro v s1 ⟨d, l, rfl, D, _⟩
    simp
    have hlt := D.lt
    rw [rngW_lit (n := 5) (by omega)]
    refine lcX_inv (fun t s' => ∃ Vs : List View, s'[s1.length]? = some (.lst (Vs.map View.vl)) ∧ Vs.length = t ∧ (∀ V ∈ Vs, V.ok) ∧ Dk s' d l (100 * t)) ?_ ?_ ?_
    · exact ⟨[], get_last, rfl, by simp, D.fr (Fr.refl.push (X := []) _) (by simp) (by simp)⟩
    · rintro t w s2 hw ⟨Vs, g2, hl2, hV, D2⟩
      obtain ⟨ht, rfl⟩ := rng_get hw
      refine ⟨_, rfl, ?_⟩
      unfold LcT tTrue
      simp [wipeL]
      refine (view D2 (by omega)).use ?_
      rintro v s3 ⟨V, rfl, O, D3, f3⟩
      have g3 := f3.at g2 (by simp; omega)
      simp only [g3]
      refine ⟨limC (by simp; omega), Vs ++ [V], ?_, by simp [hl2], ?_, ?_⟩
      · rw [get_set_self g3]; simp
      · intro V' hV'
        rcases List.mem_append.mp hV' with h | h
        · exact hV V' h
        · rw [List.mem_singleton] at h; exact h ▸ O
      · exact (D3.fr (Fr.refl.set (X := [s1.length]) (by simp)) (by simp; omega) (by simp; omega)).mono (by omega)
    rintro s2 ⟨Vs, g2, hl2, hV, D2⟩
    rw [rng_len] at hl2 D2
    generalize s1.length = v at *
    have H2 : VsAt s2 v Vs := ⟨g2, by omega, hV⟩
    have hv : v ∉ [d, l] := by simp; omega
    simp
    rw [rngW_lit (n := 6) (by omega)]
    refine loopX_inv (fun t lo s' => ∃ x3 x4 x5 x6 x7 x8 x9 y1 y2 y3 y4 y5, lo = [some (.scr ns), some (.ref d), some (.ref v), x3, x4, x5, x6, x7, x8, x9, y1, y2, y3, y4, y5] ∧ Dk s' d l (500 + 1000 * t) ∧ VsAt s' v Vs) ?_ ?_ ?_
    · exact ⟨_, _, _, _, _, _, _, _, _, _, _, _, rfl, D2, H2⟩
    · rintro t w lo s3 hw ⟨x3, x4, x5, x6, x7, x8, x9, y1, y2, y3, y4, y5, rfl, D3, H3⟩
      obtain ⟨ht, rfl⟩ := rng_get hw
      simp
      refine ruleW (n := 4) (by omega) D3 (by omega) fun R r s4 hd hR D4 f4 => ?_
      have H4 := H3.fr f4 hv
      simp [H4.1]
      refine loopL_inv (xs := Vs.map View.vl) (fun i lo s' => ∃ x4 x7, lo = [some (.scr ns), some (.ref d), some (.ref v), some (.int t), x4, some (.ref r), some R.told, x7, x8, x9, y1, y2, y3, y4, y5] ∧ Fr [] s4 s') (by simp; omega) ?_ ?_ ?_ ?_
      · exact ⟨_, _, rfl, Fr.refl⟩
      · rintro i lo s5 ⟨_, _, _, f5⟩
        exact f5.at H4.1 (by simp)
      · rintro i w lo s5 hw ⟨x4, x7, rfl, f5⟩
        obtain ⟨V, hVm, rfl⟩ := List.mem_map.mp (List.mem_of_getElem? hw)
        have O := hV V hVm
        have hR5 := hR.fr0 f5
        simp
        refine namedR O 24 R (by omega) fun L q s6 h6 hL f6 => ?_
        obtain ⟨y, hy⟩ := NmR.repr O hL
        have hR6 := hR5.fr0 f6
        simp [oTuple_lst h6, hy, WE_eCallO]
        rw [callW_R hR6]
        simp
        refine callR O (by omega) hR6 fun L' s7 hL' f7 => ?_
        obtain rfl := NmR.uniq hL' hL
        have hR7 := hR6.fr0 f7
        simp [hy, WE_eMeth]
        refine namesT O (by omega) hR7 fun L s8 hL8 f8 => ?_
        obtain rfl := NmR.uniq hL8 hL
        simp [hy]
        exact ((f5.trans f6).trans f7).trans f8
      · rintro lo s5 ⟨x4, x7, rfl, f5⟩
        have D5 := D4.fr f5 (by simp) (by simp)
        have H5 := H4.fr f5 (by simp)
        simp
        refine ruleW (n := 2) (by omega) D5 (by omega) fun P p s6 dP hP D6 f6 => ?_
        have H6 := H5.fr f6 hv
        simp
        refine ruleW (n := 2) (by omega) D6 (by omega) fun P' p' s7 dP' hP' D7 f7 => ?_
        have H7 := H6.fr f7 hv
        have hP7 := RlAt.frX D6 f7 hP
        simp
        refine ruleW (n := 1) (by omega) D7 (by omega) fun Z z s8 dZ hZ D8 f8 => ?_
        have H8 := H7.fr f8 hv
        have hP8 := RlAt.frX D7 f8 hP7
        have hP8' := RlAt.frX D7 f8 hP'
        simp
        refine setsRight (X := P) (Y := P') (Z := Z) ⟨hP8, hP8', hZ, H8, by simp⟩ (by omega) (by omega) (by omega) fun s9 f9 => ?_
        have D9 := D8.fr f9 (by simp) (by simp)
        have H9 := H8.fr f9 (by simp)
        have hP9 := hP8.fr0 f9
        have hP9' := hP8'.fr0 f9
        simp
        refine loopX_inv (fun i lo s' => ∃ x4 x7 y3 y4 y5, lo = [some (.scr ns), some (.ref d), some (.ref v), some (.int t), x4, some (.ref r), some R.told, x7, some (.ref p), some P.told, some (.ref p'), some P'.told, y3, y4, y5] ∧ Fr [] s9 s') ?_ ?_ ?_
        · exact ⟨_, _, _, _, _, rfl, Fr.refl⟩
        · rintro i w lo s10 hw ⟨x4, x7, y3, y4, y5, rfl, f10⟩
          have main : ∃ (S : Rl) (e : Nat), w = .tup [.ref e, S.told] ∧ RlAt s9 S e ∧ S.dep ≤ 20 := by
            rcases i with _ | _ | i
            · cases hw; exact ⟨P, p, rfl, hP9, by omega⟩
            · cases hw; exact ⟨P', p', rfl, hP9', by omega⟩
            · simp at hw
          obtain ⟨S, e, rfl, hS, dS⟩ := main
          have H10 := H9.fr f10 (by simp)
          have hS10 := hS.fr0 f10
          simp [H10.1]
          refine allL H10.1 (by simp; omega) (fun x hx => ?_) fun s' n h1 f1 => ?_
          · obtain ⟨V, hVm, rfl⟩ := List.mem_map.mp hx
            refine ⟨_, rfl, fun s11 f11 => ?_⟩
            exact askW (hV V hVm) (hS10.fr0 f11) dS rfl rfl rfl fun s12 f12 => ⟨rfl, f12⟩
          · simp [oAll_bls h1]
            exact f10.trans f1
        · rintro lo s10 ⟨x4, x7, y3, y4, y5, rfl, f10⟩
          exact ⟨_, _, _, _, _, _, _, _, _, _, _, _, rfl, (D9.fr f10 (by simp) (by simp)).mono (by omega), H9.fr f10 (by simp)⟩
    · rintro lo s3 ⟨x3, x4, x5, x6, x7, x8, x9, y1, y2, y3, y4, y5, rfl, D3, H3⟩
      rw [rng_len] at D3
      simp
      exact longS D3 (by omega) H3 hv fun _ => rfl
  obtain ⟨a, s', e, rfl⟩ := key.get
  exact ⟨s', e⟩
end K48

open PySem PySem.W PyProof.Rows
set_option maxRecDepth 100000 in
set_option maxHeartbeats 0 in
theorem PySem.Challenge.cw_maybegone_k48_rules_by_operators_holds : PySem.Challenge.rw_maybegone_k48_rules_by_operators.Holds := by
  w_on; o_law; k_head; (case hw => w_witness2)
  k_fill
  refine Sm.walk_G (l := PySem.Challenge.rw_maybegone_k48_rules_by_operators) (n := 63) (k := 30) (x := "_law_script") (m := K48.m_law) rfl (by decide) rfl ⟨rfl, by decide, by decide⟩ (fun w h Y => PySem.W.kIn_of Y) ?F K48.pure_law
  case F =>
    intro w mg fa h KX G hmg
    refine' K48.all_mk KX G hmg ?aC_Rule ?aC_Pair ?aC_Both ?aC_Either ?aC_Without ?aC_AtOnce ?aC_Counting ?aC_Places ?aC_Above ?a_all_unreached ?a__law_deck ?a__law_draw ?a__law_one ?a__law_view ?a__law_basic ?a__law_rule ?a__law_counted ?a__law_named ?a__law_same ?a__law_sets_right ?a__law_long ?a_law ?ma_Rule_UandU ?ma_Rule_UcallU ?ma_Rule_UorU ?ma_Rule_UsubU ?ma_Rule_names ?ma_Pair_UandU ?ma_Pair_UcallU ?ma_Pair_UorU ?ma_Pair_UsubU ?ma_Pair_names ?in_Both ?ma_Both_UandU ?ma_Both_UcallU ?ma_Both_UorU ?ma_Both_UsubU ?ma_Both_names ?in_Either ?ma_Either_UandU ?ma_Either_UcallU ?ma_Either_UorU ?ma_Either_UsubU ?ma_Either_names ?in_Without ?ma_Without_UandU ?ma_Without_UcallU ?ma_Without_UorU ?ma_Without_UsubU ?ma_Without_names ?ma_AtOnce_UandU ?ma_AtOnce_UcallU ?ma_AtOnce_UorU ?ma_AtOnce_UsubU ?ma_AtOnce_names ?ma_Counting_UandU ?ma_Counting_UcallU ?ma_Counting_UorU ?ma_Counting_UsubU ?ma_Counting_names ?in_Places ?ma_Places_UandU ?ma_Places_UcallU ?ma_Places_UorU ?ma_Places_UsubU ?ma_Places_names ?in_Above ?ma_Above_UandU ?ma_Above_UcallU ?ma_Above_UorU ?ma_Above_UsubU ?ma_Above_names ?in_S_Pair ?l_Rule_names ?c_Rule_names ?k_Rule_names ?l_all_unreached ?c_all_unreached ?k_all_unreached ?l_Above_names ?c_Above_names ?k_Above_names ?l_AtOnce_names ?c_AtOnce_names ?k_AtOnce_names ?l_Counting_names ?c_Counting_names ?k_Counting_names ?l_Places_names ?c_Places_names ?k_Places_names ?l_Both_names ?c_Both_names ?k_Both_names ?l_Either_names ?c_Either_names ?k_Either_names ?l_Without_names ?c_Without_names ?k_Without_names ?l_RuleU_callU ?c_RuleU_callU ?k_RuleU_callU ?l_PairU_initU ?c_PairU_initU ?k_PairU_initU ?l_RuleU_andU ?c_RuleU_andU ?k_RuleU_andU ?l_RuleU_orU ?c_RuleU_orU ?k_RuleU_orU ?l_RuleU_subU ?c_RuleU_subU ?k_RuleU_subU ?l_PlacesU_initU ?c_PlacesU_initU ?k_PlacesU_initU ?l_AboveU_initU ?c_AboveU_initU ?k_AboveU_initU ?l__law_deck ?c__law_deck ?k__law_deck ?l__law_draw ?c__law_draw ?k__law_draw ?l__law_one ?c__law_one ?k__law_one ?l__law_view ?c__law_view ?k__law_view ?l__law_basic ?c__law_basic ?k__law_basic ?l__law_rule ?c__law_rule ?k__law_rule ?l__law_counted ?c__law_counted ?k__law_counted ?l__law_named ?c__law_named ?k__law_named ?l__law_same ?c__law_same ?k__law_same ?l__law_sets_right ?c__law_sets_right ?k__law_sets_right ?l__law_long ?c__law_long ?k__law_long ?l_law ?c_law ?k_law ?pg_Rule ?hd_Rule ?po_Rule ?sa_Rule ?mm_Rule ?kc_Rule ?ib_Rule ?mo_Rule ?na_Rule_chosen ?na_Rule_first_rule ?na_Rule_most ?na_Rule_second_rule ?bp_Rule ?bt_Rule ?b3p ?mn_Rule_UandU ?mi_Rule_UandU ?mf_Rule_UcallU ?mi_Rule_UcallU ?mn_Rule_UorU ?mi_Rule_UorU ?mn_Rule_UsubU ?mi_Rule_UsubU ?mi_Rule_names ?pg_Pair ?hd_Pair ?po_Pair ?sa_Pair ?na_Pair_chosen ?na_Pair_first_rule ?na_Pair_most ?na_Pair_second_rule ?bp_Pair ?bt_Pair ?mn_Pair_UandU ?mi_Pair_UandU ?mf_Pair_UcallU ?mi_Pair_UcallU ?mn_Pair_UorU ?mi_Pair_UorU ?mn_Pair_UsubU ?mi_Pair_UsubU ?mi_Pair_names ?pg_Both ?hd_Both ?po_Both ?sa_Both ?mm_Both ?kc_Both ?ii_Both ?na_Both_chosen ?na_Both_first_rule ?na_Both_most ?na_Both_second_rule ?bp_Both ?bt_Both ?mn_Both_UandU ?mi_Both_UandU ?mf_Both_UcallU ?mi_Both_UcallU ?mn_Both_UorU ?mi_Both_UorU ?mn_Both_UsubU ?mi_Both_UsubU ?mi_Both_names ?pg_Either ?hd_Either ?po_Either ?sa_Either ?mm_Either ?kc_Either ?ii_Either ?na_Either_chosen ?na_Either_first_rule ?na_Either_most ?na_Either_second_rule ?bp_Either ?bt_Either ?mn_Either_UandU ?mi_Either_UandU ?mf_Either_UcallU ?mi_Either_UcallU ?mn_Either_UorU ?mi_Either_UorU ?mn_Either_UsubU ?mi_Either_UsubU ?mi_Either_names ?pg_Without ?hd_Without ?po_Without ?sa_Without ?mm_Without ?kc_Without ?ii_Without ?na_Without_chosen ?na_Without_first_rule ?na_Without_most ?na_Without_second_rule ?bp_Without ?bt_Without ?mn_Without_UandU ?mi_Without_UandU ?mf_Without_UcallU ?mi_Without_UcallU ?mn_Without_UorU ?mi_Without_UorU ?mn_Without_UsubU ?mi_Without_UsubU ?mi_Without_names ?pg_AtOnce ?hd_AtOnce ?po_AtOnce ?sa_AtOnce ?mm_AtOnce ?kc_AtOnce ?ib_AtOnce ?mo_AtOnce ?na_AtOnce_chosen ?na_AtOnce_first_rule ?na_AtOnce_most ?na_AtOnce_second_rule ?bp_AtOnce ?bt_AtOnce ?mn_AtOnce_UandU ?mi_AtOnce_UandU ?mf_AtOnce_UcallU ?mi_AtOnce_UcallU ?mn_AtOnce_UorU ?mi_AtOnce_UorU ?mn_AtOnce_UsubU ?mi_AtOnce_UsubU ?mi_AtOnce_names ?pg_Counting ?hd_Counting ?po_Counting ?sa_Counting ?mm_Counting ?kc_Counting ?ib_Counting ?mo_Counting ?na_Counting_chosen ?na_Counting_first_rule ?na_Counting_most ?na_Counting_second_rule ?bp_Counting ?bt_Counting ?mn_Counting_UandU ?mi_Counting_UandU ?mf_Counting_UcallU ?mi_Counting_UcallU ?mn_Counting_UorU ?mi_Counting_UorU ?mn_Counting_UsubU ?mi_Counting_UsubU ?mi_Counting_names ?pg_Places ?hd_Places ?po_Places ?sa_Places ?mm_Places ?kc_Places ?ii_Places ?na_Places_chosen ?na_Places_first_rule ?na_Places_most ?na_Places_second_rule ?bp_Places ?bt_Places ?mn_Places_UandU ?mi_Places_UandU ?mf_Places_UcallU ?mi_Places_UcallU ?mn_Places_UorU ?mi_Places_UorU ?mn_Places_UsubU ?mi_Places_UsubU ?mi_Places_names ?pg_Above ?hd_Above ?po_Above ?sa_Above ?mm_Above ?kc_Above ?ii_Above ?na_Above_chosen ?na_Above_first_rule ?na_Above_most ?na_Above_second_rule ?bp_Above ?bt_Above ?mn_Above_UandU ?mi_Above_UandU ?mf_Above_UcallU ?mi_Above_UcallU ?mn_Above_UorU ?mi_Above_UorU ?mn_Above_UsubU ?mi_Above_UsubU ?mi_Above_names ?z_abs ?z_all ?z_int ?z_len ?z_list ?z_max ?z_range ?z_repr ?z_set ?z_sorted ?z_tuple
    (case aC_Rule => k_is)
    (case aC_Pair => k_is)
    (case aC_Both => k_is)
    (case aC_Either => k_is)
    (case aC_Without => k_is)
    (case aC_AtOnce => k_is)
    (case aC_Counting => k_is)
    (case aC_Places => k_is)
    (case aC_Above => k_is)
    (case a_all_unreached => k_is)
    (case a__law_deck => k_is)
    (case a__law_draw => k_is)
    (case a__law_one => k_is)
    (case a__law_view => k_is)
    (case a__law_basic => k_is)
    (case a__law_rule => k_is)
    (case a__law_counted => k_is)
    (case a__law_named => k_is)
    (case a__law_same => k_is)
    (case a__law_sets_right => k_is)
    (case a__law_long => k_is)
    (case a_law => k_is)
    (case ma_Rule_UandU => k_is)
    (case ma_Rule_UcallU => k_is)
    (case ma_Rule_UorU => k_is)
    (case ma_Rule_UsubU => k_is)
    (case ma_Rule_names => k_is)
    (case ma_Pair_UandU => k_is)
    (case ma_Pair_UcallU => k_is)
    (case ma_Pair_UorU => k_is)
    (case ma_Pair_UsubU => k_is)
    (case ma_Pair_names => k_is)
    (case in_Both => k_is)
    (case ma_Both_UandU => k_is)
    (case ma_Both_UcallU => k_is)
    (case ma_Both_UorU => k_is)
    (case ma_Both_UsubU => k_is)
    (case ma_Both_names => k_is)
    (case in_Either => k_is)
    (case ma_Either_UandU => k_is)
    (case ma_Either_UcallU => k_is)
    (case ma_Either_UorU => k_is)
    (case ma_Either_UsubU => k_is)
    (case ma_Either_names => k_is)
    (case in_Without => k_is)
    (case ma_Without_UandU => k_is)
    (case ma_Without_UcallU => k_is)
    (case ma_Without_UorU => k_is)
    (case ma_Without_UsubU => k_is)
    (case ma_Without_names => k_is)
    (case ma_AtOnce_UandU => k_is)
    (case ma_AtOnce_UcallU => k_is)
    (case ma_AtOnce_UorU => k_is)
    (case ma_AtOnce_UsubU => k_is)
    (case ma_AtOnce_names => k_is)
    (case ma_Counting_UandU => k_is)
    (case ma_Counting_UcallU => k_is)
    (case ma_Counting_UorU => k_is)
    (case ma_Counting_UsubU => k_is)
    (case ma_Counting_names => k_is)
    (case in_Places => k_is)
    (case ma_Places_UandU => k_is)
    (case ma_Places_UcallU => k_is)
    (case ma_Places_UorU => k_is)
    (case ma_Places_UsubU => k_is)
    (case ma_Places_names => k_is)
    (case in_Above => k_is)
    (case ma_Above_UandU => k_is)
    (case ma_Above_UcallU => k_is)
    (case ma_Above_UorU => k_is)
    (case ma_Above_UsubU => k_is)
    (case ma_Above_names => k_is)
    (case in_S_Pair => k_is)
    (case l_Rule_names => k_is)
    (case c_Rule_names => k_is)
    (case k_Rule_names => k_is)
    (case l_all_unreached => k_is)
    (case c_all_unreached => k_is)
    (case k_all_unreached => k_is)
    (case l_Above_names => k_is)
    (case c_Above_names => k_is)
    (case k_Above_names => k_is)
    (case l_AtOnce_names => k_is)
    (case c_AtOnce_names => k_is)
    (case k_AtOnce_names => k_is)
    (case l_Counting_names => k_is)
    (case c_Counting_names => k_is)
    (case k_Counting_names => k_is)
    (case l_Places_names => k_is)
    (case c_Places_names => k_is)
    (case k_Places_names => k_is)
    (case l_Both_names => k_is)
    (case c_Both_names => k_is)
    (case k_Both_names => k_is)
    (case l_Either_names => k_is)
    (case c_Either_names => k_is)
    (case k_Either_names => k_is)
    (case l_Without_names => k_is)
    (case c_Without_names => k_is)
    (case k_Without_names => k_is)
    (case l_RuleU_callU => k_is)
    (case c_RuleU_callU => k_is)
    (case k_RuleU_callU => k_is)
    (case l_PairU_initU => k_is)
    (case c_PairU_initU => k_is)
    (case k_PairU_initU => k_is)
    (case l_RuleU_andU => k_is)
    (case c_RuleU_andU => k_is)
    (case k_RuleU_andU => k_is)
    (case l_RuleU_orU => k_is)
    (case c_RuleU_orU => k_is)
    (case k_RuleU_orU => k_is)
    (case l_RuleU_subU => k_is)
    (case c_RuleU_subU => k_is)
    (case k_RuleU_subU => k_is)
    (case l_PlacesU_initU => k_is)
    (case c_PlacesU_initU => k_is)
    (case k_PlacesU_initU => k_is)
    (case l_AboveU_initU => k_is)
    (case c_AboveU_initU => k_is)
    (case k_AboveU_initU => k_is)
    (case l__law_deck => k_is)
    (case c__law_deck => k_is)
    (case k__law_deck => k_is)
    (case l__law_draw => k_is)
    (case c__law_draw => k_is)
    (case k__law_draw => k_is)
    (case l__law_one => k_is)
    (case c__law_one => k_is)
    (case k__law_one => k_is)
    (case l__law_view => k_is)
    (case c__law_view => k_is)
    (case k__law_view => k_is)
    (case l__law_basic => k_is)
    (case c__law_basic => k_is)
    (case k__law_basic => k_is)
    (case l__law_rule => k_is)
    (case c__law_rule => k_is)
    (case k__law_rule => k_is)
    (case l__law_counted => k_is)
    (case c__law_counted => k_is)
    (case k__law_counted => k_is)
    (case l__law_named => k_is)
    (case c__law_named => k_is)
    (case k__law_named => k_is)
    (case l__law_same => k_is)
    (case c__law_same => k_is)
    (case k__law_same => k_is)
    (case l__law_sets_right => k_is)
    (case c__law_sets_right => k_is)
    (case k__law_sets_right => k_is)
    (case l__law_long => k_is)
    (case c__law_long => k_is)
    (case k__law_long => k_is)
    (case l_law => k_is)
    (case c_law => k_is)
    (case k_law => k_is)
    (case pg_Rule => k_is)
    (case hd_Rule => k_is)
    (case po_Rule => k_is)
    (case sa_Rule => k_is)
    (case mm_Rule => k_is)
    (case kc_Rule => k_is)
    (case ib_Rule => k_is)
    (case mo_Rule => k_is)
    (case na_Rule_chosen => k_is)
    (case na_Rule_first_rule => k_is)
    (case na_Rule_most => k_is)
    (case na_Rule_second_rule => k_is)
    (case bp_Rule => exact PySem.W.bopB_of (by k_is) (by decide +kernel))
    (case bt_Rule => k_is)
    (case b3p => k_is)
    (case mn_Rule_UandU => k_is)
    (case mi_Rule_UandU => k_is)
    (case mf_Rule_UcallU => k_is)
    (case mi_Rule_UcallU => k_is)
    (case mn_Rule_UorU => k_is)
    (case mi_Rule_UorU => k_is)
    (case mn_Rule_UsubU => k_is)
    (case mi_Rule_UsubU => k_is)
    (case mi_Rule_names => k_is)
    (case pg_Pair => k_is)
    (case hd_Pair => k_is)
    (case po_Pair => k_is)
    (case sa_Pair => k_is)
    (case na_Pair_chosen => k_is)
    (case na_Pair_first_rule => k_is)
    (case na_Pair_most => k_is)
    (case na_Pair_second_rule => k_is)
    (case bp_Pair => exact PySem.W.bopB_of (by k_is) (by decide +kernel))
    (case bt_Pair => k_is)
    (case mn_Pair_UandU => k_is)
    (case mi_Pair_UandU => k_is)
    (case mf_Pair_UcallU => k_is)
    (case mi_Pair_UcallU => k_is)
    (case mn_Pair_UorU => k_is)
    (case mi_Pair_UorU => k_is)
    (case mn_Pair_UsubU => k_is)
    (case mi_Pair_UsubU => k_is)
    (case mi_Pair_names => k_is)
    (case pg_Both => k_is)
    (case hd_Both => k_is)
    (case po_Both => k_is)
    (case sa_Both => k_is)
    (case mm_Both => k_is)
    (case kc_Both => k_is)
    (case ii_Both => k_is)
    (case na_Both_chosen => k_is)
    (case na_Both_first_rule => k_is)
    (case na_Both_most => k_is)
    (case na_Both_second_rule => k_is)
    (case bp_Both => exact PySem.W.bopB_of (by k_is) (by decide +kernel))
    (case bt_Both => k_is)
    (case mn_Both_UandU => k_is)
    (case mi_Both_UandU => k_is)
    (case mf_Both_UcallU => k_is)
    (case mi_Both_UcallU => k_is)
    (case mn_Both_UorU => k_is)
    (case mi_Both_UorU => k_is)
    (case mn_Both_UsubU => k_is)
    (case mi_Both_UsubU => k_is)
    (case mi_Both_names => k_is)
    (case pg_Either => k_is)
    (case hd_Either => k_is)
    (case po_Either => k_is)
    (case sa_Either => k_is)
    (case mm_Either => k_is)
    (case kc_Either => k_is)
    (case ii_Either => k_is)
    (case na_Either_chosen => k_is)
    (case na_Either_first_rule => k_is)
    (case na_Either_most => k_is)
    (case na_Either_second_rule => k_is)
    (case bp_Either => exact PySem.W.bopB_of (by k_is) (by decide +kernel))
    (case bt_Either => k_is)
    (case mn_Either_UandU => k_is)
    (case mi_Either_UandU => k_is)
    (case mf_Either_UcallU => k_is)
    (case mi_Either_UcallU => k_is)
    (case mn_Either_UorU => k_is)
    (case mi_Either_UorU => k_is)
    (case mn_Either_UsubU => k_is)
    (case mi_Either_UsubU => k_is)
    (case mi_Either_names => k_is)
    (case pg_Without => k_is)
    (case hd_Without => k_is)
    (case po_Without => k_is)
    (case sa_Without => k_is)
    (case mm_Without => k_is)
    (case kc_Without => k_is)
    (case ii_Without => k_is)
    (case na_Without_chosen => k_is)
    (case na_Without_first_rule => k_is)
    (case na_Without_most => k_is)
    (case na_Without_second_rule => k_is)
    (case bp_Without => exact PySem.W.bopB_of (by k_is) (by decide +kernel))
    (case bt_Without => k_is)
    (case mn_Without_UandU => k_is)
    (case mi_Without_UandU => k_is)
    (case mf_Without_UcallU => k_is)
    (case mi_Without_UcallU => k_is)
    (case mn_Without_UorU => k_is)
    (case mi_Without_UorU => k_is)
    (case mn_Without_UsubU => k_is)
    (case mi_Without_UsubU => k_is)
    (case mi_Without_names => k_is)
    (case pg_AtOnce => k_is)
    (case hd_AtOnce => k_is)
    (case po_AtOnce => k_is)
    (case sa_AtOnce => k_is)
    (case mm_AtOnce => k_is)
    (case kc_AtOnce => k_is)
    (case ib_AtOnce => k_is)
    (case mo_AtOnce => k_is)
    (case na_AtOnce_chosen => k_is)
    (case na_AtOnce_first_rule => k_is)
    (case na_AtOnce_most => k_is)
    (case na_AtOnce_second_rule => k_is)
    (case bp_AtOnce => exact PySem.W.bopB_of (by k_is) (by decide +kernel))
    (case bt_AtOnce => k_is)
    (case mn_AtOnce_UandU => k_is)
    (case mi_AtOnce_UandU => k_is)
    (case mf_AtOnce_UcallU => k_is)
    (case mi_AtOnce_UcallU => k_is)
    (case mn_AtOnce_UorU => k_is)
    (case mi_AtOnce_UorU => k_is)
    (case mn_AtOnce_UsubU => k_is)
    (case mi_AtOnce_UsubU => k_is)
    (case mi_AtOnce_names => k_is)
    (case pg_Counting => k_is)
    (case hd_Counting => k_is)
    (case po_Counting => k_is)
    (case sa_Counting => k_is)
    (case mm_Counting => k_is)
    (case kc_Counting => k_is)
    (case ib_Counting => k_is)
    (case mo_Counting => k_is)
    (case na_Counting_chosen => k_is)
    (case na_Counting_first_rule => k_is)
    (case na_Counting_most => k_is)
    (case na_Counting_second_rule => k_is)
    (case bp_Counting => exact PySem.W.bopB_of (by k_is) (by decide +kernel))
    (case bt_Counting => k_is)
    (case mn_Counting_UandU => k_is)
    (case mi_Counting_UandU => k_is)
    (case mf_Counting_UcallU => k_is)
    (case mi_Counting_UcallU => k_is)
    (case mn_Counting_UorU => k_is)
    (case mi_Counting_UorU => k_is)
    (case mn_Counting_UsubU => k_is)
    (case mi_Counting_UsubU => k_is)
    (case mi_Counting_names => k_is)
    (case pg_Places => k_is)
    (case hd_Places => k_is)
    (case po_Places => k_is)
    (case sa_Places => k_is)
    (case mm_Places => k_is)
    (case kc_Places => k_is)
    (case ii_Places => k_is)
    (case na_Places_chosen => k_is)
    (case na_Places_first_rule => k_is)
    (case na_Places_most => k_is)
    (case na_Places_second_rule => k_is)
    (case bp_Places => exact PySem.W.bopB_of (by k_is) (by decide +kernel))
    (case bt_Places => k_is)
    (case mn_Places_UandU => k_is)
    (case mi_Places_UandU => k_is)
    (case mf_Places_UcallU => k_is)
    (case mi_Places_UcallU => k_is)
    (case mn_Places_UorU => k_is)
    (case mi_Places_UorU => k_is)
    (case mn_Places_UsubU => k_is)
    (case mi_Places_UsubU => k_is)
    (case mi_Places_names => k_is)
    (case pg_Above => k_is)
    (case hd_Above => k_is)
    (case po_Above => k_is)
    (case sa_Above => k_is)
    (case mm_Above => k_is)
    (case kc_Above => k_is)
    (case ii_Above => k_is)
    (case na_Above_chosen => k_is)
    (case na_Above_first_rule => k_is)
    (case na_Above_most => k_is)
    (case na_Above_second_rule => k_is)
    (case bp_Above => exact PySem.W.bopB_of (by k_is) (by decide +kernel))
    (case bt_Above => k_is)
    (case mn_Above_UandU => k_is)
    (case mi_Above_UandU => k_is)
    (case mf_Above_UcallU => k_is)
    (case mi_Above_UcallU => k_is)
    (case mn_Above_UorU => k_is)
    (case mi_Above_UorU => k_is)
    (case mn_Above_UsubU => k_is)
    (case mi_Above_UsubU => k_is)
    (case mi_Above_names => k_is)
    (case z_abs => k_is)
    (case z_all => k_is)
    (case z_int => k_is)
    (case z_len => k_is)
    (case z_list => k_is)
    (case z_max => k_is)
    (case z_range => k_is)
    (case z_repr => k_is)
    (case z_set => k_is)
    (case z_sorted => k_is)
    (case z_tuple => k_is)
