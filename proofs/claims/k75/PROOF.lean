import PyProof.Rows.All
import Wide.All
import OpenK.AllK
import Wide.FinOn
import HandS.ForMost
import HandS.ForExc
import HandS.CallSlots
import HandS.Defaults
import HandS.Conv
import HandS.IsInst
import HandS.TupAny
import HandS.TupLen
import HandS.Style
import HandS.DictComp
import KE.SortKeyed
import HandS.SortRule
import HandS.SetFor
import HandS.Strs
import HandS.ClsMeth
import KE.KTupSum
import HandS.Nested
import HandS.ExcInit
import KE.KExcSuper
import KE.KSuper
import HandS.SuiteRaise
import KE.KExcMake
import KE.GoesComp
import KE.KAsSuite
import HandS.TryMany
import HandS.ExcField
import KE.KStateDown
import HandS.Head0
import HandS.Head1
import HandS.Head2
import HandS.HeadEnd
import HandS.HeadHook1
import HandS.HeadHook2
import KE.KDictSum
import PySem.Challenge.RW_nearbydown_k75_circuits_by_near_steps
set_option Elab.async false
set_option linter.all false
set_option maxRecDepth 100000
/-! PD1: data, plain runs over data, how data lies in the heap. -/
namespace PD
open PySem PySem.Spec PyProof.Rows L2
/-! ### data -/
inductive D where
  | non | bl (b : Bool) | int (i : Int) | str (x : Str)
  | tup (ds : List D) | lst (ds : List D) | dic (kvs : List (List Key × D)) | ins (c : Nat) (fs : List (Str × D)) | scr (ns : List Int)
structure Exn where
  c : Nat
  fs : List (Str × D)
inductive Slot where
  | un | val (d : D) | own (d : D)
abbrev DEnv := List Slot
inductive RM (α : Type) where
  | ok (a : α) (ρ : DEnv) | exc (x : Exn) (ρ : DEnv) | stuck
abbrev M (α : Type) := DEnv → RM α
@[simp] def RM.bind {α β : Type} (r : RM α) (k : α → DEnv → RM β) : RM β := match r with
  | .ok a ρ => k a ρ
  | .exc x ρ => .exc x ρ
  | .stuck => .stuck
@[simp] def lift {α : Type} (o : Option α) (ρ : DEnv) : RM α := match o with
  | some a => .ok a ρ
  | none => .stuck
/-! ### how data lies in the heap -/
structure Tab where
  K : PySem.W.Frag
  cls : Nat → Addr
mutual
inductive Rp (T : Tab) (H : Hp) : V → D → Prop
  | non : Rp T H .non .non
  | bl (b : Bool) : Rp T H (.bl b) (.bl b)
  | int (i : Int) : Rp T H (.int i) (.int i)
  | str (x : Str) : Rp T H (.str x) (.str x)
  | tup {a : Addr} {vs : List V} {ds : List D} (h : H a = some (.tup vs)) (r : Rps T H vs ds) : Rp T H (.ref a) (.tup ds)
  | lst {a : Addr} {vs : List V} {ds : List D} (h : H a = some (.lst vs)) (r : Rps T H vs ds) : Rp T H (.ref a) (.lst ds)
  | dic {a : Addr} {vs : List (List Key × V)} {ds : List (List Key × D)} (h : H a = some (.dT vs)) (r : Rpk T H vs ds) : Rp T H (.ref a) (.dic ds)
  | ins {a dx : Addr} {vs : List (Str × V)} {c : Nat} {ds : List (Str × D)} (h : H a = some (.ins (T.cls c) dx vs)) (r : Rpf T H vs ds) : Rp T H (.ref a) (.ins c ds)
  | scr {a : Addr} {ns : List Int} (h : SqL T.K H a (ns.map V.int)) : Rp T H (.ref a) (.scr ns)
inductive Rps (T : Tab) (H : Hp) : List V → List D → Prop
  | nil : Rps T H [] []
  | cons {v : V} {d : D} {vs : List V} {ds : List D} (h : Rp T H v d) (r : Rps T H vs ds) : Rps T H (v :: vs) (d :: ds)
inductive Rpk (T : Tab) (H : Hp) : List (List Key × V) → List (List Key × D) → Prop
  | nil : Rpk T H [] []
  | cons {k : List Key} {v : V} {d : D} {vs : List (List Key × V)} {ds : List (List Key × D)} (h : Rp T H v d) (r : Rpk T H vs ds) : Rpk T H ((k, v) :: vs) ((k, d) :: ds)
inductive Rpf (T : Tab) (H : Hp) : List (Str × V) → List (Str × D) → Prop
  | nil : Rpf T H [] []
  | cons {k : Str} {v : V} {d : D} {vs : List (Str × V)} {ds : List (Str × D)} (h : Rp T H v d) (r : Rpf T H vs ds) : Rpf T H ((k, v) :: vs) ((k, d) :: ds)
end
theorem same_rd {H H' : Hp} {a : Addr} {u : HO} (e : Same H H') (h : Rd H a u) : Rd H' a u := by
  rcases h with h | ⟨o, h⟩
  · exact Or.inl (e a _ h)
  · exact Or.inr ⟨o, e a _ h⟩
theorem same_sql {K : PySem.W.Frag} {H H' : Hp} {a : Addr} {xs : List V} (e : Same H H') (h : SqL K H a xs) : SqL K H' a xs := by
  rcases h with h | h
  · exact Or.inl (same_rd e h)
  · exact Or.inr h
mutual
theorem Rp.mono {T : Tab} {H H' : Hp} (e : Same H H') : ∀ {v : V} {d : D}, Rp T H v d → Rp T H' v d
  | _, _, .non => .non
  | _, _, .bl b => .bl b
  | _, _, .int i => .int i
  | _, _, .str x => .str x
  | _, _, .tup h r => .tup (e _ _ h) (Rps.mono e r)
  | _, _, .lst h r => .lst (e _ _ h) (Rps.mono e r)
  | _, _, .dic h r => .dic (e _ _ h) (Rpk.mono e r)
  | _, _, .ins h r => .ins (e _ _ h) (Rpf.mono e r)
  | _, _, .scr h => .scr (same_sql e h)
theorem Rps.mono {T : Tab} {H H' : Hp} (e : Same H H') : ∀ {v : List V} {d : List D}, Rps T H v d → Rps T H' v d
  | _, _, .nil => .nil
  | _, _, .cons h r => .cons (Rp.mono e h) (Rps.mono e r)
theorem Rpk.mono {T : Tab} {H H' : Hp} (e : Same H H') : ∀ {v : List (List Key × V)} {d : List (List Key × D)}, Rpk T H v d → Rpk T H' v d
  | _, _, .nil => .nil
  | _, _, .cons h r => .cons (Rp.mono e h) (Rpk.mono e r)
theorem Rpf.mono {T : Tab} {H H' : Hp} (e : Same H H') : ∀ {v : List (Str × V)} {d : List (Str × D)}, Rpf T H v d → Rpf T H' v d
  | _, _, .nil => .nil
  | _, _, .cons h r => .cons (Rp.mono e h) (Rpf.mono e r)
end
theorem Rps.length {T : Tab} {H : Hp} : ∀ {v : List V} {d : List D}, Rps T H v d → v.length = d.length
  | _, _, .nil => rfl
  | _, _, .cons _ r => by rw [List.length_cons, List.length_cons, Rps.length r]
theorem Rps.get {T : Tab} {H : Hp} : ∀ {v : List V} {d : List D} {i : Nat} {x : D}, Rps T H v d → d[i]? = some x → ∃ u, v[i]? = some u ∧ Rp T H u x
  | _, _, _, _, .nil, e => by simp at e
  | _, _, 0, _, .cons h _, e => by simp at e; subst e; exact ⟨_, rfl, h⟩
  | _, _, i + 1, _, .cons _ r, e => by
    obtain ⟨u, h1, h2⟩ := Rps.get (i := i) r (by simpa using e)
    exact ⟨u, by simpa using h1, h2⟩
theorem Rps.getV {T : Tab} {H : Hp} : ∀ {v : List V} {d : List D} {i : Nat} {x : V}, Rps T H v d → v[i]? = some x → ∃ u, d[i]? = some u ∧ Rp T H x u
  | _, _, _, _, .nil, e => by simp at e
  | _, _, 0, _, .cons h _, e => by simp at e; subst e; exact ⟨_, rfl, h⟩
  | _, _, i + 1, _, .cons _ r, e => by
    obtain ⟨u, h1, h2⟩ := Rps.getV (i := i) r (by simpa using e)
    exact ⟨u, by simpa using h1, h2⟩
theorem Rps.append {T : Tab} {H : Hp} : ∀ {v v' : List V} {d d' : List D}, Rps T H v d → Rps T H v' d' → Rps T H (v ++ v') (d ++ d')
  | _, _, _, _, .nil, s => s
  | _, _, _, _, .cons h r, s => .cons h (Rps.append r s)
theorem Rps.set {T : Tab} {H : Hp} {x : V} {y : D} (h : Rp T H x y) : ∀ {v : List V} {d : List D} (i : Nat), Rps T H v d → Rps T H (v.set i x) (d.set i y)
  | _, _, _, .nil => .nil
  | _, _, 0, .cons _ r => .cons h r
  | _, _, i + 1, .cons q r => .cons q (Rps.set h i r)
theorem Rps.take {T : Tab} {H : Hp} : ∀ {v : List V} {d : List D} (n : Nat), Rps T H v d → Rps T H (v.take n) (d.take n)
  | _, _, 0, _ => .nil
  | _, _, _ + 1, .nil => .nil
  | _, _, n + 1, .cons h r => .cons h (Rps.take n r)
theorem Rps.drop {T : Tab} {H : Hp} : ∀ {v : List V} {d : List D} (n : Nat), Rps T H v d → Rps T H (v.drop n) (d.drop n)
  | _, _, 0, r => r
  | _, _, _ + 1, .nil => .nil
  | _, _, n + 1, .cons _ r => Rps.drop n r
theorem Rps.reverse {T : Tab} {H : Hp} : ∀ {v : List V} {d : List D}, Rps T H v d → Rps T H v.reverse d.reverse
  | _, _, .nil => .nil
  | _, _, .cons h r => by
    rw [List.reverse_cons, List.reverse_cons]
    exact (Rps.reverse r).append (.cons h .nil)
theorem Rps.ints {T : Tab} {H : Hp} : ∀ ns : List Int, Rps T H (ns.map V.int) (ns.map D.int)
  | [] => .nil
  | n :: ns => .cons (.int n) (Rps.ints ns)
theorem Rps.int_inv {T : Tab} {H : Hp} : ∀ {v : List V} {ns : List Int}, Rps T H v (ns.map D.int) → v = ns.map V.int
  | _, [], .nil => rfl
  | _, n :: ns, .cons (.int _) r => by rw [List.map_cons, Rps.int_inv r]
theorem Rps.bls {T : Tab} {H : Hp} : ∀ ns : List Bool, Rps T H (ns.map V.bl) (ns.map D.bl)
  | [] => .nil
  | n :: ns => .cons (.bl n) (Rps.bls ns)
theorem Rps.bl_inv {T : Tab} {H : Hp} : ∀ {v : List V} {ns : List Bool}, Rps T H v (ns.map D.bl) → v = ns.map V.bl
  | _, [], .nil => rfl
  | _, n :: ns, .cons (.bl _) r => by rw [List.map_cons, Rps.bl_inv r]
theorem Rpf.lookup {T : Tab} {H : Hp} {f : Str} : ∀ {v : List (Str × V)} {d : List (Str × D)} {x : D}, Rpf T H v d → d.lookup f = some x → ∃ u, v.lookup f = some u ∧ Rp T H u x
  | _, _, _, .nil, e => by cases e
  | _, _, x, @Rpf.cons _ _ k v d vs ds h r, e => by
    rw [List.lookup_cons] at e ⊢
    cases q : (f == k) with
    | true => rw [q] at e; cases e; exact ⟨_, rfl, h⟩
    | false => rw [q] at e; exact Rpf.lookup r e
theorem Rpf.lookup_none {T : Tab} {H : Hp} {f : Str} : ∀ {v : List (Str × V)} {d : List (Str × D)}, Rpf T H v d → d.lookup f = none → v.lookup f = none
  | _, _, .nil, _ => rfl
  | _, _, @Rpf.cons _ _ k v d vs ds h r, e => by
    rw [List.lookup_cons] at e ⊢
    cases q : (f == k) with
    | true => rw [q] at e; cases e
    | false => rw [q] at e; exact Rpf.lookup_none r e
theorem Rpf.length {T : Tab} {H : Hp} : ∀ {v : List (Str × V)} {d : List (Str × D)}, Rpf T H v d → v.length = d.length
  | _, _, .nil => rfl
  | _, _, .cons _ r => by rw [List.length_cons, List.length_cons, Rpf.length r]
/-- a field is stored -/
def putD (f : Str) (x : D) : List (Str × D) → List (Str × D)
  | [] => [(f, x)]
  | (g, y) :: r => if g = f then (g, x) :: r else (g, y) :: putD f x r
theorem Rpf.put {T : Tab} {H : Hp} {f : Str} {x : V} {y : D} (h : Rp T H x y) : ∀ {v : List (Str × V)} {d : List (Str × D)}, Rpf T H v d → Rpf T H (putF f x v) (putD f y d)
  | _, _, .nil => .cons h .nil
  | _, _, @Rpf.cons _ _ k v d vs ds q r => by
    unfold putF putD
    by_cases e : k = f
    · rw [if_pos e, if_pos e]
      exact .cons h r
    · rw [if_neg e, if_neg e]
      exact .cons q (Rpf.put h r)
theorem Rpk.length {T : Tab} {H : Hp} : ∀ {v : List (List Key × V)} {d : List (List Key × D)}, Rpk T H v d → v.length = d.length
  | _, _, .nil => rfl
  | _, _, .cons _ r => by rw [List.length_cons, List.length_cons, Rpk.length r]
/-- a dict's value -/
def lookD (k : List Key) : List (List Key × D) → Option D
  | [] => none
  | (j, d) :: r => if j = k then some d else lookD k r
def dputD (k : List Key) (x : D) (kvs : List (List Key × D)) : List (List Key × D) :=
  if (kvs.any fun kv => decide (kv.1 = k)) = true then kvs.map (fun kv => if kv.1 = k then (kv.1, x) else kv) else kvs ++ [(k, x)]
theorem Rpk.look {T : Tab} {H : Hp} {k : List Key} : ∀ {v : List (List Key × V)} {d : List (List Key × D)}, Rpk T H v d →
    (lookD k d = none ∧ valV v k = none) ∨ ∃ x u, lookD k d = some x ∧ valV v k = some u ∧ Rp T H u x
  | _, _, .nil => .inl ⟨rfl, valV_nil⟩
  | _, _, @Rpk.cons _ _ j v d vs ds h r => by
    unfold lookD
    by_cases e : j = k
    · rw [if_pos e]
      exact .inr ⟨d, v, rfl, valV_pos (p := (j, v)) e, h⟩
    · rw [if_neg e, valV_neg (p := (j, v)) e]
      exact Rpk.look r
theorem Rpk.any {T : Tab} {H : Hp} {k : List Key} : ∀ {v : List (List Key × V)} {d : List (List Key × D)}, Rpk T H v d → (v.any fun kv => decide (kv.1 = k)) = (d.any fun kv => decide (kv.1 = k))
  | _, _, .nil => rfl
  | _, _, .cons _ r => by rw [List.any_cons, List.any_cons, Rpk.any r]
theorem Rpk.append {T : Tab} {H : Hp} : ∀ {v v' : List (List Key × V)} {d d' : List (List Key × D)}, Rpk T H v d → Rpk T H v' d' → Rpk T H (v ++ v') (d ++ d')
  | _, _, _, _, .nil, s => s
  | _, _, _, _, .cons h r, s => .cons h (Rpk.append r s)
theorem Rpk.upd {T : Tab} {H : Hp} {k : List Key} {x : V} {y : D} (h : Rp T H x y) : ∀ {v : List (List Key × V)} {d : List (List Key × D)}, Rpk T H v d →
    Rpk T H (v.map fun kv => if kv.1 = k then (kv.1, x) else kv) (d.map fun kv => if kv.1 = k then (kv.1, y) else kv)
  | _, _, .nil => .nil
  | _, _, @Rpk.cons _ _ j v d vs ds q r => by
    rw [List.map_cons, List.map_cons]
    by_cases e : j = k
    · rw [if_pos e, if_pos e]
      exact .cons h (Rpk.upd h r)
    · rw [if_neg e, if_neg e]
      exact .cons q (Rpk.upd h r)
theorem Rpk.put {T : Tab} {H : Hp} {k : List Key} {x : V} {y : D} (h : Rp T H x y) {v : List (List Key × V)} {d : List (List Key × D)} (r : Rpk T H v d) : Rpk T H (putK v k x) (dputD k y d) := by
  unfold putK dputD
  rw [r.any]
  by_cases e : (d.any fun kv => decide (kv.1 = k)) = true
  · rw [if_pos e, if_pos e]
    exact r.upd h
  · rw [if_neg e, if_neg e]
    exact r.append (.cons h .nil)
/-! ### the state: Fr what must stay, Hc the heap on which the values stand, the owned objects apart -/
/-- no tuple: what must not come to the frozen heap by itself -/
def nT : HO → Prop
  | .tup _ => False
  | _ => True
/-- the object of an owned slot -/
def Ob (T : Tab) (Hc : Hp) (o : Option HO) : D → Prop
  | .lst ds => ∃ vs, o = some (.lst vs) ∧ Rps T Hc vs ds
  | .dic ds => ∃ vs, o = some (.dT vs) ∧ Rpk T Hc vs ds
  | .ins c ds => ∃ dx vs, o = some (.ins (T.cls c) dx vs) ∧ Rpf T Hc vs ds
  | _ => False
theorem Ob.mono {T : Tab} {H H' : Hp} {o : Option HO} {d : D} (e : Same H H') (h : Ob T H o d) : Ob T H' o d := by
  cases d with
  | lst ds => obtain ⟨vs, a, b⟩ := h; exact ⟨vs, a, b.mono e⟩
  | dic ds => obtain ⟨vs, a, b⟩ := h; exact ⟨vs, a, b.mono e⟩
  | ins c ds => obtain ⟨dx, vs, a, b⟩ := h; exact ⟨dx, vs, a, b.mono e⟩
  | _ => exact h.elim
theorem Ob.some {T : Tab} {Hc : Hp} {o : Option HO} {d : D} (h : Ob T Hc o d) : ∃ u, o = some u ∧ Mut (Option.some u) := by
  cases d with
  | lst ds => obtain ⟨vs, a, b⟩ := h; exact ⟨_, a, trivial⟩
  | dic ds => obtain ⟨vs, a, b⟩ := h; exact ⟨_, a, trivial⟩
  | ins c ds => obtain ⟨dx, vs, a, b⟩ := h; exact ⟨_, a, trivial⟩
  | _ => exact h.elim
theorem Ob.nT {T : Tab} {Hc : Hp} {u : HO} {d : D} (h : Ob T Hc (Option.some u) d) : nT u := by
  cases d with
  | lst ds => obtain ⟨vs, a, b⟩ := h; cases a; trivial
  | dic ds => obtain ⟨vs, a, b⟩ := h; cases a; trivial
  | ins c ds => obtain ⟨dx, vs, a, b⟩ := h; cases a; trivial
  | _ => exact h.elim
theorem Ob.rp {T : Tab} {Hc : Hp} {a : Addr} {d : D} (h : Ob T Hc (Hc a) d) : Rp T Hc (.ref a) d := by
  cases d with
  | lst ds => obtain ⟨vs, a, b⟩ := h; exact .lst a b
  | dic ds => obtain ⟨vs, a, b⟩ := h; exact .dic a b
  | ins c ds => obtain ⟨dx, vs, a, b⟩ := h; exact .ins a b
  | _ => exact h.elim
def SlR (T : Tab) (Fr Hc H : Hp) (x : Option (Option V)) : Option Slot → Prop
  | some (.val d) => ∃ v, x = some (some v) ∧ Rp T Hc v d
  | some (.own d) => ∃ a, x = some (some (.ref a)) ∧ Fr a = none ∧ Hc a = none ∧ Ob T Hc (H a) d
  | _ => True
def isOwn : Option Slot → Bool
  | some (.own _) => true
  | _ => false
/-- what must stay: the frame heap; the address of slot 0, where the def hands it back changed -/
structure Fm where
  fr : Hp
  pin : Option Addr
structure StC (T : Tab) (Fr : Fm) (Hc : Hp) (σ : L2.St) (H : Hp) (ρ : DEnv) : Prop where
  fr : Same Fr.fr H
  hc : Same Hc H
  dj : ∀ a o, Fr.fr a = some o → nT o → Hc a = none
  ln : σ.length = ρ.length
  sl : ∀ i : Nat, SlR T Fr.fr Hc H σ[i]? ρ[i]?
  ds : ∀ (i j : Nat) (a : Addr), σ[i]? = some (some (.ref a)) → σ[j]? = some (some (.ref a)) → isOwn ρ[i]? = true → isOwn ρ[j]? = true → i = j
  pn : ∀ a, Fr.pin = some a → σ[0]? = some (some (.ref a))
section
variable {T : Tab} {Fr : Fm} {Hc H : Hp} {σ : L2.St} {ρ : DEnv}
theorem SlR.grow {fr Hc' H' : Hp} {x : Option (Option V)} {s : Option Slot} (h : SlR T fr Hc H x s) (e : Same Hc Hc') (k : ∀ a u, fr a = none → Hc a = none → H a = some u → nT u → Hc' a = none ∧ H' a = some u) : SlR T fr Hc' H' x s := by
  cases s with
  | none => trivial
  | some s =>
    cases s with
    | un => trivial
    | val d => obtain ⟨v, a, b⟩ := h; exact ⟨v, a, b.mono e⟩
    | own d =>
      obtain ⟨a, h1, h2, h3, h4⟩ := h
      obtain ⟨u, hu, _⟩ := h4.some
      obtain ⟨k1, k2⟩ := k a u h2 h3 hu (by rw [hu] at h4; exact h4.nT)
      refine ⟨a, h1, h2, k1, ?_⟩
      rw [k2, ← hu]
      exact h4.mono e
theorem StC.var (S : StC T Fr Hc σ H ρ) {i : Nat} {d : D} (h : ρ[i]? = some (.val d)) : ∃ v, σ[i]? = some (some v) ∧ Rp T Hc v d := by
  have q := S.sl i
  rw [h] at q
  exact q
theorem StC.ownv (S : StC T Fr Hc σ H ρ) {i : Nat} {d : D} (h : ρ[i]? = some (.own d)) : ∃ a, σ[i]? = some (some (.ref a)) ∧ Fr.fr a = none ∧ Hc a = none ∧ Ob T Hc (H a) d := by
  have q := S.sl i
  rw [h] at q
  exact q
/-- an owned slot becomes a value -/
def freeze (ρ : DEnv) (i : Nat) : DEnv := match ρ[i]? with
  | some (.own d) => ρ.set i (.val d)
  | _ => ρ
/-- a new object, laid as a value -/
theorem StC.laid (S : StC T Fr Hc σ H ρ) {p : Addr} {o : HO} (hp : H p = none) : Same Hc (upd Hc p o) ∧ StC T Fr (upd Hc p o) σ (upd H p o) ρ := by
  have hcp : Hc p = none := S.hc.free hp
  have hfp : Fr.fr p = none := S.fr.free hp
  have e : Same Hc (upd Hc p o) := fun b u hb => by rw [upd_ne (ne_of_none hb hcp)]; exact hb
  refine ⟨e, ⟨fun b u hb => ?_, fun b u hb => ?_, fun a u ha hu => ?_, S.ln, fun i => (S.sl i).grow e fun a u h1 h2 h3 _ => ?_, S.ds, S.pn⟩⟩
  · rw [upd_ne (ne_of_none hb hfp)]; exact S.fr b u hb
  · by_cases q : b = p
    · subst q; rw [upd_same] at hb ⊢; exact hb
    · rw [upd_ne q] at hb ⊢; exact S.hc b u hb
  · rw [upd_ne (ne_of_none ha hfp)]; exact S.dj a u ha hu
  · have q : a ≠ p := ne_of_none h3 hp
    rw [upd_ne q, upd_ne q]
    exact ⟨h2, h3⟩
/-- something else has been laid beside (not on Hc) -/
theorem StC.aside (S : StC T Fr Hc σ H ρ) {H' : Hp} (e : Same H H') : StC T Fr Hc σ H' ρ :=
  ⟨S.fr.trans e, S.hc.trans e, S.dj, S.ln, fun i => (S.sl i).grow (Same.refl _) fun a u _ h2 h3 _ => ⟨h2, e a u h3⟩, S.ds, S.pn⟩
theorem StC.set_val (S : StC T Fr Hc σ H ρ) {i : Nat} {v : V} {d : D} (h0 : i ≠ 0) (r : Rp T Hc v d) : StC T Fr Hc (σ.set i (some v)) H (ρ.set i (.val d)) := by
  refine ⟨S.fr, S.hc, S.dj, by rw [List.length_set, List.length_set, S.ln], fun j => ?_, fun j k a h1 h2 h3 h4 => ?_, fun a e => by rw [List.getElem?_set_ne h0]; exact S.pn a e⟩
  · by_cases q : i = j
    · subst q
      by_cases l : i < ρ.length
      · rw [List.getElem?_set_self l, List.getElem?_set_self (by rw [S.ln]; exact l)]
        exact ⟨v, rfl, r⟩
      · rw [List.getElem?_eq_none (l := ρ.set i _) (by rw [List.length_set]; omega)]
        trivial
    · rw [List.getElem?_set_ne q, List.getElem?_set_ne q]
      exact S.sl j
  · have nj : ∀ m, isOwn (ρ.set i (.val d))[m]? = true → i ≠ m := fun m hm z => by
      subst z
      by_cases l : i < ρ.length
      · rw [List.getElem?_set_self l] at hm; cases hm
      · rw [List.getElem?_eq_none (by rw [List.length_set]; omega)] at hm; cases hm
    have q1 := nj j h3
    have q2 := nj k h4
    rw [List.getElem?_set_ne q1] at h1 h3
    rw [List.getElem?_set_ne q2] at h2 h4
    exact S.ds j k a h1 h2 h3 h4
theorem StC.set_un (S : StC T Fr Hc σ H ρ) {i : Nat} {v : Option V} (h0 : i ≠ 0) : StC T Fr Hc (σ.set i v) H (ρ.set i .un) := by
  refine ⟨S.fr, S.hc, S.dj, by rw [List.length_set, List.length_set, S.ln], fun j => ?_, fun j k a h1 h2 h3 h4 => ?_, fun a e => by rw [List.getElem?_set_ne h0]; exact S.pn a e⟩
  · by_cases q : i = j
    · subst q
      by_cases l : i < ρ.length
      · rw [List.getElem?_set_self l]; trivial
      · rw [List.getElem?_eq_none (l := ρ.set i _) (by rw [List.length_set]; omega)]
        trivial
    · rw [List.getElem?_set_ne q, List.getElem?_set_ne q]
      exact S.sl j
  · have nj : ∀ m, isOwn (ρ.set i .un)[m]? = true → i ≠ m := fun m hm z => by
      subst z
      by_cases l : i < ρ.length
      · rw [List.getElem?_set_self l] at hm; cases hm
      · rw [List.getElem?_eq_none (by rw [List.length_set]; omega)] at hm; cases hm
    have q1 := nj j h3
    have q2 := nj k h4
    rw [List.getElem?_set_ne q1] at h1 h3
    rw [List.getElem?_set_ne q2] at h2 h4
    exact S.ds j k a h1 h2 h3 h4
/-- a new object is owned by slot i -/
theorem StC.set_own (S : StC T Fr Hc σ H ρ) {i : Nat} {p : Addr} {d : D} (h0 : i ≠ 0) (h1 : Fr.fr p = none) (h2 : Hc p = none) (h3 : Ob T Hc (H p) d) (h4 : ∀ j : Nat, σ[j]? = some (some (.ref p)) → isOwn ρ[j]? = true → j = i) :
    StC T Fr Hc (σ.set i (some (.ref p))) H (ρ.set i (.own d)) := by
  refine ⟨S.fr, S.hc, S.dj, by rw [List.length_set, List.length_set, S.ln], fun j => ?_, fun j k a g1 g2 g3 g4 => ?_, fun a e => by rw [List.getElem?_set_ne h0]; exact S.pn a e⟩
  · by_cases q : i = j
    · subst q
      by_cases l : i < ρ.length
      · rw [List.getElem?_set_self l, List.getElem?_set_self (by rw [S.ln]; exact l)]
        exact ⟨p, rfl, h1, h2, h3⟩
      · rw [List.getElem?_eq_none (l := ρ.set i _) (by rw [List.length_set]; omega)]
        trivial
    · rw [List.getElem?_set_ne q, List.getElem?_set_ne q]
      exact S.sl j
  · by_cases q1 : i = j
    · by_cases q2 : i = k
      · omega
      · rw [List.getElem?_set_ne q2] at g2 g4
        subst q1
        have : a = p := by
          by_cases l : i < σ.length
          · rw [List.getElem?_set_self l] at g1; cases g1; rfl
          · rw [List.getElem?_eq_none (by rw [List.length_set]; omega)] at g1; cases g1
        subst this
        exact (h4 k g2 g4).symm
    · rw [List.getElem?_set_ne q1] at g1 g3
      by_cases q2 : i = k
      · subst q2
        have : a = p := by
          by_cases l : i < σ.length
          · rw [List.getElem?_set_self l] at g2; cases g2; rfl
          · rw [List.getElem?_eq_none (by rw [List.length_set]; omega)] at g2; cases g2
        subst this
        exact h4 j g1 g3
      · rw [List.getElem?_set_ne q2] at g2 g4
        exact S.ds j k a g1 g2 g3 g4
/-- the object of an owned slot is changed -/
theorem StC.write (S : StC T Fr Hc σ H ρ) {i : Nat} {a : Addr} {d d' : D} {o : HO} (hi : ρ[i]? = some (.own d)) (ha : σ[i]? = some (some (.ref a))) (ho : Ob T Hc (some o) d') : StC T Fr Hc σ (upd H a o) (ρ.set i (.own d')) := by
  obtain ⟨b, e1, f1, c1, o1⟩ := S.ownv hi
  rw [ha] at e1
  cases e1
  have li : i < ρ.length := (List.getElem?_eq_some_iff.mp hi).1
  refine ⟨fun b u hb => ?_, fun b u hb => ?_, S.dj, by rw [List.length_set, S.ln], fun j => ?_, fun j k c g1 g2 g3 g4 => ?_, S.pn⟩
  · rw [upd_ne (ne_of_none hb f1)]; exact S.fr b u hb
  · rw [upd_ne (ne_of_none hb c1)]; exact S.hc b u hb
  · by_cases q : i = j
    · subst q
      rw [List.getElem?_set_self li, ha]
      exact ⟨a, rfl, f1, c1, by rw [upd_same]; exact ho⟩
    · rw [List.getElem?_set_ne q]
      have h := S.sl j
      cases e : ρ[j]? with
      | none => trivial
      | some s =>
        rw [e] at h
        cases s with
        | un => trivial
        | val x => exact h
        | own x =>
          obtain ⟨b, h1, h2, h3, h4⟩ := h
          refine ⟨b, h1, h2, h3, ?_⟩
          rw [upd_ne fun z => q (S.ds i j a ha (by rw [h1, z]) (by rw [hi]; rfl) (by rw [e]; rfl))]
          exact h4
  · have w : ∀ m : Nat, isOwn (ρ.set i (.own d'))[m]? = true → isOwn ρ[m]? = true := fun m hm => by
      by_cases q : i = m
      · subst q; rw [hi]; rfl
      · rw [List.getElem?_set_ne q] at hm; exact hm
    exact S.ds j k c g1 g2 (w j g3) (w k g4)
theorem StC.freeze (S : StC T Fr Hc σ H ρ) (i : Nat) : ∃ Hc', Same Hc Hc' ∧ StC T Fr Hc' σ H (freeze ρ i) := by
  unfold PD.freeze
  cases hi : ρ[i]? with
  | none => exact ⟨Hc, Same.refl _, S⟩
  | some s =>
    cases s with
    | un => exact ⟨Hc, Same.refl _, S⟩
    | val d => exact ⟨Hc, Same.refl _, S⟩
    | own d =>
      obtain ⟨a, h1, h2, h3, h4⟩ := S.ownv hi
      obtain ⟨u, hu, _⟩ := h4.some
      have li : i < ρ.length := (List.getElem?_eq_some_iff.mp hi).1
      have e : Same Hc (upd Hc a u) := fun b w hb => by rw [upd_ne (ne_of_none hb h3)]; exact hb
      refine ⟨upd Hc a u, e, ⟨S.fr, fun b w hb => ?_, fun b w hb hw => ?_, by rw [List.length_set, S.ln], fun j => ?_, fun j k c g1 g2 g3 g4 => ?_, S.pn⟩⟩
      · by_cases q : b = a
        · subst q; rw [upd_same] at hb; cases hb; exact hu
        · rw [upd_ne q] at hb; exact S.hc b w hb
      · rw [upd_ne (ne_of_none hb h2)]; exact S.dj b w hb hw
      · by_cases q : i = j
        · subst q
          rw [List.getElem?_set_self li]
          refine ⟨.ref a, h1, ?_⟩
          have z : Ob T (upd Hc a u) ((upd Hc a u) a) d := by
            rw [upd_same, ← hu]
            exact h4.mono e
          exact z.rp
        · rw [List.getElem?_set_ne q]
          have h := S.sl j
          cases ej : ρ[j]? with
          | none => trivial
          | some s =>
            rw [ej] at h
            cases s with
            | un => trivial
            | val x => obtain ⟨v, p1, p2⟩ := h; exact ⟨v, p1, p2.mono e⟩
            | own x =>
              obtain ⟨b, g1, g2, g3, g4⟩ := h
              refine ⟨b, g1, g2, ?_, g4.mono e⟩
              rw [upd_ne fun z => q (S.ds i j a h1 (by rw [g1, z]) (by rw [hi]; rfl) (by rw [ej]; rfl))]
              exact g3
      · have w : ∀ m : Nat, isOwn (ρ.set i (.val d))[m]? = true → isOwn ρ[m]? = true := fun m hm => by
          by_cases q : i = m
          · subst q; rw [hi]; rfl
          · rw [List.getElem?_set_ne q] at hm; exact hm
        exact S.ds j k c g1 g2 (w j g3) (w k g4)
end
end PD
set_option maxRecDepth 100000
/-! PD2: a run refines a plain run over data: what that means, and the rules that join the parts. -/
namespace PD
open PySem PySem.Spec PyProof.Rows L2
/-- an exception's data -/
def RpX (T : Tab) (Hc H : Hp) (cls : Value) (da : Option Addr) (x : Exn) : Prop :=
  cls = .ref (T.cls x.c) ∧ (x.fs = [] ∨ ∃ a vs, da = some a ∧ H a = some (.xd vs) ∧ Rpf T Hc vs x.fs)
def ExP (T : Tab) (W : WX) (Fr : Fm) (Hc : Hp) (σ : L2.St) (x : Exn) (ρ : DEnv) : Prop :=
  ∀ (cls : Value) (da : Option Addr) (Hc' H' : Hp), Same Hc Hc' → StC T Fr Hc' σ H' ρ → RpX T Hc' H' cls da x → W cls da σ H'
/-- what a plain run promises -/
def PostR {α : Type} (T : Tab) (W : WX) (Fr : Fm) (Hc : Hp) (σ : L2.St) (r : RM α) (k : α → DEnv → Hp → Hp → Prop) : Prop := match r with
  | .ok a ρ => ∀ Hc' H', Same Hc Hc' → StC T Fr Hc' σ H' ρ → k a ρ Hc' H'
  | .exc x ρ => ExP T W Fr Hc σ x ρ
  | .stuck => False
section
variable {α β : Type} {T : Tab} {W : WX} {Fr : Fm} {Hc Hc1 : Hp} {σ : L2.St}
theorem PostR.up {r : RM α} {k : α → DEnv → Hp → Hp → Prop} (h : PostR T W Fr Hc σ r k) (e : Same Hc Hc1) : PostR T W Fr Hc1 σ r k := by
  cases r with
  | ok a ρ => exact fun Hc' H' e' S => h Hc' H' (e.trans e') S
  | exc x ρ => exact fun cls da Hc' H' e' S r => h cls da Hc' H' (e.trans e') S r
  | stuck => exact h
theorem PostR.bind {r : RM α} {f : α → DEnv → RM β} {k : β → DEnv → Hp → Hp → Prop} (h : PostR T W Fr Hc σ (r.bind f) k) : PostR T W Fr Hc σ r fun a ρ Hc' _ => PostR T W Fr Hc' σ (f a ρ) k := by
  cases r with
  | ok a ρ => exact fun Hc' H' e' S => PostR.up (show PostR T W Fr Hc σ (f a ρ) k from h) e'
  | exc x ρ => exact h
  | stuck => exact h
theorem PostR.imp {r : RM α} {k k' : α → DEnv → Hp → Hp → Prop} (h : PostR T W Fr Hc σ r k) (i : ∀ a ρ Hc' H', Same Hc Hc' → StC T Fr Hc' σ H' ρ → k a ρ Hc' H' → k' a ρ Hc' H') : PostR T W Fr Hc σ r k' := by
  cases r with
  | ok a ρ => exact fun Hc' H' e' S => i a ρ Hc' H' e' S (h Hc' H' e' S)
  | exc x ρ => exact h
  | stuck => exact h
theorem PostR.some {o : Option α} {ρ : DEnv} {k : α → DEnv → Hp → Hp → Prop} (h : PostR T W Fr Hc σ (lift o ρ) k) : ∃ a, o = some a ∧ ∀ Hc' H', Same Hc Hc' → StC T Fr Hc' σ H' ρ → k a ρ Hc' H' := by
  cases o with
  | none => exact h.elim
  | some a => exact ⟨a, rfl, h⟩
end
/-! ### readings -/
def RdE (T : Tab) (W : WX) (te : TE) (f : M D) : Prop := ∀ (Fr : Fm) (Hc : Hp) (σ : L2.St) (H : Hp) (ρ : DEnv), StC T Fr Hc σ H ρ → ∀ Q : VK,
  PostR T W Fr Hc σ (f ρ) (fun d _ Hc' H' => ∀ v, Rp T Hc' v d → Q v H') → te σ H Q
def RdT (T : Tab) (W : WX) (tt : TT) (f : M Bool) : Prop := ∀ (Fr : Fm) (Hc : Hp) (σ : L2.St) (H : Hp) (ρ : DEnv), StC T Fr Hc σ H ρ → ∀ Q : Bool → Hp → Prop,
  PostR T W Fr Hc σ (f ρ) (fun b _ _ H' => Q b H') → tt σ H Q
def RdA (T : Tab) (W : WX) (ta : TA) (f : M (List D)) : Prop := ∀ (Fr : Fm) (Hc : Hp) (σ : L2.St) (H : Hp) (ρ : DEnv), StC T Fr Hc σ H ρ → ∀ Q : List V → Hp → Prop,
  PostR T W Fr Hc σ (f ρ) (fun ds _ Hc' H' => ∀ vs, Rps T Hc' vs ds → Q vs H') → ta σ H Q
/-- a new object, not on Hc -/
structure Nw (T : Tab) (Fr : Fm) (Hc : Hp) (σ : L2.St) (H : Hp) (ρ : DEnv) (p : Addr) (d : D) : Prop where
  f : Fr.fr p = none
  c : Hc p = none
  o : ∀ j : Nat, σ[j]? = some (some (.ref p)) → isOwn ρ[j]? = true → False
  b : Ob T Hc (H p) d
def RdN (T : Tab) (W : WX) (te : TE) (f : M D) : Prop := ∀ (Fr : Fm) (Hc : Hp) (σ : L2.St) (H : Hp) (ρ : DEnv), StC T Fr Hc σ H ρ → ∀ Q : VK,
  PostR T W Fr Hc σ (f ρ) (fun d ρ' Hc' H' => ∀ p, Nw T Fr Hc' σ H' ρ' p d → Q (.ref p) H') → te σ H Q
section
variable {T : Tab} {W : WX} {Fr : Fm} {Hc Hc1 H : Hp} {σ : L2.St} {ρ : DEnv} {te ta tb : TE} {tt tu : TT} {fa fb f : M D}
theorem RdE.use (h : RdE T W te f) (S : StC T Fr Hc σ H ρ) {k : D → DEnv → Hp → Hp → Prop} {Q : VK} (P : PostR T W Fr Hc σ (f ρ) k)
    (hk : ∀ d ρ' v Hc' H', Same Hc Hc' → StC T Fr Hc' σ H' ρ' → k d ρ' Hc' H' → Rp T Hc' v d → Q v H') : te σ H Q :=
  h Fr Hc σ H ρ S Q (P.imp fun d ρ' Hc' H' e S' q v r => hk d ρ' v Hc' H' e S' q r)
theorem RdT.use {f : M Bool} (h : RdT T W tt f) (S : StC T Fr Hc σ H ρ) {k : Bool → DEnv → Hp → Hp → Prop} {Q : Bool → Hp → Prop} (P : PostR T W Fr Hc σ (f ρ) k)
    (hk : ∀ b ρ' Hc' H', Same Hc Hc' → StC T Fr Hc' σ H' ρ' → k b ρ' Hc' H' → Q b H') : tt σ H Q :=
  h Fr Hc σ H ρ S Q (P.imp fun d ρ' Hc' H' e S' q => hk d ρ' Hc' H' e S' q)
theorem RdA.use {ta : TA} {f : M (List D)} (h : RdA T W ta f) (S : StC T Fr Hc σ H ρ) {k : List D → DEnv → Hp → Hp → Prop} {Q : List V → Hp → Prop} (P : PostR T W Fr Hc σ (f ρ) k)
    (hk : ∀ d ρ' v Hc' H', Same Hc Hc' → StC T Fr Hc' σ H' ρ' → k d ρ' Hc' H' → Rps T Hc' v d → Q v H') : ta σ H Q :=
  h Fr Hc σ H ρ S Q (P.imp fun d ρ' Hc' H' e S' q v r => hk d ρ' v Hc' H' e S' q r)
theorem RdN.use (h : RdN T W te f) (S : StC T Fr Hc σ H ρ) {k : D → DEnv → Hp → Hp → Prop} {Q : VK} (P : PostR T W Fr Hc σ (f ρ) k)
    (hk : ∀ d ρ' p Hc' H', Same Hc Hc' → StC T Fr Hc' σ H' ρ' → k d ρ' Hc' H' → Nw T Fr Hc' σ H' ρ' p d → Q (.ref p) H') : te σ H Q :=
  h Fr Hc σ H ρ S Q (P.imp fun d ρ' Hc' H' e S' q v r => hk d ρ' v Hc' H' e S' q r)
theorem RdE.imp {te' : TE} (h : RdE T W te f) (i : ∀ σ H Q, te σ H Q → te' σ H Q) : RdE T W te' f := fun Fr Hc σ H ρ S Q P => i _ _ _ (h Fr Hc σ H ρ S Q P)
theorem RdN.imp {te' : TE} (h : RdN T W te f) (i : ∀ σ H Q, te σ H Q → te' σ H Q) : RdN T W te' f := fun Fr Hc σ H ρ S Q P => i _ _ _ (h Fr Hc σ H ρ S Q P)
theorem RdT.imp {tt' : TT} {f : M Bool} (h : RdT T W tt f) (i : ∀ σ H Q, tt σ H Q → tt' σ H Q) : RdT T W tt' f := fun Fr Hc σ H ρ S Q P => i _ _ _ (h Fr Hc σ H ρ S Q P)
theorem RdA.imp {ta ta' : TA} {f : M (List D)} (h : RdA T W ta f) (i : ∀ σ H Q, ta σ H Q → ta' σ H Q) : RdA T W ta' f := fun Fr Hc σ H ρ S Q P => i _ _ _ (h Fr Hc σ H ρ S Q P)
/-- a new object as a value -/
theorem Nw.freeze {p : Addr} {d : D} (n : Nw T Fr Hc σ H ρ p d) (S : StC T Fr Hc σ H ρ) : ∃ Hc', Same Hc Hc' ∧ StC T Fr Hc' σ H ρ ∧ Rp T Hc' (.ref p) d := by
  obtain ⟨u, hu, _⟩ := n.b.some
  have e : Same Hc (upd Hc p u) := fun b w hb => by rw [upd_ne (ne_of_none hb n.c)]; exact hb
  refine ⟨upd Hc p u, e, ⟨S.fr, fun b w hb => ?_, fun b w hb hw => ?_, S.ln, fun j => ?_, S.ds, S.pn⟩, ?_⟩
  · by_cases q : b = p
    · subst q; rw [upd_same] at hb; cases hb; exact hu
    · rw [upd_ne q] at hb; exact S.hc b w hb
  · rw [upd_ne (ne_of_none hb n.f)]; exact S.dj b w hb hw
  · have h := S.sl j
    cases ej : ρ[j]? with
    | none => trivial
    | some s =>
      rw [ej] at h
      cases s with
      | un => trivial
      | val x => obtain ⟨v, p1, p2⟩ := h; exact ⟨v, p1, p2.mono e⟩
      | own x =>
        obtain ⟨b, g1, g2, g3, g4⟩ := h
        refine ⟨b, g1, g2, ?_, g4.mono e⟩
        rw [upd_ne fun z => n.o j (by rw [g1, z]) (by rw [ej]; rfl)]
        exact g3
  · have z : Ob T (upd Hc p u) ((upd Hc p u) p) d := by
      rw [upd_same, ← hu]
      exact n.b.mono e
    exact z.rp
theorem RdN.val (h : RdN T W te f) : RdE T W te f := fun Fr Hc σ H ρ S Q P => by
  refine h Fr Hc σ H ρ S Q ?_
  cases hf : f ρ with
  | ok d ρ1 =>
    rw [hf] at P
    intro Hc' H' e S' p n
    obtain ⟨Hc2, e2, S2, r⟩ := n.freeze S'
    exact P Hc2 H' (e.trans e2) S2 _ r
  | exc x ρ1 => rw [hf] at P; exact P
  | stuck => rw [hf] at P; exact P
/-- a new object, laid, not on Hc -/
theorem Nw.laid (S : StC T Fr Hc σ H ρ) {p : Addr} {o : HO} {d : D} (hp : H p = none) (b : Ob T Hc (some o) d) : StC T Fr Hc σ (upd H p o) ρ ∧ Nw T Fr Hc σ (upd H p o) ρ p d := by
  have e : Same H (upd H p o) := fun b u hb => by rw [upd_ne (ne_of_none hb hp)]; exact hb
  refine ⟨S.aside e, S.fr.free hp, S.hc.free hp, fun j h1 h2 => ?_, by rw [upd_same]; exact b⟩
  cases ej : ρ[j]? with
  | none => rw [ej] at h2; cases h2
  | some s =>
    rw [ej] at h2
    cases s with
    | own x =>
      obtain ⟨a, g1, g2, g3, g4⟩ := S.ownv ej
      rw [h1] at g1; cases g1
      obtain ⟨u, hu, _⟩ := g4.some
      rw [hp] at hu; cases hu
    | _ => cases h2
end
/-! ### canonical readings: what the run itself says -/
def tE (X : Cx) (e : Expr) : TE := fun σ H Q => ∀ (pins : List (Addr × Obj)) (s : Shared), Inv X pins σ H s → wpAny (model X.prog X.w) X.A (eval e X.env) (EP X pins σ Q) X.xe s
def tT (X : Cx) (e : Expr) : TT := fun σ H Q => ∀ (pins : List (Addr × Obj)) (s : Shared), Inv X pins σ H s → wpAny (model X.prog X.w) X.A (isTrue e X.env (eval e X.env)) (TP X pins σ Q) X.xe s
def tAr (X : Cx) (es : List Expr) : TA := fun σ H Q => ∀ (pos : Pos) (pins : List (Addr × Obj)) (s : Shared), Inv X pins σ H s → wpAny (model X.prog X.w) X.A (spliced (backTo pos (starEach es X.env))) (AP X pins σ Q) X.xe s
def tSt (X : Cx) (st : Stmt) : TS := fun D σ H => ∀ (pins : List (Addr × Obj)) (s : Shared), Inv X pins σ H s → wpAny (model X.prog X.w) X.A (exec st X.env) (SP X pins D) X.xe s
def tSs (X : Cx) (st : List Stmt) : TS := fun D σ H => ∀ (pins : List (Addr × Obj)) (s : Shared), Inv X pins σ H s → wpAny (model X.prog X.w) X.A (execs st X.env) (SP X pins D) X.xe s
theorem pe_tE {X : Cx} {e : Expr} : PE X e (tE X e) := ⟨fun pins s _ _ _ I h => h pins s I⟩
theorem pt_tT {X : Cx} {e : Expr} : PT X e (tT X e) := ⟨fun pins s _ _ _ I h => h pins s I⟩
theorem pa_tA {X : Cx} {es : List Expr} : PA X es (tAr X es) := ⟨fun pos pins s _ _ _ I h => h pos pins s I⟩
theorem ps_tS {X : Cx} {st : Stmt} : PS X st (tSt X st) := ⟨fun pins s _ _ _ I h => h pins s I⟩
theorem pss_tS {X : Cx} {st : List Stmt} : PSs X st (tSs X st) := ⟨fun pins s _ _ _ I h => h pins s I⟩
abbrev SimE (T : Tab) (W : WX) (X : Cx) (e : Expr) (f : M D) : Prop := RdE T W (tE X e) f
abbrev SimN (T : Tab) (W : WX) (X : Cx) (e : Expr) (f : M D) : Prop := RdN T W (tE X e) f
abbrev SimT (T : Tab) (W : WX) (X : Cx) (e : Expr) (f : M Bool) : Prop := RdT T W (tT X e) f
abbrev SimA (T : Tab) (W : WX) (X : Cx) (es : List Expr) (f : M (List D)) : Prop := RdA T W (tAr X es) f
section
variable {T : Tab} {W : WX} {X : Cx} {e : Expr} {es : List Expr} {t : TE}
theorem sim_of {f : M D} (h : PE X e t) (r : RdE T W t f) : SimE T W X e f := r.imp fun _ _ _ q pins s I => h.run pins s _ _ _ I q
theorem simN_of {f : M D} (h : PE X e t) (r : RdN T W t f) : SimN T W X e f := r.imp fun _ _ _ q pins s I => h.run pins s _ _ _ I q
theorem simT_of {tt : TT} {f : M Bool} (h : PT X e tt) (r : RdT T W tt f) : SimT T W X e f := r.imp fun _ _ _ q pins s I => h.run pins s _ _ _ I q
theorem simA_of {ta : TA} {f : M (List D)} (h : PA X es ta) (r : RdA T W ta f) : SimA T W X es f := r.imp fun _ _ _ q pos pins s I => h.run pos pins s _ _ _ I q
end
/-! ### plain runs of expressions -/
def eVar (i : Nat) : M D := fun ρ => match ρ[i]? with
  | some (.val d) => .ok d ρ
  | _ => .stuck
def eC (d : D) : M D := fun ρ => .ok d ρ
def e1 (g : D → Option D) (a : M D) : M D := fun ρ => (a ρ).bind fun x ρ1 => lift (g x) ρ1
def e2 (g : D → D → Option D) (a b : M D) : M D := fun ρ => (a ρ).bind fun x ρ1 => (b ρ1).bind fun y ρ2 => lift (g x y) ρ2
def eT (a : M D) : M Bool := fun ρ => (a ρ).bind fun x ρ1 => match x with
  | .bl b => .ok b ρ1
  | _ => .stuck
def eNot (a : M Bool) : M Bool := fun ρ => (a ρ).bind fun x ρ1 => .ok (!x) ρ1
def eAnd (a b : M Bool) : M Bool := fun ρ => (a ρ).bind fun x ρ1 => if x = true then b ρ1 else .ok false ρ1
def eOr (a b : M Bool) : M Bool := fun ρ => (a ρ).bind fun x ρ1 => if x = true then .ok true ρ1 else b ρ1
def eIf (c : M Bool) (a b : M D) : M D := fun ρ => (c ρ).bind fun x ρ1 => if x = true then a ρ1 else b ρ1
/-- x and y, x or y of bools, as values -/
def eAndV (a b : M D) : M D := fun ρ => (a ρ).bind fun x ρ1 => match x with
  | .bl true => b ρ1
  | .bl false => .ok (.bl false) ρ1
  | _ => .stuck
def eOrV (a b : M D) : M D := fun ρ => (a ρ).bind fun x ρ1 => match x with
  | .bl false => b ρ1
  | .bl true => .ok (.bl true) ρ1
  | _ => .stuck
def eNotV (a : M D) : M D := fun ρ => (a ρ).bind fun x ρ1 => match x with
  | .bl b => .ok (.bl !b) ρ1
  | _ => .stuck
/-- a R b S c -/
def eCh (g g' : D → D → Option D) (a b c : M D) : M D := fun ρ => (a ρ).bind fun x ρ1 => (b ρ1).bind fun y ρ2 => (lift (g x y) ρ2).bind fun z ρ3 => match z with
  | .bl true => (c ρ3).bind fun w ρ4 => lift (g' y w) ρ4
  | .bl false => .ok (.bl false) ρ3
  | _ => .stuck
def aNil : M (List D) := fun ρ => .ok [] ρ
def aCons (a : M D) (r : M (List D)) : M (List D) := fun ρ => (a ρ).bind fun x ρ1 => (r ρ1).bind fun xs ρ2 => .ok (x :: xs) ρ2
def eTup (a : M (List D)) : M D := fun ρ => (a ρ).bind fun xs ρ1 => if xs.length ≤ 100000 then .ok (.tup xs) ρ1 else .stuck
def eLst (a : M (List D)) : M D := fun ρ => (a ρ).bind fun xs ρ1 => if xs.length ≤ 100000 then .ok (.lst xs) ρ1 else .stuck
def eCall (g : List D → Option D) (a : M (List D)) : M D := fun ρ => (a ρ).bind fun xs ρ1 => lift (g xs) ρ1
theorem line_of {n : Nat} (h : n ≤ 100000) : n ≤ sizeLine := Nat.le_trans h (by decide)
theorem line_lt {n : Nat} (h : n < 100000) : n < sizeLine := Nat.lt_of_lt_of_le h (by decide)
/-! ### operations by data -/
def OpS (T : Tab) (r : R2) (g : D → D → Option D) : Prop := ∀ (Fr : Fm) (Hc : Hp) (σ : L2.St) (H : Hp) (ρ : DEnv) (x y : V) (dx dy d : D), StC T Fr Hc σ H ρ → Rp T Hc x dx → Rp T Hc y dy → g dx dy = some d →
  ∀ Q : VK, (∀ v Hc' H', Same Hc Hc' → StC T Fr Hc' σ H' ρ → Rp T Hc' v d → Q v H') → r x y H Q
def OpN (T : Tab) (r : R2) (g : D → D → Option D) : Prop := ∀ (Fr : Fm) (Hc : Hp) (σ : L2.St) (H : Hp) (ρ : DEnv) (x y : V) (dx dy d : D), StC T Fr Hc σ H ρ → Rp T Hc x dx → Rp T Hc y dy → g dx dy = some d →
  ∀ Q : VK, (∀ p Hc' H', Same Hc Hc' → StC T Fr Hc' σ H' ρ → Nw T Fr Hc' σ H' ρ p d → Q (.ref p) H') → r x y H Q
def UnS (T : Tab) (r : V → Hp → VK → Prop) (g : D → Option D) : Prop := ∀ (Fr : Fm) (Hc : Hp) (σ : L2.St) (H : Hp) (ρ : DEnv) (x : V) (dx d : D), StC T Fr Hc σ H ρ → Rp T Hc x dx → g dx = some d →
  ∀ Q : VK, (∀ v Hc' H', Same Hc Hc' → StC T Fr Hc' σ H' ρ → Rp T Hc' v d → Q v H') → r x H Q
def ClS (T : Tab) (r : List V → Hp → VK → Prop) (g : List D → Option D) : Prop := ∀ (Fr : Fm) (Hc : Hp) (σ : L2.St) (H : Hp) (ρ : DEnv) (xs : List V) (ds : List D) (d : D), StC T Fr Hc σ H ρ → Rps T Hc xs ds → g ds = some d →
  ∀ Q : VK, (∀ v Hc' H', Same Hc Hc' → StC T Fr Hc' σ H' ρ → Rp T Hc' v d → Q v H') → r xs H Q
def ClN (T : Tab) (r : List V → Hp → VK → Prop) (g : List D → Option D) : Prop := ∀ (Fr : Fm) (Hc : Hp) (σ : L2.St) (H : Hp) (ρ : DEnv) (xs : List V) (ds : List D) (d : D), StC T Fr Hc σ H ρ → Rps T Hc xs ds → g ds = some d →
  ∀ Q : VK, (∀ p Hc' H', Same Hc Hc' → StC T Fr Hc' σ H' ρ → Nw T Fr Hc' σ H' ρ p d → Q (.ref p) H') → r xs H Q
section
variable {T : Tab} {W : WX} {te ta tb tc : TE} {tt tu : TT} {tA tR : TA} {fa fb fc : M D} {ft fu : M Bool} {fA : M (List D)}
theorem rd_var {i : Nat} : RdE T W (tVar i) (eVar i) := fun Fr Hc σ H ρ S Q P => by
  unfold eVar at P
  split at P
  · rename_i d e
    obtain ⟨v, hv, r⟩ := S.var e
    exact ⟨v, hv, P Hc H (Same.refl _) S v r⟩
  · exact P.elim
theorem rd_c {v : V} {d : D} (h : ∀ H, Rp T H v d) : RdE T W (tC v) (eC d) := fun Fr Hc σ H ρ S Q P => P Hc H (Same.refl _) S v (h _)
theorem rd_op {r : R2} {g : D → D → Option D} (o : OpS T r g) (ha : RdE T W ta fa) (hb : RdE T W tb fb) : RdE T W (tOp r ta tb) (e2 g fa fb) := fun Fr Hc σ H ρ S Q P =>
  ha.use S P.bind fun x ρ1 v Hc1 H1 e1 S1 P1 r1 => hb.use S1 P1.bind fun y ρ2 u Hc2 H2 e2 S2 P2 r2 => by
    obtain ⟨d, hd, k⟩ := P2.some
    exact o Fr Hc2 σ H2 ρ2 v u x y d S2 (r1.mono e2) r2 hd Q fun w Hc' H' e S' r => k Hc' H' e S' w r
theorem rd_opN {r : R2} {g : D → D → Option D} (o : OpN T r g) (ha : RdE T W ta fa) (hb : RdE T W tb fb) : RdN T W (tOp r ta tb) (e2 g fa fb) := fun Fr Hc σ H ρ S Q P =>
  ha.use S P.bind fun x ρ1 v Hc1 H1 e1 S1 P1 r1 => hb.use S1 P1.bind fun y ρ2 u Hc2 H2 e2 S2 P2 r2 => by
    obtain ⟨d, hd, k⟩ := P2.some
    exact o Fr Hc2 σ H2 ρ2 v u x y d S2 (r1.mono e2) r2 hd Q fun w Hc' H' e S' r => k Hc' H' e S' w r
theorem rd_un {r : V → Hp → VK → Prop} {g : D → Option D} (o : UnS T r g) (ha : RdE T W ta fa) : RdE T W (tUn r ta) (e1 g fa) := fun Fr Hc σ H ρ S Q P =>
  ha.use S P.bind fun x ρ1 v Hc1 H1 e1 S1 P1 r1 => by
    obtain ⟨d, hd, k⟩ := P1.some
    exact o Fr Hc1 σ H1 ρ1 v x d S1 r1 hd Q fun w Hc' H' e S' r => k Hc' H' e S' w r
theorem rd_call {r : List V → Hp → VK → Prop} {g : List D → Option D} (o : ClS T r g) (ha : RdA T W tA fA) : RdE T W (tCB r tA) (eCall g fA) := fun Fr Hc σ H ρ S Q P =>
  ha.use S P.bind fun x ρ1 v Hc1 H1 e1 S1 P1 r1 => by
    obtain ⟨d, hd, k⟩ := P1.some
    exact o Fr Hc1 σ H1 ρ1 v x d S1 r1 hd Q fun w Hc' H' e S' r => k Hc' H' e S' w r
theorem rd_callN {r : List V → Hp → VK → Prop} {g : List D → Option D} (o : ClN T r g) (ha : RdA T W tA fA) : RdN T W (tCB r tA) (eCall g fA) := fun Fr Hc σ H ρ S Q P =>
  ha.use S P.bind fun x ρ1 v Hc1 H1 e1 S1 P1 r1 => by
    obtain ⟨d, hd, k⟩ := P1.some
    exact o Fr Hc1 σ H1 ρ1 v x d S1 r1 hd Q fun w Hc' H' e S' r => k Hc' H' e S' w r
theorem rd_test (ha : RdE T W ta fa) : RdT T W (tTest ta) (eT fa) := fun Fr Hc σ H ρ S Q P =>
  ha.use S P.bind fun x ρ1 v Hc1 H1 e1 S1 P1 r1 => by
    cases r1 with
    | bl b => exact ⟨b, rfl, P1 Hc1 H1 (Same.refl _) S1⟩
    | _ => exact P1.elim
theorem rd_B (ha : RdE T W ta fa) : RdT T W (tB ta) (eT fa) := fun Fr Hc σ H ρ S Q P =>
  ha.use S P.bind fun x ρ1 v Hc1 H1 e1 S1 P1 r1 => by
    cases r1 with
    | bl b => exact ⟨b, rfl, P1 Hc1 H1 (Same.refl _) S1⟩
    | _ => exact P1.elim
theorem rd_not (ha : RdT T W tt ft) : RdT T W (tNot tt) (eNot ft) := fun Fr Hc σ H ρ S Q P =>
  ha.use S P.bind fun x ρ1 Hc1 H1 e1 S1 P1 => P1 Hc1 H1 (Same.refl _) S1
theorem rd_and (ha : RdT T W tt ft) (hb : RdT T W tu fu) : RdT T W (tAnd tt tu) (eAnd ft fu) := fun Fr Hc σ H ρ S Q P =>
  ha.use S P.bind fun x ρ1 Hc1 H1 e1 S1 P1 => by
    cases x with
    | true => exact hb.use S1 P1 fun b ρ2 Hc2 H2 e2 S2 P2 => P2
    | false => exact P1 Hc1 H1 (Same.refl _) S1
theorem rd_or (ha : RdT T W tt ft) (hb : RdT T W tu fu) : RdT T W (tOr tt tu) (eOr ft fu) := fun Fr Hc σ H ρ S Q P =>
  ha.use S P.bind fun x ρ1 Hc1 H1 e1 S1 P1 => by
    cases x with
    | false => exact hb.use S1 P1 fun b ρ2 Hc2 H2 e2 S2 P2 => P2
    | true => exact P1 Hc1 H1 (Same.refl _) S1
theorem rd_if (hc : RdT T W tt ft) (ha : RdE T W ta fa) (hb : RdE T W tb fb) : RdE T W (tIf tt ta tb) (eIf ft fa fb) := fun Fr Hc σ H ρ S Q P =>
  hc.use S P.bind fun x ρ1 Hc1 H1 e1 S1 P1 => by
    cases x with
    | true => exact ha.use S1 P1 fun d ρ2 v Hc2 H2 e2 S2 P2 r => P2 v r
    | false => exact hb.use S1 P1 fun d ρ2 v Hc2 H2 e2 S2 P2 r => P2 v r
theorem rd_andV (ha : RdE T W ta fa) (hb : RdE T W tb fb) : RdE T W (tAndV ta tb) (eAndV fa fb) := fun Fr Hc σ H ρ S Q P =>
  ha.use S P.bind fun x ρ1 v Hc1 H1 e1 S1 P1 r1 => by
    cases r1 with
    | bl b =>
      refine ⟨b, rfl, ?_⟩
      cases b with
      | true => exact hb.use S1 P1 fun d ρ2 v Hc2 H2 e2 S2 P2 r => P2 v r
      | false => exact P1 Hc1 H1 (Same.refl _) S1 _ (.bl false)
    | _ => exact P1.elim
theorem rd_orV (ha : RdE T W ta fa) (hb : RdE T W tb fb) : RdE T W (tOrV ta tb) (eOrV fa fb) := fun Fr Hc σ H ρ S Q P =>
  ha.use S P.bind fun x ρ1 v Hc1 H1 e1 S1 P1 r1 => by
    cases r1 with
    | bl b =>
      refine ⟨b, rfl, ?_⟩
      cases b with
      | false => exact hb.use S1 P1 fun d ρ2 v Hc2 H2 e2 S2 P2 r => P2 v r
      | true => exact P1 Hc1 H1 (Same.refl _) S1 _ (.bl true)
    | _ => exact P1.elim
theorem rd_notV (ha : RdE T W ta fa) : RdE T W (tNotV ta) (eNotV fa) := fun Fr Hc σ H ρ S Q P =>
  ha.use S P.bind fun x ρ1 v Hc1 H1 e1 S1 P1 r1 => by
    cases r1 with
    | bl b => exact ⟨b, rfl, P1 Hc1 H1 (Same.refl _) S1 _ (.bl _)⟩
    | _ => exact P1.elim
theorem rd_chain {r r' : R2} {g g' : D → D → Option D} (o : OpS T r g) (o' : OpS T r' g') (ha : RdE T W ta fa) (hb : RdE T W tb fb) (hc : RdE T W tc fc) : RdE T W (tChain r r' ta tb tc) (eCh g g' fa fb fc) := fun Fr Hc σ H ρ S Q P =>
  ha.use S P.bind fun x ρ1 v Hc1 H1 e1 S1 P1 r1 => hb.use S1 P1.bind fun y ρ2 u Hc2 H2 e2 S2 P2 r2 => by
    obtain ⟨d, hd, k⟩ := P2.bind.some
    refine o Fr Hc2 σ H2 ρ2 v u x y d S2 (r1.mono e2) r2 hd _ fun w Hc3 H3 e3 S3 r3 => ?_
    have P3 := k Hc3 H3 e3 S3
    cases r3 with
    | bl b =>
      refine ⟨b, rfl, ?_⟩
      cases b with
      | true =>
        show tc σ H3 fun w' H4 => r' u w' H4 Q
        exact hc.use S3 P3.bind fun z ρ4 w Hc4 H4 e4 S4 P4 r4 => by
          obtain ⟨d', hd', k'⟩ := P4.some
          exact o' Fr Hc4 σ H4 ρ4 u w y z d' S4 ((r2.mono e3).mono e4) r4 hd' Q fun w' Hc' H' e S' r => k' Hc' H' e S' w' r
      | false => exact P3 Hc3 H3 (Same.refl _) S3 _ (.bl false)
    | _ => exact P3.elim
theorem rd_nil : RdA T W tNil aNil := fun Fr Hc σ H ρ S Q P => P Hc H (Same.refl _) S [] .nil
theorem rd_cons (ha : RdE T W ta fa) (hr : RdA T W tR fA) : RdA T W (tCons ta tR) (aCons fa fA) := fun Fr Hc σ H ρ S Q P =>
  ha.use S P.bind fun x ρ1 v Hc1 H1 e1 S1 P1 r1 => hr.use S1 P1.bind fun ys ρ2 us Hc2 H2 e2 S2 P2 r2 => P2 Hc2 H2 (Same.refl _) S2 (v :: us) (.cons (r1.mono e2) r2)
theorem rd_tup (ha : RdA T W tA fA) : RdE T W (tTup tA) (eTup fA) := fun Fr Hc σ H ρ S Q P =>
  ha.use S P.bind fun xs ρ1 vs Hc1 H1 e1 S1 P1 r1 => by
    by_cases l : xs.length ≤ 100000
    · rw [if_pos l] at P1
      refine ⟨line_of (by rw [r1.length]; exact l), fun p hp => ?_⟩
      obtain ⟨e2, S2⟩ := S1.laid (o := .tup vs) hp
      exact P1 _ _ e2 S2 _ (.tup upd_same (r1.mono e2))
    · rw [if_neg l] at P1; exact P1.elim
theorem rd_lst (ha : RdA T W tA fA) : RdN T W (tLst tA) (eLst fA) := fun Fr Hc σ H ρ S Q P =>
  ha.use S P.bind fun xs ρ1 vs Hc1 H1 e1 S1 P1 r1 => by
    by_cases l : xs.length ≤ 100000
    · rw [if_pos l] at P1
      refine ⟨line_of (by rw [r1.length]; exact l), fun p hp => ?_⟩
      obtain ⟨S2, n⟩ := Nw.laid S1 (o := .lst vs) (d := .lst xs) hp ⟨vs, rfl, r1⟩
      exact P1 _ _ (Same.refl _) S2 _ n
    · rw [if_neg l] at P1; exact P1.elim
end
/-! ### statements -/
inductive RS where
  | nx (ρ : DEnv) | rt (d : D) (ρ : DEnv) | bk (ρ : DEnv) | ct (ρ : DEnv) | exc (x : Exn) (ρ : DEnv) | stuck
abbrev MS := DEnv → RS
def PostS (T : Tab) (W : WX) (Fr : Fm) (Hc : Hp) (r : RS) (D : Ends) : Prop := match r with
  | .nx ρ => ∀ (σ : L2.St) (Hc' H' : Hp), Same Hc Hc' → StC T Fr Hc' σ H' ρ → D.nx σ H'
  | .rt d ρ => ∀ (v : V) (σ : L2.St) (Hc' H' : Hp), Same Hc Hc' → StC T Fr Hc' σ H' ρ → Rp T Hc' v d → D.rt v H'
  | .bk ρ => ∀ (σ : L2.St) (Hc' H' : Hp), Same Hc Hc' → StC T Fr Hc' σ H' ρ → D.bk σ H'
  | .ct ρ => ∀ (σ : L2.St) (Hc' H' : Hp), Same Hc Hc' → StC T Fr Hc' σ H' ρ → D.ct σ H'
  | .exc x ρ => ∀ (σ : L2.St) (cls : Value) (da : Option Addr) (Hc' H' : Hp), Same Hc Hc' → StC T Fr Hc' σ H' ρ → RpX T Hc' H' cls da x → W cls da σ H'
  | .stuck => False
theorem PostS.up {T : Tab} {W : WX} {Fr : Fm} {Hc Hc1 : Hp} {r : RS} {D : Ends} (h : PostS T W Fr Hc r D) (e : Same Hc Hc1) : PostS T W Fr Hc1 r D := by
  cases r with
  | nx ρ => exact fun σ Hc' H' e' S => h σ Hc' H' (e.trans e') S
  | rt d ρ => exact fun v σ Hc' H' e' S r => h v σ Hc' H' (e.trans e') S r
  | bk ρ => exact fun σ Hc' H' e' S => h σ Hc' H' (e.trans e') S
  | ct ρ => exact fun σ Hc' H' e' S => h σ Hc' H' (e.trans e') S
  | exc x ρ => exact fun σ cls da Hc' H' e' S r => h σ cls da Hc' H' (e.trans e') S r
  | stuck => exact h
def RdS (T : Tab) (W : WX) (ts : TS) (g : MS) : Prop := ∀ (Fr : Fm) (Hc : Hp) (σ : L2.St) (H : Hp) (ρ : DEnv) (D : Ends), StC T Fr Hc σ H ρ → PostS T W Fr Hc (g ρ) D → ts D σ H
theorem RdS.imp {T : Tab} {W : WX} {ts ts' : TS} {g : MS} (h : RdS T W ts g) (i : ∀ D σ H, ts D σ H → ts' D σ H) : RdS T W ts' g := fun Fr Hc σ H ρ D S P => i _ _ _ (h Fr Hc σ H ρ D S P)
abbrev SimS (T : Tab) (W : WX) (X : Cx) (st : Stmt) (g : MS) : Prop := RdS T W (tSt X st) g
abbrev SimB (T : Tab) (W : WX) (X : Cx) (st : List Stmt) (g : MS) : Prop := RdS T W (tSs X st) g
theorem simS_of {T : Tab} {W : WX} {X : Cx} {st : Stmt} {t : TS} {g : MS} (h : PS X st t) (r : RdS T W t g) : SimS T W X st g := r.imp fun _ _ _ q pins s I => h.run pins s _ _ _ I q
theorem simB_of {T : Tab} {W : WX} {X : Cx} {st : List Stmt} {t : TS} {g : MS} (h : PSs X st t) (r : RdS T W t g) : SimB T W X st g := r.imp fun _ _ _ q pins s I => h.run pins s _ _ _ I q
/-- an expression's end within a statement -/
def RS.ofE (r : RM D) (k : D → DEnv → RS) : RS := match r with
  | .ok a ρ => k a ρ
  | .exc x ρ => .exc x ρ
  | .stuck => .stuck
def RS.ofT {α : Type} (r : RM α) (k : α → DEnv → RS) : RS := match r with
  | .ok a ρ => k a ρ
  | .exc x ρ => .exc x ρ
  | .stuck => .stuck
def RS.seq (r : RS) (k : MS) : RS := match r with
  | .nx ρ => k ρ
  | r => r
theorem PostS.ofT {α : Type} {T : Tab} {W : WX} {Fr : Fm} {Hc : Hp} {σ : L2.St} {r : RM α} {k : α → DEnv → RS} {D : Ends} (h : PostS T W Fr Hc (RS.ofT r k) D) :
    PostR T W Fr Hc σ r fun a ρ Hc' _ => PostS T W Fr Hc' (k a ρ) D := by
  cases r with
  | ok a ρ => exact fun Hc' H' e S => PostS.up (show PostS T W Fr Hc (k a ρ) D from h) e
  | exc x ρ => exact fun cls da Hc' H' e S r => h σ cls da Hc' H' e S r
  | stuck => exact h
def sSkip : MS := fun ρ => .nx ρ
def sSeq (a b : MS) : MS := fun ρ => (a ρ).seq b
def sSet (i : Nat) (a : M D) : MS := fun ρ => RS.ofT (a ρ) fun d ρ1 => .nx (ρ1.set i (.val d))
def sOwn (i : Nat) (a : M D) : MS := fun ρ => RS.ofT (a ρ) fun d ρ1 => .nx (ρ1.set i (.own d))
def sFrz (i : Nat) (b : MS) : MS := fun ρ => b (freeze ρ i)
def sExpr (a : M D) : MS := fun ρ => RS.ofT (a ρ) fun _ ρ1 => .nx ρ1
def sRet (a : M D) : MS := fun ρ => RS.ofT (a ρ) fun d ρ1 => .rt d ρ1
def sIf (c : M Bool) (a b : MS) : MS := fun ρ => RS.ofT (c ρ) fun x ρ1 => if x = true then a ρ1 else b ρ1
def sNo : MS := fun _ => .stuck
section
variable {T : Tab} {W : WX} {te ta tb tc : TE} {tt tu : TT} {t u : TS} {f : M D} {ft : M Bool} {g g' : MS} {i : Nat}
theorem rs_skip : RdS T W tNext sSkip := fun Fr Hc σ H ρ D S P => P σ Hc H (Same.refl _) S
theorem rs_brk : RdS T W tBreak (fun ρ => .bk ρ) := fun Fr Hc σ H ρ D S P => P σ Hc H (Same.refl _) S
theorem rs_cont : RdS T W tCont (fun ρ => .ct ρ) := fun Fr Hc σ H ρ D S P => P σ Hc H (Same.refl _) S
theorem rs_no {t : TS} : RdS T W t sNo := fun Fr Hc σ H ρ D S P => P.elim
theorem rs_seq (h1 : RdS T W t g) (h2 : RdS T W u g') : RdS T W (tSeq t u) (sSeq g g') := fun Fr Hc σ H ρ D S P => by
  refine h1 Fr Hc σ H ρ _ S ?_
  unfold sSeq at P
  cases e : g ρ with
  | nx ρ1 =>
    rw [e] at P
    intro σ1 Hc1 H1 e1 S1
    exact h2 Fr Hc1 σ1 H1 ρ1 D S1 (P.up e1)
  | rt d ρ1 => rw [e] at P; exact P
  | bk ρ1 => rw [e] at P; exact P
  | ct ρ1 => rw [e] at P; exact P
  | exc x ρ1 => rw [e] at P; exact P
  | stuck => rw [e] at P; exact P
theorem rs_set (h : RdE T W te f) (h0 : i ≠ 0) : RdS T W (tAsg te (gName i)) (sSet i f) := fun Fr Hc σ H ρ D S P =>
  h.use S (PostS.ofT P) fun d ρ1 v Hc1 H1 e1 S1 P1 r1 => P1 _ Hc1 H1 (Same.refl _) (S1.set_val h0 r1)
theorem rs_own (h : RdN T W te f) (h0 : i ≠ 0) : RdS T W (tAsg te (gName i)) (sOwn i f) := fun Fr Hc σ H ρ D S P =>
  h.use S (PostS.ofT P) fun d ρ1 p Hc1 H1 e1 S1 P1 n => P1 _ Hc1 H1 (Same.refl _) (S1.set_own h0 n.f n.c n.b fun j h1 h2 => (n.o j h1 h2).elim)
theorem rs_frz {st : TS} (h : RdS T W st g) : RdS T W st (sFrz i g) := fun Fr Hc σ H ρ D S P => by
  obtain ⟨Hc', e, S'⟩ := S.freeze i
  exact h Fr Hc' σ H _ D S' (PostS.up P e)
theorem rs_expr (h : RdE T W te f) : RdS T W (tDrop te) (sExpr f) := fun Fr Hc σ H ρ D S P =>
  h.use S (PostS.ofT P) fun d ρ1 v Hc1 H1 e1 S1 P1 r1 => P1 _ Hc1 H1 (Same.refl _) S1
theorem rs_ret (h : RdE T W te f) : RdS T W (tRet te) (sRet f) := fun Fr Hc σ H ρ D S P =>
  h.use S (PostS.ofT P) fun d ρ1 v Hc1 H1 e1 S1 P1 r1 => P1 v σ Hc1 H1 (Same.refl _) S1 r1
theorem rs_if (hc : RdT T W tt ft) (h1 : RdS T W t g) (h2 : RdS T W u g') : RdS T W (tIfS tt t u) (sIf ft g g') := fun Fr Hc σ H ρ D S P =>
  hc.use S (PostS.ofT P) fun b ρ1 Hc1 H1 e1 S1 P1 => by
    cases b with
    | true => exact h1 Fr Hc1 σ H1 ρ1 D S1 P1
    | false => exact h2 Fr Hc1 σ H1 ρ1 D S1 P1
end
/-! ### defs -/
/-- what a def hands back -/
inductive RF where
  | ok (d : D) | exc (x : Exn) | stuck
def stD (n : Nat) (ds : List D) : DEnv := ds.map Slot.val ++ List.replicate (n - ds.length) Slot.un
def runF (n m : Nat) (b : MS) (ds : List D) : RF := if ds.length = m then (match b (stD n ds) with
  | .rt d _ => .ok d
  | .nx _ => .ok .non
  | .exc x _ => .exc x
  | _ => .stuck) else .stuck
/-- the heaps behind a call: Hc grew, all that stood stands, nothing that stood beside Hc came to it -/
structure Aft (Hc H Hc' H' : Hp) : Prop where
  c : Same Hc Hc'
  ch : Same Hc' H'
  h : Same H H'
  n : ∀ a o, H a = some o → nT o → Hc a = none → Hc' a = none
def spF (T : Tab) (m : Nat) (F : List D → RF) : Sp := fun vs H Q E => ∃ (Hc : Hp) (ds : List D), vs.length = m ∧ Same Hc H ∧ Rps T Hc vs ds ∧ match F ds with
  | .ok d => ∀ v Hc' H', Aft Hc H Hc' H' → Rp T Hc' v d → Q v H'
  | .exc x => ∀ cls da Hc' H', Aft Hc H Hc' H' → RpX T Hc' H' cls da x → E cls da H'
  | .stuck => False
/-- a def that changes its first argument, an owned object, and hands back a value -/
inductive RO where
  | ok (d o : D) | stuck
def runO (n m : Nat) (b : MS) (o : D) (ds : List D) : RO := if ds.length + 1 = m then (match b (Slot.own o :: ds.map Slot.val ++ List.replicate (n - m) Slot.un) with
  | .rt d ρ => (match ρ[0]? with
    | some (Slot.own o') => .ok d o'
    | _ => .stuck)
  | .nx ρ => (match ρ[0]? with
    | some (Slot.own o') => .ok .non o'
    | _ => .stuck)
  | _ => .stuck) else .stuck
structure AftO (a : Addr) (Hc H Hc' H' : Hp) : Prop where
  c : Same Hc Hc'
  ch : Same Hc' H'
  h : ∀ b o, b ≠ a → H b = some o → H' b = some o
  n : ∀ b o, H b = some o → nT o → Hc b = none → Hc' b = none
def spO (T : Tab) (m : Nat) (F : D → List D → RO) : Sp := fun vs H Q _ => ∃ (Hc : Hp) (a : Addr) (us : List V) (o : D) (ds : List D), vs = .ref a :: us ∧ vs.length = m ∧ Same Hc H ∧ Hc a = none ∧ Ob T Hc (H a) o ∧ Rps T Hc us ds ∧ match F o ds with
  | .ok d o' => ∀ v Hc' H', AftO a Hc H Hc' H' → Ob T Hc' (H' a) o' → Rp T Hc' v d → Q v H'
  | .stuck => False
end PD
set_option maxRecDepth 100000
/-! PD3: defs, calls, operators, built-ins. -/
namespace PD
open PySem PySem.Spec PyProof.Rows L2
/-! ### defs and their calls -/
theorem StC.after {T : Tab} {Fr : Fm} {Hc H Hc' H' : Hp} {σ : L2.St} {ρ : DEnv} (S : StC T Fr Hc σ H ρ) (a : Aft Hc H Hc' H') : StC T Fr Hc' σ H' ρ :=
  ⟨S.fr.trans a.h, a.ch, fun b o hb ho => a.n b o (S.fr b o hb) ho (S.dj b o hb ho), S.ln, fun i => (S.sl i).grow a.c fun b u h1 h2 h3 hu => ⟨a.n b u h3 hu h2, a.h b u h3⟩, S.ds, S.pn⟩
def eFn (G : List D → RF) (a : M (List D)) : M D := fun ρ => (a ρ).bind fun ds ρ1 => match G ds with
  | .ok d => .ok d ρ1
  | .exc x => .exc x ρ1
  | .stuck => .stuck
section
variable {T : Tab} {W : WX} {X : Cx} {k : Nat} {f C : Addr} {fd : FuncData} {ps : List Str} {m : Nat} {G : List D → RF} {x nm : Str} {p pos apos : Pos} {e o : Expr} {es : List Expr} {fA : M (List D)} {fo : M D} {ta : TE} {tA : TA}
theorem spF_use {Fr : Fm} {Hc H : Hp} {σ : L2.St} {ρ : DEnv} {vs : List V} {ds : List D} {Q : VK} (hm : vs.length = m) (S : StC T Fr Hc σ H ρ) (r : Rps T Hc vs ds)
    (P : PostR T W Fr Hc σ (match G ds with
      | .ok d => .ok d ρ
      | .exc x => .exc x ρ
      | .stuck => .stuck : RM D) fun d _ Hc' H' => ∀ v, Rp T Hc' v d → Q v H') : spF T m G vs H Q (WE W σ) := by
  refine ⟨Hc, ds, hm, S.hc, r, ?_⟩
  cases g : G ds with
  | ok d => rw [g] at P; exact fun v Hc' H' a r' => P Hc' H' a.c (S.after a) v r'
  | exc z => rw [g] at P; exact fun cls da Hc' H' a r' => P cls da Hc' H' a.c (S.after a) r'
  | stuck => rw [g] at P; exact P
theorem sim_call (hG : ∀ ds, ds.length ≠ m → G ds = .stuck) (F : FnOk X.prog X.w X.K X.mg X.base (L2.CX X.prog X.w) k f fd ps (spF T m G)) (hr : Room k X.A) (hg : Gl X x) (hm : X.mg x = some (.ref f)) (hk : PySem.W.keepIn X.K (.ref f) = true) (hb : Binds X.K fd ps []) (tk : Takes X W)
    (ha : SimA T W X (e :: es) fA) (hdb : (x == ("__debug__" : Str)) = false := by decide) (he : starEach (e :: es) X.env = (false, eval e X.env) :: starEach es X.env := by rfl) (hpl : (backTo pos (starEach es X.env)).any (·.1) = false := by rfl) :
    SimE T W X (.Call (.Name x p) (e :: es) [] pos) (eFn G fA) := by
  refine sim_of (pe_callSD (E := WE W) F hr hg hm hk hb .nil (fun σ => passAt tk σ) pa_tA hdb he hpl) fun Fr Hc σ H ρ S Q P => ?_
  refine ha.use S (PostR.bind P) fun ds ρ1 vs Hc1 H1 e1 S1 P1 r => ?_
  show spF T m G (vs ++ []) H1 Q (WE W σ)
  rw [List.append_nil]
  by_cases l : ds.length = m
  · exact spF_use (by rw [r.length]; exact l) S1 r P1
  · rw [hG ds l] at P1
    exact P1.elim
/-- o.m(e, ..) where what is raised is wished for at the caller's slots -/
theorem pe_methSD {CX : CXT} {sp : Sp} {E : L2.St → XK} {pl : Sem Bool} (hE : PE X o ta) (c : Cls X.K C) (hm : Meth X.K C nm f) (F : FnOk X.prog X.w X.K X.mg X.base CX k f fd ps sp) (hr : Room k X.A) (hb : Binds X.K fd ps []) (hx : ∀ σ, PassesAt CX X σ (E σ)) (ha : PA X (e :: es) tA)
    (hst : starEach (e :: es) X.env = (false, eval e X.env) :: starEach es X.env := by rfl) (hpl : (backTo pos (starEach es X.env)).any (·.1) = false := by rfl)
    (ht : eval (.Call (.Attribute o nm apos) (e :: es) [] pos) X.env = (do
      let ov ← eval o X.env
      standAt apos.atName
      let (f, first) ← holding [ov] (getMethod ov nm pl)
      callWith pos f first (backTo pos (starEach (e :: es) X.env)) (backToKw pos (keywordEach [] X.env))) := by rfl) :
    PE X (.Call (.Attribute o nm apos) (e :: es) [] pos) (fun σ H Q => ta σ H fun x H1 => ∃ a dx fs, x = .ref a ∧ H1 a = some (.ins C dx fs) ∧ fs.lookup nm = none ∧ tA σ H1 fun vs H2 => sp (x :: (vs ++ [])) H2 Q (E σ)) := by
  refine ⟨fun pins s σ H Q I h => ?_⟩
  refine PySem.W.methodCall_KW (pl := pl) (thn (hE.run pins s σ H _ I h) fun u s1 ⟨x, H1, I1, rx, a, dx, fs, ex, ea, l, q⟩ => ?_) ht
  subst ex
  obtain rfl : u = Value.ref a := rx
  refine getmeth_ok I1 ea c hm l ?_
  refine PySem.W.callWith_K (first := [.ref a]) (h₀ := X.base) I.ok.mod.kin hm.kp (thn (ha.run pos pins s1 σ H1 _ I1 q) fun us s2 ⟨vs, H2, I2, r, q2⟩ => ⟨I2.kIn, ?_⟩) hst hpl
  exact run_fnSD (us := .ref a :: us) (vs := .ref a :: vs) F hr hb .nil (hx σ) I2 (.cons rfl r) q2
theorem pe_meth0SD {CX : CXT} {sp : Sp} {E : L2.St → XK} {pl : Sem Bool} (hE : PE X o ta) (c : Cls X.K C) (hm : Meth X.K C nm f) (F : FnOk X.prog X.w X.K X.mg X.base CX k f fd ps sp) (hr : Room k X.A) (hb : Binds X.K fd ps []) (hx : ∀ σ, PassesAt CX X σ (E σ))
    (ht : eval (.Call (.Attribute o nm apos) [] [] pos) X.env = (do
      let ov ← eval o X.env
      standAt apos.atName
      let (f, first) ← holding [ov] (getMethod ov nm pl)
      callWith pos f first (backTo pos (starEach [] X.env)) (backToKw pos (keywordEach [] X.env))) := by rfl) :
    PE X (.Call (.Attribute o nm apos) [] [] pos) (fun σ H Q => ta σ H fun x H1 => ∃ a dx fs, x = .ref a ∧ H1 a = some (.ins C dx fs) ∧ fs.lookup nm = none ∧ sp [x] H1 Q (E σ)) := by
  refine ⟨fun pins s σ H Q I h => ?_⟩
  refine PySem.W.methodCall_KW (pl := pl) (thn (hE.run pins s σ H _ I h) fun u s1 ⟨x, H1, I1, rx, a, dx, fs, ex, ea, l, q⟩ => ?_) ht
  subst ex
  obtain rfl : u = Value.ref a := rx
  refine getmeth_ok I1 ea c hm l ?_
  exact PySem.W.callWith_K0 (first := [.ref a]) I1.kIn hm.kp (run_fnSD (us := [.ref a]) (vs := [.ref a]) F hr hb .nil (hx σ) I1 (.cons rfl .nil) q)
def eMeth (c : Nat) (nm : Str) (G : List D → RF) (fo : M D) (a : M (List D)) : M D := fun ρ => (fo ρ).bind fun o ρ1 => match o with
  | .ins c' fs => if c' = c ∧ fs.lookup nm = none then (a ρ1).bind fun ds ρ2 => (match G (.ins c' fs :: ds) with
    | .ok d => .ok d ρ2
    | .exc x => .exc x ρ2
    | .stuck => .stuck) else .stuck
  | _ => .stuck
theorem sim_meth {c : Nat} {pl : Sem Bool} (hG : ∀ ds, ds.length ≠ m → G ds = .stuck) (ho : SimE T W X o fo) (hc : Cls X.K (T.cls c)) (hm : Meth X.K (T.cls c) nm f) (F : FnOk X.prog X.w X.K X.mg X.base (L2.CX X.prog X.w) k f fd ps (spF T m G)) (hr : Room k X.A) (hb : Binds X.K fd ps []) (tk : Takes X W) (ha : SimA T W X (e :: es) fA)
    (hst : starEach (e :: es) X.env = (false, eval e X.env) :: starEach es X.env := by rfl) (hpl : (backTo pos (starEach es X.env)).any (·.1) = false := by rfl)
    (ht : eval (.Call (.Attribute o nm apos) (e :: es) [] pos) X.env = (do
      let ov ← eval o X.env
      standAt apos.atName
      let (f, first) ← holding [ov] (getMethod ov nm pl)
      callWith pos f first (backTo pos (starEach (e :: es) X.env)) (backToKw pos (keywordEach [] X.env))) := by rfl) :
    SimE T W X (.Call (.Attribute o nm apos) (e :: es) [] pos) (eMeth c nm G fo fA) := by
  refine sim_of (pe_methSD (E := WE W) pe_tE hc hm F hr hb (fun σ => passAt tk σ) pa_tA hst hpl ht) fun Fr Hc σ H ρ S Q P => ?_
  refine ho.use S (PostR.bind P) fun d ρ1 v Hc1 H1 e1 S1 P1 r1 => ?_
  cases r1 with
  | @ins a dx vs c' fs h rf =>
    dsimp only at P1
    by_cases cond : c' = c ∧ fs.lookup nm = none
    · rw [if_pos cond] at P1
      obtain ⟨rfl, hl⟩ := cond
      refine ⟨a, dx, vs, rfl, S1.hc a _ h, rf.lookup_none hl, ?_⟩
      refine ha.use S1 (PostR.bind P1) fun ds ρ2 us Hc2 H2 e2 S2 P2 r => ?_
      show spF T m G (.ref a :: (us ++ [])) H2 Q (WE W σ)
      rw [List.append_nil]
      by_cases l : ds.length + 1 = m
      · exact spF_use (by rw [List.length_cons, r.length]; exact l) S2 (.cons (.ins (e2 _ _ h) (rf.mono e2)) r) P2
      · rw [hG (.ins c' fs :: ds) l] at P2
        exact P2.elim
    · rw [if_neg cond] at P1
      exact P1.elim
  | _ => exact P1.elim
theorem sim_meth0 {c : Nat} {pl : Sem Bool} (hG : ∀ ds, ds.length ≠ m → G ds = .stuck) (ho : SimE T W X o fo) (hc : Cls X.K (T.cls c)) (hm : Meth X.K (T.cls c) nm f) (F : FnOk X.prog X.w X.K X.mg X.base (L2.CX X.prog X.w) k f fd ps (spF T m G)) (hr : Room k X.A) (hb : Binds X.K fd ps []) (tk : Takes X W)
    (ht : eval (.Call (.Attribute o nm apos) [] [] pos) X.env = (do
      let ov ← eval o X.env
      standAt apos.atName
      let (f, first) ← holding [ov] (getMethod ov nm pl)
      callWith pos f first (backTo pos (starEach [] X.env)) (backToKw pos (keywordEach [] X.env))) := by rfl) :
    SimE T W X (.Call (.Attribute o nm apos) [] [] pos) (eMeth c nm G fo aNil) := by
  refine sim_of (pe_meth0SD (E := WE W) pe_tE hc hm F hr hb (fun σ => passAt tk σ) ht) fun Fr Hc σ H ρ S Q P => ?_
  refine ho.use S (PostR.bind P) fun d ρ1 v Hc1 H1 e1 S1 P1 r1 => ?_
  cases r1 with
  | @ins a dx vs c' fs h rf =>
    dsimp only at P1
    by_cases cond : c' = c ∧ fs.lookup nm = none
    · rw [if_pos cond] at P1
      obtain ⟨rfl, hl⟩ := cond
      refine ⟨a, dx, vs, rfl, S1.hc a _ h, rf.lookup_none hl, ?_⟩
      show spF T m G [.ref a] H1 Q (WE W σ)
      by_cases l : 1 = m
      · exact spF_use l S1 (.cons (.ins h rf) .nil) P1
      · have P2 : PostR T W Fr Hc1 σ (match G [.ins c' fs] with
          | .ok d => .ok d ρ1
          | .exc x => .exc x ρ1
          | .stuck => .stuck : RM D) _ := P1
        rw [hG [.ins c' fs] l] at P2
        exact P2.elim
    · rw [if_neg cond] at P1
      exact P1.elim
  | _ => exact P1.elim
end
/-- the address of an own slot is changed behind a call -/
theorem StC.afterO {T : Tab} {Fr : Fm} {Hc H Hc' H' : Hp} {σ : L2.St} {ρ : DEnv} {i : Nat} {a : Addr} {d d' : D} (S : StC T Fr Hc σ H ρ) (hi : ρ[i]? = some (.own d)) (ha : σ[i]? = some (some (.ref a))) (A : AftO a Hc H Hc' H') (ob : Ob T Hc' (H' a) d') :
    StC T Fr Hc' σ H' (ρ.set i (.own d')) := by
  obtain ⟨b, e1, f1, c1, o1⟩ := S.ownv hi
  rw [ha] at e1
  cases e1
  have li : i < ρ.length := (List.getElem?_eq_some_iff.mp hi).1
  refine ⟨fun b u hb => A.h b u (ne_of_none hb f1) (S.fr b u hb), A.ch, fun b o hb ho => A.n b o (S.fr b o hb) ho (S.dj b o hb ho), by rw [List.length_set, S.ln], fun j => ?_, fun j k c g1 g2 g3 g4 => ?_, S.pn⟩
  · by_cases q : i = j
    · subst q
      rw [List.getElem?_set_self li, ha]
      obtain ⟨u, hu, _⟩ := o1.some
      exact ⟨a, rfl, f1, A.n a u hu (by rw [hu] at o1; exact o1.nT) c1, ob⟩
    · rw [List.getElem?_set_ne q]
      have h := S.sl j
      cases e : ρ[j]? with
      | none => trivial
      | some s =>
        rw [e] at h
        cases s with
        | un => trivial
        | val x => obtain ⟨v, p1, p2⟩ := h; exact ⟨v, p1, p2.mono A.c⟩
        | own x =>
          obtain ⟨b, h1, h2, h3, h4⟩ := h
          obtain ⟨u, hu, _⟩ := h4.some
          refine ⟨b, h1, h2, A.n b u hu (by rw [hu] at h4; exact h4.nT) h3, ?_⟩
          have nb : b ≠ a := fun z => q (S.ds i j a ha (by rw [h1, z]) (by rw [hi]; rfl) (by rw [e]; rfl))
          rw [A.h b u nb hu, ← hu]
          exact h4.mono A.c
  · have w : ∀ m : Nat, isOwn (ρ.set i (.own d'))[m]? = true → isOwn ρ[m]? = true := fun m hm => by
      by_cases q : i = m
      · subst q; rw [hi]; rfl
      · rw [List.getElem?_set_ne q] at hm; exact hm
    exact S.ds j k c g1 g2 (w j g3) (w k g4)
def eFnO (i : Nat) (G : D → List D → RO) (a : M (List D)) : M D := fun ρ => match ρ[i]? with
  | some (.own _) => (a ρ).bind fun ds ρ1 => (match ρ1[i]? with
    | some (.own o) => (match G o ds with
      | .ok d o' => .ok d (ρ1.set i (.own o'))
      | .stuck => .stuck)
    | _ => .stuck)
  | _ => .stuck
def eMake (c : Nat) (G : D → List D → RO) (a : M (List D)) : M D := fun ρ => (a ρ).bind fun ds ρ1 => match G (.ins c []) ds with
  | .ok .non (.ins c' fs) => .ok (.ins c' fs) ρ1
  | _ => .stuck
section
variable {T : Tab} {W : WX} {X : Cx} {k : Nat} {f C : Addr} {fd : FuncData} {ps : List Str} {m : Nat} {G : D → List D → RO} {x nm : Str} {p p0 pos apos : Pos} {e o : Expr} {es : List Expr} {fA : M (List D)} {fo : M D} {ta : TE} {tA : TA}
/-- f(xs, e, ..), xs an owned object in slot i, which f changes -/
theorem sim_callO {i : Nat} {y : Str} (hG : ∀ o ds, ds.length + 1 ≠ m → G o ds = .stuck) (F : FnOk X.prog X.w X.K X.mg X.base (L2.CX X.prog X.w) k f fd ps (spO T m G)) (hr : Room k X.A) (hg : Gl X x) (hm : X.mg x = some (.ref f)) (hk : PySem.W.keepIn X.K (.ref f) = true) (hb : Binds X.K fd ps []) (tk : Takes X W)
    (hv : PE X (.Name y p0) (tVar i)) (ha : SimA T W X es fA) (hdb : (x == ("__debug__" : Str)) = false := by decide) (he : starEach (.Name y p0 :: es) X.env = (false, eval (.Name y p0) X.env) :: starEach es X.env := by rfl) (hpl : (backTo pos (starEach es X.env)).any (·.1) = false := by rfl) :
    SimE T W X (.Call (.Name x p) (.Name y p0 :: es) [] pos) (eFnO i G fA) := by
  refine sim_of (pe_callSD (E := WE W) F hr hg hm hk hb .nil (fun σ => passAt tk σ) (pa_cons hv pa_tA he) hdb he hpl) fun Fr Hc σ H ρ S Q P => ?_
  unfold eFnO at P
  split at P
  · rename_i d0 h0
    obtain ⟨a, h1, h2, h3, h4⟩ := S.ownv h0
    refine ⟨.ref a, h1, ?_⟩
    refine ha.use S (PostR.bind P) fun ds ρ1 vs Hc1 H1 e1 S1 P1 r => ?_
    show spO T m G (.ref a :: (vs ++ [])) H1 Q (WE W σ)
    rw [List.append_nil]
    split at P1
    · rename_i od ho
      obtain ⟨b, g1, g2, g3, g4⟩ := S1.ownv ho
      rw [h1] at g1
      cases g1
      by_cases l : ds.length + 1 = m
      · refine ⟨Hc1, a, vs, od, ds, rfl, by rw [List.length_cons, r.length]; exact l, S1.hc, g3, g4, r, ?_⟩
        cases g : G od ds with
        | ok d o' =>
          rw [g] at P1
          exact fun v Hc' H' A ob rv => P1 Hc' H' A.c (S1.afterO ho h1 A ob) v rv
        | stuck => rw [g] at P1; exact P1
      · rw [hG od ds l] at P1
        exact P1.elim
    · exact P1.elim
  · exact P.elim
/-- C(e, ..) of a class with an own __init__ -/
theorem simN_make {c : Nat} (hG : ∀ o ds, ds.length + 1 ≠ m → G o ds = .stuck) (Mk0 : Mk X.K (T.cls c) f) (F : FnOk X.prog X.w X.K X.mg X.base (L2.CX X.prog X.w) k f fd ps (spO T m G)) (hr : Room (k + 1) X.A) (hg : Gl X x) (hm : X.mg x = some (.ref (T.cls c))) (hb : Binds X.K fd ps [])
    (ha : SimA T W X (e :: es) fA) (hdb : (x == ("__debug__" : Str)) = false := by decide) (he : starEach (e :: es) X.env = (false, eval e X.env) :: starEach es X.env := by rfl) (hpl : (backTo pos (starEach es X.env)).any (·.1) = false := by rfl) :
    SimN T W X (.Call (.Name x p) (e :: es) [] pos) (eMake c G fA) := by
  refine simN_of (pe_make (E := E0) Mk0 F hr hg hm hb .nil passL pa_tA hdb he hpl) fun Fr Hc σ H ρ S Q P => ?_
  refine ha.use S (PostR.bind P) fun ds ρ1 vs Hc1 H1 e1 S1 P1 r => ?_
  intro y dx ny ndx nxy
  show spO T m G (.ref y :: (vs ++ [])) _ _ _
  rw [List.append_nil]
  by_cases l : ds.length + 1 = m
  · have eS : Same H1 (upd (upd H1 dx (.own y)) y (.ins (T.cls c) dx [])) := fun b u hb => by rw [upd_ne (ne_of_none hb ny), upd_ne (ne_of_none hb ndx)]; exact hb
    have cy : Hc1 y = none := S1.hc.free ny
    refine ⟨Hc1, y, vs, .ins c [], ds, rfl, by rw [List.length_cons, r.length]; exact l, S1.hc.trans eS, cy, ⟨dx, [], upd_same, .nil⟩, r, ?_⟩
    cases g : G (.ins c []) ds with
    | ok d o' =>
      rw [g] at P1
      cases d with
      | non =>
        cases o' with
        | ins c' fs =>
          intro v Hc' H' A ob rv
          cases rv with
          | non =>
            refine ⟨rfl, ?_⟩
            have k1 : ∀ b u, H1 b = some u → H' b = some u := fun b u hb => A.h b u (ne_of_none hb ny) (eS b u hb)
            have k2 : ∀ b u, H1 b = some u → nT u → Hc1 b = none → Hc' b = none := fun b u hb hu hn => A.n b u (eS b u hb) hu hn
            have S2 : StC T Fr Hc' σ H' ρ1 := S1.after ⟨A.c, A.ch, k1, k2⟩
            refine P1 Hc' H' A.c S2 y ⟨S1.fr.free ny, A.n y _ upd_same trivial cy, fun j h1 h2 => ?_, ob⟩
            cases ej : ρ1[j]? with
            | none => rw [ej] at h2; cases h2
            | some sl =>
              rw [ej] at h2
              cases sl with
              | own z =>
                obtain ⟨b, g1, g2, g3, g4⟩ := S1.ownv ej
                rw [h1] at g1
                cases g1
                obtain ⟨u, hu, _⟩ := g4.some
                rw [ny] at hu
                cases hu
              | _ => cases h2
        | _ => exact P1.elim
      | _ => exact P1.elim
    | stuck => rw [g] at P1; exact P1.elim
  · rw [hG (.ins c []) ds l] at P1
    exact P1.elim
end
/-! ### bodies -/
theorem Rps.start {T : Tab} {H : Hp} {Fr : Hp} {Hx : Hp} : ∀ {vs : List V} {ds : List D} {n : Nat}, Rps T H vs ds → ∀ i : Nat, SlR T Fr H Hx (vs.map some ++ List.replicate n none)[i]? (ds.map Slot.val ++ List.replicate n Slot.un)[i]?
  | [], [], n, .nil, i => by
    simp only [List.map_nil, List.nil_append, List.getElem?_replicate]
    split <;> trivial
  | v :: vs, d :: ds, n, .cons h r, 0 => ⟨v, rfl, h⟩
  | v :: vs, d :: ds, n, .cons h r, i + 1 => Rps.start r i
theorem stD_noown {ds : List D} {n : Nat} {i : Nat} : isOwn (ds.map Slot.val ++ List.replicate n Slot.un)[i]? = true → False := fun h => by
  induction ds generalizing i with
  | nil =>
    rw [List.map_nil, List.nil_append, List.getElem?_replicate] at h
    split at h <;> cases h
  | cons d ds ih =>
    cases i with
    | zero => cases h
    | succ i => exact ih h
theorem runF_len {n m : Nat} {b : MS} (ds : List D) (h : ds.length ≠ m) : runF n m b ds = .stuck := by unfold runF; rw [if_neg h]
theorem runO_len {n m : Nat} {b : MS} (o : D) (ds : List D) (h : ds.length + 1 ≠ m) : runO n m b o ds = .stuck := by unfold runO; rw [if_neg h]
section
variable {T : Tab} {P : Program} {w : World} {K : PySem.W.Frag} {mg : Str → Option Value} {base : Heap} {x qual : Str} {params : Arguments} {body : List Stmt} {scope : Scope} {f : Addr} {fd : FuncData} {N ps : List Str} {k m n : Nat} {b : MS}
/-- a def keeps its plain run's promise -/
theorem fn_F (F : FunD K x qual params body scope [] [] f fd) (S : FnScope N ps scope) (hm : m = ps.length) (hn : N.length = n) 
    (h : ∀ (cdv : Value) (A : Around) (outer : List Env) (s : Shared) (H : Hp) (E : XK), Room k (A.deeper (envOfC qual scope s.heap.objs.size f cdv)) →
      SimB T (fun cls d _ H => E cls d H) (cxOf (L2.CX P w) P w K mg base N qual scope f cdv A outer s H E) body b) : FnOk P w K mg base (L2.CX P w) (k + 1) f fd ps (spF T m (runF n m b)) := by
  refine FunD.ok F S (fun vs H Q E q => ?_) fun cdv A outer s H vs Q E hr q => ⟨_, pss_tS, ?_⟩
  · obtain ⟨Hc, ds, l, _⟩ := q
    rw [l, hm]
  · obtain ⟨Hc, ds, l, e, r, q⟩ := q
    have ld : ds.length = m := by rw [← r.length]; exact l
    have hS : StC T ⟨fun a => if Hc a = none then H a else none, none⟩ Hc (start N vs) H (stD n ds) := by
      refine ⟨fun a o ha => ?_, e, fun a o ha _ => ?_, ?_, fun i => ?_, fun i j a h1 h2 h3 h4 => (stD_noown h3).elim, fun a ha => by cases ha⟩
      · by_cases c : Hc a = none
        · simp only [c] at ha; exact ha
        · simp only [c] at ha; cases ha
      · by_cases c : Hc a = none
        · exact c
        · simp only [c] at ha; cases ha
      · unfold L2.start stD
        rw [List.length_append, List.length_append, List.length_map, List.length_map, List.length_replicate, List.length_replicate, r.length, hn]
      · unfold L2.start stD
        rw [hn, r.length]
        exact Rps.start r i
    refine h cdv A outer s H E hr _ Hc _ H _ _ hS ?_
    have aft : ∀ {σ' : L2.St} {ρ' : DEnv} {Hc' H' : Hp}, Same Hc Hc' → StC T ⟨fun a => if Hc a = none then H a else none, none⟩ Hc' σ' H' ρ' → Aft Hc H Hc' H' := fun {σ' ρ' Hc' H'} e' S' => by
      refine ⟨e', S'.hc, fun a o ha => ?_, fun a o ha ho hc => S'.dj a o (by simp only [hc]; exact ha) ho⟩
      by_cases c : Hc a = none
      · exact S'.fr a o (by simp only [c]; exact ha)
      · cases g : Hc a with
        | none => exact absurd g c
        | some o' =>
          have z := e a o' g
          rw [ha] at z
          cases z
          exact S'.hc a o (e' a o g)
    unfold runF at q
    rw [if_pos ld] at q
    cases g : b (stD n ds) with
    | nx ρ' =>
      rw [g] at q
      exact fun σ' Hc' H' e' S' => q .non Hc' H' (aft e' S') .non
    | rt d ρ' =>
      rw [g] at q
      exact fun v σ' Hc' H' e' S' rv => q v Hc' H' (aft e' S') rv
    | exc z ρ' =>
      rw [g] at q
      exact fun σ' cls da Hc' H' e' S' rz => q cls da Hc' H' (aft e' S') rz
    | bk ρ' => rw [g] at q; exact q.elim
    | ct ρ' => rw [g] at q; exact q.elim
    | stuck => rw [g] at q; exact q.elim
/-- .. that changes its first argument -/
theorem fn_O (F : FunD K x qual params body scope [] [] f fd) (S : FnScope N ps scope) (hm : m = ps.length) (hn : N.length = n) 
    (h : ∀ (cdv : Value) (A : Around) (outer : List Env) (s : Shared) (H : Hp) (E : XK), Room k (A.deeper (envOfC qual scope s.heap.objs.size f cdv)) →
      SimB T (fun cls d _ H => E cls d H) (cxOf (L2.CX P w) P w K mg base N qual scope f cdv A outer s H E) body b) : FnOk P w K mg base (L2.CX P w) (k + 1) f fd ps (spO T m (runO n m b)) := by
  refine FunD.ok F S (fun vs H Q E q => ?_) fun cdv A outer s H vs Q E hr q => ⟨_, pss_tS, ?_⟩
  · obtain ⟨Hc, a, us, o, ds, _, l, _⟩ := q
    rw [l, hm]
  · obtain ⟨Hc, a, us, o, ds, rfl, l, e, ca, ob, r, q⟩ := q
    have ld : ds.length + 1 = m := by rw [← r.length, ← l, List.length_cons]
    have lm : m ≤ n := by
      have z := congrArg List.length S.pre
      rw [List.length_take] at z
      omega
    have hS : StC T ⟨fun b => if Hc b = none ∧ b ≠ a then H b else none, some a⟩ Hc (start N (.ref a :: us)) H (Slot.own o :: ds.map Slot.val ++ List.replicate (n - m) Slot.un) := by
      refine ⟨fun b u hb => ?_, e, fun b u hb _ => ?_, ?_, fun i => ?_, fun i j c h1 h2 h3 h4 => ?_, fun c hc => ?_⟩
      · by_cases z : Hc b = none ∧ b ≠ a
        · simp only [if_pos z] at hb; exact hb
        · simp only [if_neg z] at hb; cases hb
      · by_cases z : Hc b = none ∧ b ≠ a
        · exact z.1
        · simp only [if_neg z] at hb; cases hb
      · unfold L2.start
        rw [List.length_append, List.length_append, List.length_map, List.length_cons, List.length_cons, List.length_map, List.length_replicate, List.length_replicate, r.length, hn]
        omega
      · unfold L2.start
        cases i with
        | zero => exact ⟨a, rfl, by simp, ca, ob⟩
        | succ i =>
          have e1 : N.length - (V.ref a :: us).length = n - m := by rw [List.length_cons, r.length, hn, ld]
          rw [e1]
          exact Rps.start r i
      · have z : ∀ t : Nat, isOwn (Slot.own o :: ds.map Slot.val ++ List.replicate (n - m) Slot.un)[t]? = true → t = 0 := fun t ht => by
          cases t with
          | zero => rfl
          | succ t => exact (stD_noown (i := t) ht).elim
        rw [z i h3, z j h4]
      · cases hc
        rfl
    refine h cdv A outer s H E hr _ Hc _ H _ _ hS ?_
    have aft : ∀ {σ' : L2.St} {ρ' : DEnv} {Hc' H' : Hp}, Same Hc Hc' → StC T ⟨fun b => if Hc b = none ∧ b ≠ a then H b else none, some a⟩ Hc' σ' H' ρ' → ∀ o', ρ'[0]? = some (.own o') → AftO a Hc H Hc' H' ∧ Ob T Hc' (H' a) o' := fun {σ' ρ' Hc' H'} e' S' o' h0 => by
      obtain ⟨a', g1, g2, g3, g4⟩ := S'.ownv h0
      rw [S'.pn a rfl] at g1
      cases g1
      refine ⟨⟨e', S'.hc, fun b u nb hb => ?_, fun b u hb hu hc => ?_⟩, g4⟩
      · by_cases c : Hc b = none
        · exact S'.fr b u (by simp only [if_pos (show Hc b = none ∧ b ≠ a from ⟨c, nb⟩)]; exact hb)
        · cases g : Hc b with
          | none => exact absurd g c
          | some u' =>
            have z := e b u' g
            rw [hb] at z
            cases z
            exact S'.hc b u (e' b u g)
      · by_cases nb : b = a
        · rw [nb]; exact g3
        · exact S'.dj b u (by simp only [if_pos (show Hc b = none ∧ b ≠ a from ⟨hc, nb⟩)]; exact hb) hu
    unfold runO at q
    rw [if_pos ld] at q
    cases g : b (Slot.own o :: ds.map Slot.val ++ List.replicate (n - m) Slot.un) with
    | nx ρ' =>
      rw [g] at q
      intro σ' Hc' H' e' S'
      dsimp only at q
      split at q
      · rename_i d' o'' eq
        split at eq
        · rename_i o' h0
          cases eq
          obtain ⟨A1, ob1⟩ := aft e' S' _ h0
          exact q .non Hc' H' A1 ob1 .non
        · cases eq
      · exact q.elim
    | rt d ρ' =>
      rw [g] at q
      intro v σ' Hc' H' e' S' rv
      dsimp only at q
      split at q
      · rename_i d' o'' eq
        split at eq
        · rename_i o' h0
          cases eq
          obtain ⟨A1, ob1⟩ := aft e' S' _ h0
          exact q v Hc' H' A1 ob1 rv
        · cases eq
      · exact q.elim
    | exc z ρ' => rw [g] at q; exact q.elim
    | bk ρ' => rw [g] at q; exact q.elim
    | ct ρ' => rw [g] at q; exact q.elim
    | stuck => rw [g] at q; exact q.elim
end
end PD
set_option maxRecDepth 100000
/-! PD4: operators, tests, displays, built-ins, attributes, subscripts. -/
namespace PD
open PySem PySem.Spec PyProof.Rows L2
/-! ### data operations -/
def gI (p : Int → Int → Int) : D → D → Option D
  | .int i, .int j => some (.int (p i j))
  | _, _ => none
def gIc (c : Int → Int → Bool) (p : Int → Int → Int) : D → D → Option D
  | .int i, .int j => if c i j = true then some (.int (p i j)) else none
  | _, _ => none
def gB (p : Int → Int → Bool) : D → D → Option D
  | .int i, .int j => some (.bl (p i j))
  | _, _ => none
def gU (p : Int → Int) : D → Option D
  | .int i => some (.int (p i))
  | _ => none
def gCatL : D → D → Option D
  | .lst xs, .lst ys => if xs.length + ys.length ≤ 100000 then some (.lst (xs ++ ys)) else none
  | _, _ => none
def gCatT : D → D → Option D
  | .tup xs, .tup ys => if xs.length + ys.length ≤ 100000 then some (.tup (xs ++ ys)) else none
  | _, _ => none
def gRep : D → D → Option D
  | .lst xs, .int k => if xs.length * k.toNat ≤ 100000 ∧ k ≤ 100000 ∧ 0 ≤ k then some (.lst (List.replicate k.toNat xs).flatten) else none
  | _, _ => none
def isNon : D → Bool
  | .non => true
  | _ => false
def gIsN : D → D → Option D
  | d, .non => some (.bl (isNon d))
  | _, _ => none
def gNotN : D → D → Option D
  | d, .non => some (.bl (!isNon d))
  | _, _ => none
def gIx : D → D → Option D
  | .lst ds, .int i => atI ds i
  | .tup ds, .int i => atI ds i
  | _, _ => none
/-- flat data -/
def vD : D → Option V
  | .non => some .non
  | .bl b => some (.bl b)
  | .int i => some (.int i)
  | .str x => some (.str x)
  | _ => none
def vDs : List D → Option (List V)
  | [] => some []
  | d :: r => (vD d).bind fun v => (vDs r).map fun vs => v :: vs
def gIn (neg : Bool) : D → D → Option D
  | x, .lst ds => (vD x).bind fun v => (vDs ds).map fun vs => .bl (if neg then !inV v vs else inV v vs)
  | x, .tup ds => (vD x).bind fun v => (vDs ds).map fun vs => .bl (if neg then !inV v vs else inV v vs)
  | _, _ => none
mutual
def pyD : D → Option PyData
  | .non => some .none
  | .bl b => some (.bool b)
  | .int i => some (.int i)
  | .str x => some (.str x)
  | .tup ds => (pyDs ds).map .tuple
  | .lst ds => (pyDs ds).map .list
  | _ => none
def pyDs : List D → Option (List PyData)
  | [] => some []
  | d :: r => (pyD d).bind fun p => (pyDs r).map fun ps => p :: ps
end
def gEq (neg : Bool) : D → D → Option D := fun x y => (pyD x).bind fun p => (pyD y).bind fun q => if SeqAt.shaped p = true ∧ SeqAt.shaped q = true then some (.bl (if neg then !PyData.eqv p q else PyData.eqv p q)) else none
section
variable {T : Tab} {H : Hp}
theorem vD_ok {v u : V} {d : D} (r : Rp T H v d) (e : vD d = some u) : v = u ∧ flatV v = true := by
  cases r <;> first | (cases e; exact ⟨rfl, rfl⟩) | cases e
theorem vDs_ok : ∀ {vs us : List V} {ds : List D}, Rps T H vs ds → vDs ds = some us → vs = us ∧ vs.all flatV = true
  | _, _, _, .nil, e => by cases e; exact ⟨rfl, rfl⟩
  | _, _, _, @Rps.cons _ _ v d vs ds h r, e => by
    unfold vDs at e
    cases e1 : vD d with
    | none => rw [e1] at e; cases e
    | some u =>
      cases e2 : vDs ds with
      | none => rw [e1, e2] at e; cases e
      | some us =>
        rw [e1, e2] at e
        cases e
        obtain ⟨a, b⟩ := vD_ok h e1
        obtain ⟨a', b'⟩ := vDs_ok r e2
        exact ⟨by rw [a, a'], by rw [List.all_cons, b, b']; rfl⟩
mutual
theorem pyD_ok : ∀ {v : V} {d : D} {p : PyData}, Rp T H v d → pyD d = some p → Dp T.K H v p
  | _, _, _, .non, e => by cases e; exact .non
  | _, _, _, .bl b, e => by cases e; exact .bl b
  | _, _, _, .int i, e => by cases e; exact .int i
  | _, _, _, .str x, e => by cases e; exact .str x
  | _, _, _, @Rp.tup _ _ a vs ds h r, e => by
    unfold pyD at e
    cases e1 : pyDs ds with
    | none => rw [e1] at e; cases e
    | some ps => rw [e1] at e; cases e; exact .tup (SqT.of h) (pyDs_ok r e1)
  | _, _, _, @Rp.lst _ _ a vs ds h r, e => by
    unfold pyD at e
    cases e1 : pyDs ds with
    | none => rw [e1] at e; cases e
    | some ps => rw [e1] at e; cases e; exact .lst (SqL.of h) (pyDs_ok r e1)
  | _, _, _, .dic _ _, e => by cases e
  | _, _, _, .ins _ _, e => by cases e
  | _, _, _, .scr _, e => by cases e
theorem pyDs_ok : ∀ {v : List V} {d : List D} {p : List PyData}, Rps T H v d → pyDs d = some p → DpAll T.K H v p
  | _, _, _, .nil, e => by cases e; exact .nil
  | _, _, _, @Rps.cons _ _ v d vs ds h r, e => by
    unfold pyDs at e
    cases e1 : pyD d with
    | none => rw [e1] at e; cases e
    | some u =>
      cases e2 : pyDs ds with
      | none => rw [e1, e2] at e; cases e
      | some us =>
        rw [e1, e2] at e
        cases e
        exact .cons (pyD_ok h e1) (pyDs_ok r e2)
end
end
section
variable {T : Tab}
theorem oI {p : Int → Int → Int} : OpS T (rI0 fun i j => .int (p i j)) (gI p) := fun Fr Hc σ H ρ x y dx dy d S rx ry e Q q => by
  cases rx <;> cases ry <;> first | cases e; done | skip
  cases e
  exact ⟨_, _, rfl, rfl, q _ Hc H (Same.refl _) S (.int _)⟩
theorem oIc {c : Int → Int → Bool} {C : Int → Int → Prop} {p : Int → Int → Int} (hc : ∀ i j, c i j = true → C i j) : OpS T (rI C fun i j => .int (p i j)) (gIc c p) := fun Fr Hc σ H ρ x y dx dy d S rx ry e Q q => by
  cases rx <;> cases ry <;> first | cases e; done | skip
  rename_i i j
  dsimp only [gIc] at e
  by_cases h : c i j = true
  · rw [if_pos h] at e
    cases e
    exact ⟨_, _, rfl, rfl, hc _ _ h, q _ Hc H (Same.refl _) S (.int _)⟩
  · rw [if_neg h] at e; cases e
theorem oB {p : Int → Int → Bool} : OpS T (rI0 fun i j => .bl (p i j)) (gB p) := fun Fr Hc σ H ρ x y dx dy d S rx ry e Q q => by
  cases rx <;> cases ry <;> first | cases e; done | skip
  cases e
  exact ⟨_, _, rfl, rfl, q _ Hc H (Same.refl _) S (.bl _)⟩
theorem oU {p : Int → Int} : UnS T (rU fun i => .int (p i)) (gU p) := fun Fr Hc σ H ρ x dx d S rx e Q q => by
  cases rx <;> first | cases e; done | skip
  cases e
  exact ⟨_, rfl, q _ Hc H (Same.refl _) S (.int _)⟩
theorem oCatL : OpN T rCat gCatL := fun Fr Hc σ H ρ x y dx dy d S rx ry e Q q => by
  cases rx <;> cases ry <;> first | cases e; done | skip
  rename_i a vs ds h r b us es h' r'
  dsimp only [gCatL] at e
  by_cases l : ds.length + es.length ≤ 100000
  · rw [if_pos l] at e
    cases e
    refine ⟨a, b, vs, us, rfl, rfl, S.hc _ _ h, S.hc _ _ h', line_of (by rw [r.length, r'.length]; exact l), fun p hp => ?_⟩
    obtain ⟨S2, n⟩ := Nw.laid S (o := .lst (vs ++ us)) (d := .lst (ds ++ es)) hp ⟨_, rfl, r.append r'⟩
    exact q p Hc _ (Same.refl _) S2 n
  · rw [if_neg l] at e; cases e
theorem oCatT : OpS T (rCatA T.K) gCatT := fun Fr Hc σ H ρ x y dx dy d S rx ry e Q q => by
  cases rx <;> cases ry <;> first | cases e; done | skip
  rename_i a vs ds h r b us es h' r'
  dsimp only [gCatT] at e
  by_cases l : ds.length + es.length ≤ 100000
  · rw [if_pos l] at e
    cases e
    refine ⟨a, b, vs, us, rfl, rfl, SqT.of (S.hc _ _ h), SqT.of (S.hc _ _ h'), line_of (by rw [r.length, r'.length]; exact l), fun z => ?_, fun _ z => ?_, fun _ _ p hp => ?_⟩
    · subst z
      cases r
      exact q _ Hc H (Same.refl _) S (.tup h' r')
    · subst z
      cases r'
      exact q _ Hc H (Same.refl _) S (by rw [List.append_nil]; exact .tup h r)
    · obtain ⟨e2, S2⟩ := S.laid (o := .tup (vs ++ us)) hp
      exact q _ _ _ e2 S2 (.tup upd_same ((r.append r').mono e2))
  · rw [if_neg l] at e; cases e
theorem Rps.rep {H : Hp} {vs : List V} {ds : List D} (r : Rps T H vs ds) : ∀ n : Nat, Rps T H (List.replicate n vs).flatten (List.replicate n ds).flatten
  | 0 => .nil
  | n + 1 => by
    rw [List.replicate_succ, List.replicate_succ, List.flatten_cons, List.flatten_cons]
    exact r.append (Rps.rep r n)
theorem oRep : OpN T rRep gRep := fun Fr Hc σ H ρ x y dx dy d S rx ry e Q q => by
  cases rx <;> cases ry <;> first | cases e; done | skip
  rename_i a vs ds h r k
  dsimp only [gRep] at e
  by_cases l : ds.length * k.toNat ≤ 100000 ∧ k ≤ 100000 ∧ 0 ≤ k
  · rw [if_pos l] at e
    cases e
    refine ⟨a, k, vs, rfl, rfl, S.hc _ _ h, by omega, by omega, line_of (by rw [r.length]; exact l.1), fun p hp => ?_⟩
    obtain ⟨S2, n⟩ := Nw.laid S (o := .lst (List.replicate k.toNat vs).flatten) (d := .lst (List.replicate k.toNat ds).flatten) hp ⟨_, rfl, r.rep _⟩
    exact q p Hc _ (Same.refl _) S2 n
  · rw [if_neg l] at e; cases e
theorem isNon_ok {H : Hp} {v : V} {d : D} (r : Rp T H v d) : decide (v = .non) = isNon d := by
  cases r <;> first | rfl | exact decide_eq_false (fun z => nomatch z)
theorem oIsN : OpS T (fun x y H Q => y = .non ∧ Q (.bl (decide (x = .non))) H) gIsN := fun Fr Hc σ H ρ x y dx dy d S rx ry e Q q => by
  cases ry <;> first | (cases dx <;> cases e; done) | skip
  refine ⟨rfl, ?_⟩
  rw [isNon_ok rx]
  have e' : some (D.bl (isNon dx)) = some d := e
  cases e'
  exact q _ Hc H (Same.refl _) S (.bl _)
theorem oNotN : OpS T (fun x y H Q => y = .non ∧ Q (.bl (!decide (x = .non))) H) gNotN := fun Fr Hc σ H ρ x y dx dy d S rx ry e Q q => by
  cases ry <;> first | (cases dx <;> cases e; done) | skip
  refine ⟨rfl, ?_⟩
  rw [isNon_ok rx]
  have e' : some (D.bl (!isNon dx)) = some d := e
  cases e'
  exact q _ Hc H (Same.refl _) S (.bl _)
theorem atI_rps {H : Hp} {vs : List V} {ds : List D} {i : Int} {d : D} (r : Rps T H vs ds) (e : atI ds i = some d) : ∃ v, atI vs i = some v ∧ Rp T H v d := by
  unfold atI at e ⊢
  rw [r.length]
  cases g : ixN ds.length i with
  | none => rw [g] at e; cases e
  | some j =>
    rw [g] at e
    obtain ⟨u, h1, h2⟩ := r.get e
    exact ⟨u, h1, h2⟩
theorem oIx : OpS T (fun x y H Q => rIxL T.K x y H Q ∨ rIxT T.K x y H Q) gIx := fun Fr Hc σ H ρ x y dx dy d S rx ry e Q q => by
  cases rx <;> cases ry <;> first | cases e; done | skip
  · rename_i a vs ds h r i
    obtain ⟨v, h1, h2⟩ := atI_rps r e
    exact .inr ⟨a, vs, i, v, rfl, rfl, SqT.of (S.hc _ _ h), h1, q v Hc H (Same.refl _) S h2⟩
  · rename_i a vs ds h r i
    obtain ⟨v, h1, h2⟩ := atI_rps r e
    exact .inl ⟨a, vs, i, v, rfl, rfl, SqL.of (S.hc _ _ h), h1, q v Hc H (Same.refl _) S h2⟩
theorem oIn {neg : Bool} : OpS T (rIn T.K neg) (gIn neg) := fun Fr Hc σ H ρ x y dx dy d S rx ry e Q q => by
  cases ry <;> first | (cases dx <;> cases e; done) | skip
  · rename_i a vs ds h r
    have e' : ((vD dx).bind fun v => (vDs ds).map fun vs => D.bl (if neg then !inV v vs else inV v vs)) = some d := e
    cases e1 : vD dx with
    | none => rw [e1] at e'; cases e'
    | some v =>
      cases e2 : vDs ds with
      | none => rw [e1, e2] at e'; cases e'
      | some us =>
        rw [e1, e2] at e'
        cases e'
        obtain ⟨rfl, f1⟩ := vD_ok rx e1
        obtain ⟨rfl, f2⟩ := vDs_ok r e2
        exact ⟨a, vs, rfl, .inr (SqT.of (S.hc _ _ h)), f1, f2, q _ Hc H (Same.refl _) S (.bl _)⟩
  · rename_i a vs ds h r
    have e' : ((vD dx).bind fun v => (vDs ds).map fun vs => D.bl (if neg then !inV v vs else inV v vs)) = some d := e
    cases e1 : vD dx with
    | none => rw [e1] at e'; cases e'
    | some v =>
      cases e2 : vDs ds with
      | none => rw [e1, e2] at e'; cases e'
      | some us =>
        rw [e1, e2] at e'
        cases e'
        obtain ⟨rfl, f1⟩ := vD_ok rx e1
        obtain ⟨rfl, f2⟩ := vDs_ok r e2
        exact ⟨a, vs, rfl, .inl (SqL.of (S.hc _ _ h)), f1, f2, q _ Hc H (Same.refl _) S (.bl _)⟩
theorem gEq_some {neg : Bool} {x y d : D} (e : gEq neg x y = some d) : ∃ p q, pyD x = some p ∧ pyD y = some q ∧ SeqAt.shaped p = true ∧ SeqAt.shaped q = true ∧ d = .bl (if neg then !PyData.eqv p q else PyData.eqv p q) := by
  unfold gEq at e
  cases e1 : pyD x with
  | none => rw [e1] at e; cases e
  | some p =>
    cases e2 : pyD y with
    | none => rw [e1, e2] at e; cases e
    | some q =>
      rw [e1, e2] at e
      simp only [Option.bind_some] at e
      by_cases c : SeqAt.shaped p = true ∧ SeqAt.shaped q = true
      · rw [if_pos c] at e
        cases e
        exact ⟨p, q, rfl, rfl, c.1, c.2, rfl⟩
      · rw [if_neg c] at e; cases e
theorem oEq : OpS T (rEqD T.K) (gEq false) := fun Fr Hc σ H ρ x y dx dy d S rx ry e Q q => by
  obtain ⟨p, p', h1, h2, h3, h4, rfl⟩ := gEq_some e
  exact ⟨p, p', pyD_ok (rx.mono S.hc) h1, pyD_ok (ry.mono S.hc) h2, h3, h4, q _ Hc H (Same.refl _) S (.bl _)⟩
theorem oNe : OpS T (rNeD T.K) (gEq true) := fun Fr Hc σ H ρ x y dx dy d S rx ry e Q q => by
  obtain ⟨p, p', h1, h2, h3, h4, rfl⟩ := gEq_some e
  exact ⟨p, p', pyD_ok (rx.mono S.hc) h1, pyD_ok (ry.mono S.hc) h2, h3, h4, q _ Hc H (Same.refl _) S (.bl _)⟩
end
/-! ### built-ins by data -/
def cLen : List D → Option D
  | [.lst ds] => some (.int ds.length)
  | [.tup ds] => some (.int ds.length)
  | [.scr ns] => some (.int ns.length)
  | _ => none
def cLenD : List D → Option D
  | [.dic ds] => some (.int ds.length)
  | _ => none
def cList : List D → Option D
  | [.lst ds] => some (.lst ds)
  | [.tup ds] => some (.lst ds)
  | _ => none
def cTuple : List D → Option D
  | [.lst ds] => some (.tup ds)
  | [.tup ds] => some (.tup ds)
  | _ => none
def intsD : List D → Option (List Int)
  | [] => some []
  | .int i :: r => (intsD r).map fun is => i :: is
  | _ :: _ => none
def boolsD : List D → Option (List Bool)
  | [] => some []
  | .bl i :: r => (boolsD r).map fun is => i :: is
  | _ :: _ => none
def cSum : List D → Option D
  | [.lst ds] => (intsD ds).map fun is => .int is.sum
  | _ => none
def cAny : List D → Option D
  | [.lst ds] => (boolsD ds).map fun bs => .bl (bs.any id)
  | _ => none
def cAll : List D → Option D
  | [.lst ds] => (boolsD ds).map fun bs => .bl (bs.all id)
  | _ => none
def cMin2 : List D → Option D
  | [.int i, .int j] => some (.int (if j < i then j else i))
  | _ => none
def cMax2 : List D → Option D
  | [.int i, .int j] => some (.int (if j > i then j else i))
  | _ => none
def minI : List Int → Option Int
  | [] => none
  | i :: r => some (r.foldl (fun a b => if b < a then b else a) i)
def maxI : List Int → Option Int
  | [] => none
  | i :: r => some (r.foldl (fun a b => if a < b then b else a) i)
def cMinL : List D → Option D
  | [.lst ds] => (intsD ds).bind fun is => (minI is).map .int
  | _ => none
def cMaxL : List D → Option D
  | [.lst ds] => (intsD ds).bind fun is => (maxI is).map .int
  | _ => none
def cInt : List D → Option D
  | [.int i] => some (.int i)
  | [.bl b] => some (.int (if b then 1 else 0))
  | _ => none
def cAbs : List D → Option D
  | [.int i] => some (.int (if i < 0 then -i else i))
  | _ => none
def tyD : D → Option String
  | .non => some "NoneType"
  | .bl _ => some "bool"
  | .int _ => some "int"
  | .str _ => some "str"
  | .tup _ => some "tuple"
  | .lst _ => some "list"
  | _ => none
def isB (a b : String) : Bool := a == b || (a == "bool" && b == "int")
section
variable {T : Tab} {H : Hp}
theorem intsD_ok : ∀ {ds : List D} {is : List Int}, intsD ds = some is → ds = is.map .int
  | [], _, e => by cases e; rfl
  | .int i :: r, is, e => by
    unfold intsD at e
    cases e1 : intsD r with
    | none => rw [e1] at e; cases e
    | some js => rw [e1] at e; cases e; rw [List.map_cons, intsD_ok e1]
  | .non :: _, _, e => by cases e
  | .bl _ :: _, _, e => by cases e
  | .str _ :: _, _, e => by cases e
  | .tup _ :: _, _, e => by cases e
  | .lst _ :: _, _, e => by cases e
  | .dic _ :: _, _, e => by cases e
  | .ins _ _ :: _, _, e => by cases e
  | .scr _ :: _, _, e => by cases e
theorem boolsD_ok : ∀ {ds : List D} {is : List Bool}, boolsD ds = some is → ds = is.map .bl
  | [], _, e => by cases e; rfl
  | .bl i :: r, is, e => by
    unfold boolsD at e
    cases e1 : boolsD r with
    | none => rw [e1] at e; cases e
    | some js => rw [e1] at e; cases e; rw [List.map_cons, boolsD_ok e1]
  | .non :: _, _, e => by cases e
  | .int _ :: _, _, e => by cases e
  | .str _ :: _, _, e => by cases e
  | .tup _ :: _, _, e => by cases e
  | .lst _ :: _, _, e => by cases e
  | .dic _ :: _, _, e => by cases e
  | .ins _ _ :: _, _, e => by cases e
  | .scr _ :: _, _, e => by cases e
theorem one {vs : List V} {d : D} (r : Rps T H vs [d]) : ∃ v, vs = [v] ∧ Rp T H v d := by
  cases r with
  | cons h t => cases t; exact ⟨_, rfl, h⟩
theorem two {vs : List V} {d e : D} (r : Rps T H vs [d, e]) : ∃ v u, vs = [v, u] ∧ Rp T H v d ∧ Rp T H u e := by
  cases r with
  | cons h t =>
    cases t with
    | cons h' t' => cases t'; exact ⟨_, _, rfl, h, h'⟩
theorem oLen : ClS T (fun xs H Q => ∃ x n, xs = [x] ∧ LenV T.K x H n ∧ Q (.int n) H) cLen := fun Fr Hc σ H ρ xs ds d S r e Q q => by
  unfold cLen at e
  split at e
  · cases e
    obtain ⟨v, rfl, rv⟩ := one r
    cases rv with
    | lst h r' => exact ⟨_, _, rfl, .inl ⟨_, SqL.of (S.hc _ _ h), r'.length.symm⟩, q _ Hc H (Same.refl _) S (.int _)⟩
  · cases e
    obtain ⟨v, rfl, rv⟩ := one r
    cases rv with
    | tup h r' => exact ⟨_, _, rfl, .inr ⟨_, SqT.of (S.hc _ _ h), r'.length.symm⟩, q _ Hc H (Same.refl _) S (.int _)⟩
  · cases e
    obtain ⟨v, rfl, rv⟩ := one r
    cases rv with
    | scr h => exact ⟨_, _, rfl, .inl ⟨_, same_sql S.hc h, by rw [List.length_map]⟩, q _ Hc H (Same.refl _) S (.int _)⟩
  · cases e
theorem oLenD : ClS T rLenT cLenD := fun Fr Hc σ H ρ xs ds d S r e Q q => by
  unfold cLenD at e
  split at e
  · cases e
    obtain ⟨v, rfl, rv⟩ := one r
    cases rv with
    | dic h r' => exact ⟨_, _, rfl, S.hc _ _ h, by rw [r'.length]; exact q _ Hc H (Same.refl _) S (.int _)⟩
  · cases e
theorem oList : ClN T (fun xs H Q => ∃ p ys, xs = [.ref p] ∧ (SqL T.K H p ys ∨ SqT T.K H p ys) ∧ ∀ l, H l = none → Q (.ref l) (upd H l (.lst ys))) cList := fun Fr Hc σ H ρ xs ds d S r e Q q => by
  unfold cList at e
  split at e
  · cases e
    obtain ⟨v, rfl, rv⟩ := one r
    cases rv with
    | lst h r' =>
      refine ⟨_, _, rfl, .inl (SqL.of (S.hc _ _ h)), fun p hp => ?_⟩
      obtain ⟨S2, n⟩ := Nw.laid S (d := .lst _) hp ⟨_, rfl, r'⟩
      exact q p Hc _ (Same.refl _) S2 n
  · cases e
    obtain ⟨v, rfl, rv⟩ := one r
    cases rv with
    | tup h r' =>
      refine ⟨_, _, rfl, .inr (SqT.of (S.hc _ _ h)), fun p hp => ?_⟩
      obtain ⟨S2, n⟩ := Nw.laid S (d := .lst _) hp ⟨_, rfl, r'⟩
      exact q p Hc _ (Same.refl _) S2 n
  · cases e
theorem oTuple : ClS T (fun xs H Q => ∃ p ys, xs = [.ref p] ∧ ((SqL T.K H p ys ∧ ∀ l, H l = none → Q (.ref l) (upd H l (.tup ys))) ∨ (SqT T.K H p ys ∧ Q (.ref p) H))) cTuple := fun Fr Hc σ H ρ xs ds d S r e Q q => by
  unfold cTuple at e
  split at e
  · cases e
    obtain ⟨v, rfl, rv⟩ := one r
    cases rv with
    | lst h r' =>
      refine ⟨_, _, rfl, .inl ⟨SqL.of (S.hc _ _ h), fun p hp => ?_⟩⟩
      obtain ⟨e2, S2⟩ := S.laid hp
      exact q _ _ _ e2 S2 (.tup upd_same (r'.mono e2))
  · cases e
    obtain ⟨v, rfl, rv⟩ := one r
    cases rv with
    | tup h r' => exact ⟨_, _, rfl, .inr ⟨SqT.of (S.hc _ _ h), q _ Hc H (Same.refl _) S (.tup h r')⟩⟩
  · cases e
theorem oSum : ClS T (rSum T.K) cSum := fun Fr Hc σ H ρ xs ds d S r e Q q => by
  unfold cSum at e
  split at e
  · rename_i ds'
    cases e1 : intsD ds' with
    | none => rw [e1] at e; cases e
    | some is =>
      rw [e1] at e
      cases e
      obtain ⟨v, rfl, rv⟩ := one r
      cases rv with
      | lst h r' =>
        rw [intsD_ok e1] at r'
        have z := r'.int_inv
        subst z
        exact ⟨_, is, rfl, SqL.of (S.hc _ _ h), q _ Hc H (Same.refl _) S (.int _)⟩
  · cases e
theorem oAny : ClS T (rAny T.K) cAny := fun Fr Hc σ H ρ xs ds d S r e Q q => by
  unfold cAny at e
  split at e
  · rename_i ds'
    cases e1 : boolsD ds' with
    | none => rw [e1] at e; cases e
    | some is =>
      rw [e1] at e
      cases e
      obtain ⟨v, rfl, rv⟩ := one r
      cases rv with
      | lst h r' =>
        rw [boolsD_ok e1] at r'
        have z := r'.bl_inv
        subst z
        exact ⟨_, is, rfl, SqL.of (S.hc _ _ h), q _ Hc H (Same.refl _) S (.bl _)⟩
  · cases e
theorem oAll : ClS T (rAll T.K) cAll := fun Fr Hc σ H ρ xs ds d S r e Q q => by
  unfold cAll at e
  split at e
  · rename_i ds'
    cases e1 : boolsD ds' with
    | none => rw [e1] at e; cases e
    | some is =>
      rw [e1] at e
      cases e
      obtain ⟨v, rfl, rv⟩ := one r
      cases rv with
      | lst h r' =>
        rw [boolsD_ok e1] at r'
        have z := r'.bl_inv
        subst z
        exact ⟨_, is, rfl, SqL.of (S.hc _ _ h), q _ Hc H (Same.refl _) S (.bl _)⟩
  · cases e
theorem fold_min : ∀ (r : List Int) (i : Int), (r.foldl (fun a b => if b < a then b else a) i) ∈ i :: r ∧ ∀ y ∈ i :: r, (r.foldl (fun a b => if b < a then b else a) i) ≤ y
  | [], i => ⟨List.mem_cons_self, fun y hy => by simp at hy; simp [hy]⟩
  | j :: r, i => by
    rw [List.foldl_cons]
    by_cases c : j < i
    · rw [if_pos c]
      obtain ⟨h1, h2⟩ := fold_min r j
      refine ⟨List.mem_cons_of_mem _ h1, fun y hy => ?_⟩
      rcases List.mem_cons.mp hy with rfl | hy
      · have := h2 j List.mem_cons_self; omega
      · exact h2 y hy
    · rw [if_neg c]
      obtain ⟨h1, h2⟩ := fold_min r i
      refine ⟨?_, fun y hy => ?_⟩
      · rcases List.mem_cons.mp h1 with h | h
        · rw [h]; exact List.mem_cons_self
        · exact List.mem_cons_of_mem _ (List.mem_cons_of_mem _ h)
      · rcases List.mem_cons.mp hy with rfl | hy
        · exact h2 _ List.mem_cons_self
        · rcases List.mem_cons.mp hy with rfl | hy
          · have := h2 i List.mem_cons_self; omega
          · exact h2 y (List.mem_cons_of_mem _ hy)
theorem fold_max : ∀ (r : List Int) (i : Int), (r.foldl (fun a b => if a < b then b else a) i) ∈ i :: r ∧ ∀ y ∈ i :: r, y ≤ (r.foldl (fun a b => if a < b then b else a) i)
  | [], i => ⟨List.mem_cons_self, fun y hy => by simp at hy; simp [hy]⟩
  | j :: r, i => by
    rw [List.foldl_cons]
    by_cases c : i < j
    · rw [if_pos c]
      obtain ⟨h1, h2⟩ := fold_max r j
      refine ⟨List.mem_cons_of_mem _ h1, fun y hy => ?_⟩
      rcases List.mem_cons.mp hy with rfl | hy
      · have := h2 j List.mem_cons_self; omega
      · exact h2 y hy
    · rw [if_neg c]
      obtain ⟨h1, h2⟩ := fold_max r i
      refine ⟨?_, fun y hy => ?_⟩
      · rcases List.mem_cons.mp h1 with h | h
        · rw [h]; exact List.mem_cons_self
        · exact List.mem_cons_of_mem _ (List.mem_cons_of_mem _ h)
      · rcases List.mem_cons.mp hy with rfl | hy
        · exact h2 _ List.mem_cons_self
        · rcases List.mem_cons.mp hy with rfl | hy
          · have := h2 i List.mem_cons_self; omega
          · exact h2 y (List.mem_cons_of_mem _ hy)
theorem oMinL : ClS T (rMin T.K) cMinL := fun Fr Hc σ H ρ xs ds d S r e Q q => by
  unfold cMinL at e
  split at e
  · rename_i ds'
    cases e1 : intsD ds' with
    | none => rw [e1] at e; cases e
    | some is =>
      rw [e1] at e
      cases is with
      | nil => cases e
      | cons i t =>
        cases e
        obtain ⟨v, rfl, rv⟩ := one r
        cases rv with
        | lst h r' =>
          rw [intsD_ok e1] at r'
          have z := r'.int_inv
          subst z
          obtain ⟨f1, f2⟩ := fold_min t i
          refine ⟨_, i :: t, rfl, SqL.of (S.hc _ _ h), by simp, fun m h1 h2 => ?_⟩
          have z : m = t.foldl (fun a b => if b < a then b else a) i := by
            have a1 := h2 _ f1
            have a2 := f2 m h1
            omega
          rw [z]
          exact q _ Hc H (Same.refl _) S (.int _)
  · cases e
theorem oMaxL : ClS T (rMax T.K) cMaxL := fun Fr Hc σ H ρ xs ds d S r e Q q => by
  unfold cMaxL at e
  split at e
  · rename_i ds'
    cases e1 : intsD ds' with
    | none => rw [e1] at e; cases e
    | some is =>
      rw [e1] at e
      cases is with
      | nil => cases e
      | cons i t =>
        cases e
        obtain ⟨v, rfl, rv⟩ := one r
        cases rv with
        | lst h r' =>
          rw [intsD_ok e1] at r'
          have z := r'.int_inv
          subst z
          obtain ⟨f1, f2⟩ := fold_max t i
          refine ⟨_, i :: t, rfl, SqL.of (S.hc _ _ h), by simp, fun m h1 h2 => ?_⟩
          have z : m = t.foldl (fun a b => if a < b then b else a) i := by
            have a1 := h2 _ f1
            have a2 := f2 m h1
            omega
          rw [z]
          exact q _ Hc H (Same.refl _) S (.int _)
  · cases e
theorem oMin2 : ClS T (fun xs H Q => ∃ i j, xs = [.int i, .int j] ∧ Q (.int (if j < i then j else i)) H) cMin2 := fun Fr Hc σ H ρ xs ds d S r e Q q => by
  unfold cMin2 at e
  split at e
  · cases e
    obtain ⟨v, u, rfl, rv, ru⟩ := two r
    cases rv; cases ru
    exact ⟨_, _, rfl, q _ Hc H (Same.refl _) S (.int _)⟩
  · cases e
theorem oMax2 : ClS T (fun xs H Q => ∃ i j, xs = [.int i, .int j] ∧ Q (.int (if j > i then j else i)) H) cMax2 := fun Fr Hc σ H ρ xs ds d S r e Q q => by
  unfold cMax2 at e
  split at e
  · cases e
    obtain ⟨v, u, rfl, rv, ru⟩ := two r
    cases rv; cases ru
    exact ⟨_, _, rfl, q _ Hc H (Same.refl _) S (.int _)⟩
  · cases e
theorem oInt : ClS T (fun xs H Q => (∃ i, xs = [.int i] ∧ Q (.int i) H) ∨ ∃ k, xs = [.bl k] ∧ Q (.int (if k then 1 else 0)) H) cInt := fun Fr Hc σ H ρ xs ds d S r e Q q => by
  unfold cInt at e
  split at e
  · cases e
    obtain ⟨v, rfl, rv⟩ := one r
    cases rv
    exact .inl ⟨_, rfl, q _ Hc H (Same.refl _) S (.int _)⟩
  · cases e
    obtain ⟨v, rfl, rv⟩ := one r
    cases rv
    exact .inr ⟨_, rfl, q _ Hc H (Same.refl _) S (.int _)⟩
  · cases e
theorem oAbs : ClS T (fun xs H Q => ∃ i, xs = [.int i] ∧ Q (.int (if i < 0 then -i else i)) H) cAbs := fun Fr Hc σ H ρ xs ds d S r e Q q => by
  unfold cAbs at e
  split at e
  · cases e
    obtain ⟨v, rfl, rv⟩ := one r
    cases rv
    exact ⟨_, rfl, q _ Hc H (Same.refl _) S (.int _)⟩
  · cases e
end
end PD
set_option maxRecDepth 100000
/-! PD5: the rules as they are used over the text. -/
namespace PD
open PySem PySem.Spec PyProof.Rows L2
section
variable {T : Tab} {W : WX} {X : Cx} {a b c e o : Expr} {es : List Expr} {fa fb fc fo fe : M D} {fA : M (List D)} {ft fu fv : M Bool} {pos p apos cpos : Pos}
theorem x_var {i : Nat} (h : PE X e (tVar i)) : SimE T W X e (eVar i) := sim_of h rd_var
theorem x_int {i j} : SimE T W X (.Constant (.int i) j pos) (eC (.int i)) := sim_of pe_int (rd_c fun _ => .int _)
theorem x_bl {i j} : SimE T W X (.Constant (.bool i) j pos) (eC (.bl i)) := sim_of pe_bl (rd_c fun _ => .bl _)
theorem x_str {i j} : SimE T W X (.Constant (.str i) j pos) (eC (.str i)) := sim_of pe_str (rd_c fun _ => .str _)
theorem x_non {j} : SimE T W X (.Constant .none j pos) (eC .non) := sim_of pe_non (rd_c fun _ => .non)
theorem x_gint {x : Str} {i : Int} (hg : Gl X x) (hm : ∃ t, X.mg x = some (.int i t)) (hd : (x == ("__debug__" : Str)) = false := by decide) : SimE T W X (.Name x pos) (eC (.int i)) := by
  obtain ⟨t, h⟩ := hm
  exact sim_of (pe_glob (v := .int i) hg h ⟨t, rfl⟩ hd) (rd_c fun _ => .int _)
theorem x_bin {op : Operator} {r : R2} {g : D → D → Option D} (ho : OpR X (binaryOp op) r) (og : OpS T r g) (ha : SimE T W X a fa) (hb : SimE T W X b fb) : SimE T W X (.BinOp a op b pos) (e2 g fa fb) := sim_of (pe_op ho pe_tE pe_tE) (rd_op og ha hb)
theorem x_binN {op : Operator} {r : R2} {g : D → D → Option D} (ho : OpR X (binaryOp op) r) (og : OpN T r g) (ha : SimE T W X a fa) (hb : SimE T W X b fb) : SimN T W X (.BinOp a op b pos) (e2 g fa fb) := simN_of (pe_op ho pe_tE pe_tE) (rd_opN og ha hb)
def cPow (i j : Int) : Bool := decide (0 ≤ j ∧ j ≤ 1000000 ∧ i.natAbs < 2 ^ 64)
def cDiv (i j : Int) : Bool := decide (0 < j ∧ j < 1073741824)
def cMul (i j : Int) : Bool := decide ((-(2 ^ 64) < i ∧ i < 2 ^ 64) ∨ (-(2 ^ 64) < j ∧ j < 2 ^ 64))
def cMod (_ j : Int) : Bool := decide (0 < j)
theorem cMul_ok {i j : Int} (h : cMul i j = true) : CMul i j := by unfold cMul at h; have q := of_decide_eq_true h; exact q
theorem cDiv_ok {i j : Int} (h : cDiv i j = true) : CDiv i j := by unfold cDiv at h; have q := of_decide_eq_true h; exact q
theorem cPow_ok {i j : Int} (h : cPow i j = true) : CPow i j := by unfold cPow at h; have q := of_decide_eq_true h; exact q
theorem x_add (ha : SimE T W X a fa) (hb : SimE T W X b fb) : SimE T W X (.BinOp a .Add b pos) (e2 (gI fun i j => i + j) fa fb) := x_bin op_add oI ha hb
theorem x_sub (ha : SimE T W X a fa) (hb : SimE T W X b fb) : SimE T W X (.BinOp a .Sub b pos) (e2 (gI fun i j => i - j) fa fb) := x_bin op_sub oI ha hb
theorem x_mul (ha : SimE T W X a fa) (hb : SimE T W X b fb) : SimE T W X (.BinOp a .Mult b pos) (e2 (gIc cMul fun i j => i * j) fa fb) := x_bin op_mul (oIc fun _ _ h => cMul_ok h) ha hb
theorem x_fdiv (ha : SimE T W X a fa) (hb : SimE T W X b fb) : SimE T W X (.BinOp a .FloorDiv b pos) (e2 (gIc cDiv fun i j => i / j) fa fb) := x_bin op_fdiv (oIc fun _ _ h => cDiv_ok h) ha hb
theorem x_mod (ha : SimE T W X a fa) (hb : SimE T W X b fb) : SimE T W X (.BinOp a .Mod b pos) (e2 (gIc cMod fun i j => i % j) fa fb) := x_bin op_mod (oIc fun _ _ h => of_decide_eq_true h) ha hb
theorem x_pow (ha : SimE T W X a fa) (hb : SimE T W X b fb) : SimE T W X (.BinOp a .Pow b pos) (e2 (gIc cPow fun i j => i ^ j.toNat) fa fb) := x_bin op_pow (oIc fun _ _ h => cPow_ok h) ha hb
theorem x_catL (ha : SimE T W X a fa) (hb : SimE T W X b fb) : SimN T W X (.BinOp a .Add b pos) (e2 gCatL fa fb) := x_binN op_cat oCatL ha hb
theorem x_catT (hK : T.K = X.K) (ha : SimE T W X a fa) (hb : SimE T W X b fb) : SimE T W X (.BinOp a .Add b pos) (e2 gCatT fa fb) := x_bin op_catA (by rw [← hK]; exact oCatT) ha hb
theorem x_rep (ha : SimE T W X a fa) (hb : SimE T W X b fb) : SimN T W X (.BinOp a .Mult b pos) (e2 gRep fa fb) := x_binN op_rep oRep ha hb
theorem x_neg (ha : SimE T W X a fa) : SimE T W X (.UnaryOp .USub a pos) (e1 (gU fun i => -i) fa) := sim_of (pe_un un_neg pe_tE) (rd_un oU ha)
/-! comparisons, as values and as tests -/
theorem x_cmp {op : CmpOp} {r : R2} {g : D → D → Option D} (ho : OpR X (compareOp op) r) (og : OpS T r g) (hm : behindInMarks op b = false) (ha : SimE T W X a fa) (hb : SimE T W X b fb) : SimE T W X (.Compare a [op] [b] pos) (e2 g fa fb) := sim_of (pe_cmpR ho pe_tE pe_tE hm) (rd_op og ha hb)
theorem t_cmp {op : CmpOp} {r : R2} {g : D → D → Option D} (ho : OpR X (compareOp op) r) (og : OpS T r g) (hm : behindInMarks op b = false) (ha : SimE T W X a fa) (hb : SimE T W X b fb) : SimT T W X (.Compare a [op] [b] pos) (eT (e2 g fa fb)) := simT_of (pt_cmpR ho pe_tE pe_tE hm) (rd_test (rd_op og ha hb))
theorem x_chain {op op' : CmpOp} {r r' : R2} {g g' : D → D → Option D} (ho : OpR X (compareOp op) r) (ho' : OpR X (compareOp op') r') (og : OpS T r g) (og' : OpS T r' g') (ha : SimE T W X a fa) (hb : SimE T W X b fb) (hc : SimE T W X c fc) (hm : lastMarks [op, op'] [b, c] = false := by with_unfolding_all rfl) :
    SimE T W X (.Compare a [op, op'] [b, c] pos) (eCh g g' fa fb fc) := sim_of (pe_chain ho ho' pe_tE pe_tE pe_tE hm) (rd_chain og og' ha hb hc)
theorem t_chain {op op' : CmpOp} {r r' : R2} {g g' : D → D → Option D} (ho : OpR X (compareOp op) r) (ho' : OpR X (compareOp op') r') (og : OpS T r g) (og' : OpS T r' g') (ha : SimE T W X a fa) (hb : SimE T W X b fb) (hc : SimE T W X c fc) (hm : lastMarks [op, op'] [b, c] = false := by with_unfolding_all rfl) :
    SimT T W X (.Compare a [op, op'] [b, c] pos) (eT (eCh g g' fa fb fc)) := simT_of (pt_chain ho ho' pe_tE pe_tE pe_tE hm) (rd_test (rd_chain og og' ha hb hc))
theorem t_val (ha : SimE T W X e fe) (he : ∀ whole, isTrue e X.env whole = (do let v ← whole; standAt e.pos; holding [v] (truthy v)) := by intro _; rfl) : SimT T W X e (eT fe) := simT_of (pt_val pe_tE he) (rd_B ha)
theorem t_not (h : SimT T W X a ft) : SimT T W X (.UnaryOp .Not a pos) (eNot ft) := simT_of (pt_not pt_tT) (rd_not h)
theorem t_and2 (ha : SimT T W X a ft) (hb : SimT T W X b fu) : SimT T W X (.BoolOp .And [a, b] pos) (eAnd ft fu) := simT_of (pw_and pt_tT (pw_and1 pt_tT)).pt (rd_and ha hb)
theorem t_or2 (ha : SimT T W X a ft) (hb : SimT T W X b fu) : SimT T W X (.BoolOp .Or [a, b] pos) (eOr ft fu) := simT_of (pw_or pt_tT (pw_or1 pt_tT)).pt (rd_or ha hb)
theorem t_and3 (ha : SimT T W X a ft) (hb : SimT T W X b fu) (hc : SimT T W X c fv) : SimT T W X (.BoolOp .And [a, b, c] pos) (eAnd ft (eAnd fu fv)) := simT_of (pw_and pt_tT (pw_and pt_tT (pw_and1 pt_tT))).pt (rd_and ha (rd_and hb hc))
theorem t_or3 (ha : SimT T W X a ft) (hb : SimT T W X b fu) (hc : SimT T W X c fv) : SimT T W X (.BoolOp .Or [a, b, c] pos) (eOr ft (eOr fu fv)) := simT_of (pw_or pt_tT (pw_or pt_tT (pw_or1 pt_tT))).pt (rd_or ha (rd_or hb hc))
theorem x_and2 (ha : SimE T W X a fa) (hb : SimE T W X b fb) : SimE T W X (.BoolOp .And [a, b] pos) (eAndV fa fb) := sim_of (pe_and pe_tE (pe_one pe_tE)) (rd_andV ha hb)
theorem x_or2 (ha : SimE T W X a fa) (hb : SimE T W X b fb) : SimE T W X (.BoolOp .Or [a, b] pos) (eOrV fa fb) := sim_of (pe_or pe_tE (pe_one pe_tE)) (rd_orV ha hb)
theorem x_and3 (ha : SimE T W X a fa) (hb : SimE T W X b fb) (hc : SimE T W X c fc) : SimE T W X (.BoolOp .And [a, b, c] pos) (eAndV fa (eAndV fb fc)) := sim_of (pe_and pe_tE (pe_and pe_tE (pe_one pe_tE))) (rd_andV ha (rd_andV hb hc))
theorem x_not (ha : SimE T W X a fa) : SimE T W X (.UnaryOp .Not a pos) (eNotV fa) := sim_of (pe_not pe_tE) (rd_notV ha)
theorem x_ifE (hc : SimT T W X c ft) (ha : SimE T W X a fa) (hb : SimE T W X b fb) : SimE T W X (.IfExp c a b pos) (eIf ft fa fb) := sim_of (pe_ifExp pt_tT pe_tE pe_tE) (rd_if hc ha hb)
/-- a value's truth: a list, a tuple, an int, None, a bool -/
def eTru (f : M D) : M Bool := fun ρ => (f ρ).bind fun x ρ1 => match x with
  | .lst ds => .ok (!ds.isEmpty) ρ1
  | .tup ds => .ok (!ds.isEmpty) ρ1
  | .int i => .ok (i != 0) ρ1
  | .bl b => .ok b ρ1
  | .non => .ok false ρ1
  | _ => .stuck
theorem Rps.isEmpty {H : Hp} {vs : List V} {ds : List D} (r : Rps T H vs ds) : vs.isEmpty = ds.isEmpty := by cases r <;> rfl
theorem t_tru (ha : SimE T W X e fe) (he : ∀ whole, isTrue e X.env whole = (do let v ← whole; standAt e.pos; holding [v] (truthy v)) := by intro _; rfl) : SimT T W X e (eTru fe) := by
  refine simT_of (pt_truth pe_tE he) fun Fr Hc σ H ρ S Q P => ?_
  refine ha.use S (PostR.bind P) fun d ρ1 v Hc1 H1 e1 S1 P1 r1 => ?_
  cases r1 with
  | lst h r => exact ⟨_, .inl ⟨_, SqL.of (S1.hc _ _ h), rfl⟩, by rw [r.isEmpty]; exact P1 Hc1 H1 (Same.refl _) S1⟩
  | tup h r => exact ⟨_, .inr (.inl ⟨_, SqT.of (S1.hc _ _ h), rfl⟩), by rw [r.isEmpty]; exact P1 Hc1 H1 (Same.refl _) S1⟩
  | int i => exact ⟨_, rfl, P1 Hc1 H1 (Same.refl _) S1⟩
  | bl i => exact ⟨_, rfl, P1 Hc1 H1 (Same.refl _) S1⟩
  | non => exact ⟨_, rfl, P1 Hc1 H1 (Same.refl _) S1⟩
  | _ => exact P1.elim
/-! displays, arguments -/
theorem a_nil : SimA T W X [] aNil := simA_of pa_nil rd_nil
theorem a_cons (ha : SimE T W X a fa) (hr : SimA T W X es fA) (hs : starEach (a :: es) X.env = (false, eval a X.env) :: starEach es X.env := by rfl) : SimA T W X (a :: es) (aCons fa fA) := simA_of (pa_cons pe_tE pa_tA hs) (rd_cons ha hr)
theorem x_tup {k} (h : SimA T W X es fA) : SimE T W X (.Tuple es k pos) (eTup fA) := sim_of (pe_tup pa_tA) (rd_tup h)
theorem x_lst (h : SimA T W X es fA) : SimN T W X (.List es pos) (eLst fA) := simN_of (pe_lst pa_tA) (rd_lst h)
theorem x_dicN : SimN T W X (.Dict [] [] pos) (eC (.dic [])) := simN_of pe_dnewT fun Fr Hc σ H ρ S Q P q hq => by
  obtain ⟨S2, n⟩ := Nw.laid S (o := .dT []) (d := .dic []) hq ⟨_, rfl, .nil⟩
  exact P Hc _ (Same.refl _) S2 q n
/-! built-ins -/
theorem x_callB {id : String} {x : Str} {r : List V → Hp → VK → Prop} {g : List D → Option D} (hc : CallR X (.builtin id) r) (og : ClS T r g) (hg : Gl X x) (hm : X.mg x = none) (hv : bootBuiltins x = some (.builtin id)) (ha : SimA T W X (e :: es) fA)
    (hn : x ≠ "__name__" := by decide) (hdb : (x == ("__debug__" : Str)) = false := by decide) (he : starEach (e :: es) X.env = (false, eval e X.env) :: starEach es X.env := by rfl) (hpl : (backTo pos (starEach es X.env)).any (·.1) = false := by rfl) :
    SimE T W X (.Call (.Name x p) (e :: es) [] pos) (eCall g fA) := sim_of (pe_callB hc hg hm hv pa_tA hn hdb he hpl) (rd_call og ha)
theorem x_callTy {id : String} {x : Str} {r : List V → Hp → VK → Prop} {g : List D → Option D} (hc : CallR X (.type id) r) (og : ClS T r g) (hg : Gl X x) (hm : X.mg x = none) (hv : bootBuiltins x = some (.type id)) (ha : SimA T W X (e :: es) fA)
    (hn : x ≠ "__name__" := by decide) (hdb : (x == ("__debug__" : Str)) = false := by decide) (he : starEach (e :: es) X.env = (false, eval e X.env) :: starEach es X.env := by rfl) (hpl : (backTo pos (starEach es X.env)).any (·.1) = false := by rfl) :
    SimE T W X (.Call (.Name x p) (e :: es) [] pos) (eCall g fA) := sim_of (pe_callTy hc hg hm hv pa_tA hn hdb he hpl) (rd_call og ha)
theorem x_callTyN {id : String} {x : Str} {r : List V → Hp → VK → Prop} {g : List D → Option D} (hc : CallR X (.type id) r) (og : ClN T r g) (hg : Gl X x) (hm : X.mg x = none) (hv : bootBuiltins x = some (.type id)) (ha : SimA T W X (e :: es) fA)
    (hn : x ≠ "__name__" := by decide) (hdb : (x == ("__debug__" : Str)) = false := by decide) (he : starEach (e :: es) X.env = (false, eval e X.env) :: starEach es X.env := by rfl) (hpl : (backTo pos (starEach es X.env)).any (·.1) = false := by rfl) :
    SimN T W X (.Call (.Name x p) (e :: es) [] pos) (eCall g fA) := simN_of (pe_callTy hc hg hm hv pa_tA hn hdb he hpl) (rd_callN og ha)
/-- list(range(n)) -/
def cRange : D → Option D
  | .int n => if n ≤ 100000 ∧ 0 ≤ n then some (.lst ((List.range n.toNat).map fun i => D.int (i : Nat))) else none
  | _ => none
theorem x_listRg {p2 pos2 : Pos} (hc : X.calm = true) (hl : Gl X "list") (hml : X.mg "list" = none) (hg : Gl X "range") (hm : X.mg "range" = none) (ha : SimE T W X a fa)
    (na : starEach [a] X.env = (false, eval a X.env) :: starEach [] X.env := by rfl) (na2 : starEach [.Call (.Name "range" p2) [a] [] pos2] X.env = (false, eval (.Call (.Name "range" p2) [a] [] pos2) X.env) :: starEach [] X.env := by rfl) :
    SimN T W X (.Call (.Name "list" p) [.Call (.Name "range" p2) [a] [] pos2] [] pos) (e1 cRange fa) := by
  refine simN_of (pe_listRg hc hl hml (prg_1 hg hm pe_tE na) na2) fun Fr Hc σ H ρ S Q P => ?_
  refine ha.use S (PostR.bind P) fun d ρ1 v Hc1 H1 e1 S1 P1 r1 => ?_
  obtain ⟨d', hd, k⟩ := P1.some
  cases r1 with
  | int n =>
    unfold cRange at hd
    dsimp only at hd
    by_cases l : n ≤ 100000 ∧ 0 ≤ n
    · rw [if_pos l] at hd
      cases hd
      refine ⟨n, rfl, .of_le (by omega) (by omega) (by omega) l.2, fun q hq => ?_⟩
      have r2 : Rps T Hc1 (rgV 0 n) ((List.range n.toNat).map fun i => D.int (i : Nat)) := by
        unfold rgV
        have e : (fun i : Nat => V.int (0 + (i : Nat))) = fun i : Nat => V.int ((i : Nat) : Int) := by funext i; rw [Int.zero_add]
        rw [e, show (n - 0).toNat = n.toNat by rw [Int.sub_zero]]
        have z := Rps.ints (T := T) (H := Hc1) ((List.range n.toNat).map fun i => ((i : Nat) : Int))
        rw [List.map_map, List.map_map] at z
        exact z
      obtain ⟨S2, n2⟩ := Nw.laid S1 (o := .lst (rgV 0 n)) (d := .lst ((List.range n.toNat).map fun i => D.int (i : Nat))) hq ⟨_, rfl, r2⟩
      exact k Hc1 _ (Same.refl _) S2 q n2
    · rw [if_neg l] at hd; cases hd
  | _ => cases hd
/-! subscripts -/
theorem x_ix (hK : T.K = X.K) (ha : SimE T W X a fa) (hb : SimE T W X b fb) (hs : PlainIx b := by intro _ _; rfl) : SimE T W X (.Subscript a b pos) (e2 gIx fa fb) := by
  have o : OpS T (fun x y H Q => rIxL X.K x y H Q ∨ rIxT X.K x y H Q) gIx := by rw [← hK]; exact oIx
  exact sim_of (pe_ix (ix_list.or ix_tup) pe_tE pe_tE hs) (rd_op o ha hb)
/-- xs[::-1] -/
def gRev : D → Option D
  | .lst ds => some (.lst ds.reverse)
  | _ => none
theorem x_revL {k : Nat} {p1 p2 p3 : Pos} (ha : SimE T W X e fe) : SimN T W X (.Subscript e (.Slice none none (some (.UnaryOp .USub (.Constant (.int 1) k p1) p2)) p3) pos) (e1 gRev fe) := by
  refine simN_of (pe_revL pe_tE) fun Fr Hc σ H ρ S Q P => ?_
  refine ha.use S (PostR.bind P) fun d ρ1 v Hc1 H1 e1 S1 P1 r1 => ?_
  obtain ⟨d', hd, k⟩ := P1.some
  cases r1 with
  | lst h r =>
    cases hd
    refine ⟨_, _, rfl, SqL.of (S1.hc _ _ h), fun q hq => ?_⟩
    obtain ⟨S2, n2⟩ := Nw.laid S1 (d := .lst _) hq ⟨_, rfl, r.reverse⟩
    exact k Hc1 _ (Same.refl _) S2 q n2
  | _ => cases hd
/-- slices with written bounds -/
def cutD (ds : List D) (lo hi : Option Int) : List D := (ds.drop (HT.sIx ds.length 0 lo)).take (HT.sIx ds.length ds.length hi - HT.sIx ds.length 0 lo)
def gSl (lo hi : Option Int) : D → Option D
  | .lst ds => some (.lst (cutD ds lo hi))
  | .scr ns => some (.lst (cutD (ns.map .int) lo hi))
  | _ => none
theorem Rps.cut {H : Hp} {vs : List V} {ds : List D} (r : Rps T H vs ds) (lo hi : Option Int) : Rps T H (cutV vs lo hi) (cutD ds lo hi) := by
  unfold cutV cutD
  rw [r.length]
  exact (r.drop _).take _
def tPartC (i : Option Int) : TO := fun _ H Q => Q i H
theorem x_slL {lo hi : Option Expr} {l u : Option Int} {p2 : Pos} (hK : T.K = X.K) (hl : PO X lo (tPartC l)) (hu : PO X hi (tPartC u)) (ha : SimE T W X e fe) : SimN T W X (.Subscript e (.Slice lo hi none p2) pos) (e1 (gSl l u) fe) := by
  refine simN_of (pe_slice sl_list pe_tE hl hu) fun Fr Hc σ H ρ S Q P => ?_
  refine ha.use S (PostR.bind P) fun d ρ1 v Hc1 H1 e1 S1 P1 r1 => ?_
  obtain ⟨d', hd, k⟩ := P1.some
  cases r1 with
  | lst h r =>
    cases hd
    show rSlL X.K _ l u H1 Q
    refine ⟨_, _, rfl, SqL.of (S1.hc _ _ h), fun q hq => ?_⟩
    obtain ⟨S2, n2⟩ := Nw.laid S1 (d := .lst _) hq ⟨_, rfl, r.cut l u⟩
    exact k Hc1 _ (Same.refl _) S2 q n2
  | @scr a ns h =>
    cases hd
    show rSlL X.K _ l u H1 Q
    refine ⟨_, _, rfl, by rw [← hK]; exact same_sql S1.hc h, fun q hq => ?_⟩
    obtain ⟨S2, n2⟩ := Nw.laid S1 (d := .lst _) hq ⟨_, rfl, (Rps.ints ns).cut l u⟩
    exact k Hc1 _ (Same.refl _) S2 q n2
  | _ => cases hd
theorem po_int {i : Int} {j : Nat} {p : Pos} : PO X (some (.Constant (.int i) j p)) (tPartC (some i)) := by
  have h : PO X (some (.Constant (.int i) j p)) (tPart (tC (.int i))) := po_some pe_int
  exact ⟨fun pins s σ H Q I q => h.run pins s σ H Q I ⟨i, rfl, q⟩⟩
theorem po_no : PO X none (tPartC none) := po_none
end
end PD
set_option maxRecDepth 100000
/-! PD6: statements, targets, loops. -/
namespace PD
open PySem PySem.Spec PyProof.Rows L2
/-! ### blocks -/
section
variable {T : Tab} {W : WX} {X : Cx} {a b c e o : Expr} {es : List Expr} {fa fb fc fo fe : M D} {fA : M (List D)} {ft : M Bool} {pos p pos' : Pos} {st : Stmt} {sts sts' : List Stmt} {g g' : MS} {i : Nat} {x : Str}
theorem b_nil : SimB T W X [] sSkip := simB_of pss_nil rs_skip
theorem b_cons (h1 : SimS T W X st g) (h2 : SimB T W X sts g') : SimB T W X (st :: sts) (sSeq g g') := simB_of (pss_cons ps_tS pss_tS) (rs_seq h1 h2)
theorem b_one (h1 : SimS T W X st g) : SimB T W X [st] g := simB_of (pss_one ps_tS) h1
theorem b_frz (i : Nat) (h : SimB T W X sts g) : SimB T W X sts (sFrz i g) := rs_frz h
theorem b_no : SimB T W X sts sNo := rs_no
theorem s_no : SimS T W X st sNo := rs_no
theorem s_pass : SimS T W X (.Pass pos) sSkip := simS_of ps_pass rs_skip
theorem s_brk : SimS T W X (.Break pos) (fun ρ => .bk ρ) := simS_of ps_break rs_brk
theorem s_cont : SimS T W X (.Continue pos) (fun ρ => .ct ρ) := simS_of ps_continue rs_cont
theorem s_set (i : Nat) (hN : X.N.Nodup) (hi : X.N[i]? = some x) (hx : Loc X.env.scope x) (h0 : i ≠ 0) (he : SimE T W X e fe) (hs : swapsWith e (some (.Name x pos')) pos.line X.env = pure false := by rfl) (hf : X.fn x = true ∨ X.env.scope.names.lookup x = some .local := by first | exact .inl rfl | exact .inr rfl | assumption) :
    SimS T W X (.Assign [.Name x pos'] e pos) (sSet i fe) := simS_of (ps_set hN hi hx pe_tE hs hf) (rs_set he h0)
theorem s_own (i : Nat) (hN : X.N.Nodup) (hi : X.N[i]? = some x) (hx : Loc X.env.scope x) (h0 : i ≠ 0) (he : SimN T W X e fe) (hs : swapsWith e (some (.Name x pos')) pos.line X.env = pure false := by rfl) (hf : X.fn x = true ∨ X.env.scope.names.lookup x = some .local := by first | exact .inl rfl | exact .inr rfl | assumption) :
    SimS T W X (.Assign [.Name x pos'] e pos) (sOwn i fe) := simS_of (ps_set hN hi hx pe_tE hs hf) (rs_own he h0)
theorem s_expr (he : SimE T W X e fe) (hs : swapsWith e none pos.line X.env = pure false := by rfl) : SimS T W X (.Expr e pos) (sExpr fe) := simS_of (ps_expr pe_tE hs) (rs_expr he)
theorem s_ret (he : SimE T W X e fe) : SimS T W X (.Return (some e) pos) (sRet fe) := simS_of (ps_ret pe_tE) (rs_ret he)
theorem s_if (hc : SimT T W X c ft) (h1 : SimB T W X sts g) (h2 : SimB T W X sts' g') : SimS T W X (.If c sts sts' pos) (sIf ft g g') := simS_of (ps_if pt_tT pss_tS pss_tS) (rs_if hc h1 h2)
end
/-! ### targets -/
abbrev GD := D → DEnv → Option DEnv
def RdG (T : Tab) (g : TG) (f : GD) : Prop := ∀ (Fr : Fm) (Hc : Hp) (σ : L2.St) (H : Hp) (ρ ρ' : DEnv) (v : V) (d : D), StC T Fr Hc σ H ρ → Rp T Hc v d → f d ρ = some ρ' → ∀ Q : L2.St → Hp → Prop, (∀ σ', StC T Fr Hc σ' H ρ' → Q σ' H) → g v σ H Q
def RdGs (T : Tab) (g : TGs) (f : List D → DEnv → Option DEnv) : Prop := ∀ (Fr : Fm) (Hc : Hp) (σ : L2.St) (H : Hp) (ρ ρ' : DEnv) (v : List V) (d : List D), StC T Fr Hc σ H ρ → Rps T Hc v d → f d ρ = some ρ' → ∀ Q : L2.St → Hp → Prop, (∀ σ', StC T Fr Hc σ' H ρ' → Q σ' H) → g v σ H Q
def gdN (i : Nat) : GD := fun d ρ => some (ρ.set i (.val d))
def gdNil : List D → DEnv → Option DEnv
  | [], ρ => some ρ
  | _, _ => none
def gdCons (f : GD) (r : List D → DEnv → Option DEnv) : List D → DEnv → Option DEnv
  | d :: ds, ρ => (f d ρ).bind fun ρ1 => r ds ρ1
  | _, _ => none
def gdTup (n : Nat) (f : List D → DEnv → Option DEnv) : GD
  | .tup ds, ρ => if ds.length = n then f ds ρ else none
  | _, _ => none
section
variable {T : Tab} {W : WX} {X : Cx} {i n : Nat} {x : Str} {pos : Pos} {g : TG} {gs : TGs} {f : GD} {fs : List D → DEnv → Option DEnv}
theorem rg_name (h0 : i ≠ 0) : RdG T (gName i) (gdN i) := fun Fr Hc σ H ρ ρ' v d S r e Q q => by
  cases e
  exact q _ (S.set_val h0 r)
theorem rg_nil : RdGs T gNil gdNil := fun Fr Hc σ H ρ ρ' v d S r e Q q => by
  cases r with
  | nil => cases e; exact ⟨rfl, q σ S⟩
  | cons h t => cases e
theorem rg_cons (h1 : RdG T g f) (h2 : RdGs T gs fs) : RdGs T (gCons g gs) (gdCons f fs) := fun Fr Hc σ H ρ ρ' v d S r e Q q => by
  cases r with
  | nil => cases e
  | @cons v d vs ds h t =>
    dsimp only [gdCons] at e
    cases e1 : f d ρ with
    | none => rw [e1] at e; cases e
    | some ρ1 =>
      rw [e1] at e
      exact ⟨v, vs, rfl, h1 Fr Hc σ H ρ ρ1 v d S h e1 _ fun σ1 S1 => h2 Fr Hc σ1 H ρ1 ρ' vs ds S1 t e Q q⟩
theorem rg_tup {K : PySem.W.Frag} (h : RdGs T gs fs) : RdG T (gTup K n gs) (gdTup n fs) := fun Fr Hc σ H ρ ρ' v d S r e Q q => by
  cases r <;> first | cases e; done | skip
  rename_i a vs ds h1 r1
  unfold gdTup at e
  dsimp only at e
  by_cases l : ds.length = n
  · rw [if_pos l] at e
    exact ⟨a, vs, rfl, SqT.of (S.hc _ _ h1), by rw [r1.length]; exact l, h Fr Hc σ H ρ ρ' vs ds S r1 e Q q⟩
  · rw [if_neg l] at e; cases e
/-- a target of the text -/
structure SimG (T : Tab) (X : Cx) (e : Expr) (f : GD) : Prop where
  ex : ∃ g, PG X e g ∧ RdG T g f
structure SimGs (T : Tab) (X : Cx) (es : List Expr) (f : List D → DEnv → Option DEnv) : Prop where
  ex : ∃ g, PGs X es g ∧ RdGs T g f
theorem g_name (i : Nat) (hN : X.N.Nodup) (hi : X.N[i]? = some x) (hx : Loc X.env.scope x) (h0 : i ≠ 0) (hf : X.fn x = true ∨ X.env.scope.names.lookup x = some .local := by first | exact .inl rfl | exact .inr rfl | assumption) : SimG T X (.Name x pos) (gdN i) := ⟨_, pg_name hN hi hx hf, rg_name h0⟩
theorem g_nil : SimGs T X [] gdNil := ⟨_, pgs_nil, rg_nil⟩
theorem g_cons {e : Expr} {es : List Expr} (h1 : SimG T X e f) (h2 : SimGs T X es fs) (hs : (assignEach (e :: es) X.env).map (·.2) = assign e X.env :: (assignEach es X.env).map (·.2) := by rfl) : SimGs T X (e :: es) (gdCons f fs) := by
  obtain ⟨g, p1, r1⟩ := h1.ex
  obtain ⟨gs, p2, r2⟩ := h2.ex
  exact ⟨_, pgs_cons p1 p2 hs, rg_cons r1 r2⟩
theorem g_tup {es : List Expr} {k n : Nat} (hc : X.calm = true) (h : SimGs T X es fs) (hn : (assignEach es X.env).length = n := by rfl) (hst : (assignEach es X.env).findIdx? (·.1) = none := by rfl) : SimG T X (.Tuple es k pos) (gdTup n fs) := by
  obtain ⟨gs, p2, r2⟩ := h.ex
  exact ⟨_, pg_tup hc p2 hn hst, rg_tup r2⟩
/-- target = e -/
def sAsg (f : GD) (a : M D) : MS := fun ρ => RS.ofT (a ρ) fun d ρ1 => match f d ρ1 with
  | some ρ2 => .nx ρ2
  | none => .stuck
theorem s_asg {tg e : Expr} {fe : M D} (hg : SimG T X tg f) (he : SimE T W X e fe) (hs : swapsWithSole [tg] e pos.line X.env = pure false := by rfl) (hw : swappedStores [tg] e X.env = pure none := by rfl)
    (h1 : (assignEach [tg] X.env).map (·.2) = [assign tg X.env] := by rfl) : SimS T W X (.Assign [tg] e pos) (sAsg f fe) := by
  obtain ⟨g, p1, r1⟩ := hg.ex
  refine simS_of (ps_asg pe_tE p1 hs hw h1) fun Fr Hc σ H ρ D S P => ?_
  refine he.use S (PostS.ofT P) fun d ρ1 v Hc1 H1 e1 S1 P1 rv => ?_
  cases e2 : f d ρ1 with
  | none => rw [e2] at P1; exact P1.elim
  | some ρ2 => rw [e2] at P1; exact r1 Fr Hc1 σ H1 ρ1 ρ2 v d S1 rv e2 _ fun σ' S' => P1 σ' Hc1 H1 (Same.refl _) S'
end
/-! ### what is walked -/
structure ItOk (T : Tab) (Hc : Hp) (J : It) (ds : List D) : Prop where
  go : ∀ (i : Nat) (H : Hp), Same Hc H → i < ds.length → J.go i H
  stop : ∀ H : Hp, Same Hc H → J.stop ds.length H
  yld : ∀ (i : Nat) (H : Hp) (x : V) (H' : Hp) (Fr : Fm) (σ : L2.St) (ρ : DEnv) (Hc2 : Hp) (d : D), StC T Fr Hc2 σ H ρ → Same Hc Hc2 → ds[i]? = some d → J.yld i H x H' → ∃ Hc', Same Hc2 Hc' ∧ StC T Fr Hc' σ H' ρ ∧ Rp T Hc' x d
def RdI (T : Tab) (W : WX) (wi : TI) (f : M (List D)) : Prop := ∀ (Fr : Fm) (Hc : Hp) (σ : L2.St) (H : Hp) (ρ : DEnv), StC T Fr Hc σ H ρ → ∀ R : It → Hp → Prop,
  PostR T W Fr Hc σ (f ρ) (fun ds _ Hc' H' => ∀ J, ItOk T Hc' J ds → R J H') → wi σ H R
def tIt (X : Cx) (tg iter : Expr) : TI := fun σ H R => ∀ (pins : List (Addr × Obj)) (s : Shared), Inv X pins σ H s →
  wpAny (model X.prog X.w) X.A (eval iter X.env) (fun v s1 => wpAny (model X.prog X.w) X.A (pyIter v) (PIE X pins σ tg R) X.xe s1) X.xe s
theorem pi_tI {X : Cx} {tg iter : Expr} : PI X tg iter (tIt X tg iter) := ⟨fun pins s _ _ _ I h => h pins s I⟩
abbrev SimI (T : Tab) (W : WX) (X : Cx) (tg iter : Expr) (f : M (List D)) : Prop := RdI T W (tIt X tg iter) f
section
variable {T : Tab} {W : WX} {X : Cx} {tg e : Expr} {fe : M D} {pos p : Pos}
theorem simI_of {iter : Expr} {wi : TI} {f : M (List D)} (h : PI X tg iter wi) (r : RdI T W wi f) : SimI T W X tg iter f := fun Fr Hc σ H ρ S R P pins s I => h.run pins s σ H R I (r Fr Hc σ H ρ S R P)
theorem RdI.use {wi : TI} {f : M (List D)} {Fr : Fm} {Hc : Hp} {σ : L2.St} {H : Hp} {ρ : DEnv} (h : RdI T W wi f) (S : StC T Fr Hc σ H ρ) {k : List D → DEnv → Hp → Hp → Prop} {R : It → Hp → Prop} (P : PostR T W Fr Hc σ (f ρ) k)
    (hk : ∀ d ρ' J Hc' H', Same Hc Hc' → StC T Fr Hc' σ H' ρ' → k d ρ' Hc' H' → ItOk T Hc' J d → R J H') : wi σ H R :=
  h Fr Hc σ H ρ S R (P.imp fun d ρ' Hc' H' e S' q J j => hk d ρ' J Hc' H' e S' q j)
theorem it_list {K : PySem.W.Frag} {Hc : Hp} {a : Addr} {vs : List V} {ds : List D} (h : Hc a = some (.lst vs)) (r : Rps T Hc vs ds) : ItOk T Hc (Itl K a) ds where
  go := fun i H e l => by
    obtain ⟨u, h1, _⟩ := r.get (List.getElem?_eq_getElem l)
    exact ⟨vs, u, SqL.of (e _ _ h), h1⟩
  stop := fun H e => ⟨vs, SqL.of (e _ _ h), by rw [r.length]; exact Nat.le_refl _⟩
  yld := fun i H x H' Fr σ ρ Hc2 d S e hd y => by
    obtain ⟨rfl, y2⟩ := y
    obtain ⟨u, h1, h2⟩ := r.get hd
    have z := y2 vs (SqL.of (S.hc _ _ (e _ _ h)))
    rw [h1] at z
    cases z
    exact ⟨Hc2, Same.refl _, S, h2.mono e⟩
theorem it_tup {K : PySem.W.Frag} {Hc : Hp} {a : Addr} {vs : List V} {ds : List D} (h : Hc a = some (.tup vs)) (r : Rps T Hc vs ds) : ItOk T Hc (Itt K a) ds where
  go := fun i H e l => by
    obtain ⟨u, h1, _⟩ := r.get (List.getElem?_eq_getElem l)
    exact ⟨vs, u, SqT.of (e _ _ h), h1⟩
  stop := fun H e => ⟨vs, SqT.of (e _ _ h), by rw [r.length]; exact Nat.le_refl _⟩
  yld := fun i H x H' Fr σ ρ Hc2 d S e hd y => by
    obtain ⟨rfl, y2⟩ := y
    obtain ⟨u, h1, h2⟩ := r.get hd
    have z := y2 vs (SqT.of (S.hc _ _ (e _ _ h)))
    rw [h1] at z
    cases z
    exact ⟨Hc2, Same.refl _, S, h2.mono e⟩
theorem it_enum {K : PySem.W.Frag} {Hc : Hp} {a : Addr} {vs : List V} {ds : List D} (h : Hc a = some (.lst vs)) (r : Rps T Hc vs ds) : ItOk T Hc (Ite K a) (ds.zipIdx.map fun p => .tup [.int (p.2 : Nat), p.1]) where
  go := fun i H e l => by
    rw [List.length_map, List.length_zipIdx] at l
    obtain ⟨u, h1, _⟩ := r.get (List.getElem?_eq_getElem l)
    exact ⟨vs, u, SqL.of (e _ _ h), h1⟩
  stop := fun H e => ⟨vs, SqL.of (e _ _ h), by rw [r.length, List.length_map, List.length_zipIdx]; exact Nat.le_refl _⟩
  yld := fun i H x H' Fr σ ρ Hc2 d S e hd y => by
    obtain ⟨q, z, rfl, hq, rfl, y2⟩ := y
    rw [List.getElem?_map, List.getElem?_zipIdx] at hd
    cases e1 : ds[i]? with
    | none => rw [e1] at hd; cases hd
    | some d1 =>
      rw [e1] at hd
      have hd' : some (D.tup [.int ((0 + i : Nat) : Int), d1]) = some d := hd
      rw [Nat.zero_add] at hd'
      cases hd'
      obtain ⟨u, h1, h2⟩ := r.get e1
      have w := y2 vs (SqL.of (S.hc _ _ (e _ _ h)))
      rw [h1] at w
      have w' : z = u := (Option.some.inj w).symm
      subst w'
      obtain ⟨e3, S3⟩ := S.laid (o := .tup [.int (i : Nat), z]) hq
      exact ⟨_, e3, S3, .tup upd_same (.cons (.int _) (.cons ((h2.mono e).mono e3) .nil))⟩
theorem it_range {Hc : Hp} {lo : Int} {n : Nat} : ItOk T Hc (Itr lo n) ((List.range n).map fun i => .int (lo + (i : Nat))) where
  go := fun i H e l => by
    rw [List.length_map, List.length_range] at l
    exact l
  stop := fun H e => by
    rw [List.length_map, List.length_range]
    exact Nat.le_refl _
  yld := fun i H x H' Fr σ ρ Hc2 d S e hd y => by
    obtain ⟨rfl, rfl⟩ := y
    rw [List.getElem?_map] at hd
    cases e1 : (List.range n)[i]? with
    | none => rw [e1] at hd; cases hd
    | some j =>
      rw [e1] at hd
      cases hd
      have z := List.getElem?_eq_some_iff.mp e1
      obtain ⟨l, z⟩ := z
      rw [List.getElem_range] at z
      subst z
      exact ⟨Hc2, Same.refl _, S, .int _⟩
/-- a list or a tuple -/
def iSeq (f : M D) : M (List D) := fun ρ => (f ρ).bind fun d ρ1 => match d with
  | .lst ds => .ok ds ρ1
  | .tup ds => .ok ds ρ1
  | _ => .stuck
theorem i_seq (he : SimE T W X e fe) : SimI T W X tg e (iSeq fe) := fun Fr Hc σ H ρ S R P pins s I => by
  have go : tE X e σ H fun x H1 => (∃ a, x = .ref a ∧ (∃ xs, SqL X.K H1 a xs) ∧ R (Itl X.K a) H1) ∨ ∃ a, x = .ref a ∧ (∃ xs, SqT X.K H1 a xs) ∧ R (Itt X.K a) H1 := by
    refine he.use S (PostR.bind P) fun d ρ1 v Hc1 H1 e1 S1 P1 r1 => ?_
    cases r1 with
    | lst h r => exact .inl ⟨_, rfl, ⟨_, SqL.of (S1.hc _ _ h)⟩, P1 Hc1 H1 (Same.refl _) S1 _ (it_list h r)⟩
    | tup h r => exact .inr ⟨_, rfl, ⟨_, SqT.of (S1.hc _ _ h)⟩, P1 Hc1 H1 (Same.refl _) S1 _ (it_tup h r)⟩
    | _ => exact P1.elim
  refine thn (go pins s I) fun v s1 ⟨x, H1, I1, r1, q1⟩ => ?_
  rcases q1 with ⟨a, e, ⟨xs, hq⟩, q⟩ | ⟨a, e, ⟨xs, hq⟩, q⟩
  · subst e
    cases r1
    obtain ⟨its, rv, p, hz⟩ := I1.list hq
    refine wpAny_pyIter_list p.isList ?_
    refine ⟨s1.heap.objs.size, [s1.heap.objs.size], _, _, H1, rfl, I1.kept (t' := s1.toks) fun b o e => Heap.get?_push_of_some _ e, turn_list a _, ⟨_, Heap.get?_push_size _ rfl, rfl, rfl⟩, fun b hb => ?_, q⟩
    have e : b = s1.heap.objs.size := by simpa using hb
    subst e
    exact I1.fpOk (Nat.le_refl _) (I1.hok.fresh (Nat.le_refl _))
  · subst e
    cases r1
    obtain ⟨its, rv, p, hz⟩ := I1.tuple hq
    refine wpAny_pyIter_tuple (show s1.heap.IsTuple a its.toArray from p) ?_
    refine ⟨s1.heap.objs.size, [s1.heap.objs.size], _, _, H1, rfl, I1.kept (t' := s1.toks) fun b o e => Heap.get?_push_of_some _ e, turn_tuple a _, ⟨_, Heap.get?_push_size _ rfl, rfl, rfl⟩, fun b hb => ?_, q⟩
    have e : b = s1.heap.objs.size := by simpa using hb
    subst e
    exact I1.fpOk (Nat.le_refl _) (I1.hok.fresh (Nat.le_refl _))
def iRg1 (f : M D) : M (List D) := fun ρ => (f ρ).bind fun d ρ1 => match d with
  | .int n => if n ≤ 100000 ∧ -100000 ≤ n then .ok ((List.range n.toNat).map fun i => .int (0 + (i : Nat))) ρ1 else .stuck
  | _ => .stuck
theorem i_rg1 (hg : Gl X "range") (hm : X.mg "range" = none) (he : SimE T W X e fe) (hs : starEach [e] X.env = [(false, eval e X.env)] := by rfl) : SimI T W X tg (.Call (.Name "range" p) [e] [] pos) (iRg1 fe) := by
  refine simI_of (pi_range1 hg hm (pa_cons pe_tE pa_nil (by rw [hs]; rfl)) hs) fun Fr Hc σ H ρ S R P => ?_
  show tE X e σ H fun x H1 => iRng1 (fun _ H Q => Q [x] H) σ H1 R
  refine he.use S (PostR.bind P) fun d ρ1 v Hc1 H1 e1 S1 P1 r1 => ?_
  cases r1 with
  | int n =>
    dsimp only at P1
    by_cases l : n ≤ 100000 ∧ -100000 ≤ n
    · rw [if_pos l] at P1
      exact ⟨n, rfl, by omega, by omega, P1 Hc1 H1 (Same.refl _) S1 _ it_range⟩
    · rw [if_neg l] at P1; exact P1.elim
  | _ => exact P1.elim
def iRg2 (f g : M D) : M (List D) := fun ρ => (f ρ).bind fun d ρ1 => (g ρ1).bind fun d2 ρ2 => match d, d2 with
  | .int a, .int n => if n ≤ 100000 ∧ -100000 ≤ n ∧ a ≤ 100000 ∧ -100000 ≤ a then .ok ((List.range (n - a).toNat).map fun i => .int (a + (i : Nat))) ρ2 else .stuck
  | _, _ => .stuck
theorem i_rg2 {e2 : Expr} {fe2 : M D} (hg : Gl X "range") (hm : X.mg "range" = none) (he : SimE T W X e fe) (he2 : SimE T W X e2 fe2) (hs : starEach [e, e2] X.env = [(false, eval e X.env), (false, eval e2 X.env)] := by rfl) (hs2 : starEach [e2] X.env = [(false, eval e2 X.env)] := by rfl) :
    SimI T W X tg (.Call (.Name "range" p) [e, e2] [] pos) (iRg2 fe fe2) := by
  refine simI_of (pi_range2 hg hm (pa_cons pe_tE (pa_cons pe_tE pa_nil (by rw [hs2]; rfl)) (by rw [hs, hs2])) hs hs2) fun Fr Hc σ H ρ S R P => ?_
  show tE X e σ H fun x H1 => tE X e2 σ H1 fun y H2 => iRng2 (fun _ H Q => Q [x, y] H) σ H2 R
  refine he.use S (PostR.bind P) fun d ρ1 v Hc1 H1 e1 S1 P1 r1 => he2.use S1 (PostR.bind P1) fun d2 ρ2 v2 Hc2 H2 e2 S2 P2 r2 => ?_
  cases r1 <;> cases r2 <;> first | exact P2.elim | skip
  rename_i a n
  dsimp only at P2
  by_cases l : n ≤ 100000 ∧ -100000 ≤ n ∧ a ≤ 100000 ∧ -100000 ≤ a
  · rw [if_pos l] at P2
    exact ⟨a, n, rfl, ⟨by omega, by omega, by omega, by omega⟩, P2 Hc2 H2 (Same.refl _) S2 _ it_range⟩
  · rw [if_neg l] at P2; exact P2.elim
def iEnumD (f : M D) : M (List D) := fun ρ => (f ρ).bind fun d ρ1 => match d with
  | .lst ds => .ok (ds.zipIdx.map fun p => .tup [.int (p.2 : Nat), p.1]) ρ1
  | _ => .stuck
theorem i_enum {elts : List Expr} {kk : Nat} {tpos : Pos} (hg : Gl X "enumerate") (hm : X.mg "enumerate" = none) (he : SimE T W X e fe) (hs : starEach [e] X.env = [(false, eval e X.env)] := by rfl) :
    SimI T W X (.Tuple elts kk tpos) (.Call (.Name "enumerate" p) [e] [] pos) (iEnumD fe) := by
  refine simI_of (pi_enum hg hm (pa_cons pe_tE pa_nil (by rw [hs]; rfl)) hs) fun Fr Hc σ H ρ S R P => ?_
  show tE X e σ H fun x H1 => iEnum X.K (fun _ H Q => Q [x] H) σ H1 R
  refine he.use S (PostR.bind P) fun d ρ1 v Hc1 H1 e1 S1 P1 r1 => ?_
  cases r1 with
  | lst h r => exact ⟨_, _, rfl, SqL.of (S1.hc _ _ h), P1 Hc1 H1 (Same.refl _) S1 _ (it_enum h r)⟩
  | _ => exact P1.elim
end
/-! ### for -/
def forLoop (tg : GD) (gb : MS) : List D → DEnv → RS
  | [], ρ => .nx ρ
  | d :: r, ρ => match tg d ρ with
    | none => .stuck
    | some ρ1 => match gb ρ1 with
      | .nx ρ2 => forLoop tg gb r ρ2
      | .ct ρ2 => forLoop tg gb r ρ2
      | .bk ρ2 => .nx ρ2
      | .rt d ρ2 => .rt d ρ2
      | .exc x ρ2 => .exc x ρ2
      | .stuck => .stuck
def sFor (fi : M (List D)) (tg : GD) (gb : MS) : MS := fun ρ => RS.ofT (fi ρ) fun ds ρ1 => forLoop tg gb ds ρ1
section
variable {T : Tab} {W : WX} {X : Cx} {wi : TI} {g : TG} {tb : TS} {fi : M (List D)} {tg : GD} {gb : MS}
theorem rs_for (hi : RdI T W wi fi) (hg : RdG T g tg) (hb : RdS T W tb gb) : RdS T W (tFor wi g tb) (sFor fi tg gb) := fun Fr Hc σ H ρ D S P => by
  refine hi.use S (PostS.ofT P) fun ds ρ1 J Hc1 H1 e1 S1 P1 ok => ?_
  refine ⟨fun i m σ' H' => m = ds.length - i ∧ i ≤ ds.length ∧ ∃ Hc2 ρ2, Same Hc1 Hc2 ∧ StC T Fr Hc2 σ' H' ρ2 ∧ PostS T W Fr Hc2 (forLoop tg gb (ds.drop i) ρ2) D, ⟨_, rfl, Nat.zero_le _, Hc1, ρ1, Same.refl _, S1, P1⟩, ?_⟩
  rintro i m σ2 H2 ⟨rfl, hi, Hc2, ρ2, e2, S2, P2⟩
  by_cases l : i < ds.length
  · refine .inr ⟨ok.go i H2 (e2.trans S2.hc) l, _, fun σ' H' n => ⟨ds.length - (i + 1), by omega, n⟩, fun x H3 y => ?_⟩
    obtain ⟨Hc3, e3, S3, r3⟩ := ok.yld i H2 x H3 Fr σ2 ρ2 Hc2 _ S2 e2 (List.getElem?_eq_getElem l) y
    rw [List.drop_eq_getElem_cons l] at P2
    unfold forLoop at P2
    cases g1 : tg ds[i] ρ2 with
    | none => rw [g1] at P2; exact P2.elim
    | some ρ3 =>
      rw [g1] at P2
      refine hg Fr Hc3 σ2 H3 ρ2 ρ3 x _ S3 r3 g1 _ fun σ4 S4 => ?_
      refine hb Fr Hc3 σ4 H3 ρ3 _ S4 ?_
      dsimp only at P2
      cases g2 : gb ρ3 with
      | nx ρ5 => rw [g2] at P2; exact fun σ5 Hc5 H5 e5 S5 => ⟨rfl, l, Hc5, ρ5, (e2.trans e3).trans e5, S5, P2.up (e3.trans e5)⟩
      | ct ρ5 => rw [g2] at P2; exact fun σ5 Hc5 H5 e5 S5 => ⟨rfl, l, Hc5, ρ5, (e2.trans e3).trans e5, S5, P2.up (e3.trans e5)⟩
      | bk ρ5 => rw [g2] at P2; exact fun σ5 Hc5 H5 e5 S5 => P2 σ5 Hc5 H5 (e3.trans e5) S5
      | rt d ρ5 => rw [g2] at P2; exact fun v σ5 Hc5 H5 e5 S5 rv => P2 v σ5 Hc5 H5 (e3.trans e5) S5 rv
      | exc z ρ5 => rw [g2] at P2; exact fun σ5 cls da Hc5 H5 e5 S5 rz => P2 σ5 cls da Hc5 H5 (e3.trans e5) S5 rz
      | stuck => rw [g2] at P2; exact P2.elim
  · have e : i = ds.length := by omega
    subst e
    rw [List.drop_eq_nil_of_le (Nat.le_refl _)] at P2
    exact .inl ⟨ok.stop H2 (e2.trans S2.hc), P2 σ2 Hc2 H2 (Same.refl _) S2⟩
theorem s_for {target iter : Expr} {body : List Stmt} {pos : Pos} (hp : PassesOwn (model X.prog X.w) X.A X.env X.xe) (hc : X.calm = true) (hi : SimI T W X target iter fi) (hg : SimG T X target tg) (hb : SimB T W X body gb)
    (hs : ∀ x, foldedSetIterable iter X.env x = pure x := by intro _; rfl) : SimS T W X (.For target iter body [] pos) (sFor fi tg gb) := by
  obtain ⟨g, p1, r1⟩ := hg.ex
  exact simS_of (ps_for hp hc pi_tI p1 pss_tS hs) (rs_for hi r1 hb)
end
end PD
set_option maxRecDepth 100000
/-! PD7: owned lists and dicts, attributes, dicts as values. -/
namespace PD
open PySem PySem.Spec PyProof.Rows L2
section
variable {T : Tab} {W : WX} {X : Cx} {a b c e o : Expr} {es : List Expr} {fa fb fc fo fe : M D} {fA : M (List D)} {pos p pos' apos cpos : Pos} {i : Nat} {x : Str}
/-- what an own slot holds -/
theorem StC.ownL {Fr : Fm} {Hc H : Hp} {σ : L2.St} {ρ : DEnv} {ds : List D} (S : StC T Fr Hc σ H ρ) (h : ρ[i]? = some (.own (.lst ds))) : ∃ p vs, σ[i]? = some (some (.ref p)) ∧ H p = some (.lst vs) ∧ Rps T Hc vs ds := by
  obtain ⟨p, h1, _, _, vs, h2, h3⟩ := S.ownv h
  exact ⟨p, vs, h1, h2, h3⟩
/-! xs.append(e) -/
def sApp (i : Nat) (f : M D) : MS := fun ρ => match ρ[i]? with
  | some (.own (.lst _)) => RS.ofT (f ρ) fun d ρ1 => (match ρ1[i]? with
    | some (.own (.lst ds)) => if ds.length < 100000 then .nx (ρ1.set i (.own (.lst (ds ++ [d])))) else .stuck
    | _ => .stuck)
  | _ => .stuck
theorem s_app (hv : PE X o (tVar i)) (he : SimE T W X e fe)
    (hbase : attributeBase o ("append" : Str) X.env (eval o X.env) = eval o X.env := by rfl)
    (hfew : ((backTo cpos (starEach [e] X.env)).all (fun x => !x.1) && (backToKw cpos (keywordEach [] X.env)).all (fun x => x.1.isSome)
      && decide (([e] : List Expr).length + ([] : List Keyword).length + (if ([] : List Keyword).isEmpty then 0 else 1) < 30)) = true := by rfl)
    (hline : (apos.endLine == cpos.line) = true := by rfl) (hs : starEach [e] X.env = (false, eval e X.env) :: starEach [] X.env := by rfl) (hplain : (backTo cpos (starEach [] X.env)).any (·.1) = false := by rfl)
    (hsw : swapsWith (.Call (.Attribute o ("append" : Str) apos) [e] [] cpos) none pos.line X.env = pure false := by rfl) :
    SimS T W X (.Expr (.Call (.Attribute o ("append" : Str) apos) [e] [] cpos) pos) (sApp i fe) := by
  refine simS_of (ps_expr (pe_bm PySem.F.plainAttrs_list PySem.F.slot_list_append PySem.F.type_list_append mt_append hv (pa_cons pe_tE pa_nil hs) hbase hfew hline hs hplain) hsw) fun Fr Hc σ H ρ D S P => ?_
  unfold sApp at P
  split at P
  · rename_i d0 h0
    obtain ⟨p, vs, h1, h2, h3⟩ := S.ownL h0
    refine ⟨.ref p, h1, .inl ⟨rfl, vs, SqL.of h2⟩, ?_⟩
    show tE X e σ H fun x H1 => rAppend (.ref p) [x] H1 fun _ H2 => D.nx σ H2
    refine he.use S (PostS.ofT P) fun d ρ1 v Hc1 H1 e1 S1 P1 r1 => ?_
    split at P1
    · rename_i ds g0
      obtain ⟨q, us, g1, g2, g3⟩ := S1.ownL g0
      rw [h1] at g1
      cases g1
      by_cases l : ds.length < 100000
      · rw [if_pos l] at P1
        refine ⟨p, us, v, rfl, rfl, g2, line_lt (by rw [g3.length]; exact l), ?_⟩
        exact P1 σ Hc1 _ (Same.refl _) (S1.write g0 h1 ⟨_, rfl, g3.append (.cons r1 .nil)⟩)
      · rw [if_neg l] at P1; exact P1.elim
    · exact P1.elim
  · exact P.elim
/-! xs.pop() -/
def ePop (i : Nat) : M D := fun ρ => match ρ[i]? with
  | some (.own (.lst ds)) => (match ds[ds.length - 1]? with
    | some d => .ok d (ρ.set i (.own (.lst ds.dropLast)))
    | none => .stuck)
  | _ => .stuck
theorem Rps.dropLast {H : Hp} {vs : List V} {ds : List D} (r : Rps T H vs ds) : Rps T H vs.dropLast ds.dropLast := by
  rw [List.dropLast_eq_take, List.dropLast_eq_take, r.length]
  exact r.take _
theorem x_pop (hv : PE X o (tVar i)) (hbase : attributeBase o ("pop" : Str) X.env (eval o X.env) = eval o X.env := by rfl) (hline : (apos.endLine == cpos.line) = true := by rfl) :
    SimE T W X (.Call (.Attribute o ("pop" : Str) apos) [] [] cpos) (ePop i) := by
  refine sim_of (pe_bm0 PySem.F.plainAttrs_list PySem.F.slot_list_pop PySem.F.type_list_pop mt_pop hv hbase hline) fun Fr Hc σ H ρ S Q P => ?_
  unfold ePop at P
  split at P
  · rename_i ds h0
    obtain ⟨p, vs, h1, h2, h3⟩ := S.ownL h0
    split at P
    · rename_i d e0
      obtain ⟨v, g1, g2⟩ := h3.get e0
      refine ⟨.ref p, h1, .inl ⟨rfl, vs, SqL.of h2⟩, p, vs, v, rfl, rfl, h2, by rw [h3.length]; exact g1, ?_⟩
      exact P Hc _ (Same.refl _) (S.write h0 h1 ⟨_, rfl, h3.dropLast⟩) v g2
    · exact P.elim
  · exact P.elim
/-! xs.clear() -/
def sClear (i : Nat) : MS := fun ρ => match ρ[i]? with
  | some (.own (.lst _)) => .nx (ρ.set i (.own (.lst [])))
  | _ => .stuck
theorem s_clear (hv : PE X o (tVar i)) (hbase : attributeBase o ("clear" : Str) X.env (eval o X.env) = eval o X.env := by rfl) (hline : (apos.endLine == cpos.line) = true := by rfl) (hsw : swapsWith (.Call (.Attribute o ("clear" : Str) apos) [] [] cpos) none pos.line X.env = pure false := by rfl) :
    SimS T W X (.Expr (.Call (.Attribute o ("clear" : Str) apos) [] [] cpos) pos) (sClear i) := by
  refine simS_of (ps_expr (pe_bm0 PySem.F.plainAttrs_list PySem.F.slot_list_clear PySem.F.type_list_clear mt_clear hv hbase hline) hsw) fun Fr Hc σ H ρ D S P => ?_
  unfold sClear at P
  split at P
  · rename_i ds h0
    obtain ⟨p, vs, h1, h2, h3⟩ := S.ownL h0
    exact ⟨.ref p, h1, .inl ⟨rfl, vs, SqL.of h2⟩, p, vs, rfl, rfl, h2, P σ Hc _ (Same.refl _) (S.write h0 h1 ⟨_, rfl, .nil⟩)⟩
  · exact P.elim
/-! len(xs) -/
def eLenO (i : Nat) : M D := fun ρ => match ρ[i]? with
  | some (.own (.lst ds)) => .ok (.int ds.length) ρ
  | _ => .stuck
theorem x_lenO (hv : PE X e (tVar i)) (hg : Gl X "len") (hm : X.mg "len" = none) (he : starEach [e] X.env = (false, eval e X.env) :: starEach [] X.env := by rfl) (hpl : (backTo pos (starEach [] X.env)).any (·.1) = false := by rfl) :
    SimE T W X (.Call (.Name "len" p) [e] [] pos) (eLenO i) := by
  refine sim_of (pe_callB call_len hg hm boot_len (pa_cons hv pa_nil he) (by decide) (by decide) he hpl) fun Fr Hc σ H ρ S Q P => ?_
  unfold eLenO at P
  split at P
  · rename_i ds h0
    obtain ⟨p, vs, h1, h2, h3⟩ := S.ownL h0
    refine ⟨.ref p, h1, _, _, rfl, .inl ⟨vs, SqL.of h2, rfl⟩, ?_⟩
    rw [h3.length]
    exact P Hc H (Same.refl _) S _ (.int _)
  · exact P.elim
/-! xs[e] -/
def eIxO (i : Nat) (f : M D) : M D := fun ρ => match ρ[i]? with
  | some (.own _) => (f ρ).bind fun d ρ1 => (match ρ1[i]?, d with
    | some (.own (.lst ds)), .int k => lift (atI ds k) ρ1
    | _, _ => .stuck)
  | _ => .stuck
theorem x_ixO (hv : PE X a (tVar i)) (hb : SimE T W X b fb) (hs : PlainIx b := by intro _ _; rfl) : SimE T W X (.Subscript a b pos) (eIxO i fb) := by
  refine sim_of (pe_ix ix_list hv pe_tE hs) fun Fr Hc σ H ρ S Q P => ?_
  unfold eIxO at P
  split at P
  · rename_i d0 h0
    obtain ⟨p, h1, _⟩ := S.ownv h0
    refine ⟨.ref p, h1, ?_⟩
    refine hb.use S (PostR.bind P) fun d ρ1 v Hc1 H1 e1 S1 P1 r1 => ?_
    split at P1
    · rename_i ds k g0
      obtain ⟨q, us, g1, g2, g3⟩ := S1.ownL g0
      rw [h1] at g1
      cases g1
      cases r1
      obtain ⟨d', hd, kk⟩ := P1.some
      obtain ⟨u, w1, w2⟩ := atI_rps g3 hd
      exact ⟨p, us, k, u, rfl, rfl, SqL.of g2, w1, kk Hc1 H1 (Same.refl _) S1 u w2⟩
    · exact P1.elim
  · exact P.elim
/-! xs[i] = e; xs[i] -= e -/
def sIxSet (i : Nat) (fi fe : M D) : MS := fun ρ => RS.ofT (fe ρ) fun d ρ1 => match ρ1[i]? with
  | some (.own _) => RS.ofT (fi ρ1) fun k ρ2 => (match ρ2[i]?, k with
    | some (.own (.lst ds)), .int k => (match ixN ds.length k with
      | some j => .nx (ρ2.set i (.own (.lst (ds.set j d))))
      | none => .stuck)
    | _, _ => .stuck)
  | _ => .stuck
theorem s_ixset (hv : PE X o (tVar i)) (hb : SimE T W X b fb) (he : SimE T W X e fe) (hs : swapsWithSole [.Subscript o b pos'] e pos.line X.env = pure false := by rfl) (hw : swappedStores [.Subscript o b pos'] e X.env = pure none := by rfl)
    (h1 : (assignEach [.Subscript o b pos'] X.env).map (·.2) = [assign (.Subscript o b pos') X.env] := by rfl)
    (ha : ∀ v, assign (.Subscript o b pos') X.env v = (do
      let ov ← holding [v] (eval o X.env)
      let iv ← holding [v, ov] (eval b X.env)
      standAt pos'
      holding [v, ov, iv] (setItem ov iv v)
      release [v, ov, iv] []) := by intro _; rfl) : SimS T W X (.Assign [.Subscript o b pos'] e pos) (sIxSet i fb fe) := by
  refine simS_of (ps_asg pe_tE (pg_sub hv pe_tE set_list ha) hs hw h1) fun Fr Hc σ H ρ D S P => ?_
  refine he.use S (PostS.ofT P) fun d ρ1 v Hc1 H1 e1 S1 P1 r1 => ?_
  split at P1
  · rename_i d0 h0
    obtain ⟨p, g1, _⟩ := S1.ownv h0
    refine ⟨.ref p, g1, ?_⟩
    refine hb.use S1 (PostS.ofT P1) fun dk ρ2 u Hc2 H2 e2 S2 P2 r2 => ?_
    split at P2
    · rename_i ds k q0
      obtain ⟨q, us, w1, w2, w3⟩ := S2.ownL q0
      rw [g1] at w1
      cases w1
      cases r2
      split at P2
      · rename_i j hj
        exact ⟨p, us, k, j, rfl, rfl, w2, by rw [w3.length]; exact hj, P2 σ Hc2 _ (Same.refl _) (S2.write q0 g1 ⟨_, rfl, w3.set (r1.mono e2) j⟩)⟩
      · exact P2.elim
    · exact P2.elim
  · exact P1.elim
theorem get_list : PGet X (rIxL X.K) := by
  intro pins s σ H x y v u Q I rx ry h
  obtain ⟨p, xs, i, z, rfl, rfl, hq, he, q⟩ := h
  cases rx
  obtain ⟨t, rfl⟩ := ry
  obtain ⟨its, r, pl, hz⟩ := I.list hq
  obtain ⟨j, h1, h2, h3, h4, h5⟩ := atI_get he
  obtain ⟨w, ew, rw'⟩ := r.get h2
  have hl := r.length
  have hn := line63
  have fin : EP X pins σ Q w s := ⟨z, H, I, rw', q⟩
  by_cases h0 : 0 ≤ i
  · have hj : i.toNat = j := by
      rw [seqIndex_of h0 h5] at h1
      exact Option.some.inj h1
    exact wpAny_getItem_list pl.isList h0 (by omega) (by rw [hj]; simpa using ew) fin
  · have hj : (i + (its.toArray.size : Int)).toNat = j := by
      rw [seqIndex_neg (by omega) h4] at h1
      rw [List.size_toArray, ← hl]
      exact Option.some.inj h1
    exact wpAny_getItem_list_neg pl.isList (by omega) (by rw [List.size_toArray] <;> omega) (by omega) (by rw [hj]; simpa using ew) fin
def sIxAug (i : Nat) (f : Int → Int → Int) (fi fe : M D) : MS := fun ρ => match ρ[i]? with
  | some (.own _) => RS.ofT (fi ρ) fun k ρ1 => (match ρ1[i]?, k with
    | some (.own (.lst ds)), .int k => (match atI ds k, ixN ds.length k with
      | some (.int z), some j => RS.ofT (fe ρ1) fun w ρ2 => (match ρ2[i]?, w with
        | some (.own (.lst ds2)), .int y => if ds2.length = ds.length then .nx (ρ2.set i (.own (.lst (ds2.set j (.int (f z y)))))) else .stuck
        | _, _ => .stuck)
      | _, _ => .stuck)
    | _, _ => .stuck)
  | _ => .stuck
theorem s_ixaug {op : Operator} {f : Int → Int → Int} (hp : PIp X op (ipI f)) (hv : PE X o (tVar i)) (hb : SimE T W X b fb) (he : SimE T W X e fe)
    (ha : ∀ ov iv new, augStore b ov iv new = (do holding [new, ov, iv] (setItem ov iv new); release [new, ov, iv] []; pure .next) := by intros; rfl) : SimS T W X (.AugAssign (.Subscript o b pos') op e pos) (sIxAug i f fb fe) := by
  refine simS_of (ps_augS hv pe_tE get_list pe_tE hp set_list ha) fun Fr Hc σ H ρ D S P => ?_
  unfold sIxAug at P
  split at P
  · rename_i d0 h0
    obtain ⟨p, g1, _⟩ := S.ownv h0
    refine ⟨.ref p, g1, ?_⟩
    refine hb.use S (PostS.ofT P) fun dk ρ1 u Hc1 H1 e1 S1 P1 r1 => ?_
    split at P1
    · rename_i ds k q0
      obtain ⟨q, us, w1, w2, w3⟩ := S1.ownL q0
      rw [g1] at w1
      cases w1
      cases r1
      split at P1
      · rename_i z j e3 e4
        obtain ⟨u, x1, x2⟩ := atI_rps w3 e3
        cases x2
        refine ⟨p, us, k, .int z, rfl, rfl, SqL.of w2, x1, ?_⟩
        refine he.use S1 (PostS.ofT P1) fun dw ρ2 v2 Hc2 H2 e2 S2 P2 r2 => ?_
        split at P2
        · rename_i ds2 y q2
          obtain ⟨q', us2, y1, y2, y3⟩ := S2.ownL q2
          rw [g1] at y1
          cases y1
          cases r2
          by_cases l : ds2.length = ds.length
          · rw [if_pos l] at P2
            exact ⟨z, y, rfl, rfl, p, us2, k, j, rfl, rfl, y2, by rw [y3.length, l]; exact e4, P2 σ Hc2 _ (Same.refl _) (S2.write q2 g1 ⟨_, rfl, y3.set (.int _) j⟩)⟩
          · rw [if_neg l] at P2; exact P2.elim
        · exact P2.elim
      · exact P1.elim
    · exact P1.elim
  · exact P.elim
/-! ### attributes -/
def eFld (c : Nat) (f : Str) (fo : M D) : M D := fun ρ => (fo ρ).bind fun d ρ1 => match d with
  | .ins c' fs => if c' = c then lift (fs.lookup f) ρ1 else .stuck
  | _ => .stuck
theorem x_fld {c : Nat} {f : Str} (hK : T.K = X.K) (hc : Cls T.K (T.cls c)) (hn : NoAttr T.K (T.cls c) f) (he : SimE T W X e fe) (hb : attributeBase e f X.env (eval e X.env) = eval e X.env := by rfl) : SimE T W X (.Attribute e f pos) (eFld c f fe) := by
  refine sim_of (pe_fld pe_tE hb) fun Fr Hc σ H ρ S Q P => ?_
  refine he.use S (PostR.bind P) fun d ρ1 v Hc1 H1 e1 S1 P1 r1 => ?_
  cases r1 with
  | @ins a dx vs c' fs h r =>
    dsimp only at P1
    by_cases q : c' = c
    · subst q
      rw [if_pos rfl] at P1
      obtain ⟨d', hd, k⟩ := P1.some
      obtain ⟨u, w1, w2⟩ := r.lookup hd
      exact ⟨a, _, dx, vs, u, rfl, S1.hc _ _ h, by rw [← hK]; exact hc, by rw [← hK]; exact hn, w1, k Hc1 H1 (Same.refl _) S1 u w2⟩
    · rw [if_neg q] at P1; exact P1.elim
  | _ => exact P1.elim
def eFldO (c : Nat) (i : Nat) (f : Str) : M D := fun ρ => match ρ[i]? with
  | some (.own (.ins c' fs)) => if c' = c then lift (fs.lookup f) ρ else .stuck
  | _ => .stuck
theorem x_fldO {c : Nat} {f : Str} (hK : T.K = X.K) (hc : Cls T.K (T.cls c)) (hn : NoAttr T.K (T.cls c) f) (hv : PE X e (tVar i)) (hb : attributeBase e f X.env (eval e X.env) = eval e X.env := by rfl) : SimE T W X (.Attribute e f pos) (eFldO c i f) := by
  refine sim_of (pe_fld hv hb) fun Fr Hc σ H ρ S Q P => ?_
  unfold eFldO at P
  split at P
  · rename_i c' fs h0
    obtain ⟨p, g1, _, _, dx, vs, g2, g3⟩ := S.ownv h0
    by_cases q : c' = c
    · subst q
      rw [if_pos rfl] at P
      obtain ⟨d', hd, k⟩ := P.some
      obtain ⟨u, w1, w2⟩ := g3.lookup hd
      exact ⟨.ref p, g1, p, _, dx, vs, u, rfl, g2, by rw [← hK]; exact hc, by rw [← hK]; exact hn, w1, k Hc H (Same.refl _) S u w2⟩
    · rw [if_neg q] at P; exact P.elim
  · exact P.elim
def sFldO (c : Nat) (i : Nat) (f : Str) (fv : M D) : MS := fun ρ => RS.ofT (fv ρ) fun d ρ1 => match ρ1[i]? with
  | some (.own (.ins c' fs)) => if c' = c ∧ fs.length < 900 then .nx (ρ1.set i (.own (.ins c' (putD f d fs)))) else .stuck
  | _ => .stuck
theorem s_fldO {c : Nat} {f : Str} (hK : T.K = X.K) (hc : Cls T.K (T.cls c)) (hn : NoAttr T.K (T.cls c) f) (hv : PE X o (tVar i)) (he : SimE T W X e fe) (hs : swapsWith e (some (.Attribute o f pos')) pos.line X.env = pure false := by rfl) : SimS T W X (.Assign [.Attribute o f pos'] e pos) (sFldO c i f fe) := by
  refine simS_of (ps_fld hv pe_tE hs) fun Fr Hc σ H ρ D S P => ?_
  refine he.use S (PostS.ofT P) fun d ρ1 v Hc1 H1 e1 S1 P1 r1 => ?_
  split at P1
  · rename_i c' fs h0
    obtain ⟨p, g1, _, _, dx, vs, g2, g3⟩ := S1.ownv h0
    by_cases q : c' = c ∧ fs.length < 900
    · rw [if_pos q] at P1
      obtain ⟨rfl, l⟩ := q
      exact ⟨.ref p, g1, p, _, dx, vs, rfl, g2, by rw [← hK]; exact hc, by rw [← hK]; exact hn, by rw [g3.length]; omega, P1 σ Hc1 _ (Same.refl _) (S1.write h0 g1 ⟨dx, _, rfl, g3.put r1⟩)⟩
    · rw [if_neg q] at P1; exact P1.elim
  · exact P1.elim
/-! ### dicts with tuple keys -/
def key1 : D → Option Key
  | .int i => some (.inl i)
  | .str x => some (.inr x)
  | _ => none
def keyDs : List D → Option (List Key)
  | [] => some []
  | d :: r => (key1 d).bind fun k => (keyDs r).map fun ks => k :: ks
def keyD : D → Option (List Key)
  | .tup ds => keyDs ds
  | _ => none
theorem key1_ok {H : Hp} {v : V} {d : D} {k : Key} (r : Rp T H v d) (e : key1 d = some k) : v = kV k := by
  cases r <;> first | (cases e; rfl) | cases e
theorem keyDs_ok {H : Hp} : ∀ {vs : List V} {ds : List D} {ks : List Key}, Rps T H vs ds → keyDs ds = some ks → vs = ks.map kV
  | _, _, _, .nil, e => by cases e; rfl
  | _, _, _, @Rps.cons _ _ v d vs ds h r, e => by
    unfold keyDs at e
    cases e1 : key1 d with
    | none => rw [e1] at e; cases e
    | some k =>
      cases e2 : keyDs ds with
      | none => rw [e1, e2] at e; cases e
      | some ks => rw [e1, e2] at e; cases e; rw [List.map_cons, key1_ok h e1, keyDs_ok r e2]
theorem keyD_ok {H : Hp} {v : V} {d : D} {k : List Key} (r : Rp T H v d) (e : keyD d = some k) : ∃ b, v = .ref b ∧ H b = some (.tup (k.map kV)) := by
  cases r with
  | tup h r =>
    have z := keyDs_ok r e
    subst z
    exact ⟨_, rfl, h⟩
  | _ => cases e
/-- o.get(k) -/
def eDGet (fo fk : M D) : M D := fun ρ => (fo ρ).bind fun d ρ1 => match d with
  | .dic es => (fk ρ1).bind fun k ρ2 => (match keyD k with
    | some k => .ok ((lookD k es).getD .non) ρ2
    | none => .stuck)
  | _ => .stuck
theorem x_dget1 (hu : X.A.units + 1 < cLine) (ho : SimE T W X o fo) (he : SimE T W X e fe) (m : M1 X o "get" apos e cpos := by exact ⟨rfl, rfl, rfl, rfl⟩) : SimE T W X (.Call (.Attribute o "get" apos) [e] [] cpos) (eDGet fo fe) := by
  refine sim_of (pe_dget1 hu pe_tE pe_tE m) fun Fr Hc σ H ρ S Q P => ?_
  refine ho.use S (PostR.bind P) fun d ρ1 v Hc1 H1 e1 S1 P1 r1 => ?_
  cases r1 with
  | @dic a vs ds h r =>
    dsimp only at P1
    refine ⟨a, rfl, .inr ⟨vs, .inl (S1.hc _ _ h)⟩, ?_⟩
    refine he.use S1 (PostR.bind P1) fun dk ρ2 u Hc2 H2 e2 S2 P2 r2 => ?_
    cases ek : keyD dk with
    | none => rw [ek] at P2; exact P2.elim
    | some k =>
      rw [ek] at P2
      obtain ⟨b, rfl, hb⟩ := keyD_ok r2 ek
      refine ⟨valV vs k, DGet.t (S2.hc _ _ (e2 _ _ h)) (S2.hc _ _ hb), ?_⟩
      have r' := r.mono e2
      rcases r'.look (k := k) with ⟨q1, q2⟩ | ⟨x, w, q1, q2, q3⟩
      · rw [q2]
        have P3 : PostR T W Fr Hc2 σ (.ok ((lookD k ds).getD .non) ρ2) _ := P2
        rw [q1] at P3
        exact P3 Hc2 H2 (Same.refl _) S2 _ .non
      · rw [q2]
        have P3 : PostR T W Fr Hc2 σ (.ok ((lookD k ds).getD .non) ρ2) _ := P2
        rw [q1] at P3
        exact P3 Hc2 H2 (Same.refl _) S2 _ q3
  | _ => exact P1.elim
/-- o[k] -/
def eDIx (fo fk : M D) : M D := fun ρ => (fo ρ).bind fun d ρ1 => match d with
  | .dic es => (fk ρ1).bind fun k ρ2 => (match keyD k with
    | some k => lift (lookD k es) ρ2
    | none => .stuck)
  | _ => .stuck
theorem x_dix (hu : X.A.units + 1 < cLine) (ho : SimE T W X o fo) (he : SimE T W X e fe) (hs : NoSl e := by intro _ _; rfl) : SimE T W X (.Subscript o e pos) (eDIx fo fe) := by
  refine sim_of (pe_dget hu pe_tE pe_tE hs) fun Fr Hc σ H ρ S Q P => ?_
  refine ho.use S (PostR.bind P) fun d ρ1 v Hc1 H1 e1 S1 P1 r1 => ?_
  cases d with
  | dic ds =>
    cases r1 with
    | @dic a vs ds h r =>
    refine he.use S1 (PostR.bind P1) fun dk ρ2 u Hc2 H2 e2 S2 P2 r2 => ?_
    cases ek : keyD dk with
    | none => rw [ek] at P2; exact P2.elim
    | some k =>
      rw [ek] at P2
      obtain ⟨b, rfl, hb⟩ := keyD_ok r2 ek
      obtain ⟨x, hx, kk⟩ := PostR.some P2
      have r' := r.mono e2
      rcases r'.look (k := k) with ⟨q1, q2⟩ | ⟨x', w, q1, q2, q3⟩
      · rw [q1] at hx; cases hx
      · rw [q1] at hx
        cases hx
        exact ⟨a, w, rfl, by rw [← q2]; exact DGet.t (S2.hc _ _ (e2 _ _ h)) (S2.hc _ _ hb), kk Hc2 H2 (Same.refl _) S2 w q3⟩
  | _ => exact P1.elim
/-- k in o, k not in o (o a value) -/
def eDIn (neg : Bool) (fk fo : M D) : M D := fun ρ => (fk ρ).bind fun k ρ1 => (fo ρ1).bind fun d ρ2 => match d, keyD k with
  | .dic es, some k => .ok (.bl (if neg then !(lookD k es).isSome else (lookD k es).isSome)) ρ2
  | _, _ => .stuck
theorem look_isSome {H : Hp} {k : List Key} {vs : List (List Key × V)} {ds : List (List Key × D)} (r : Rpk T H vs ds) : (valV vs k).isSome = (lookD k ds).isSome := by
  rcases r.look (k := k) with ⟨q1, q2⟩ | ⟨x', w, q1, q2, q3⟩ <;> rw [q1, q2] <;> rfl
theorem rd_din (he : SimE T W X e fe) (ho : SimE T W X o fo) : RdE T W (tDIn (tE X e) (tE X o)) (eDIn false fe fo) := fun Fr Hc σ H ρ S Q P => by
  refine he.use S (PostR.bind P) fun dk ρ1 u Hc1 H1 e1 S1 P1 r1 => ho.use S1 (PostR.bind P1) fun d ρ2 v Hc2 H2 e2 S2 P2 r2 => ?_
  split at P2
  · rename_i es k ek
    cases r2 with
    | @dic a vs ds h r =>
    obtain ⟨b, rfl, hb⟩ := keyD_ok r1 ek
    refine ⟨a, valV vs k, rfl, DGet.t (S2.hc _ _ h) (S2.hc _ _ (e2 _ _ hb)), ?_⟩
    rw [look_isSome r]
    exact P2 Hc2 H2 (Same.refl _) S2 _ (.bl _)
  · exact P2.elim
theorem rd_dnotin (he : SimE T W X e fe) (ho : SimE T W X o fo) : RdE T W (tDNotIn (tE X e) (tE X o)) (eDIn true fe fo) := fun Fr Hc σ H ρ S Q P => by
  refine he.use S (PostR.bind P) fun dk ρ1 u Hc1 H1 e1 S1 P1 r1 => ho.use S1 (PostR.bind P1) fun d ρ2 v Hc2 H2 e2 S2 P2 r2 => ?_
  split at P2
  · rename_i es k ek
    cases r2 with
    | @dic a vs ds h r =>
    obtain ⟨b, rfl, hb⟩ := keyD_ok r1 ek
    refine ⟨a, valV vs k, rfl, DGet.t (S2.hc _ _ h) (S2.hc _ _ (e2 _ _ hb)), ?_⟩
    rw [look_isSome r]
    exact P2 Hc2 H2 (Same.refl _) S2 _ (.bl _)
  · exact P2.elim
theorem t_din (hu : X.A.units + 1 < cLine) (he : SimE T W X e fe) (ho : SimE T W X o fo) (h1 : behindInMarks .In o = false := by rfl) : SimT T W X (.Compare e [.In] [o] pos) (eT (eDIn false fe fo)) := simT_of (pt_cmp (pc_din hu pe_tE pe_tE) h1) (rd_B (rd_din he ho))
theorem t_dnotin (hu : X.A.units + 1 < cLine) (he : SimE T W X e fe) (ho : SimE T W X o fo) (h1 : behindInMarks .NotIn o = false := by rfl) : SimT T W X (.Compare e [.NotIn] [o] pos) (eT (eDIn true fe fo)) := simT_of (pt_cmp (pc_dnotin hu pe_tE pe_tE) h1) (rd_B (rd_dnotin he ho))
/-- k in d, d an owned dict -/
def eDInO (neg : Bool) (i : Nat) (fk : M D) : M D := fun ρ => (fk ρ).bind fun k ρ1 => match ρ1[i]?, keyD k with
  | some (.own (.dic es)), some k => .ok (.bl (if neg then !(lookD k es).isSome else (lookD k es).isSome)) ρ1
  | _, _ => .stuck
theorem t_dinO (hu : X.A.units + 1 < cLine) (he : SimE T W X e fe) (hv : PE X o (tVar i)) (h1 : behindInMarks .In o = false := by rfl) : SimT T W X (.Compare e [.In] [o] pos) (eT (eDInO false i fe)) := by
  refine simT_of (pt_cmp (pc_din hu pe_tE hv) h1) (rd_B fun Fr Hc σ H ρ S Q P => ?_)
  refine he.use S (PostR.bind P) fun dk ρ1 u Hc1 H1 e1 S1 P1 r1 => ?_
  split at P1
  · rename_i es k h0 ek
    obtain ⟨p, g1, _, _, vs, g2, g3⟩ := S1.ownv h0
    obtain ⟨b, rfl, hb⟩ := keyD_ok r1 ek
    refine ⟨.ref p, g1, p, valV vs k, rfl, DGet.t g2 (S1.hc _ _ hb), ?_⟩
    rw [look_isSome g3]
    exact P1 Hc1 H1 (Same.refl _) S1 _ (.bl _)
  · exact P1.elim
/-- d[k] = v, d an owned dict -/
def sDPutO (i : Nat) (fk fv : M D) : MS := fun ρ => RS.ofT (fv ρ) fun v ρ1 => match ρ1[i]? with
  | some (.own (.dic _)) => RS.ofT (fk ρ1) fun k ρ2 => (match ρ2[i]?, keyD k with
    | some (.own (.dic es)), some k => if es.length < 100000 then .nx (ρ2.set i (.own (.dic (dputD k v es)))) else .stuck
    | _, _ => .stuck)
  | _ => .stuck
theorem s_dputO (hu : X.A.units + 1 < cLine) (hv : PE X o (tVar i)) (hk : SimE T W X b fb) (he : SimE T W X e fe) (hs : swapsWith e (some (.Subscript o b pos')) pos.line X.env = pure false := by rfl) : SimS T W X (.Assign [.Subscript o b pos'] e pos) (sDPutO i fb fe) := by
  refine simS_of (ps_dput hu hv pe_tE pe_tE hs) fun Fr Hc σ H ρ D S P => ?_
  refine he.use S (PostS.ofT P) fun d ρ1 v Hc1 H1 e1 S1 P1 r1 => ?_
  split at P1
  · rename_i d0 h0
    obtain ⟨p, g1, _⟩ := S1.ownv h0
    refine ⟨.ref p, g1, ?_⟩
    refine hk.use S1 (PostS.ofT P1) fun dk ρ2 u Hc2 H2 e2 S2 P2 r2 => ?_
    split at P2
    · rename_i es k q0 ek
      obtain ⟨q, w1, _, _, vs, w2, w3⟩ := S2.ownv q0
      rw [g1] at w1
      cases w1
      obtain ⟨bk, rfl, hb⟩ := keyD_ok r2 ek
      by_cases l : es.length < 100000
      · rw [if_pos l] at P2
        exact ⟨p, _, rfl, DPut.t w2 (S2.hc _ _ hb) (line_lt (by rw [w3.length]; exact l)), P2 σ Hc2 _ (Same.refl _) (S2.write q0 g1 ⟨_, rfl, w3.put (r1.mono e2)⟩)⟩
      · rw [if_neg l] at P2; exact P2.elim
    · exact P2.elim
  · exact P1.elim
/-! ### isinstance -/
def tys : List String := ["str", "int", "bool", "list", "tuple"]
def eIsi (names : List String) (f : M D) : M D := fun ρ => (f ρ).bind fun d ρ1 => lift ((tyD d).map fun t => .bl (names.any (isB t))) ρ1
theorem kitB_ok {d : D} {t n : String} (h : tyD d = some t) (hn : n ∈ tys) : kitB t n = some (isB t n) := by
  have ht : t ∈ ["NoneType", "bool", "int", "str", "tuple", "list"] := by
    cases d <;> first | (cases h; done) | (cases h; decide)
  simp only [tys, List.mem_cons, List.not_mem_nil, or_false] at ht hn
  rcases ht with rfl | rfl | rfl | rfl | rfl | rfl <;> rcases hn with rfl | rfl | rfl | rfl | rfl <;> decide +kernel
theorem tyX_ok {K : PySem.W.Frag} {H : Hp} {v : V} {d : D} {t : String} (r : Rp T H v d) (h : tyD d = some t) : TyX K H v (.type t) := by
  cases r <;> first | (cases h; done) | skip
  · cases h; exact .base .non
  · cases h; exact .base (.bl _)
  · cases h; exact .base (.int _)
  · cases h; exact .base (.str _)
  · rename_i hh _; cases h; exact .base (.tup hh)
  · rename_i hh _; cases h; exact .base (.lst hh)
theorem x_isi {nm : Str} {tn : String} {p2 : Pos} (ht : tn ∈ tys) (hg : Gl X "isinstance") (hm : X.mg "isinstance" = none) (hg2 : Gl X nm) (hm2 : X.mg nm = none) (hv2 : bootBuiltins nm = some (.type tn)) (he : SimE T W X e fe)
    (hn2 : nm ≠ "__name__" := by decide) (hd2 : (nm == ("__debug__" : Str)) = false := by decide)
    (hs : starEach [e, .Name nm p2] X.env = (false, eval e X.env) :: starEach [.Name nm p2] X.env := by rfl) (hs2 : starEach [.Name nm p2] X.env = (false, eval (.Name nm p2) X.env) :: starEach [] X.env := by rfl) (hpl : (backTo pos (starEach [.Name nm p2] X.env)).any (·.1) = false := by rfl) :
    SimE T W X (.Call (.Name "isinstance" p) [e, .Name nm p2] [] pos) (eIsi [tn] fe) := by
  refine sim_of (pe_callB call_isi hg hm (by decide +kernel) (pa_cons pe_tE (pa_cons (pe_bltn (v := .ty tn) hg2 hm2 hv2 rfl hn2 hd2) pa_nil hs2) hs) (by decide) (by decide) hs hpl) fun Fr Hc σ H ρ S Q P => ?_
  show tE X e σ H fun x H1 => rIsi X.K [x, .ty tn] H1 Q
  refine he.use S (PostR.bind P) fun d ρ1 v Hc1 H1 e1 S1 P1 r1 => ?_
  obtain ⟨d', hd, k⟩ := P1.some
  cases et : tyD d with
  | none => rw [et] at hd; cases hd
  | some t =>
    rw [et] at hd
    have hd' : some (D.bl (List.any [tn] (isB t))) = some d' := hd
    cases hd'
    refine ⟨v, .ty tn, .type t, .type tn, isB t tn, rfl, .ty tn, tyX_ok (r1.mono S1.hc) et, kit_ty (kitB_ok et ht), ?_⟩
    have z := k Hc1 H1 (Same.refl _) S1 (.bl (isB t tn)) (by rw [List.any_cons, List.any_nil, Bool.or_false]; exact .bl _)
    exact z
theorem kitAny_ok {K : PySem.W.Frag} {d : D} {t : String} (h : tyD d = some t) : ∀ {ns : List String}, (∀ n ∈ ns, n ∈ tys) → PySem.W.kitAny K (.type t) (ns.map .type) = some (ns.any (isB t))
  | [], _ => rfl
  | n :: ns, hn => by
    have z : PySem.W.kitOne K (.type t) (.type n) = some (isB t n) := kit_ty (kitB_ok h (hn n List.mem_cons_self))
    rw [List.map_cons]
    unfold PySem.W.kitAny
    rw [z, List.any_cons]
    cases isB t n with
    | true => rfl
    | false => rw [Bool.false_or]; exact kitAny_ok h fun m hm => hn m (List.mem_cons_of_mem _ hm)
theorem x_isi2 {nm nm2 : Str} {tn tn2 : String} {p2 p3 tpos : Pos} {kk : Nat} (ht : tn ∈ tys) (ht2 : tn2 ∈ tys) (hg : Gl X "isinstance") (hm : X.mg "isinstance" = none) (hg2 : Gl X nm) (hm2 : X.mg nm = none) (hv2 : bootBuiltins nm = some (.type tn))
    (hg3 : Gl X nm2) (hm3 : X.mg nm2 = none) (hv3 : bootBuiltins nm2 = some (.type tn2)) (he : SimE T W X e fe)
    (hn2 : nm ≠ "__name__" := by decide) (hd2 : (nm == ("__debug__" : Str)) = false := by decide) (hn3 : nm2 ≠ "__name__" := by decide) (hd3 : (nm2 == ("__debug__" : Str)) = false := by decide)
    (hs : starEach [e, .Tuple [.Name nm p2, .Name nm2 p3] kk tpos] X.env = (false, eval e X.env) :: starEach [.Tuple [.Name nm p2, .Name nm2 p3] kk tpos] X.env := by rfl)
    (hs2 : starEach [.Tuple [.Name nm p2, .Name nm2 p3] kk tpos] X.env = (false, eval (.Tuple [.Name nm p2, .Name nm2 p3] kk tpos) X.env) :: starEach [] X.env := by rfl)
    (hs3 : starEach [.Name nm p2, .Name nm2 p3] X.env = (false, eval (.Name nm p2) X.env) :: starEach [.Name nm2 p3] X.env := by rfl)
    (hs4 : starEach [.Name nm2 p3] X.env = (false, eval (.Name nm2 p3) X.env) :: starEach [] X.env := by rfl)
    (hpl : (backTo pos (starEach [.Tuple [.Name nm p2, .Name nm2 p3] kk tpos] X.env)).any (·.1) = false := by rfl) :
    SimE T W X (.Call (.Name "isinstance" p) [e, .Tuple [.Name nm p2, .Name nm2 p3] kk tpos] [] pos) (eIsi [tn, tn2] fe) := by
  refine sim_of (pe_callB call_isiT hg hm (by decide +kernel) (pa_cons pe_tE (pa_cons (pe_tup (pa_cons (pe_bltn (v := .ty tn) hg2 hm2 hv2 rfl hn2 hd2) (pa_cons (pe_bltn (v := .ty tn2) hg3 hm3 hv3 rfl hn3 hd3) pa_nil hs4) hs3)) pa_nil hs2) hs) (by decide) (by decide) hs hpl) fun Fr Hc σ H ρ S Q P => ?_
  show tE X e σ H fun x H1 => ([V.ty tn, V.ty tn2].length ≤ sizeLine ∧ ∀ p, H1 p = none → rIsiT X.K [x, .ref p] (upd H1 p (.tup [.ty tn, .ty tn2])) Q)
  refine he.use S (PostR.bind P) fun d ρ1 v Hc1 H1 e1 S1 P1 r1 => ?_
  refine ⟨line_of (show 2 ≤ 100000 by decide), fun q hq => ?_⟩
  obtain ⟨d', hd, k⟩ := P1.some
  cases et : tyD d with
  | none => rw [et] at hd; cases hd
  | some t =>
    rw [et] at hd
    have hd' : some (D.bl (List.any [tn, tn2] (isB t))) = some d' := hd
    cases hd'
    obtain ⟨e2, S2⟩ := S1.laid (o := .tup [.ty tn, .ty tn2]) hq
    refine ⟨v, q, [.ty tn, .ty tn2], .type t, [.type tn, .type tn2], List.any [tn, tn2] (isB t), rfl, upd_same, .cons (.ty tn) (.cons (.ty tn2) .nil), tyX_ok ((r1.mono e2).mono S2.hc) et, ?_, ?_⟩
    · exact kitAny_ok et (ns := [tn, tn2]) fun n hn => by
        rcases List.mem_cons.mp hn with rfl | hn
        · exact ht
        · rcases List.mem_cons.mp hn with rfl | hn
          · exact ht2
          · cases hn
    · exact k _ _ e2 S2 _ (.bl _)
end
end PD
set_option maxRecDepth 100000
/-! PD8a: list comprehensions. -/
namespace PD
open PySem PySem.Spec PyProof.Rows L2
/-! ### forgotten slots -/
def wipeD (ρ : DEnv) : List Nat → DEnv
  | [] => ρ
  | v :: vs => (wipeD ρ vs).set v .un
theorem wipe_set {σ : L2.St} {i : Nat} {x : Option V} : ∀ {vs : List Nat}, i ∈ vs → wipe (σ.set i x) vs = wipe σ vs
  | v :: vs, h => by
    have key : ∀ {us : List Nat}, i ∉ us → wipe (σ.set i x) us = (wipe σ us).set i x := by
      intro us
      induction us with
      | nil => intro _; rfl
      | cons u us ih =>
        intro hu
        have h1 : i ≠ u := fun z => hu (by rw [z]; exact List.mem_cons_self)
        have h2 : i ∉ us := fun z => hu (List.mem_cons_of_mem _ z)
        show (wipe (σ.set i x) us).set u none = ((wipe σ us).set u none).set i x
        rw [ih h2, List.set_comm _ _ h1]
    show (wipe (σ.set i x) vs).set v none = (wipe σ vs).set v none
    by_cases hv : i ∈ vs
    · rw [wipe_set hv]
    · have e : i = v := by
        rcases List.mem_cons.mp h with h | h
        · exact h
        · exact absurd h hv
      subst e
      rw [key hv, List.set_set]
theorem wipe_wipe {σ : L2.St} {vs : List Nat} : ∀ {us : List Nat}, (∀ u ∈ us, u ∈ vs) → wipe (wipe σ us) vs = wipe σ vs
  | [], _ => rfl
  | u :: us, h => by
    show wipe ((wipe σ us).set u none) vs = wipe σ vs
    rw [wipe_set (h u List.mem_cons_self), wipe_wipe fun w hw => h w (List.mem_cons_of_mem _ hw)]
/-- the slots vs hold nothing -/
def Bare (ρ : DEnv) (vs : List Nat) : Prop := ∀ v ∈ vs, ρ[v]? = some .un ∨ ρ[v]? = none
theorem bare_wipe (ρ : DEnv) : ∀ vs : List Nat, Bare (wipeD ρ vs) vs
  | [], v, h => by cases h
  | u :: vs, v, h => by
    show ((wipeD ρ vs).set u .un)[v]? = some .un ∨ ((wipeD ρ vs).set u .un)[v]? = none
    by_cases e : u = v
    · subst e
      by_cases l : u < (wipeD ρ vs).length
      · rw [List.getElem?_set_self l]; exact .inl rfl
      · rw [List.getElem?_eq_none (by rw [List.length_set]; omega)]; exact .inr rfl
    · rw [List.getElem?_set_ne e]
      rcases List.mem_cons.mp h with h | h
      · exact absurd h.symm e
      · exact bare_wipe ρ vs v h
section
variable {T : Tab} {Fr : Fm} {Hc H : Hp} {σ : L2.St} {ρ : DEnv}
theorem StC.wipe (S : StC T Fr Hc σ H ρ) : ∀ {vs : List Nat}, (∀ v ∈ vs, v ≠ 0) → StC T Fr Hc (wipe σ vs) H (wipeD ρ vs)
  | [], _ => S
  | v :: vs, h => (StC.wipe S fun u hu => h u (List.mem_cons_of_mem _ hu)).set_un (h v List.mem_cons_self)
theorem StC.unwipe {vs : List Nat} (h0 : ∀ v ∈ vs, v ≠ 0) (S : StC T Fr Hc (L2.wipe σ vs) H ρ) (hb : Bare ρ vs) : StC T Fr Hc σ H ρ := by
  have out : ∀ {i : Nat}, i ∉ vs → (L2.wipe σ vs)[i]? = σ[i]? := fun {i} hi => wipe_out hi
  have own : ∀ {i : Nat}, isOwn ρ[i]? = true → i ∉ vs := fun {i} hi hv => by
    rcases hb i hv with e | e <;> rw [e] at hi <;> cases hi
  refine ⟨S.fr, S.hc, S.dj, by rw [← S.ln, wipe_length], fun i => ?_, fun i j a h1 h2 h3 h4 => ?_, fun a ha => ?_⟩
  · by_cases hi : i ∈ vs
    · rcases hb i hi with e | e <;> rw [e] <;> trivial
    · have z := S.sl i
      rw [out hi] at z
      exact z
  · exact S.ds i j a (by rw [out (own h3)]; exact h1) (by rw [out (own h4)]; exact h2) h3 h4
  · rw [← out (fun hv => h0 0 hv rfl)]
    exact S.pn a ha
/-- an object under work stands in the frame -/
def Fm.plus (Fr : Fm) (D : Addr) (o : HO) : Fm := ⟨upd Fr.fr D o, Fr.pin⟩
theorem StC.plus (S : StC T Fr Hc σ H ρ) {D : Addr} {o : HO} (hD : H D = none) : StC T (Fr.plus D o) Hc σ (upd H D o) ρ := by
  have e : Same H (upd H D o) := fun b u hb => by rw [upd_ne (ne_of_none hb hD)]; exact hb
  refine ⟨fun b u hb => ?_, S.hc.trans e, fun b u hb hu => ?_, S.ln, fun i => ?_, S.ds, S.pn⟩
  · by_cases q : b = D
    · have hb' : upd Fr.fr D o b = some u := hb
      subst q
      rw [upd_same] at hb' ⊢
      exact hb'
    · have hb' : upd Fr.fr D o b = some u := hb
      rw [upd_ne q] at hb' ⊢
      exact S.fr b u hb'
  · by_cases q : b = D
    · subst q; exact S.hc.free hD
    · have hb' : upd Fr.fr D o b = some u := hb
      rw [upd_ne q] at hb'
      exact S.dj b u hb' hu
  · have h := S.sl i
    cases er : ρ[i]? with
    | none => trivial
    | some s =>
      rw [er] at h
      cases s with
      | un => trivial
      | val d => exact h
      | own d =>
        obtain ⟨a, h1, h2, h3, h4⟩ := h
        obtain ⟨u, hu, _⟩ := h4.some
        have na : a ≠ D := ne_of_none hu hD
        refine ⟨a, h1, ?_, h3, ?_⟩
        · show upd Fr.fr D o a = none
          rw [upd_ne na]; exact h2
        · rw [upd_ne na]; exact h4
theorem StC.unplus {D : Addr} {o : HO} (hD : Fr.fr D = none) (S : StC T (Fr.plus D o) Hc σ H ρ) : StC T Fr Hc σ H ρ := by
  have e : Same Fr.fr (Fr.plus D o).fr := fun b u hb => by
    show upd Fr.fr D o b = some u
    rw [upd_ne (ne_of_none hb hD)]; exact hb
  refine ⟨e.trans S.fr, S.hc, fun b u hb hu => S.dj b u (e b u hb) hu, S.ln, fun i => ?_, S.ds, S.pn⟩
  have h := S.sl i
  cases er : ρ[i]? with
  | none => trivial
  | some s =>
    rw [er] at h
    cases s with
    | un => trivial
    | val d => exact h
    | own d =>
      obtain ⟨a, h1, h2, h3, h4⟩ := h
      exact ⟨a, h1, e.free h2, h3, h4⟩
theorem StC.plus_at {D : Addr} {o : HO} (S : StC T (Fr.plus D o) Hc σ H ρ) (ho : nT o := by trivial) : H D = some o ∧ Hc D = none ∧ ∀ j : Nat, σ[j]? = some (some (.ref D)) → isOwn ρ[j]? = true → False := by
  have e : (Fr.plus D o).fr D = some o := upd_same
  refine ⟨S.fr _ _ e, S.dj _ _ e ho, fun j h1 h2 => ?_⟩
  cases er : ρ[j]? with
  | none => rw [er] at h2; cases h2
  | some s =>
    rw [er] at h2
    cases s with
    | own d =>
      obtain ⟨a, g1, g2, _⟩ := S.ownv er
      rw [h1] at g1
      cases g1
      rw [e] at g2
      cases g2
    | _ => cases h2
theorem StC.replus {D : Addr} {o o' : HO} (S : StC T (Fr.plus D o) Hc σ H ρ) (ho : nT o := by trivial) : StC T (Fr.plus D o') Hc σ (upd H D o') ρ := by
  have pl : ∀ b, b ≠ D → (Fr.plus D o').fr b = (Fr.plus D o).fr b := fun b q => by
    show upd Fr.fr D o' b = upd Fr.fr D o b
    rw [upd_ne q, upd_ne q]
  have cd := (S.plus_at ho).2.1
  refine ⟨fun b u hb => ?_, fun b u hb => ?_, fun b u hb hu => ?_, S.ln, fun i => ?_, S.ds, S.pn⟩
  · by_cases q : b = D
    · subst q
      have hb' : upd Fr.fr b o' b = some u := hb
      rw [upd_same] at hb' ⊢
      exact hb'
    · rw [pl b q] at hb
      rw [upd_ne q]
      exact S.fr b u hb
  · rw [upd_ne (ne_of_none hb cd)]
    exact S.hc b u hb
  · by_cases q : b = D
    · subst q; exact cd
    · rw [pl b q] at hb
      exact S.dj b u hb hu
  · have h := S.sl i
    cases er : ρ[i]? with
    | none => trivial
    | some s =>
      rw [er] at h
      cases s with
      | un => trivial
      | val d => exact h
      | own d =>
        obtain ⟨a, h1, h2, h3, h4⟩ := h
        have na : a ≠ D := fun z => by
          subst z
          have e : (Fr.plus a o).fr a = some o := upd_same
          rw [e] at h2
          cases h2
        exact ⟨a, h1, by rw [pl a na]; exact h2, h3, by rw [upd_ne na]; exact h4⟩
end
/-! ### a block's parts -/
abbrev W0 : WX := fun _ _ _ _ => False
def tEb (X : Cx) (scope : Scope) (e : Expr) : TE := fun σ H Q => ∀ (s : Shared) (H0 : Hp) (C : Addr) (cl : List (Str × Addr)) (fp : List Addr), tE (X.blk s H0 scope (compEnvC scope cl C X.env) fp) e σ H Q
def tTb (X : Cx) (scope : Scope) (e : Expr) : TT := fun σ H Q => ∀ (s : Shared) (H0 : Hp) (C : Addr) (cl : List (Str × Addr)) (fp : List Addr), tT (X.blk s H0 scope (compEnvC scope cl C X.env) fp) e σ H Q
def tIb (X : Cx) (scope : Scope) (tg e : Expr) : TI := fun σ H Q => ∀ (s : Shared) (H0 : Hp) (C : Addr) (cl : List (Str × Addr)) (fp : List Addr), tIt (X.blk s H0 scope (compEnvC scope cl C X.env) fp) tg e σ H Q
section
variable {T : Tab} {X : Cx} {scope : Scope} {e tg : Expr}
theorem pe_b (s : Shared) (H : Hp) (C : Addr) (cl : List (Str × Addr)) (fp : List Addr) : PE (X.blk s H scope (compEnvC scope cl C X.env) fp) e (tEb X scope e) := ⟨fun pins s' σ H' Q I h => h s H C cl fp pins s' I⟩
theorem pt_b (s : Shared) (H : Hp) (C : Addr) (cl : List (Str × Addr)) (fp : List Addr) : PT (X.blk s H scope (compEnvC scope cl C X.env) fp) e (tTb X scope e) := ⟨fun pins s' σ H' Q I h => h s H C cl fp pins s' I⟩
theorem pi_b (s : Shared) (H : Hp) (C : Addr) (cl : List (Str × Addr)) (fp : List Addr) : PI (X.blk s H scope (compEnvC scope cl C X.env) fp) tg e (tIb X scope tg e) := ⟨fun pins s' σ H' Q I h => h s H C cl fp pins s' I⟩
abbrev SimEb (T : Tab) (X : Cx) (scope : Scope) (e : Expr) (f : M D) : Prop := ∀ (s : Shared) (H : Hp) (C : Addr) (cl : List (Str × Addr)) (fp : List Addr), SimE T W0 (X.blk s H scope (compEnvC scope cl C X.env) fp) e f
abbrev SimTb (T : Tab) (X : Cx) (scope : Scope) (e : Expr) (f : M Bool) : Prop := ∀ (s : Shared) (H : Hp) (C : Addr) (cl : List (Str × Addr)) (fp : List Addr), SimT T W0 (X.blk s H scope (compEnvC scope cl C X.env) fp) e f
abbrev SimIb (T : Tab) (X : Cx) (scope : Scope) (tg e : Expr) (f : M (List D)) : Prop := ∀ (s : Shared) (H : Hp) (C : Addr) (cl : List (Str × Addr)) (fp : List Addr), SimI T W0 (X.blk s H scope (compEnvC scope cl C X.env) fp) tg e f
theorem rd_b {f : M D} (h : SimEb T X scope e f) : RdE T W0 (tEb X scope e) f := fun Fr Hc σ H ρ S Q P s H0 C cl fp => h s H0 C cl fp Fr Hc σ H ρ S Q P
theorem rdT_b {f : M Bool} (h : SimTb T X scope e f) : RdT T W0 (tTb X scope e) f := fun Fr Hc σ H ρ S Q P s H0 C cl fp => h s H0 C cl fp Fr Hc σ H ρ S Q P
theorem rdI_b {f : M (List D)} (h : SimIb T X scope tg e f) : RdI T W0 (tIb X scope tg e) f := fun Fr Hc σ H ρ S Q P s H0 C cl fp => h s H0 C cl fp Fr Hc σ H ρ S Q P
end
/-! ### a block's targets -/
def Wp (σ σ' : L2.St) (js : List Nat) : Prop := ∀ vs : List Nat, (∀ j ∈ js, j ∈ vs) → wipe σ' vs = wipe σ vs
def RdW (T : Tab) (g : TG) (f : GD) (js : List Nat) : Prop := ∀ (Fr : Fm) (Hc : Hp) (σ : L2.St) (H : Hp) (ρ ρ' : DEnv) (v : V) (d : D), StC T Fr Hc σ H ρ → Rp T Hc v d → f d ρ = some ρ' → ∀ Q : L2.St → Hp → Prop, (∀ σ', StC T Fr Hc σ' H ρ' → Wp σ σ' js → Q σ' H) → g v σ H Q
def RdWs (T : Tab) (g : TGs) (f : List D → DEnv → Option DEnv) (js : List Nat) : Prop := ∀ (Fr : Fm) (Hc : Hp) (σ : L2.St) (H : Hp) (ρ ρ' : DEnv) (v : List V) (d : List D), StC T Fr Hc σ H ρ → Rps T Hc v d → f d ρ = some ρ' → ∀ Q : L2.St → Hp → Prop, (∀ σ', StC T Fr Hc σ' H ρ' → Wp σ σ' js → Q σ' H) → g v σ H Q
section
variable {T : Tab} {i n : Nat} {g : TG} {gs : TGs} {f : GD} {fs : List D → DEnv → Option DEnv} {js ks : List Nat}
theorem rw_name (h0 : i ≠ 0) : RdW T (gName i) (gdN i) [i] := fun Fr Hc σ H ρ ρ' v d S r e Q q => by
  cases e
  exact q _ (S.set_val h0 r) fun vs hv => wipe_set (hv i List.mem_cons_self)
theorem rw_nil : RdWs T gNil gdNil [] := fun Fr Hc σ H ρ ρ' v d S r e Q q => by
  cases r with
  | nil => cases e; exact ⟨rfl, q σ S fun _ _ => rfl⟩
  | cons h t => cases e
theorem rw_cons (h1 : RdW T g f js) (h2 : RdWs T gs fs ks) : RdWs T (gCons g gs) (gdCons f fs) (js ++ ks) := fun Fr Hc σ H ρ ρ' v d S r e Q q => by
  cases r with
  | nil => cases e
  | @cons v d vs ds h t =>
    dsimp only [gdCons] at e
    cases e1 : f d ρ with
    | none => rw [e1] at e; cases e
    | some ρ1 =>
      rw [e1] at e
      exact ⟨v, vs, rfl, h1 Fr Hc σ H ρ ρ1 v d S h e1 _ fun σ1 S1 w1 => h2 Fr Hc σ1 H ρ1 ρ' vs ds S1 t e Q fun σ2 S2 w2 => q σ2 S2 fun us hu =>
        (w2 us fun j hj => hu j (List.mem_append_right _ hj)).trans (w1 us fun j hj => hu j (List.mem_append_left _ hj))⟩
theorem rw_tup {K : PySem.W.Frag} (h : RdWs T gs fs js) : RdW T (gTup K n gs) (gdTup n fs) js := fun Fr Hc σ H ρ ρ' v d S r e Q q => by
  cases r <;> first | cases e; done | skip
  rename_i a vs ds h1 r1
  dsimp only [gdTup] at e
  by_cases l : ds.length = n
  · rw [if_pos l] at e
    exact ⟨a, vs, rfl, SqT.of (S.hc _ _ h1), by rw [r1.length]; exact l, h Fr Hc σ H ρ ρ' vs ds S r1 e Q q⟩
  · rw [if_neg l] at e; cases e
end
/-! ### tests of a clause -/
def mYes : M Bool := fun ρ => .ok true ρ
theorem rd_yes {T : Tab} : RdT T W0 tYes mYes := fun Fr Hc σ H ρ S Q P => P Hc H (Same.refl _) S
/-! ### the comprehension -/
def lcLoop (vs : List Nat) (tg : GD) (ft : M Bool) (fe : M D) : List D → DEnv → List D → RM D
  | [], ρ, acc => .ok (.lst acc) ρ
  | d :: r, ρ, acc => match tg d ρ with
    | none => .stuck
    | some ρ1 => match ft ρ1 with
      | .ok b ρ2 => if b = true then (match fe ρ2 with
        | .ok y ρ3 => if acc.length < 100000 then lcLoop vs tg ft fe r (wipeD ρ3 vs) (acc ++ [y]) else .stuck
        | _ => .stuck) else lcLoop vs tg ft fe r (wipeD ρ2 vs) acc
      | _ => .stuck
def eLc (vs : List Nat) (fi : M (List D)) (tg : GD) (ft : M Bool) (fe : M D) : M D := fun ρ => (fi ρ).bind fun ds ρ1 => lcLoop vs tg ft fe ds (wipeD ρ1 vs) []
section
variable {T : Tab} {W : WX} {X : Cx} {wi : TI} {g : TG} {tt : TT} {te : TE} {fi : M (List D)} {tg : GD} {ft : M Bool} {fe : M D} {vs js : List Nat}
theorem rd_lc (h0 : ∀ v ∈ vs, v ≠ 0) (hj : ∀ j ∈ js, j ∈ vs) (hi : RdI T W wi fi) (hg : RdW T g tg js) (ht : RdT T W0 tt ft) (he : RdE T W0 te fe) : RdN T W (tLc wi g tt te vs) (eLc vs fi tg ft fe) := fun Fr Hc σ H ρ S Q P => by
  refine hi.use S (PostR.bind P) fun ds ρ1 J Hc1 H1 e1 S1 P1 ok => ?_
  intro D hD
  have fD : Fr.fr D = none := S1.fr.free hD
  refine ⟨fun i m H' => m = ds.length - i ∧ i ≤ ds.length ∧ ∃ Hc2 ρ2 acc das, Same Hc1 Hc2 ∧ StC T (Fr.plus D (.lst acc)) Hc2 (wipe σ vs) H' ρ2 ∧ Bare ρ2 vs ∧ Rps T Hc2 acc das ∧
    PostR T W Fr Hc2 σ (lcLoop vs tg ft fe (ds.drop i) ρ2 das) (fun d ρ' Hc' H' => ∀ p, Nw T Fr Hc' σ H' ρ' p d → Q (.ref p) H'),
    ⟨_, rfl, Nat.zero_le _, Hc1, wipeD ρ1 vs, [], [], Same.refl _, (S1.wipe h0).plus hD, bare_wipe _ _, .nil, P1⟩, ?_⟩
  rintro i m H2 ⟨rfl, hi, Hc2, ρ2, acc, das, e2, S2, b2, r2, P2⟩
  by_cases l : i < ds.length
  · refine .inr ⟨ok.go i H2 (e2.trans S2.hc) l, _, fun H' n => ⟨ds.length - (i + 1), by omega, n⟩, fun x H3 y => ?_⟩
    obtain ⟨Hc3, e3, S3, r3⟩ := ok.yld i H2 x H3 _ _ ρ2 Hc2 _ S2 e2 (List.getElem?_eq_getElem l) y
    rw [List.drop_eq_getElem_cons l] at P2
    unfold lcLoop at P2
    cases g1 : tg ds[i] ρ2 with
    | none => rw [g1] at P2; exact P2.elim
    | some ρ3 =>
      rw [g1] at P2
      refine hg _ Hc3 _ H3 ρ2 ρ3 x _ S3 r3 g1 _ fun σ4 S4 w4 => ?_
      refine ⟨w4 vs hj |>.trans (wipe_wipe fun _ h => h), ?_⟩
      have wq : wipe σ4 vs = wipe σ vs := w4 vs hj |>.trans (wipe_wipe fun _ h => h)
      dsimp only at P2
      refine ht _ Hc3 σ4 H3 ρ3 S4 _ ?_
      cases g2 : ft ρ3 with
      | ok b ρ4 =>
        rw [g2] at P2
        intro Hc4 H4 e4 S5
        cases b with
        | false =>
          refine ⟨rfl, l, Hc4, wipeD ρ4 vs, acc, das, (e2.trans e3).trans e4, ?_, bare_wipe _ _, (r2.mono e3).mono e4, P2.up (e3.trans e4)⟩
          rw [← wq]
          exact S5.wipe h0
        | true =>
          rw [if_pos rfl]
          refine he _ Hc4 σ4 H4 ρ4 S5 _ ?_
          dsimp only at P2
          rw [if_pos rfl] at P2
          cases g3 : fe ρ4 with
          | ok y' ρ5 =>
            rw [g3] at P2
            intro Hc5 H5 e5 S6 v rv
            dsimp only at P2
            by_cases la : das.length < 100000
            · rw [if_pos la] at P2
              have ra : Rps T Hc5 acc das := ((r2.mono e3).mono e4).mono e5
              refine ⟨acc, S6.plus_at.1, line_lt (by rw [ra.length]; exact la), rfl, l, Hc5, wipeD ρ5 vs, acc ++ [v], das ++ [y'], ((e2.trans e3).trans e4).trans e5, ?_, bare_wipe _ _, ra.append (.cons rv .nil), P2.up ((e3.trans e4).trans e5)⟩
              rw [← wq]
              exact (S6.wipe h0).replus
            · rw [if_neg la] at P2; exact P2.elim
          | exc z ρ5 => rw [g3] at P2; exact P2.elim
          | stuck => rw [g3] at P2; exact P2.elim
      | exc z ρ4 => rw [g2] at P2; exact P2.elim
      | stuck => rw [g2] at P2; exact P2.elim
  · have e : i = ds.length := by omega
    subst e
    rw [List.drop_eq_nil_of_le (Nat.le_refl _)] at P2
    refine .inl ⟨ok.stop H2 (e2.trans S2.hc), ?_⟩
    obtain ⟨q1, q2, q3⟩ := S2.plus_at
    have S3 : StC T Fr Hc2 (wipe σ vs) H2 ρ2 := S2.unplus fD
    have S4 : StC T Fr Hc2 σ H2 ρ2 := S3.unwipe h0 b2
    refine P2 Hc2 H2 (Same.refl _) S4 D ⟨fD, q2, fun j h1 h2 => ?_, acc, q1, r2⟩
    have nj : j ∉ vs := fun hv => by rcases b2 j hv with z | z <;> rw [z] at h2 <;> cases h2
    exact q3 j (by rw [wipe_out nj]; exact h1) h2
end
section
variable {T : Tab} {W : WX} {X : Cx} {g : TG} {fi : M (List D)} {tgf : GD} {ft : M Bool} {fe : M D} {js : List Nat} {elt tg iter c : Expr} {scope : Scope} {own : List (Str × Nat)} {pos : Pos}
/-- [elt for tg in iter] -/
theorem x_lc (hc : X.calm = true) (hN : X.N.Nodup) (ok : BlkOk X.N X.env.scope scope own) (h0 : ∀ v ∈ own.map (·.2), v ≠ 0) (hj : ∀ j ∈ js, j ∈ own.map (·.2)) (hi : SimI T W X tg iter fi)
    (hg : ∀ (s : Shared) (H : Hp) (C : Addr) (cl : List (Str × Addr)) (fp : List Addr), PG (X.blk s H scope (compEnvC scope cl C X.env) fp) tg g) (hr : RdW T g tgf js) (he : SimEb T X scope elt fe) (hs : ∀ x, foldedSetIterable iter X.env x = pure x := by intro _; rfl) :
    SimN T W X (.ListComp elt [⟨tg, iter, [], 0⟩] scope pos) (eLc (own.map (·.2)) fi tgf mYes fe) :=
  simN_of (pe_lc (tt := tYes) hc hN pi_tI ok hg (fun _ _ _ _ _ => pts_nil) pe_b hs) (rd_lc h0 hj hi hr rd_yes (rd_b he))
/-- [elt for tg in iter if c] -/
theorem x_lcIf (hc : X.calm = true) (hN : X.N.Nodup) (ok : BlkOk X.N X.env.scope scope own) (h0 : ∀ v ∈ own.map (·.2), v ≠ 0) (hj : ∀ j ∈ js, j ∈ own.map (·.2)) (hi : SimI T W X tg iter fi)
    (hg : ∀ (s : Shared) (H : Hp) (C : Addr) (cl : List (Str × Addr)) (fp : List Addr), PG (X.blk s H scope (compEnvC scope cl C X.env) fp) tg g) (hr : RdW T g tgf js) (ht : SimTb T X scope c ft) (he : SimEb T X scope elt fe) (hs : ∀ x, foldedSetIterable iter X.env x = pure x := by intro _; rfl) :
    SimN T W X (.ListComp elt [⟨tg, iter, [c], 0⟩] scope pos) (eLc (own.map (·.2)) fi tgf ft fe) :=
  simN_of (pe_lc hc hN pi_tI ok hg (fun s H C cl fp => pts_one (pt_b s H C cl fp)) pe_b hs) (rd_lc h0 hj hi hr (rdT_b ht) (rd_b he))
/-- name = [elt for tg in iter if c], on one line -/
theorem s_lc {i : Nat} {y : Str} {py spos : Pos} (hi0 : i ≠ 0) (hy : X.N[i]? = some y) (hyl : X.env.scope.names.lookup y = some .local) (hsw : swapsWith (.ListComp elt [⟨tg, iter, [], 0⟩] scope pos) (some (.Name y py)) spos.line X.env = pure true)
    (hc : X.calm = true) (hN : X.N.Nodup) (ok : BlkOk X.N X.env.scope scope own) (h0 : ∀ v ∈ own.map (·.2), v ≠ 0) (hj : ∀ j ∈ js, j ∈ own.map (·.2)) (hi : SimI T W X tg iter fi)
    (hg : ∀ (s : Shared) (H : Hp) (C : Addr) (cl : List (Str × Addr)) (fp : List Addr), PG (X.blk s H scope (compEnvC scope cl C X.env) fp) tg g) (hr : RdW T g tgf js) (he : SimEb T X scope elt fe) (hs : ∀ x, foldedSetIterable iter X.env x = pure x := by intro _; rfl) :
    SimS T W X (.Assign [.Name y py] (.ListComp elt [⟨tg, iter, [], 0⟩] scope pos) spos) (sSet i (eLc (own.map (·.2)) fi tgf mYes fe)) :=
  simS_of (ps_setLc (tt := tYes) hc hN hy hyl hsw pi_tI ok hg (fun _ _ _ _ _ => pts_nil) pe_b hs) (rs_set (rd_lc h0 hj hi hr rd_yes (rd_b he)).val hi0)
theorem s_lcIf {i : Nat} {y : Str} {py spos : Pos} (hi0 : i ≠ 0) (hy : X.N[i]? = some y) (hyl : X.env.scope.names.lookup y = some .local) (hsw : swapsWith (.ListComp elt [⟨tg, iter, [c], 0⟩] scope pos) (some (.Name y py)) spos.line X.env = pure true)
    (hc : X.calm = true) (hN : X.N.Nodup) (ok : BlkOk X.N X.env.scope scope own) (h0 : ∀ v ∈ own.map (·.2), v ≠ 0) (hj : ∀ j ∈ js, j ∈ own.map (·.2)) (hi : SimI T W X tg iter fi)
    (hg : ∀ (s : Shared) (H : Hp) (C : Addr) (cl : List (Str × Addr)) (fp : List Addr), PG (X.blk s H scope (compEnvC scope cl C X.env) fp) tg g) (hr : RdW T g tgf js) (ht : SimTb T X scope c ft) (he : SimEb T X scope elt fe) (hs : ∀ x, foldedSetIterable iter X.env x = pure x := by intro _; rfl) :
    SimS T W X (.Assign [.Name y py] (.ListComp elt [⟨tg, iter, [c], 0⟩] scope pos) spos) (sSet i (eLc (own.map (·.2)) fi tgf ft fe)) :=
  simS_of (ps_setLc hc hN hy hyl hsw pi_tI ok hg (fun s H C cl fp => pts_one (pt_b s H C cl fp)) pe_b hs) (rs_set (rd_lc h0 hj hi hr (rdT_b ht) (rd_b he)).val hi0)
end
end PD
set_option maxRecDepth 100000
/-! PD8b: list comprehensions of two clauses; dict comprehensions with tuple keys. -/
namespace PD
open PySem PySem.Spec PyProof.Rows L2
def lc2In (vs1 : List Nat) (tg1 : GD) (ft1 : M Bool) (fe : M D) : List D → DEnv → List D → RM (List D)
  | [], ρ, acc => .ok acc ρ
  | d :: r, ρ, acc => match tg1 d ρ with
    | none => .stuck
    | some ρ1 => match ft1 ρ1 with
      | .ok b ρ2 => if b = true then (match fe ρ2 with
        | .ok y ρ3 => if acc.length < 100000 then lc2In vs1 tg1 ft1 fe r (wipeD ρ3 vs1) (acc ++ [y]) else .stuck
        | _ => .stuck) else lc2In vs1 tg1 ft1 fe r (wipeD ρ2 vs1) acc
      | _ => .stuck
def lc2Loop (vs vs1 : List Nat) (tg : GD) (ft : M Bool) (fi1 : M (List D)) (tg1 : GD) (ft1 : M Bool) (fe : M D) : List D → DEnv → List D → RM D
  | [], ρ, acc => .ok (.lst acc) ρ
  | d :: r, ρ, acc => match tg d ρ with
    | none => .stuck
    | some ρ1 => match ft ρ1 with
      | .ok b ρ2 => if b = true then (match fi1 ρ2 with
        | .ok es ρ3 => (lc2In vs1 tg1 ft1 fe es (wipeD ρ3 vs1) acc).bind fun acc' ρ4 => lc2Loop vs vs1 tg ft fi1 tg1 ft1 fe r (wipeD ρ4 vs) acc'
        | _ => .stuck) else lc2Loop vs vs1 tg ft fi1 tg1 ft1 fe r (wipeD ρ2 vs) acc
      | _ => .stuck
def eLc2 (vs vs1 : List Nat) (fi : M (List D)) (tg : GD) (ft : M Bool) (fi1 : M (List D)) (tg1 : GD) (ft1 : M Bool) (fe : M D) : M D := fun ρ => (fi ρ).bind fun ds ρ1 => lc2Loop vs vs1 tg ft fi1 tg1 ft1 fe ds (wipeD ρ1 vs) []
section
variable {T : Tab} {W : WX} {X : Cx} {wi wi1 : TI} {g g1 : TG} {tt tt1 : TT} {te : TE} {fi fi1 : M (List D)} {tg tg1 : GD} {ft ft1 : M Bool} {fe : M D} {vs vs1 js js1 : List Nat}
theorem rd_lc2 (h0 : ∀ v ∈ vs, v ≠ 0) (hv : ∀ v ∈ vs1, v ∈ vs) (hj : ∀ j ∈ js, j ∈ vs) (hj1 : ∀ j ∈ js1, j ∈ vs1) (hi : RdI T W wi fi) (hg : RdW T g tg js) (ht : RdT T W0 tt ft) (hi1 : RdI T W0 wi1 fi1) (hg1 : RdW T g1 tg1 js1) (ht1 : RdT T W0 tt1 ft1) (he : RdE T W0 te fe) :
    RdN T W (tLc2 wi g tt wi1 g1 tt1 te vs vs1) (eLc2 vs vs1 fi tg ft fi1 tg1 ft1 fe) := fun Fr Hc σ H ρ S Q P => by
  have h01 : ∀ v ∈ vs1, v ≠ 0 := fun v h => h0 v (hv v h)
  refine hi.use S (PostR.bind P) fun ds ρ1 J Hc1 H1 e1 S1 P1 ok => ?_
  intro D hD
  have fD : Fr.fr D = none := S1.fr.free hD
  refine ⟨fun i m H' => m = ds.length - i ∧ i ≤ ds.length ∧ ∃ Hc2 ρ2 acc das, Same Hc1 Hc2 ∧ StC T (Fr.plus D (.lst acc)) Hc2 (wipe σ vs) H' ρ2 ∧ Bare ρ2 vs ∧ Rps T Hc2 acc das ∧
    PostR T W Fr Hc2 σ (lc2Loop vs vs1 tg ft fi1 tg1 ft1 fe (ds.drop i) ρ2 das) (fun d ρ' Hc' H' => ∀ p, Nw T Fr Hc' σ H' ρ' p d → Q (.ref p) H'),
    ⟨_, rfl, Nat.zero_le _, Hc1, wipeD ρ1 vs, [], [], Same.refl _, (S1.wipe h0).plus hD, bare_wipe _ _, .nil, P1⟩, ?_⟩
  rintro i m H2 ⟨rfl, hi, Hc2, ρ2, acc, das, e2, S2, b2, r2, P2⟩
  by_cases l : i < ds.length
  · refine .inr ⟨ok.go i H2 (e2.trans S2.hc) l, _, fun H' n => ⟨ds.length - (i + 1), by omega, n⟩, fun x H3 y => ?_⟩
    obtain ⟨Hc3, e3, S3, r3⟩ := ok.yld i H2 x H3 _ _ ρ2 Hc2 _ S2 e2 (List.getElem?_eq_getElem l) y
    rw [List.drop_eq_getElem_cons l] at P2
    unfold lc2Loop at P2
    cases g1' : tg ds[i] ρ2 with
    | none => rw [g1'] at P2; exact P2.elim
    | some ρ3 =>
      rw [g1'] at P2
      refine hg _ Hc3 _ H3 ρ2 ρ3 x _ S3 r3 g1' _ fun σ4 S4 w4 => ?_
      have wq : wipe σ4 vs = wipe σ vs := w4 vs hj |>.trans (wipe_wipe fun _ h => h)
      refine ⟨wq, ?_⟩
      dsimp only at P2
      refine ht _ Hc3 σ4 H3 ρ3 S4 _ ?_
      cases g2 : ft ρ3 with
      | ok b ρ4 =>
        rw [g2] at P2
        intro Hc4 H4 e4 S5
        cases b with
        | false =>
          refine ⟨rfl, l, Hc4, wipeD ρ4 vs, acc, das, (e2.trans e3).trans e4, ?_, bare_wipe _ _, (r2.mono e3).mono e4, P2.up (e3.trans e4)⟩
          rw [← wq]
          exact S5.wipe h0
        | true =>
          rw [if_pos rfl]
          dsimp only at P2
          rw [if_pos rfl] at P2
          refine hi1 _ Hc4 σ4 H4 ρ4 S5 _ ?_
          cases g3 : fi1 ρ4 with
          | ok es ρ5 =>
            rw [g3] at P2
            intro Hc5 H5 e5 S6 J1 ok1
            dsimp only at P2
            refine ⟨fun j k H' => k = es.length - j ∧ j ≤ es.length ∧ ∃ Hc6 ρ6 acc6 das6, Same Hc5 Hc6 ∧ StC T (Fr.plus D (.lst acc6)) Hc6 (wipe σ4 vs1) H' ρ6 ∧ Bare ρ6 vs1 ∧ Rps T Hc6 acc6 das6 ∧
              PostR T W Fr Hc6 σ ((lc2In vs1 tg1 ft1 fe (es.drop j) ρ6 das6).bind fun acc' ρ4 => lc2Loop vs vs1 tg ft fi1 tg1 ft1 fe (ds.drop (i + 1)) (wipeD ρ4 vs) acc') (fun d ρ' Hc' H' => ∀ p, Nw T Fr Hc' σ H' ρ' p d → Q (.ref p) H'),
              ⟨_, rfl, Nat.zero_le _, Hc5, wipeD ρ5 vs1, acc, das, Same.refl _, S6.wipe h01, bare_wipe _ _, ((r2.mono e3).mono e4).mono e5, P2.up ((e3.trans e4).trans e5)⟩, ?_⟩
            rintro j k H7 ⟨rfl, hj7, Hc7, ρ7, acc7, das7, e7, S7, b7, r7, P7⟩
            by_cases l7 : j < es.length
            · refine .inr ⟨ok1.go j H7 (e7.trans S7.hc) l7, _, fun H' n => ⟨es.length - (j + 1), by omega, n⟩, fun x8 H8 y8 => ?_⟩
              obtain ⟨Hc8, e8, S8, r8⟩ := ok1.yld j H7 x8 H8 _ _ ρ7 Hc7 _ S7 e7 (List.getElem?_eq_getElem l7) y8
              rw [List.drop_eq_getElem_cons l7] at P7
              unfold lc2In at P7
              cases g8 : tg1 es[j] ρ7 with
              | none => rw [g8] at P7; exact P7.elim
              | some ρ8 =>
                rw [g8] at P7
                refine hg1 _ Hc8 _ H8 ρ7 ρ8 x8 _ S8 r8 g8 _ fun σ9 S9 w9 => ?_
                have wq9 : wipe σ9 vs1 = wipe σ4 vs1 := w9 vs1 hj1 |>.trans (wipe_wipe fun _ h => h)
                refine ⟨wq9, ?_⟩
                dsimp only at P7
                refine ht1 _ Hc8 σ9 H8 ρ8 S9 _ ?_
                cases g9 : ft1 ρ8 with
                | ok b9 ρ9 =>
                  rw [g9] at P7
                  intro Hc9 H9 e9 S10
                  cases b9 with
                  | false =>
                    refine ⟨rfl, l7, Hc9, wipeD ρ9 vs1, acc7, das7, (e7.trans e8).trans e9, ?_, bare_wipe _ _, (r7.mono e8).mono e9, P7.up (e8.trans e9)⟩
                    rw [← wq9]
                    exact S10.wipe h01
                  | true =>
                    rw [if_pos rfl]
                    refine he _ Hc9 σ9 H9 ρ9 S10 _ ?_
                    dsimp only at P7
                    rw [if_pos rfl] at P7
                    cases g10 : fe ρ9 with
                    | ok y' ρ10 =>
                      rw [g10] at P7
                      intro Hc10 H10 e10 S11 v rv
                      dsimp only at P7
                      by_cases la : das7.length < 100000
                      · rw [if_pos la] at P7
                        have ra : Rps T Hc10 acc7 das7 := ((r7.mono e8).mono e9).mono e10
                        refine ⟨acc7, S11.plus_at.1, line_lt (by rw [ra.length]; exact la), rfl, l7, Hc10, wipeD ρ10 vs1, acc7 ++ [v], das7 ++ [y'], ((e7.trans e8).trans e9).trans e10, ?_, bare_wipe _ _, ra.append (.cons rv .nil), P7.up ((e8.trans e9).trans e10)⟩
                        rw [← wq9]
                        exact (S11.wipe h01).replus
                      · rw [if_neg la] at P7; exact P7.elim
                    | exc z ρ10 => rw [g10] at P7; exact P7.elim
                    | stuck => rw [g10] at P7; exact P7.elim
                | exc z ρ9 => rw [g9] at P7; exact P7.elim
                | stuck => rw [g9] at P7; exact P7.elim
            · have e : j = es.length := by omega
              subst e
              rw [List.drop_eq_nil_of_le (Nat.le_refl _)] at P7
              refine .inl ⟨ok1.stop H7 (e7.trans S7.hc), rfl, l, Hc7, wipeD ρ7 vs, acc7, das7, (((e2.trans e3).trans e4).trans e5).trans e7, ?_, bare_wipe _ _, r7, P7⟩
              have z := S7.wipe h0
              rw [wipe_wipe hv, wq] at z
              exact z
          | exc z ρ5 => rw [g3] at P2; exact P2.elim
          | stuck => rw [g3] at P2; exact P2.elim
      | exc z ρ4 => rw [g2] at P2; exact P2.elim
      | stuck => rw [g2] at P2; exact P2.elim
  · have e : i = ds.length := by omega
    subst e
    rw [List.drop_eq_nil_of_le (Nat.le_refl _)] at P2
    refine .inl ⟨ok.stop H2 (e2.trans S2.hc), ?_⟩
    obtain ⟨q1, q2, q3⟩ := S2.plus_at
    have S3 : StC T Fr Hc2 (wipe σ vs) H2 ρ2 := S2.unplus fD
    have S4 : StC T Fr Hc2 σ H2 ρ2 := S3.unwipe h0 b2
    refine P2 Hc2 H2 (Same.refl _) S4 D ⟨fD, q2, fun j h1 h2 => ?_, acc, q1, r2⟩
    have nj : j ∉ vs := fun hv => by rcases b2 j hv with z | z <;> rw [z] at h2 <;> cases h2
    exact q3 j (by rw [wipe_out nj]; exact h1) h2
end
section
variable {T : Tab} {W : WX} {X : Cx} {g g1 : TG} {fi fi1 : M (List D)} {tgf tgf1 : GD} {ft1 : M Bool} {fe : M D} {js js1 vs1 : List Nat} {elt tg iter tg1 iter1 c : Expr} {scope : Scope} {own : List (Str × Nat)} {pos : Pos}
/-- [elt for tg in iter for tg1 in iter1 if c] -/
theorem x_lc2If (hc : X.calm = true) (hN : X.N.Nodup) (ok : BlkOk X.N X.env.scope scope own) (h0 : ∀ v ∈ own.map (·.2), v ≠ 0) (hv : ∀ v ∈ vs1, v ∈ own.map (·.2)) (hj : ∀ j ∈ js, j ∈ own.map (·.2)) (hj1 : ∀ j ∈ js1, j ∈ vs1) (hi : SimI T W X tg iter fi)
    (hg : ∀ (s : Shared) (H : Hp) (C : Addr) (cl : List (Str × Addr)) (fp : List Addr), PG (X.blk s H scope (compEnvC scope cl C X.env) fp) tg g) (hr : RdW T g tgf js) (hi1 : SimIb T X scope tg1 iter1 fi1)
    (hg1 : ∀ (s : Shared) (H : Hp) (C : Addr) (cl : List (Str × Addr)) (fp : List Addr), PG (X.blk s H scope (compEnvC scope cl C X.env) fp) tg1 g1) (hr1 : RdW T g1 tgf1 js1) (ht : SimTb T X scope c ft1) (he : SimEb T X scope elt fe)
    (hs : ∀ x, foldedSetIterable iter X.env x = pure x := by intro _; rfl) (hs1 : ∀ env x, foldedSetIterable iter1 env x = pure x := by intro _ _; rfl) :
    SimN T W X (.ListComp elt [⟨tg, iter, [], 0⟩, ⟨tg1, iter1, [c], 0⟩] scope pos) (eLc2 (own.map (·.2)) vs1 fi tgf mYes fi1 tgf1 ft1 fe) :=
  simN_of (pe_lc2 (tt := tYes) hc hN pi_tI ok hv hg (fun _ _ _ _ _ => pts_nil) pi_b hg1 (fun s H C cl fp => pts_one (pt_b s H C cl fp)) pe_b hs hs1) (rd_lc2 h0 hv hj hj1 hi hr rd_yes (rdI_b hi1) hr1 (rdT_b ht) (rd_b he))
theorem s_lc2If {i : Nat} {y : Str} {py spos : Pos} (hi0 : i ≠ 0) (hy : X.N[i]? = some y) (hyl : X.env.scope.names.lookup y = some .local) (hsw : swapsWith (.ListComp elt [⟨tg, iter, [], 0⟩, ⟨tg1, iter1, [c], 0⟩] scope pos) (some (.Name y py)) spos.line X.env = pure true)
    (hc : X.calm = true) (hN : X.N.Nodup) (ok : BlkOk X.N X.env.scope scope own) (h0 : ∀ v ∈ own.map (·.2), v ≠ 0) (hv : ∀ v ∈ vs1, v ∈ own.map (·.2)) (hj : ∀ j ∈ js, j ∈ own.map (·.2)) (hj1 : ∀ j ∈ js1, j ∈ vs1) (hi : SimI T W X tg iter fi)
    (hg : ∀ (s : Shared) (H : Hp) (C : Addr) (cl : List (Str × Addr)) (fp : List Addr), PG (X.blk s H scope (compEnvC scope cl C X.env) fp) tg g) (hr : RdW T g tgf js) (hi1 : SimIb T X scope tg1 iter1 fi1)
    (hg1 : ∀ (s : Shared) (H : Hp) (C : Addr) (cl : List (Str × Addr)) (fp : List Addr), PG (X.blk s H scope (compEnvC scope cl C X.env) fp) tg1 g1) (hr1 : RdW T g1 tgf1 js1) (ht : SimTb T X scope c ft1) (he : SimEb T X scope elt fe)
    (hs : ∀ x, foldedSetIterable iter X.env x = pure x := by intro _; rfl) (hs1 : ∀ env x, foldedSetIterable iter1 env x = pure x := by intro _ _; rfl) :
    SimS T W X (.Assign [.Name y py] (.ListComp elt [⟨tg, iter, [], 0⟩, ⟨tg1, iter1, [c], 0⟩] scope pos) spos) (sSet i (eLc2 (own.map (·.2)) vs1 fi tgf mYes fi1 tgf1 ft1 fe)) :=
  simS_of (ps_setLc2 (tt := tYes) hc hN hy hyl hsw pi_tI ok hv hg (fun _ _ _ _ _ => pts_nil) pi_b hg1 (fun s H C cl fp => pts_one (pt_b s H C cl fp)) pe_b hs hs1) (rs_set (rd_lc2 h0 hv hj hj1 hi hr rd_yes (rdI_b hi1) hr1 (rdT_b ht) (rd_b he)).val hi0)
end
end PD
set_option maxRecDepth 100000
/-! PD8c: dict comprehensions with tuple keys. -/
namespace PD
open PySem PySem.Spec PyProof.Rows L2
/-- a tuple-keyed dict written within a comprehension -/
theorem dictSet_tup {X : Cx} {pins : List (Addr × Obj)} {σ : L2.St} {H : Hp} {s : Shared} {E : Value → Shared → Prop} {D b : Addr} {kvs : List (List Key × V)} {k : List Key} {v : V} {r : Value} {Q : Unit → Shared → Prop} (hu : X.A.units < cLine) (I : Inv X pins σ H s)
    (hD : H D = some (.dT kvs)) (hz : kvs.length < sizeLine) (hb : H b = some (.tup (k.map kV))) (rv : RelV v r) (h : ∀ s', Inv X pins σ (upd H D (.dT (putK kvs k v))) s' → Q () s') : wpAny (model X.prog X.w) X.A (dictSet D (.ref b) r) Q E s := by
  obtain ⟨z, nd, ents, rel, dd⟩ := dt_of I.hok hD
  have hn : ents.length ≤ sizeLine := by rw [← Paired.length rel]; exact z
  have hm : (putK kvs k v).length ≤ sizeLine := by have := length_putK kvs k v; omega
  refine wpAny_dictSet_heap (knd := tupleKind (mixKind X.prog X.w)) (hsz := hn) hu (key_of I.hok hb) dd fun hp' after same => h _ ?_
  obtain ⟨ob, es, ep, g1, g2, g3, g4, _, g5⟩ := after
  refine d_write I (by rw [hD]; exact True.intro) same ⟨ob, g1⟩ ⟨hm, nd, _, (rel.put k hb rv).keeps fun c ys hc => ?_, ob, es, ep, g1, g2, g3, g4, g5⟩
  rw [upd_ne (ne_of hc hD (fun z => nomatch z))]
  exact hc
def tDcT (wi : TI) (g : TG) (tt : TT) (tk tv : TE) (vs : List Nat) : TE := fun σ H Q => wi σ H fun J H1 => ∀ D, H1 D = none → ∃ W : Nat → Nat → Hp → Prop, (∃ m, W 0 m (upd H1 D (.dT []))) ∧ ∀ i m H, W i m H →
  (J.stop i H ∧ Q (.ref D) H) ∨ (J.go i H ∧ ∃ Nx : Hp → Prop, (∀ H', Nx H' → ∃ m', m' < m ∧ W (i + 1) m' H') ∧ ∀ x H', J.yld i H x H' → g x (wipe σ vs) H' fun σ2 H2 => wipe σ2 vs = wipe σ vs ∧ tt σ2 H2 fun b H3 =>
    if b = true then tk σ2 H3 fun y H4 => tv σ2 H4 fun z H5 => ∃ kvs k b, y = .ref b ∧ H5 b = some (.tup (k.map kV)) ∧ H5 D = some (.dT kvs) ∧ kvs.length < sizeLine ∧ Nx (upd H5 D (.dT (putK kvs k z))) else Nx H3)
section
variable {X : Cx}
theorem pe_dcT {kx vx tg iter : Expr} {ifs : List Expr} {scope : Scope} {own : List (Str × Nat)} {pos : Pos} {wi : TI} {g : TG} {tt : TT} {tk tv : TE} (hu : X.A.units < cLine) (hc : X.calm = true) (hN : X.N.Nodup) (hi : PI X tg iter wi) (ok : BlkOk X.N X.env.scope scope own)
    (hg : ∀ s H C cl fp, PG (X.blk s H scope (compEnvC scope cl C X.env) fp) tg g) (ht : ∀ s H C cl fp, PTs (X.blk s H scope (compEnvC scope cl C X.env) fp) ifs tt)
    (hk : ∀ s H C cl fp, PE (X.blk s H scope (compEnvC scope cl C X.env) fp) kx tk) (hv : ∀ s H C cl fp, PE (X.blk s H scope (compEnvC scope cl C X.env) fp) vx tv)
    (hs : ∀ x, foldedSetIterable iter X.env x = pure x := by intro _; rfl) : PE X (.DictComp kx vx [⟨tg, iter, ifs, 0⟩] scope pos) (tDcT wi g tt tk tv (own.map (·.2))) := by
  refine ⟨fun pins s σ H Q I h => ?_⟩
  rw [arm_eval_DictComp]
  have caps : ∀ y ∈ scope.names, y.2 = .free → ∃ c, X.env.cells.lookup y.1 = some c := fun y hy e => by
    rcases ok.free y hy e with k | k
    · exact I.ok.has _ (.inl k)
    · exact I.ok.has _ (.inr k)
  refine wpAny_comprehension_free (use := none) rfl hs (closure_ok caps) ok.kind (fun y hy e => by rw [ok.uniq y hy, e]) (thn (hi.run pins s σ H _ I h) fun xv s1 hx => thn hx fun itv s2 got => ?_)
  obtain ⟨it, fp, tn, J, H2, rfl, I2, T, st2, f2, q⟩ := got
  refine wpAny_newObj_type (newEnv_comp ?_)
  -- the new dict at D
  generalize hD : s2.heap.objs.size = D
  have fresh : H2 D = none := I2.hok.fresh (Nat.le_of_eq hD)
  obtain ⟨W, ⟨m0, w0⟩, turn⟩ := q D fresh
  generalize es3 : ({ s2 with heap := s2.heap.push { cls := .type "dict", data := .dict #[] } } : Shared) = s3
  have hp3 : s3.heap = s2.heap.push { cls := .type "dict", data := .dict #[] } := by rw [← es3]
  have I3 : Inv X pins σ (upd H2 D (.dT [])) s3 := by
    rw [← es3]
    refine I2.laid (t' := s2.toks) (fun b o e => Heap.get?_push_of_some _ e) (Nat.le_of_eq hD) ?_
    rw [← hD]
    exact dt_empty s2.heap I2.big
  have below : ∀ b ∈ fp, b < s2.heap.objs.size := fun b hb => by
    obtain ⟨o, e, _⟩ := T.obj _ _ st2 b hb
    exact Heap.lt_size e
  have f3 : ∀ b ∈ fp, FpOk X pins (upd H2 D (.dT [])) b ∧ b < s3.heap.objs.size := fun b hb => by
    have lt := below b hb
    refine ⟨⟨?_, (f2 b hb).2⟩, by rw [hp3, Heap.size_push]; exact Nat.lt_succ_of_lt lt⟩
    rw [upd_ne (by rw [← hD]; exact Nat.ne_of_lt lt)]
    exact (f2 b hb).1
  have st3 : tn 0 s3.heap := T.keep _ _ _ st2 fun b _ o e => by rw [hp3]; exact Heap.get?_push_of_some _ e
  have I4 := block_start I3 ok hN f3
  generalize hL : s3.heap.objs.size = L at I4
  have pg := hg s3 (upd H2 D (.dT [])) L (cellsFrom (L + 1) scope.names (cloFrom X.env.cells scope.names [])) fp
  have pt := ht s3 (upd H2 D (.dT [])) L (cellsFrom (L + 1) scope.names (cloFrom X.env.cells scope.names [])) fp
  have pk := hk s3 (upd H2 D (.dT [])) L (cellsFrom (L + 1) scope.names (cloFrom X.env.cells scope.names [])) fp
  have pv := hv s3 (upd H2 D (.dT [])) L (cellsFrom (L + 1) scope.names (cloFrom X.env.cells scope.names [])) fp
  have goal : codeAny (model X.prog X.w) X.A (.compStart (.DictComp kx vx [⟨tg, iter, ifs, 0⟩] scope pos) 0 (.ref it) (.ref D) (compEnvC scope (cellsFrom (L + 1) scope.names (cloFrom X.env.cells scope.names [])) L X.env))
      (compPost (model X.prog X.w) X.A X.xe none (EP X pins σ Q) (.ref D) L) { s3 with heap := pushCells (s3.heap.push { cls := .type "dict", data := .dict #[] }) scope.names } := by
    have nfp : ∀ b ∈ fp, (upd H2 D (.dT [])) b = none := fun b hb => (f3 b hb).1.1
    generalize ece : compEnvC scope (cellsFrom (L + 1) scope.names (cloFrom X.env.cells scope.names [])) L X.env = ce at I4 pg pt pk pv ⊢
    have cL : ce.locals = L := by subst ece; rfl
    generalize eH3 : upd H2 D (.dT []) = H3 at I3 I4 pg pt pk pv w0 nfp f3
    generalize es4 : ({ s3 with heap := pushCells (s3.heap.push { cls := .type "dict", data := .dict #[] }) scope.names } : Shared) = s4 at I4 ⊢
    have st4 : tn 0 s4.heap := T.keep _ _ _ st3 fun b _ o e => by rw [← es4]; exact pushCells_keeps _ _ _ _ (Heap.get?_push_of_some _ e)
    have stat : ∀ {σ' : L2.St} {H' : Hp} {s' : Shared}, Inv (X.blk s3 H3 scope ce fp) [] σ' H' s' → (∀ b ∈ fp, H' b = none) → ∀ b ∈ fp, FpOk (X.blk s3 H3 scope ce fp) [] H' b := fun {σ' H' s'} I' hn b hb =>
      ⟨hn b hb, (I'.ok.exf b hb).1, I'.ok.exfs b hb, .inl hb, fun x c e => (I'.ok.exf b hb).2 x c e, fun p hp => absurd (show p ∈ ([] : List (Addr × Obj)) ++ [] from hp) (by simp)⟩
    have loop : codeAny (model X.prog X.w) X.A (.compLoop (.DictComp kx vx [⟨tg, iter, ifs, 0⟩] scope pos) 0 (.ref it) (.ref D) ce) (compPost (model X.prog X.w) X.A X.xe none (EP X pins σ Q) (.ref D) L) s4 := by
      refine compLoop_anyD (fun n s' => ∃ i H', Inv (X.blk s3 H3 scope ce fp) [] (wipe σ (own.map (·.2))) H' s' ∧ tn i s'.heap ∧ (∀ b ∈ fp, H' b = none) ∧ W i n H') ?_ m0 ⟨0, H3, I4, st4, nfp, w0⟩
      rintro n s5 ⟨i, H5, I5, st5, n5, w5⟩
      rcases turn i n H5 w5 with ⟨stop, qq⟩ | ⟨go, Nx, hNx, step⟩
      · refine thnF (T.done (X.blk s3 H3 scope ce fp) rfl rfl rfl hc i [] s5 _ H5 (fun _ _ => False) I5 (stat I5 n5) st5 stop) fun r s6 ⟨hr, I6⟩ => ?_
        subst hr
        have I7 : Inv X pins σ H5 s6 := I3.call' (ch := fp) I6.os I6.base I6.hok I6.bare fun b hb => ⟨(f3 b hb).1.2.2.2.1, (f3 b hb).1.2.1, (f3 b hb).1.2.2.2.2.1, (f3 b hb).1.2.2.2.2.2⟩
        have nC : H5 L = none := by
          have z : H5 ce.locals = none := I6.free
          rw [cL] at z
          exact z
        obtain ⟨m, hm, _⟩ := I6.loc
        have hm' : s6.heap.Ns ce.locals m := hm
        rw [cL] at hm'
        have fz : FpOk X pins H5 L := I3.fpOk (Nat.le_of_eq hL) nC
        refine ⟨m, hm', fun h'' sb => ?_⟩
        obtain ⟨z0, z1, z2, z3, z4, z5⟩ := fz
        exact ⟨.ref D, H5, I7.turned (t' := s6.toks) (fun b o hb e => (sb.2 b hb).trans e) z0 z1 z3 z4 z5, rfl, qq⟩
      · refine thnF (T.item (X.blk s3 H3 scope ce fp) rfl rfl rfl hc i [] s5 _ H5 (fun _ _ => False) I5 (stat I5 n5) st5 go) fun r s6 ⟨u, hr, h6⟩ => ?_
        subst hr
        refine thnF h6 fun _ s7 ⟨x, H7, I7, r7, y7, st7, n7⟩ => ?_
        refine thnF (pg.run _ s7 _ H7 x u _ (I7.pinned (stat I7 n7) (T.obj _ _ st7)) r7 (step x H7 y7)) fun _ s8 ⟨σ8, H8, I8, hw8, q8⟩ => ?_
        refine thnF (pt.run _ s8 σ8 H8 _ I8 q8) fun b s9 ⟨H9, I9, q9⟩ => ?_
        have fin : ∀ {s' : Shared} {H' : Hp}, Inv (X.blk s3 H3 scope ce fp) ([] ++ pinsAt fp s7.heap) σ8 H' s' → Nx H' → ∃ m, m < n ∧ ∃ i H', Inv (X.blk s3 H3 scope ce fp) [] (wipe σ (own.map (·.2))) H' s' ∧ tn i s'.heap ∧ (∀ b ∈ fp, H' b = none) ∧ W i m H' := fun {s' H'} I' nx => by
          obtain ⟨m', hm, w'⟩ := hNx H' nx
          have pin' : ∀ b ∈ fp, ∀ o, s7.heap.get? b = some o → s'.heap.get? b = some o ∧ H' b = none := fun b hb o e =>
            let z := I'.pin (b, o) (List.mem_append_right _ (List.mem_append_right _ (mem_pinsAt hb e)))
            ⟨z.1, z.2.1⟩
          have len : (wipe σ (own.map (·.2))).length = σ8.length := by rw [← hw8, wipe_length]
          refine ⟨m', hm, i + 1, H', (I'.unpinned (pins := [])).weak len (fun j v e => ?_), T.keep _ _ _ st7 fun b hb o e => (pin' b hb o e).1, fun b hb => ?_, w'⟩
          · rw [← hw8] at e
            exact (wipe_some e).1
          · obtain ⟨o, e, _⟩ := T.obj _ _ st7 b hb
            exact (pin' b hb o e).2
        cases b with
        | false =>
          simp only [Bool.false_eq_true, if_false] at q9 ⊢
          exact fin I9 q9
        | true =>
          simp only [if_true] at q9 ⊢
          refine thnF (pk.run _ s9 σ8 H9 _ I9 q9) fun kz s10 ⟨yk, H10, I10, r10, q10⟩ => ?_
          refine thnF (pv.run _ s10 σ8 H10 _ I10 q10) fun vz s11 ⟨yv, H11, I11, r11, kvs, k, b, ek, hb, hD11, hz11, nx⟩ => ?_
          subst ek
          obtain rfl : kz = Value.ref b := r10
          exact dictSet_tup (X := X.blk s3 H3 scope ce fp) hu I11 hD11 hz11 hb r11 fun s12 I12 => fin I12 nx
    exact codeAny_compStart_dict loop (T.self X.A 0 _ _ _ st4 loop)
  exact goal
end
/-! ### over data -/
def dcLoop (vs : List Nat) (tg : GD) (ft : M Bool) (fk fv : M D) : List D → DEnv → List (List Key × D) → RM D
  | [], ρ, acc => .ok (.dic acc) ρ
  | d :: r, ρ, acc => match tg d ρ with
    | none => .stuck
    | some ρ1 => match ft ρ1 with
      | .ok b ρ2 => if b = true then (match fk ρ2 with
        | .ok k ρ3 => (match fv ρ3, keyD k with
          | .ok y ρ4, some ks => if acc.length < 100000 then dcLoop vs tg ft fk fv r (wipeD ρ4 vs) (dputD ks y acc) else .stuck
          | _, _ => .stuck)
        | _ => .stuck) else dcLoop vs tg ft fk fv r (wipeD ρ2 vs) acc
      | _ => .stuck
def eDc (vs : List Nat) (fi : M (List D)) (tg : GD) (ft : M Bool) (fk fv : M D) : M D := fun ρ => (fi ρ).bind fun ds ρ1 => dcLoop vs tg ft fk fv ds (wipeD ρ1 vs) []
section
variable {T : Tab} {W : WX} {X : Cx} {wi : TI} {g : TG} {tt : TT} {tk tv : TE} {fi : M (List D)} {tg : GD} {ft : M Bool} {fk fv : M D} {vs js : List Nat}
theorem rd_dc (h0 : ∀ v ∈ vs, v ≠ 0) (hj : ∀ j ∈ js, j ∈ vs) (hi : RdI T W wi fi) (hg : RdW T g tg js) (ht : RdT T W0 tt ft) (hk : RdE T W0 tk fk) (hv : RdE T W0 tv fv) : RdN T W (tDcT wi g tt tk tv vs) (eDc vs fi tg ft fk fv) := fun Fr Hc σ H ρ S Q P => by
  refine hi.use S (PostR.bind P) fun ds ρ1 J Hc1 H1 e1 S1 P1 ok => ?_
  intro D hD
  have fD : Fr.fr D = none := S1.fr.free hD
  refine ⟨fun i m H' => m = ds.length - i ∧ i ≤ ds.length ∧ ∃ Hc2 ρ2 acc das, Same Hc1 Hc2 ∧ StC T (Fr.plus D (.dT acc)) Hc2 (wipe σ vs) H' ρ2 ∧ Bare ρ2 vs ∧ Rpk T Hc2 acc das ∧
    PostR T W Fr Hc2 σ (dcLoop vs tg ft fk fv (ds.drop i) ρ2 das) (fun d ρ' Hc' H' => ∀ p, Nw T Fr Hc' σ H' ρ' p d → Q (.ref p) H'),
    ⟨_, rfl, Nat.zero_le _, Hc1, wipeD ρ1 vs, [], [], Same.refl _, (S1.wipe h0).plus hD, bare_wipe _ _, .nil, P1⟩, ?_⟩
  rintro i m H2 ⟨rfl, hi, Hc2, ρ2, acc, das, e2, S2, b2, r2, P2⟩
  by_cases l : i < ds.length
  · refine .inr ⟨ok.go i H2 (e2.trans S2.hc) l, _, fun H' n => ⟨ds.length - (i + 1), by omega, n⟩, fun x H3 y => ?_⟩
    obtain ⟨Hc3, e3, S3, r3⟩ := ok.yld i H2 x H3 _ _ ρ2 Hc2 _ S2 e2 (List.getElem?_eq_getElem l) y
    rw [List.drop_eq_getElem_cons l] at P2
    unfold dcLoop at P2
    cases g1 : tg ds[i] ρ2 with
    | none => rw [g1] at P2; exact P2.elim
    | some ρ3 =>
      rw [g1] at P2
      refine hg _ Hc3 _ H3 ρ2 ρ3 x _ S3 r3 g1 _ fun σ4 S4 w4 => ?_
      have wq : wipe σ4 vs = wipe σ vs := w4 vs hj |>.trans (wipe_wipe fun _ h => h)
      refine ⟨wq, ?_⟩
      dsimp only at P2
      refine ht _ Hc3 σ4 H3 ρ3 S4 _ ?_
      cases g2 : ft ρ3 with
      | ok b ρ4 =>
        rw [g2] at P2
        intro Hc4 H4 e4 S5
        cases b with
        | false =>
          refine ⟨rfl, l, Hc4, wipeD ρ4 vs, acc, das, (e2.trans e3).trans e4, ?_, bare_wipe _ _, (r2.mono e3).mono e4, P2.up (e3.trans e4)⟩
          rw [← wq]
          exact S5.wipe h0
        | true =>
          rw [if_pos rfl]
          refine hk _ Hc4 σ4 H4 ρ4 S5 _ ?_
          dsimp only at P2
          rw [if_pos rfl] at P2
          cases g3 : fk ρ4 with
          | ok k ρ5 =>
            rw [g3] at P2
            intro Hc5 H5 e5 S6 vk rk
            dsimp only at P2
            refine hv _ Hc5 σ4 H5 ρ5 S6 _ ?_
            cases g4 : fv ρ5 with
            | ok y' ρ6 =>
              rw [g4] at P2
              intro Hc6 H6 e6 S7 v rv
              cases g5 : keyD k with
              | none => rw [g5] at P2; exact P2.elim
              | some ks =>
                rw [g5] at P2
                dsimp only at P2
                by_cases la : das.length < 100000
                · rw [if_pos la] at P2
                  have ra : Rpk T Hc6 acc das := (((r2.mono e3).mono e4).mono e5).mono e6
                  obtain ⟨b, rfl, hb⟩ := keyD_ok (rk.mono e6) g5
                  refine ⟨acc, ks, b, rfl, S7.hc _ _ hb, S7.plus_at.1, line_lt (by rw [ra.length]; exact la), rfl, l, Hc6, wipeD ρ6 vs, putK acc ks v, dputD ks y' das, (((e2.trans e3).trans e4).trans e5).trans e6, ?_, bare_wipe _ _, ra.put rv, P2.up (((e3.trans e4).trans e5).trans e6)⟩
                  rw [← wq]
                  exact (S7.wipe h0).replus
                · rw [if_neg la] at P2; exact P2.elim
            | exc z ρ6 => rw [g4] at P2; exact P2.elim
            | stuck => rw [g4] at P2; exact P2.elim
          | exc z ρ5 => rw [g3] at P2; exact P2.elim
          | stuck => rw [g3] at P2; exact P2.elim
      | exc z ρ4 => rw [g2] at P2; exact P2.elim
      | stuck => rw [g2] at P2; exact P2.elim
  · have e : i = ds.length := by omega
    subst e
    rw [List.drop_eq_nil_of_le (Nat.le_refl _)] at P2
    refine .inl ⟨ok.stop H2 (e2.trans S2.hc), ?_⟩
    obtain ⟨q1, q2, q3⟩ := S2.plus_at
    have S4 : StC T Fr Hc2 σ H2 ρ2 := (S2.unplus fD).unwipe h0 b2
    refine P2 Hc2 H2 (Same.refl _) S4 D ⟨fD, q2, fun j h1 h2 => ?_, acc, q1, r2⟩
    have nj : j ∉ vs := fun hv => by rcases b2 j hv with z | z <;> rw [z] at h2 <;> cases h2
    exact q3 j (by rw [wipe_out nj]; exact h1) h2
end
section
variable {T : Tab} {W : WX} {X : Cx} {g : TG} {fi : M (List D)} {tgf : GD} {fk fv : M D} {js : List Nat} {kx vx tg iter : Expr} {scope : Scope} {own : List (Str × Nat)} {pos : Pos}
/-- {k: v for tg in iter} -/
theorem x_dc (hu : X.A.units < cLine) (hc : X.calm = true) (hN : X.N.Nodup) (ok : BlkOk X.N X.env.scope scope own) (h0 : ∀ v ∈ own.map (·.2), v ≠ 0) (hj : ∀ j ∈ js, j ∈ own.map (·.2)) (hi : SimI T W X tg iter fi)
    (hg : ∀ (s : Shared) (H : Hp) (C : Addr) (cl : List (Str × Addr)) (fp : List Addr), PG (X.blk s H scope (compEnvC scope cl C X.env) fp) tg g) (hr : RdW T g tgf js) (hk : SimEb T X scope kx fk) (hv : SimEb T X scope vx fv) (hs : ∀ x, foldedSetIterable iter X.env x = pure x := by intro _; rfl) :
    SimN T W X (.DictComp kx vx [⟨tg, iter, [], 0⟩] scope pos) (eDc (own.map (·.2)) fi tgf mYes fk fv) :=
  simN_of (pe_dcT (tt := tYes) hu hc hN pi_tI ok hg (fun _ _ _ _ _ => pts_nil) pe_b pe_b hs) (rd_dc h0 hj hi hr rd_yes (rd_b hk) (rd_b hv))
end
end PD
set_option maxRecDepth 100000
/-! PD9: defs as they stand in the row, their calls. -/
namespace PD
open PySem PySem.Spec PyProof.Rows L2
theorem takes_no {X : Cx} : Takes X W0 := fun u s' ⟨_, _, _, _, _, _, _, _, _, _, _, _, _, _, _, _, w⟩ => w.elim
/-- def x of the module: it stands, and keeps its promise at k calls' room -/
structure Fk (P : Program) (w : World) (K : PySem.W.Frag) (mg : Str → Option Value) (base : Heap) (k : Nat) (x : Str) (ps : List Str) (sp : Sp) : Prop where
  ex : ∃ f fd, FnOk P w K mg base (L2.CX P w) k f fd ps sp ∧ mg x = some (.ref f) ∧ PySem.W.keepIn K (.ref f) = true ∧ Binds K fd ps []
/-- method nm of the class at C -/
structure Fm' (P : Program) (w : World) (K : PySem.W.Frag) (mg : Str → Option Value) (base : Heap) (k : Nat) (C : Addr) (nm : Str) (ps : List Str) (sp : Sp) : Prop where
  ex : ∃ f fd, FnOk P w K mg base (L2.CX P w) k f fd ps sp ∧ Meth K C nm f ∧ Binds K fd ps []
/-- class x, made by __init__ -/
structure Fi (P : Program) (w : World) (K : PySem.W.Frag) (mg : Str → Option Value) (base : Heap) (k : Nat) (x : Str) (C : Addr) (ps : List Str) (sp : Sp) : Prop where
  ex : ∃ f fd, FnOk P w K mg base (L2.CX P w) k f fd ps sp ∧ Mk K C f ∧ mg x = some (.ref C) ∧ Binds K fd ps []
section
variable {P : Program} {w : World} {K : PySem.W.Frag} {mg : Str → Option Value} {base : Heap} {j k : Nat} {x nm : Str} {C : Addr} {ps : List Str} {sp : Sp}
theorem Fk.up (h : Fk P w K mg base j x ps sp) (l : j ≤ k) : Fk P w K mg base k x ps sp := by
  obtain ⟨f, fd, a, b⟩ := h.ex
  exact ⟨f, fd, a.mono l, b⟩
theorem Fm'.up (h : Fm' P w K mg base j C nm ps sp) (l : j ≤ k) : Fm' P w K mg base k C nm ps sp := by
  obtain ⟨f, fd, a, b⟩ := h.ex
  exact ⟨f, fd, a.mono l, b⟩
theorem Fi.up (h : Fi P w K mg base j x C ps sp) (l : j ≤ k) : Fi P w K mg base k x C ps sp := by
  obtain ⟨f, fd, a, b⟩ := h.ex
  exact ⟨f, fd, a.mono l, b⟩
end
/-- the def's object stands under its name -/
structure Dn (K : PySem.W.Frag) (mg : Str → Option Value) (x : Str) (st : Stmt) : Prop where
  ex : ∃ f fd, FunD K x x (defArgs st) (defBody st) (defScope st) [] [] f fd ∧ mg x = some (.ref f)
structure Dm (K : PySem.W.Frag) (C : Addr) (nm qual : Str) (st : Stmt) : Prop where
  ex : ∃ f fd, FunD K nm qual (defArgs st) (defBody st) (defScope st) [] [] f fd ∧ Meth K C nm f
structure Di (K : PySem.W.Frag) (mg : Str → Option Value) (x qual : Str) (C : Addr) (st : Stmt) : Prop where
  ex : ∃ f fd, FunD K "__init__" qual (defArgs st) (defBody st) (defScope st) [] [] f fd ∧ Mk K C f ∧ mg x = some (.ref C)
def BindsP (x qual : Str) (params : Arguments) (body : List Stmt) (scope : Scope) (ps : List Str) : Prop :=
  ∀ (kV doc pm : Value) (an : Option Addr) (cdv ct : Value) (us : List Value), us.length = ps.length → bindArgs (PySem.W.fnOf x qual params body scope .none kV doc pm an cdv ct) ⟨us, []⟩ = pure (ps.zip us)
section
variable {P : Program} {w : World} {K : PySem.W.Frag} {mg : Str → Option Value} {base : Heap} {k n m : Nat} {x nm qual : Str} {C : Addr} {ps N : List Str} {st : Stmt} {T : Tab} {b : MS}
theorem fk_F (d : Dn K mg x st) (S : FnScope N ps (defScope st)) (hb : BindsP x x (defArgs st) (defBody st) (defScope st) ps) (hm : m = ps.length) (hn : N.length = n)
    (h : ∀ (f : Addr) (cdv : Value) (A : Around) (outer : List Env) (s : Shared) (H : Hp) (E : XK), Room k (A.deeper (envOfC x (defScope st) s.heap.objs.size f cdv)) →
      SimB T (fun cls d _ H => E cls d H) (cxOf (L2.CX P w) P w K mg base N x (defScope st) f cdv A outer s H E) (defBody st) b) : Fk P w K mg base (k + 1) x ps (spF T m (runF n m b)) := by
  obtain ⟨f, fd, F, g⟩ := d.ex
  exact ⟨f, fd, fn_F F S hm hn (h f), g, F.kp, F.bindsN hb⟩
theorem fk_O (d : Dn K mg x st) (S : FnScope N ps (defScope st)) (hb : BindsP x x (defArgs st) (defBody st) (defScope st) ps) (hm : m = ps.length) (hn : N.length = n)
    (h : ∀ (f : Addr) (cdv : Value) (A : Around) (outer : List Env) (s : Shared) (H : Hp) (E : XK), Room k (A.deeper (envOfC x (defScope st) s.heap.objs.size f cdv)) →
      SimB T (fun cls d _ H => E cls d H) (cxOf (L2.CX P w) P w K mg base N x (defScope st) f cdv A outer s H E) (defBody st) b) : Fk P w K mg base (k + 1) x ps (spO T m (runO n m b)) := by
  obtain ⟨f, fd, F, g⟩ := d.ex
  exact ⟨f, fd, fn_O F S hm hn (h f), g, F.kp, F.bindsN hb⟩
theorem fm_F (d : Dm K C nm qual st) (S : FnScope N ps (defScope st)) (hb : BindsP nm qual (defArgs st) (defBody st) (defScope st) ps) (hm : m = ps.length) (hn : N.length = n)
    (h : ∀ (f : Addr) (cdv : Value) (A : Around) (outer : List Env) (s : Shared) (H : Hp) (E : XK), Room k (A.deeper (envOfC qual (defScope st) s.heap.objs.size f cdv)) →
      SimB T (fun cls d _ H => E cls d H) (cxOf (L2.CX P w) P w K mg base N qual (defScope st) f cdv A outer s H E) (defBody st) b) : Fm' P w K mg base (k + 1) C nm ps (spF T m (runF n m b)) := by
  obtain ⟨f, fd, F, g⟩ := d.ex
  exact ⟨f, fd, fn_F F S hm hn (h f), g, F.bindsN hb⟩
theorem fi_O (d : Di K mg x qual C st) (S : FnScope N ps (defScope st)) (hb : BindsP "__init__" qual (defArgs st) (defBody st) (defScope st) ps) (hm : m = ps.length) (hn : N.length = n)
    (h : ∀ (f : Addr) (cdv : Value) (A : Around) (outer : List Env) (s : Shared) (H : Hp) (E : XK), Room k (A.deeper (envOfC qual (defScope st) s.heap.objs.size f cdv)) →
      SimB T (fun cls d _ H => E cls d H) (cxOf (L2.CX P w) P w K mg base N qual (defScope st) f cdv A outer s H E) (defBody st) b) : Fi P w K mg base (k + 1) x C ps (spO T m (runO n m b)) := by
  obtain ⟨f, fd, F, g, g2⟩ := d.ex
  exact ⟨f, fd, fn_O F S hm hn (h f), g, g2, F.bindsN hb⟩
end
/-! ### plain laws of a def's arity -/
structure Ar (m : Nat) (G : List D → RF) : Prop where
  h : ∀ ds, ds.length ≠ m → G ds = .stuck
structure ArO (m : Nat) (G : D → List D → RO) : Prop where
  h : ∀ o ds, ds.length + 1 ≠ m → G o ds = .stuck
section
variable {T : Tab} {W : WX} {X : Cx} {k m : Nat} {C : Addr} {ps : List Str} {x y nm : Str} {p p0 pos apos : Pos} {e o : Expr} {es : List Expr} {fA : M (List D)} {fo : M D}
theorem x_fn {G : List D → RF} (F : Fk X.prog X.w X.K X.mg X.base k x ps (spF T m G)) (hG : ∀ ds, ds.length ≠ m → G ds = .stuck) (hr : Room k X.A) (hg : Gl X x) (tk : Takes X W) (ha : SimA T W X (e :: es) fA)
    (hdb : (x == ("__debug__" : Str)) = false := by decide) (he : starEach (e :: es) X.env = (false, eval e X.env) :: starEach es X.env := by rfl) (hpl : (backTo pos (starEach es X.env)).any (·.1) = false := by rfl) :
    SimE T W X (.Call (.Name x p) (e :: es) [] pos) (eFn G fA) := by
  obtain ⟨f, fd, F1, hm, hk, hb⟩ := F.ex
  exact sim_call hG F1 hr hg hm hk hb tk ha hdb he hpl
theorem x_fnO {G : D → List D → RO} {i : Nat} (F : Fk X.prog X.w X.K X.mg X.base k x ps (spO T m G)) (hG : ∀ o ds, ds.length + 1 ≠ m → G o ds = .stuck) (hr : Room k X.A) (hg : Gl X x) (tk : Takes X W) (hv : PE X (.Name y p0) (tVar i)) (ha : SimA T W X es fA)
    (hdb : (x == ("__debug__" : Str)) = false := by decide) (he : starEach (.Name y p0 :: es) X.env = (false, eval (.Name y p0) X.env) :: starEach es X.env := by rfl) (hpl : (backTo pos (starEach es X.env)).any (·.1) = false := by rfl) :
    SimE T W X (.Call (.Name x p) (.Name y p0 :: es) [] pos) (eFnO i G fA) := by
  obtain ⟨f, fd, F1, hm, hk, hb⟩ := F.ex
  exact sim_callO hG F1 hr hg hm hk hb tk hv ha hdb he hpl
theorem x_meth {G : List D → RF} {c : Nat} {pl : Sem Bool} (F : Fm' X.prog X.w X.K X.mg X.base k (T.cls c) nm ps (spF T m G)) (hG : ∀ ds, ds.length ≠ m → G ds = .stuck) (hc : Cls X.K (T.cls c)) (hr : Room k X.A) (tk : Takes X W) (ho : SimE T W X o fo) (ha : SimA T W X (e :: es) fA)
    (hst : starEach (e :: es) X.env = (false, eval e X.env) :: starEach es X.env := by rfl) (hpl : (backTo pos (starEach es X.env)).any (·.1) = false := by rfl)
    (ht : eval (.Call (.Attribute o nm apos) (e :: es) [] pos) X.env = (do
      let ov ← eval o X.env
      standAt apos.atName
      let (f, first) ← holding [ov] (getMethod ov nm pl)
      callWith pos f first (backTo pos (starEach (e :: es) X.env)) (backToKw pos (keywordEach [] X.env))) := by rfl) :
    SimE T W X (.Call (.Attribute o nm apos) (e :: es) [] pos) (eMeth c nm G fo fA) := by
  obtain ⟨f, fd, F1, hm, hb⟩ := F.ex
  exact sim_meth hG ho hc hm F1 hr hb tk ha hst hpl ht
theorem x_meth0 {G : List D → RF} {c : Nat} {pl : Sem Bool} (F : Fm' X.prog X.w X.K X.mg X.base k (T.cls c) nm ps (spF T m G)) (hG : ∀ ds, ds.length ≠ m → G ds = .stuck) (hc : Cls X.K (T.cls c)) (hr : Room k X.A) (tk : Takes X W) (ho : SimE T W X o fo)
    (ht : eval (.Call (.Attribute o nm apos) [] [] pos) X.env = (do
      let ov ← eval o X.env
      standAt apos.atName
      let (f, first) ← holding [ov] (getMethod ov nm pl)
      callWith pos f first (backTo pos (starEach [] X.env)) (backToKw pos (keywordEach [] X.env))) := by rfl) :
    SimE T W X (.Call (.Attribute o nm apos) [] [] pos) (eMeth c nm G fo aNil) := by
  obtain ⟨f, fd, F1, hm, hb⟩ := F.ex
  exact sim_meth0 hG ho hc hm F1 hr hb tk ht
theorem x_make {G : D → List D → RO} {c : Nat} (F : Fi X.prog X.w X.K X.mg X.base k x (T.cls c) ps (spO T m G)) (hG : ∀ o ds, ds.length + 1 ≠ m → G o ds = .stuck) (hr : Room (k + 1) X.A) (hg : Gl X x) (ha : SimA T W X (e :: es) fA)
    (hdb : (x == ("__debug__" : Str)) = false := by decide) (he : starEach (e :: es) X.env = (false, eval e X.env) :: starEach es X.env := by rfl) (hpl : (backTo pos (starEach es X.env)).any (·.1) = false := by rfl) :
    SimN T W X (.Call (.Name x p) (e :: es) [] pos) (eMake c G fA) := by
  obtain ⟨f, fd, F1, hM, hm, hb⟩ := F.ex
  exact simN_make hG hM F1 hr hg hm hb ha hdb he hpl
end
end PD
set_option maxRecDepth 100000
/-! PD10: what is not reached; defs that hand back a new object. -/
namespace PD
open PySem PySem.Spec PyProof.Rows L2
section
variable {T : Tab} {W : WX} {X : Cx} {e : Expr}
theorem x_no : SimE T W X e (fun _ => .stuck) := fun Fr Hc σ H ρ S Q P => P.elim
theorem t_no : SimT T W X e (fun _ => .stuck) := fun Fr Hc σ H ρ S Q P => P.elim
end
/-! ### a def that hands back a new object -/
def runN (n m : Nat) (b : M D) (ds : List D) : RF := if ds.length = m then (match b (stD n ds) with
  | .ok d _ => .ok d
  | .exc x _ => .exc x
  | .stuck => .stuck) else .stuck
theorem runN_len {n m : Nat} {b : M D} (ds : List D) (h : ds.length ≠ m) : runN n m b ds = .stuck := by unfold runN; rw [if_neg h]
def spN (T : Tab) (m : Nat) (F : List D → RF) : Sp := fun vs H Q E => ∃ (Hc : Hp) (ds : List D), vs.length = m ∧ Same Hc H ∧ Rps T Hc vs ds ∧ match F ds with
  | .ok d => ∀ p Hc' H', Aft Hc H Hc' H' → H p = none → Hc' p = none → Ob T Hc' (H' p) d → Q (.ref p) H'
  | .exc x => ∀ cls da Hc' H', Aft Hc H Hc' H' → RpX T Hc' H' cls da x → E cls da H'
  | .stuck => False
section
variable {T : Tab} {P : Program} {w : World} {K : PySem.W.Frag} {mg : Str → Option Value} {base : Heap} {x qual : Str} {params : Arguments} {body : List Stmt} {scope : Scope} {f : Addr} {fd : FuncData} {N ps : List Str} {k m n : Nat} {b : M D}
theorem fn_N {e : Expr} {pos : Pos} (F : FunD K x qual params body scope [] [] f fd) (S : FnScope N ps scope) (hm : m = ps.length) (hn : N.length = n) (hbd : body = [.Return (some e) pos])
    (h : ∀ (cdv : Value) (A : Around) (outer : List Env) (s : Shared) (H : Hp) (E : XK), Room k (A.deeper (envOfC qual scope s.heap.objs.size f cdv)) →
      SimN T (fun cls d _ H => E cls d H) (cxOf (L2.CX P w) P w K mg base N qual scope f cdv A outer s H E) e b) : FnOk P w K mg base (L2.CX P w) (k + 1) f fd ps (spN T m (runN n m b)) := by
  subst hbd
  refine FunD.ok F S (fun vs H Q E q => ?_) fun cdv A outer s H vs Q E hr q => ⟨_, pss_one (ps_ret pe_tE), ?_⟩
  · obtain ⟨Hc, ds, l, _⟩ := q
    rw [l, hm]
  · obtain ⟨Hc, ds, l, e, r, q⟩ := q
    have ld : ds.length = m := by rw [← r.length]; exact l
    have hS : StC T ⟨fun a => if Hc a = none then H a else none, none⟩ Hc (start N vs) H (stD n ds) := by
      refine ⟨fun a o ha => ?_, e, fun a o ha _ => ?_, ?_, fun i => ?_, fun i j a h1 h2 h3 h4 => (stD_noown h3).elim, fun a ha => by cases ha⟩
      · by_cases c : Hc a = none
        · simp only [c] at ha; exact ha
        · simp only [c] at ha; cases ha
      · by_cases c : Hc a = none
        · exact c
        · simp only [c] at ha; cases ha
      · unfold L2.start stD
        rw [List.length_append, List.length_append, List.length_map, List.length_map, List.length_replicate, List.length_replicate, r.length, hn]
      · unfold L2.start stD
        rw [hn, r.length]
        exact Rps.start r i
    have aft : ∀ {σ' : L2.St} {ρ' : DEnv} {Hc' H' : Hp}, Same Hc Hc' → StC T ⟨fun a => if Hc a = none then H a else none, none⟩ Hc' σ' H' ρ' → Aft Hc H Hc' H' := fun {σ' ρ' Hc' H'} e' S' => by
      refine ⟨e', S'.hc, fun a o ha => ?_, fun a o ha ho hc => S'.dj a o (by simp only [hc]; exact ha) ho⟩
      by_cases c : Hc a = none
      · exact S'.fr a o (by simp only [c]; exact ha)
      · cases g : Hc a with
        | none => exact absurd g c
        | some o' =>
          have z := e a o' g
          rw [ha] at z
          cases z
          exact S'.hc a o (e' a o g)
    unfold runN at q
    rw [if_pos ld] at q
    refine h cdv A outer s H E hr _ Hc _ H _ hS (fun v H' => Q v H') ?_
    cases g : b (stD n ds) with
    | ok d ρ' =>
      rw [g] at q
      intro Hc' H' e' S' p nw
      refine q p Hc' H' (aft e' S') ?_ nw.c nw.b
      have z : (if Hc p = none then H p else none) = none := nw.f
      by_cases c : Hc p = none
      · rw [if_pos c] at z; exact z
      · cases g2 : Hc p with
        | none => exact absurd g2 c
        | some o =>
          have y := e' p o g2
          rw [nw.c] at y
          cases y
    | exc z ρ' =>
      rw [g] at q
      exact fun cls da Hc' H' e' S' rz => q cls da Hc' H' (aft e' S') rz
    | stuck => rw [g] at q; exact q.elim
theorem fk_N {st : Stmt} {e : Expr} {pos : Pos} (d : Dn K mg x st) (S : FnScope N ps (defScope st)) (hb : BindsP x x (defArgs st) (defBody st) (defScope st) ps) (hm : m = ps.length) (hn : N.length = n) (hbd : defBody st = [.Return (some e) pos])
    (h : ∀ (f : Addr) (cdv : Value) (A : Around) (outer : List Env) (s : Shared) (H : Hp) (E : XK), Room k (A.deeper (envOfC x (defScope st) s.heap.objs.size f cdv)) →
      SimN T (fun cls d _ H => E cls d H) (cxOf (L2.CX P w) P w K mg base N x (defScope st) f cdv A outer s H E) e b) : Fk P w K mg base (k + 1) x ps (spN T m (runN n m b)) := by
  obtain ⟨f, fd, F, g⟩ := d.ex
  exact ⟨f, fd, fn_N F S hm hn hbd (h f), g, F.kp, F.bindsN hb⟩
end
section
variable {T : Tab} {W : WX} {X : Cx} {k m : Nat} {ps : List Str} {x : Str} {p pos : Pos} {e : Expr} {es : List Expr} {fA : M (List D)}
theorem x_fnN {G : List D → RF} (F : Fk X.prog X.w X.K X.mg X.base k x ps (spN T m G)) (hG : ∀ ds, ds.length ≠ m → G ds = .stuck) (hr : Room k X.A) (hg : Gl X x) (tk : Takes X W) (ha : SimA T W X (e :: es) fA)
    (hdb : (x == ("__debug__" : Str)) = false := by decide) (he : starEach (e :: es) X.env = (false, eval e X.env) :: starEach es X.env := by rfl) (hpl : (backTo pos (starEach es X.env)).any (·.1) = false := by rfl) :
    SimN T W X (.Call (.Name x p) (e :: es) [] pos) (eFn G fA) := by
  obtain ⟨f, fd, F1, hm, hk, hb⟩ := F.ex
  refine simN_of (pe_callSD (E := WE W) F1 hr hg hm hk hb .nil (fun σ => passAt tk σ) pa_tA hdb he hpl) fun Fr Hc σ H ρ S Q P => ?_
  refine ha.use S (PostR.bind P) fun ds ρ1 vs Hc1 H1 e1 S1 P1 r => ?_
  show spN T m G (vs ++ []) H1 Q (WE W σ)
  rw [List.append_nil]
  by_cases l : ds.length = m
  · refine ⟨Hc1, ds, by rw [r.length]; exact l, S1.hc, r, ?_⟩
    cases g : G ds with
    | ok d =>
      rw [g] at P1
      intro p Hc' H' a hp hc ob
      refine P1 Hc' H' a.c (S1.after a) p ⟨S1.fr.free hp, hc, fun j h1 h2 => ?_, ob⟩
      cases ej : ρ1[j]? with
      | none => rw [ej] at h2; cases h2
      | some sl =>
        rw [ej] at h2
        cases sl with
        | own z =>
          obtain ⟨b, g1, g2, g3, g4⟩ := S1.ownv ej
          rw [h1] at g1
          cases g1
          obtain ⟨u, hu, _⟩ := g4.some
          rw [hp] at hu
          cases hu
        | _ => cases h2
    | exc z => rw [g] at P1; exact fun cls da Hc' H' a r' => P1 cls da Hc' H' a.c (S1.after a) r'
    | stuck => rw [g] at P1; exact P1
  · rw [hG ds l] at P1
    exact P1.elim
end
end PD
set_option maxRecDepth 100000
/-! PD11: sorted of a list of alike data, of any length. -/
namespace PD
open PySem PySem.Spec PyProof.Rows L2
open PySem.W (Looks kas_first_eq kas_mapM)
open PySem.W (SortsAt AllAlike Sortable EachIs dataKind dataLe dataKind_some dataKind_inv alike alikeAll dataLt keyToks)
/-- tuples of which the first one is empty: their kind is found otherwise -/
def EmptyFirst (ps : List PyData) : Prop := (∃ r, ps = .tuple [] :: r) ∧ ∀ p ∈ ps, ∃ xs, p = .tuple xs
section
variable {M : Model} {prog : Program} {w : World} {A : Around} {E : Value → Shared → Prop} {s : Shared}
theorem call_tuple_ltD {Q : Value → Shared → Prop} {l b : Addr} {items items2 : Array Value} {e r : Nat → Bool} (hl : s.heap.IsTuple l items) (hb : s.heap.IsTuple b items2)
    (he : ∀ j (h1 : j < items.size) (h2 : j < items2.size), SeqAt.EqAt A.in1 s items[j] items2[j] (e j)) (hr : ∀ j (h1 : j < items.size) (h2 : j < items2.size), e j = false → SeqAt.RcLt A.in1 s items[j] items2[j] (r j))
    (h : Q (.bool (SeqAt.firstLt e r (decide (items.size < items2.size)) (List.range (min items.size items2.size)))) s) : wpAny (model prog w) A (call (.builtin "tuple.__lt__") [.ref l, .ref b]) Q E s := by
  obtain ⟨⟨cls, dd, data, sl⟩, ho, hc, n, hd⟩ := id hl
  obtain ⟨⟨cls2, dd2, data2, sl2⟩, ho2, hc2, n2, hd2⟩ := id hb
  simp only at hc hd hc2 hd2
  subst hc hd hc2 hd2
  exact call_meets F.slot_tuple_lt ⟨_, ho, rfl⟩ F.entry_tuple_lt (F.args_tuple_lt_2 _ _) (SeqAt.tuple_ltAt l b items items2 n n2 dd dd2 sl sl2 e r) ⟨ho, ho2, he, hr, h⟩
theorem oneLt_tup {xs ys : List PyData} {a b : Value} {as bs : List Addr} {Q : Bool → Shared → Prop} (ra : Reads s.heap a (.tuple xs) as) (rb : Reads s.heap b (.tuple ys) bs) (h : alike (.tuple xs) (.tuple ys) = true)
    (hu : A.units + min (PyData.tuple xs).depth (PyData.tuple ys).depth < cLine) (hq : Q (dataLt (.tuple xs) (.tuple ys)) s) : wpAny (model prog w) A (oneLt' true a b) Q E s := by
  have hal : alikeAll xs ys = true := by simpa [alike] using h
  cases ra with
  | @tuple l o vs n _ as₁ h1 h2 h3 h4 =>
    cases rb with
    | @tuple l' o' vs' n' _ bs₁ k1 k2 k3 k4 =>
      have n1 : vs.size = xs.length := by simpa using SeqAt.ReadsAll.length _ _ _ h4
      have n2 : vs'.size = ys.length := by simpa using SeqAt.ReadsAll.length _ _ _ k4
      rw [PySem.W.dataLt_tuple, ← PySem.W.firstLt_toks xs ys hal, ← n1, ← n2] at hq
      rw [oneLt'_eq]
      simp only [if_true]
      refine wpAny_bind (wpAny_cRoomFor (SeqAt.room_here hu) ?_)
      refine wpAny_bind (wpAny_callSpecialIfBound?_slot (T := "tuple") ⟨_, h1, h2⟩ F.slot_tuple_lt (call_tuple_ltD (e := PySem.SeqAt.pairEq xs ys) (r := fun j => dataLt (xs.getD j .none) (ys.getD j .none)) ⟨_, h1, h2, _, h3⟩ ⟨_, k1, k2, _, k3⟩ (fun j j1 j2 => ?_) (fun j j1 j2 hj => ?_) ?_))
      · have := PySem.W.eqAt_alikeAll xs ys A.in1 s vs.toList vs'.toList _ _ h4 k4 hal (SeqAt.room_in hu) j (by simpa using j1) (by simpa using j2)
        simpa using this
      · have := PySem.W.rcLt_alikeAll xs ys A.in1 s vs.toList vs'.toList _ _ h4 k4 hal (SeqAt.room_in hu) j (by simpa using j1) (by simpa using j2) hj
        simpa using this
      · exact wpAny_truthy_bool hq
theorem firsts_any : ∀ (vs : List Value) (ds : List PyData) {Q : List (Option Value) → Shared → Prop}, EachIs (fun v d => ∃ as, Reads s.heap v d as) vs ds → (∀ p ∈ ds, ∃ xs, p = PyData.tuple xs) →
    (∀ os : List (Option Value), os.length = vs.length → (∀ r, ds = .tuple [] :: r → ∃ os', os = none :: os') → Q os s) → wpAny M A (vs.mapM firstOfTuple') Q E s
  | [], [], Q, .nil, _, h => by
    rw [List.mapM_nil]
    exact wpAny_pure (h [] rfl fun r e => by cases e)
  | v :: vs, d :: ds, Q, .cons ⟨as, r⟩ e, t, h => by
    obtain ⟨xs, rfl⟩ := t d List.mem_cons_self
    rw [List.mapM_cons]
    cases r with
    | @tuple l o ws n _ as₁ h1 h2 h3 h4 =>
      refine wpAny_bind ?_
      rw [kas_first_eq]
      refine wpAny_bind (Looks.here (show Looks M s.heap (typeOf (.ref l)) o.cls from (Looks.ld h1).andThen .now) ?_)
      rw [h2, if_neg (by first | decide | simp)]
      refine wpAny_bind (listItems_at h1 h3 (wpAny_pure ?_))
      refine wpAny_bind (firsts_any vs ds (Q := fun bs s' => wpAny M A (pure (ws[0]? :: bs)) Q E s') e (fun p hp => t p (List.mem_cons_of_mem _ hp)) fun os hl _ => wpAny_pure (h _ (by rw [List.length_cons, List.length_cons, hl]) fun r e => ?_))
      cases e
      have z : ws.toList.length = 0 := SeqAt.ReadsAll.length _ _ _ h4
      refine ⟨os, ?_⟩
      have z2 : ws.size = 0 := by simpa using z
      rw [Array.getElem?_eq_none (by omega)]
theorem kind_empty {vs : List Value} {ds : List PyData} {Q : SortKind → Shared → Prop} (e : EachIs (fun v d => ∃ as, Reads s.heap v d as) vs ds) (t : EmptyFirst ds) (h : Q oneType' s) : wpAny M A (keyKind' vs.toArray) Q E s := by
  obtain ⟨⟨r, rfl⟩, ht⟩ := t
  rw [keyKind'_eq, List.mapM_toArray, map_eq_pure_bind]
  refine wpAny_bind (wpAny_bind (firsts_any vs _ e ht fun os hl ho => wpAny_pure ?_))
  obtain ⟨os', rfl⟩ := ho r rfl
  rw [if_neg (by simp), if_neg (by simp)]
  rw [oneTypeOnly'_eq, List.mapM_toArray, map_eq_pure_bind]
  have hT : ∀ v ∈ vs, Looks M s.heap (typeOf v) (Value.type "tuple") := fun v hv => by
    obtain ⟨d, hd, as, rd⟩ := e.left v hv
    obtain ⟨xs, rfl⟩ := ht d hd
    exact PySem.W.looks_reads rd
  refine wpAny_bind (wpAny_bind (wpAny_bind (kas_mapM (r := Value.type "tuple") _ (fun v hv Q' hq => (hT v hv).here hq) (wpAny_pure ?_))))
  obtain ⟨v₁, vr, rfl⟩ : ∃ v₁ vr, vs = v₁ :: vr := by
    cases e with
    | cons h1 h2 => exact ⟨_, _, rfl⟩
  have hall : ((List.map (fun _ => Value.type "tuple") (v₁ :: vr)).toArray.all fun x => x == Value.type "tuple") = true := by
    simp only [List.all_toArray, List.all_map, List.all_eq_true]
    intro _ _
    exact beq_self_eq_true _
  have h0 : (List.map (fun _ => Value.type "tuple") (v₁ :: vr)).toArray[0]? = some (Value.type "tuple") := by simp
  rw [h0]
  simp only [hall, if_true]
  exact wpAny_pure (wpAny_pure h)
theorem sortsAt_empty {vs : List Value} {ds : List PyData} (e : EachIs (fun v d => ∃ as, Reads s.heap v d as) vs ds) (hal : AllAlike ds) (hk : EmptyFirst ds) (hu : ∀ d, d ∈ ds → A.units + d.depth < cLine) : SortsAt prog w A s (dataKind s.heap ds) vs := by
  have room : ∀ {d d' : PyData}, d ∈ ds → A.units + min d.depth d'.depth < cLine := fun {d d'} hd => Nat.lt_of_le_of_lt (Nat.add_le_add_left (Nat.min_le_left _ _) _) (hu d hd)
  refine ⟨fun v hv => ?_, oneType', ?_, fun h2 E Q hq => kind_empty e hk hq⟩
  · obtain ⟨d, hd, as, r⟩ := e.left v hv
    exact ⟨_, dataKind_some hal hd r⟩
  · intro E x y a b Q ha hb hq
    obtain ⟨d, as, hd, ra, rfl⟩ := dataKind_inv ha
    obtain ⟨d', as', hd', rb, rfl⟩ := dataKind_inv hb
    have hdd := hal d hd d' hd'
    have hroom := room (d' := d') hd
    obtain ⟨xs, rfl⟩ := hk.2 d hd
    obtain ⟨ys, rfl⟩ := hk.2 d' hd'
    rw [keyLt'_oneType]
    exact oneLt_tup ra rb hdd hroom hq
end
/-! ### as a rule -/
def SrtOk (ps : List PyData) : Prop := AllAlike ps ∧ (Sortable ps ∨ EmptyFirst ps) ∧ ∀ p ∈ ps, p.depth ≤ 60
def rSortD (K : PySem.W.Frag) : List V → Hp → VK → Prop := fun xs H Q => ∃ (a : Addr) (ys : List (V × D)) (k : D → PyData), xs = [V.ref a] ∧ SqL K H a (ys.map (·.1)) ∧ (∀ p ∈ ys, Dp K H p.1 (k p.2)) ∧ SrtOk (ys.map fun p => k p.2) ∧
  ∀ p, H p = none → Q (.ref p) (upd H p (.lst ((ys.mergeSort (dataLe false fun p => k p.2)).map (·.1))))
theorem each_vals {ys : List (V × D)} : ∀ {its : List Value}, Vals (ys.map (·.1)) its → EachIs (fun (v : Value) (b : V × D) => RelV b.1 v) its ys := by
  induction ys with
  | nil => intro its h; cases h; exact .nil
  | cons y ys ih => intro its h; cases h with | cons h1 h2 => exact .cons h1 (ih h2)
theorem vals_each {zs : List (V × D)} : ∀ {out : List Value}, EachIs (fun (v : Value) (b : V × D) => RelV b.1 v) out zs → Vals (zs.map (·.1)) out := by
  induction zs with
  | nil => intro its h; cases h; exact .nil
  | cons y ys ih => intro its h; cases h with | cons h1 h2 => exact .cons h1 (ih h2)
theorem each_map {α β γ : Type} {R : α → γ → Prop} (f : β → γ) : ∀ {as : List α} {bs : List β}, EachIs (fun a b => R a (f b)) as bs → EachIs R as (bs.map f)
  | _, _, .nil => .nil
  | _, _, .cons h t => .cons h (each_map f t)
theorem each_add {α β : Type} {R : α → β → Prop} {P : β → Prop} : ∀ {as : List α} {bs : List β}, EachIs R as bs → (∀ b ∈ bs, P b) → EachIs (fun a b => R a b ∧ P b) as bs
  | _, _, .nil, _ => .nil
  | _, _, .cons h t, p => .cons ⟨h, p _ List.mem_cons_self⟩ (each_add t fun b hb => p b (List.mem_cons_of_mem _ hb))
section
variable {X : Cx}
theorem cr_sortedD (hu : X.A.units + 64 < cLine) : CallR X (.builtin "sorted") (rSortD X.K) := by
  intro pins s σ H xs us Q I r h
  obtain ⟨a, ys, k, rfl, hs, hk, ⟨hal, hsk, hdp⟩, q⟩ := h
  obtain ⟨its, rv, hl, hz⟩ := I.list hs
  rw [Vals.ref1 r]
  have hev := each_vals rv
  have hrd : EachIs (fun (v : Value) (b : V × D) => ∃ as, Reads s.heap v (k b.2) as) its ys := (each_add hev hk).mono fun v b ⟨h1, h2⟩ => Dp.reads I _ _ _ h2 h1
  have hrd2 : EachIs (fun (v : Value) (d : PyData) => ∃ as, Reads s.heap v d as) its (ys.map fun p => k p.2) := each_map (fun p : V × D => k p.2) hrd
  have hln : its.length = (ys.map (·.1)).length := rv.length.symm
  have hz' : its.length ≤ sizeLine := by rw [hln]; exact hz
  have hS : SortsAt X.prog X.w X.A.in1.in1 { s with heap := PySem.W.sortingHeap (PySem.W.copyHeap s.heap its) (s.heap.objs.size + 1) its } (dataKind (PySem.W.sortingHeap (PySem.W.copyHeap s.heap its) (s.heap.objs.size + 1) its) (ys.map fun p => k p.2)) its := by
    have e2 : EachIs (fun (v : Value) (d : PyData) => ∃ as, Reads (PySem.W.sortingHeap (PySem.W.copyHeap s.heap its) (s.heap.objs.size + 1) its) v d as) its (ys.map fun p => k p.2) := hrd2.mono fun v d ⟨as, r⟩ => ⟨as, PyProof.Rows.Reads.keeps (fun b o e => PySem.W.sorting_copy_old e) r⟩
    have hd : ∀ d, d ∈ (ys.map fun p => k p.2) → X.A.in1.in1.units + d.depth < cLine := fun d hd => by
      have := hdp d hd
      show X.A.units + 1 + 1 + d.depth < cLine
      omega
    rcases hsk with h1 | h1
    · exact SortsAt.data (s := { s with heap := PySem.W.sortingHeap (PySem.W.copyHeap s.heap its) (s.heap.objs.size + 1) its }) e2 hal h1 hd
    · exact sortsAt_empty (s := { s with heap := PySem.W.sortingHeap (PySem.W.copyHeap s.heap its) (s.heap.objs.size + 1) its }) e2 hal h1 hd
  refine PySem.W.sorted_vals hl.isList hS hz' ?_
  have ko : PySem.W.KeyedOut false (ys.map fun p => k p.2) its (PySem.W.sortVals (dataKind (PySem.W.sortingHeap (PySem.W.copyHeap s.heap its) (s.heap.objs.size + 1) its) (ys.map fun p => k p.2)) false its its) := ⟨_, _, hal, rfl, hrd2.mono fun v d ⟨as, r⟩ => ⟨as, PyProof.Rows.Reads.keeps (fun b o e => PySem.W.sorting_copy_old e) r⟩⟩
  have kl := ko.length (by rw [List.length_map, hln, List.length_map])
  have ke := PySem.W.keyedOut_each (fun p : V × D => k p.2) ko hev
  generalize PySem.W.sortVals (dataKind (PySem.W.sortingHeap (PySem.W.copyHeap s.heap its) (s.heap.objs.size + 1) its) (ys.map fun p => k p.2)) false its its = out at kl ke
  have hv := vals_each ke
  obtain ⟨n, hn⟩ := sortedAll_at s.heap its out.toArray
  have hd : H (s.heap.objs.size + 1) = none := I.hok.fresh (Nat.le_succ _)
  refine ⟨.ref (s.heap.objs.size + 1), upd H (s.heap.objs.size + 1) (.lst ((ys.mergeSort (dataLe false fun p => k p.2)).map (·.1))), I.laid (t' := s.toks) (fun b o e => sortedAll_old e) (Nat.le_succ _) ⟨?_, out, n, hv, hn⟩, rfl, q _ hd⟩
  rw [hv.length, kl]
  exact hz'
end
end PD
set_option maxRecDepth 100000
/-! PD12: sorted over data; sorted(set(xs)) of ints. -/
namespace PD
open PySem PySem.Spec PyProof.Rows L2
open PySem.W (Looks dataLe alike)
/-! ### sorted(xs) over data -/
def kD (d : D) : PyData := (pyD d).getD .none
def srtT : PyData → Bool
  | .tuple (_ :: _) => true
  | _ => false
def srtA : PyData → Bool
  | .none => false
  | .tuple _ => false
  | _ => true
def isTp : PyData → Bool
  | .tuple _ => true
  | _ => false
def emptyF : List PyData → Bool
  | .tuple [] :: r => r.all isTp
  | _ => false
def srtB (ps : List PyData) : Bool := (ps.all fun p => ps.all fun q => alike p q) && ((ps.all srtT || ps.all srtA || emptyF ps) && ps.all fun p => decide (p.depth ≤ 60))
theorem isTp_ok {p : PyData} (h : isTp p = true) : ∃ xs, p = .tuple xs := by
  cases p with
  | tuple xs => exact ⟨xs, rfl⟩
  | _ => cases h
theorem srtB_ok {ps : List PyData} (h : srtB ps = true) : SrtOk ps := by
  unfold srtB at h
  simp only [Bool.and_eq_true, Bool.or_eq_true, List.all_eq_true, decide_eq_true_eq] at h
  obtain ⟨h1, h2, h3⟩ := h
  refine ⟨fun d hd d' hd' => h1 d hd d' hd', ?_, h3⟩
  rcases h2 with (h2 | h2) | h2
  · refine .inl (.inl fun d hd => ?_)
    have := h2 d hd
    cases d with
    | tuple xs =>
      cases xs with
      | nil => cases this
      | cons x r => exact ⟨x, r, rfl⟩
    | _ => cases this
  · refine .inl (.inr fun d hd => ?_)
    have := h2 d hd
    cases d with
    | none => cases this
    | tuple xs => cases this
    | _ => exact ⟨fun z => (by cases z), fun xs z => (by cases z)⟩
  · refine .inr ?_
    unfold emptyF at h2
    split at h2
    · rename_i r
      refine ⟨⟨r, rfl⟩, fun p hp => ?_⟩
      rcases List.mem_cons.mp hp with e | hp
      · exact ⟨[], e⟩
      · exact isTp_ok (List.all_eq_true.mp h2 p hp)
    · cases h2
def cSort : List D → Option D
  | [.lst ds] => if (ds.all fun d => (pyD d).isSome) = true ∧ srtB (ds.map kD) = true then some (.lst (ds.mergeSort (dataLe false kD))) else none
  | _ => none
theorem Rps.zip_mem {T : Tab} {H : Hp} : ∀ {vs : List V} {ds : List D}, Rps T H vs ds → ∀ p ∈ vs.zip ds, Rp T H p.1 p.2
  | _, _, .nil, p, h => by cases h
  | _, _, .cons q r, p, h => by
    rcases List.mem_cons.mp h with e | h
    · rw [e]; exact q
    · exact Rps.zip_mem r p h
theorem Rps.of_pairs {T : Tab} {H : Hp} : ∀ {zs : List (V × D)}, (∀ p ∈ zs, Rp T H p.1 p.2) → Rps T H (zs.map (·.1)) (zs.map (·.2))
  | [], _ => .nil
  | z :: zs, h => .cons (h z List.mem_cons_self) (Rps.of_pairs fun p hp => h p (List.mem_cons_of_mem _ hp))
section
variable {T : Tab}
theorem oSort : ClN T (rSortD T.K) cSort := fun Fr Hc σ H ρ xs ds d S r e Q q => by
  unfold cSort at e
  split at e
  · rename_i ds
    split at e
    · rename_i c
      cases e
      cases r with
      | cons r0 r1 =>
        cases r1
        cases r0 with
        | @lst a vs _ h rs =>
          have e1 : (vs.zip ds).map (·.1) = vs := List.map_fst_zip (Nat.le_of_eq rs.length)
          have e2 : (vs.zip ds).map (·.2) = ds := List.map_snd_zip (Nat.le_of_eq rs.length.symm)
          have e3 : (vs.zip ds).map (fun p => kD p.2) = ds.map kD := by
            have z : (vs.zip ds).map (fun p => kD p.2) = ((vs.zip ds).map (·.2)).map kD := by rw [List.map_map] <;> rfl
            rw [z, e2]
          have mem := rs.zip_mem
          have hm := PySem.W.sort_maps (r := dataLe false fun p : V × D => kD p.2) (s := dataLe false kD) (Prod.snd) (l := vs.zip ds) fun a _ b _ => rfl
          rw [e2] at hm
          refine ⟨a, vs.zip ds, kD, rfl, by rw [e1]; exact SqL.of (S.hc _ _ h), fun p hp => ?_, by rw [e3]; exact srtB_ok c.2, fun p hp => ?_⟩
          · have s1 : (pyD p.2).isSome = true := List.all_eq_true.mp c.1 p.2 (by rw [← e2]; exact List.mem_map_of_mem hp)
            obtain ⟨y, hy⟩ := Option.isSome_iff_exists.mp s1
            have : kD p.2 = y := by unfold kD; rw [hy]; rfl
            rw [this]
            exact pyD_ok ((mem p hp).mono S.hc) hy
          · have rz : Rps T Hc (((vs.zip ds).mergeSort (dataLe false fun p => kD p.2)).map (·.1)) (ds.mergeSort (dataLe false kD)) := by
              rw [← hm]
              exact Rps.of_pairs fun p hp => mem p ((List.mergeSort_perm _ _).mem_iff.mp hp)
            obtain ⟨S2, n⟩ := Nw.laid S (o := .lst (((vs.zip ds).mergeSort (dataLe false fun p => kD p.2)).map (·.1))) (d := .lst (ds.mergeSort (dataLe false kD))) hp ⟨_, rfl, rz⟩
            exact q _ _ _ (Same.refl _) S2 n
    · cases e
  · cases e
end
/-! ### set(xs), xs a list of ints: the set with its members -/
section
variable {P : Program} {w : World} {A : Around} {E : Value → Shared → Prop} {s : Shared}
set_option maxHeartbeats 3200000 in
theorem set_list_ints {l : Addr} {items : Array Value} (ns : List Int) {Q : Value → Shared → Prop} (hh : A.handled = none) (hl : s.heap.IsList l items) (hit : IntsAre items.toList ns) (hb : ns.length + 1 < scanBound)
    (h : ∀ (h' : Heap) (tk c : Nat), SetR w h' s.heap.objs.size (fun j => decide (j ∈ ns)) c → c ≤ ns.length → (∀ b o, s.heap.get? b = some o → h'.get? b = some o) → Q (.ref s.heap.objs.size) { s with heap := h', toks := tk }) :
    wpAny (model P w) A (call (.type "set") [.ref l]) Q E s := by
  have isz : items.size = ns.length := by
    rw [← Array.length_toList]
    exact IntsAre.length hit
  generalize ho : ({ cls := .type "set", dict := none, data := .set #[] 0 (.fresh 0 0 (!w.params.followText "set-order")) } : Obj) = o0
  obtain ⟨c, tl, hmro⟩ := F.called_set.mro
  have f1 := F.called_set.made
  have f2 := F.called_set.sub
  have f3 := F.called_set.notType
  have f4 := F.called_set.canCreate
  have f5 := F.typeCall_set_1 (.ref l)
  refine wpAny_call (codeAny_of_tree (wpAny_pure (⟨Code.quiet_builtin _ (by decide +kernel), codeAny_builtin F.entry_type_call ?_⟩)))
  rw [Around.under_plain (weight_type_call_type "set" [.ref l] []) rfl]
  repeat (any_goals (first | assumption | wp_step))
  refine codeAny_mono (code_set_led1 (.ref l) (E := E) (Q₁ := fun obj s₁ => obj = .ref s.heap.objs.size ∧ s₁ = { s with heap := s.heap.push o0 }) ⟨rfl, by rw [← ho]⟩) fun r s₁ hr => ?_
  cases r with
  | error e => exact hr
  | ok fl =>
    cases fl with
    | ret obj =>
      obtain ⟨rfl, rfl⟩ := hr
      have gS : (s.heap.push o0).get? s.heap.objs.size = some o0 := Heap.get?_push_size _ (by rw [← ho] <;> rfl)
      have hT : Shared.TypeIs { s with heap := s.heap.push o0 } (.ref s.heap.objs.size) "set" := ⟨_, gS, by rw [← ho]⟩
      have g1 := F.called_set.init.lookup
      have g2 := F.called_set.init.bind (.ref s.heap.objs.size)
      repeat (any_goals (first | assumption | wp_step))
      refine codeAny_mono (codeAny_call_builtin (R := wants (fun r s₂ => r = .none ∧ ∃ h' tk c, s₂ = { s with heap := h', toks := tk } ∧ SetR w h' s.heap.objs.size (fun j => decide (j ∈ ns)) c ∧ c ≤ ns.length ∧ (∀ b o, s.heap.get? b = some o → h'.get? b = some o)) E)
        F.called_set.init.plain F.entry_set_init (check_set_init_1 hT ?_)) fun r₂ s₂ hr₂ => ?_
      · have hl1 : (s.heap.push o0).IsList l items := hl.push _
        obtain ⟨⟨lc, ld, ldt, lsl⟩, hol, hcl, nl, hdl⟩ := hl
        simp only at hcl hdl
        subst hcl hdl
        have hol' : (s.heap.push o0).get? l = some { cls := .type "list", dict := ld, data := .seq items nl, slots := lsl } := Heap.get?_push_of_some _ hol
        have k1 := F.sub_list_set
        have k2 := F.sub_list_frozenset
        have k3 : (Value.type "list" == Value.type "dict") = false := by decide
        subst ho
        unfold Builtin.«set.__init__» noKeywords Builtin.Frozenset.updateFrom
        generalize hPI : pyIter = PI
        wp_walk
        subst hPI
        refine wpAny_pyIter_list hl1 ?_
        refine wpAny_bind (wpAny_runValue ?_)
        have lt : l < s.heap.objs.size := Heap.lt_size hol
        have h3 : A.in1.in1.in1.handled = none := by simp [hh]
        have nI : l ≠ (s.heap.push { cls := .type "set", dict := none, data := .set #[] 0 (.fresh 0 0 (!w.params.followText "set-order")) }).objs.size := by rw [Heap.size_push]; exact Nat.ne_of_lt (Nat.lt_succ_of_lt lt)
        have nS : s.heap.objs.size ∉ [(s.heap.push { cls := .type "set", dict := none, data := .set #[] 0 (.fresh 0 0 (!w.params.followText "set-order")) }).objs.size, l] := by
          rw [Heap.size_push]
          intro z
          rcases List.mem_cons.mp z with z | z
          · exact absurd z (Nat.ne_of_lt (Nat.lt_succ_self _))
          · exact absurd (List.mem_singleton.mp z) (Nat.ne_of_gt lt)
        refine set_update_ints ((Walks.list h3 _ l nI items).toS) s.heap.objs.size nS ns isz hb (fun i v hv => ?_) (items.size - 0) 0 _ (by omega) (Nat.zero_le _) ⟨⟨_, Heap.get?_push_size _ rfl, rfl, rfl⟩, hl1.push _⟩ ⟨0, Nat.le_refl 0, ?_⟩ ?_
        · have hi : i < ns.length := by rw [← isz]; exact (Array.getElem?_eq_some_iff.mp hv).1
          obtain ⟨t, e⟩ := PyProof.Rows.IntsAre.int_at hit i v (by rw [Array.getElem?_toList]; exact hv)
          exact ⟨ns[i], t, List.getElem?_eq_getElem hi, by rw [e, List.getD_eq_getElem?_getD, List.getElem?_eq_getElem hi] <;> rfl⟩
        · exact setR_new_at (Heap.get?_push_of_some _ gS)
        · intro s' c' hm hc' hS'
          obtain ⟨h', g2, d', tk', os'⟩ := s'
          obtain rfl : g2 = s.gens := hm.gens
          obtain rfl : d' = s.drawn := hm.drawn
          obtain rfl : os' = s.os := hm.os
          refine (show wpAny _ _ _ _ _ _ from wpAny_pure (show wpAny _ _ (ret Value.none) _ _ _ from wpAny_pure ⟨rfl, h', tk', c', rfl, hS', by omega, fun b o e => ?_⟩))
          have lb : b < s.heap.objs.size := Heap.lt_size e
          refine hm.heap b o (fun z => ?_) (Heap.get?_push_of_some _ (Heap.get?_push_of_some _ e))
          rw [Heap.size_push] at z
          rcases List.mem_cons.mp z with z | z
          · exact absurd z (Nat.ne_of_lt lb)
          · exact absurd (List.mem_singleton.mp z) (Nat.ne_of_lt (Nat.lt_succ_of_lt lb))
      · cases r₂ with
        | error e => exact hr₂
        | ok fl₂ =>
          cases fl₂ with
          | ret r =>
            obtain ⟨rfl, h', tk, c', rfl, hS', hc', hk'⟩ := hr₂
            repeat (any_goals (first | assumption | wp_step))
            exact h _ _ _ hS' hc' hk'
          | _ => exact hr₂.elim
    | _ => exact hr.elim
end
def rSetL (K : PySem.W.Frag) (w : World) : List V → Hp → VK → Prop := fun xs H Q => ∃ (l : Addr) (ns : List Int), xs = [V.ref l] ∧ SqL K H l (ns.map V.int) ∧ ns.length < 64 ∧ ∀ a n, H a = none → n ≤ ns.length → Q (.ref a) (upd H a (SetO w a (fun j => decide (j ∈ ns)) n))
section
variable {X : Cx}
theorem cr_setL (hc : X.calm = true) : CallR X (.type "set") (rSetL X.K X.w) := by
  intro pins s σ H xs us Q I r h
  obtain ⟨l, ns, rfl, hl, h64, q⟩ := h
  rw [Vals.ref1 r]
  obtain ⟨its, rv, pl, hz⟩ := I.list hl
  have hn : H s.heap.objs.size = none := I.hok.fresh (Nat.le_refl _)
  refine set_list_ints ns (I.ok.hd hc) pl.isList (by simpa using rv.ints) (by unfold scanBound; omega) fun h' tk c R hcn k => ?_
  exact ⟨.ref s.heap.objs.size, upd H s.heap.objs.size (SetO X.w s.heap.objs.size (fun j => decide (j ∈ ns)) c), I.laid (t' := tk) k (Nat.le_refl _) (setO_new R), rfl, q _ _ hn hcn⟩
end
end PD
set_option maxRecDepth 100000
/-! PD13: sorted(set(xs)), sum of a tuple, a class's whole number. -/
namespace PD
open PySem PySem.Spec PyProof.Rows L2
/-! ### the strictly ascending list of members -/
def insI (k : Int) : List Int → List Int
  | [] => [k]
  | x :: r => if k < x then k :: x :: r else if k = x then x :: r else x :: insI k r
def ssort (ns : List Int) : List Int := ns.foldr insI []
theorem insI_mem {k j : Int} : ∀ {l : List Int}, j ∈ insI k l ↔ j = k ∨ j ∈ l
  | [] => by simp [insI]
  | x :: r => by
    unfold insI
    split
    · simp
    · split
      · rename_i e
        subst e
        simp
      · rw [List.mem_cons, insI_mem (l := r), List.mem_cons]
        constructor
        · rintro (h | h | h) <;> simp [h]
        · rintro (h | h | h) <;> simp [h]
theorem insI_pw {k : Int} : ∀ {l : List Int}, l.Pairwise (· < ·) → (insI k l).Pairwise (· < ·)
  | [], _ => List.pairwise_singleton _ _
  | x :: r, h => by
    obtain ⟨h1, h2⟩ := List.pairwise_cons.mp h
    unfold insI
    split
    · rename_i c
      refine List.pairwise_cons.mpr ⟨fun y hy => ?_, h⟩
      rcases List.mem_cons.mp hy with e | hy
      · rw [e]; exact c
      · exact Int.lt_trans c (h1 y hy)
    · split
      · exact h
      · rename_i c1 c2
        refine List.pairwise_cons.mpr ⟨fun y hy => ?_, insI_pw h2⟩
        rcases insI_mem.mp hy with e | hy
        · rw [e]; omega
        · exact h1 y hy
theorem ssort_pw : ∀ ns : List Int, (ssort ns).Pairwise (· < ·)
  | [] => List.Pairwise.nil
  | n :: ns => insI_pw (ssort_pw ns)
theorem ssort_mem {j : Int} : ∀ {ns : List Int}, j ∈ ssort ns ↔ j ∈ ns
  | [] => by simp [ssort]
  | n :: ns => by
    show j ∈ insI n (ssort ns) ↔ _
    rw [insI_mem, ssort_mem, List.mem_cons]
theorem pw_uniq : ∀ {l m : List Int}, l.Pairwise (· < ·) → m.Pairwise (· < ·) → (∀ j, j ∈ l ↔ j ∈ m) → l = m
  | [], [], _, _, _ => rfl
  | [], y :: m, _, _, h => absurd ((h y).mpr List.mem_cons_self) (by simp)
  | x :: l, [], _, _, h => absurd ((h x).mp List.mem_cons_self) (by simp)
  | x :: l, y :: m, hl, hm, h => by
    obtain ⟨l1, l2⟩ := List.pairwise_cons.mp hl
    obtain ⟨m1, m2⟩ := List.pairwise_cons.mp hm
    have e : x = y := by
      rcases List.mem_cons.mp ((h x).mp List.mem_cons_self) with e | hx
      · exact e
      · rcases List.mem_cons.mp ((h y).mpr List.mem_cons_self) with e | hy
        · exact e.symm
        · have a := m1 x hx
          have b := l1 y hy
          omega
    subst e
    rw [pw_uniq l2 m2 fun j => ⟨fun hj => ?_, fun hj => ?_⟩]
    · rcases List.mem_cons.mp ((h j).mp (List.mem_cons_of_mem _ hj)) with e | q
      · have := l1 j hj; omega
      · exact q
    · rcases List.mem_cons.mp ((h j).mpr (List.mem_cons_of_mem _ hj)) with e | q
      · have := m1 j hj; omega
      · exact q
def gSortSet : D → Option D
  | .lst ds => (intsD ds).bind fun ns => if ns.length < 64 then some (.lst ((ssort ns).map .int)) else none
  | _ => none
section
variable {T : Tab} {W : WX} {X : Cx} {e : Expr} {fe : M D} {p p2 pos pos2 : Pos}
theorem x_sortSet (hK : T.K = X.K) (hc : X.calm = true) (hg : Gl X "sorted") (hm : X.mg "sorted" = none) (hg2 : Gl X "set") (hm2 : X.mg "set" = none) (he : SimE T W X e fe)
    (n1 : starEach [e] X.env = (false, eval e X.env) :: starEach [] X.env := by rfl) (n2 : starEach [.Call (.Name "set" p2) [e] [] pos2] X.env = (false, eval (.Call (.Name "set" p2) [e] [] pos2) X.env) :: starEach [] X.env := by rfl) :
    SimN T W X (.Call (.Name "sorted" p) [.Call (.Name "set" p2) [e] [] pos2] [] pos) (e1 gSortSet fe) := by
  refine simN_of (pe_callB (cr_sortedSet hc) hg hm rfl (pa_cons (pe_callTy (cr_setL hc) hg2 hm2 rfl (pa_cons pe_tE pa_nil n1) (he := n1)) pa_nil n2) (he := n2)) fun Fr Hc σ H ρ S Q P => ?_
  refine he.use S (PostR.bind P) fun d ρ1 v Hc1 H1 e1 S1 P1 r1 => ?_
  obtain ⟨d', hd, k⟩ := P1.some
  cases r1 with
  | @lst a vs ds h r =>
    unfold gSortSet at hd
    dsimp only at hd
    cases e2 : intsD ds with
    | none => rw [e2] at hd; cases hd
    | some ns =>
      rw [e2] at hd
      dsimp only [Option.bind] at hd
      split at hd
      · rename_i l64
        cases hd
        rw [intsD_ok e2] at r
        have z := r.int_inv
        subst z
        refine ⟨a, ns, rfl, by rw [← hK]; exact SqL.of (S1.hc _ _ h), l64, fun b n hb hn => ?_⟩
        have e3 : Same H1 (upd H1 b (SetO X.w b (fun j => decide (j ∈ ns)) n)) := fun c u hc => by rw [upd_ne (ne_of_none hc hb)]; exact hc
        refine ⟨b, (fun j => decide (j ∈ ns)), n, rfl, upd_same, by omega, fun ms q hp hm' _ hq => ?_⟩
        have e4 : ms = ssort ns := pw_uniq hp (ssort_pw ns) fun j => by rw [hm' j, ssort_mem]; exact decide_eq_true_iff
        subst e4
        obtain ⟨S2, nn⟩ := Nw.laid (S1.aside e3) (o := .lst ((ssort ns).map V.int)) (d := .lst ((ssort ns).map .int)) hq ⟨_, rfl, Rps.ints _⟩
        exact k Hc1 _ (Same.refl _) S2 q nn
      · cases hd
  | _ => cases hd
end
/-! ### sum of a tuple -/
def rSumT (K : PySem.W.Frag) : List V → Hp → VK → Prop := fun vs H Q => ∃ (a : Addr) (ns : List Int), vs = [V.ref a] ∧ SqT K H a (ns.map V.int) ∧ Q (.int ns.sum) H
theorem cr_sumT {X : Cx} (hc : X.calm = true) : CallR X (.builtin "sum") (rSumT X.K) := by
  intro pins s σ H vs us Q I r h
  obtain ⟨a, ns, rfl, hs, q⟩ := h
  obtain ⟨its, rv, hl, _⟩ := I.tuple hs
  rw [Vals.ref1 r]
  have hi : IntsAre its ns := rv.ints
  obtain ⟨xs, e⟩ := hi.allInts.items
  have hn : numsOf (intItems xs).toList = ns := by rw [← e]; exact hi.numsOf
  rw [nums_intItems] at hn
  rw [e] at hl
  refine PySem.W.ktm_sumG (I.ok.hd hc) hl fun h' tk t' hk => ?_
  rw [preSum_eq, List.take_of_length_le (by simp), hn]
  exact ⟨.int _, H, I.kept hk, ⟨_, rfl⟩, q⟩
def cSumT : List D → Option D
  | [.tup ds] => (intsD ds).map fun is => .int is.sum
  | _ => none
theorem oSumT {T : Tab} : ClS T (rSumT T.K) cSumT := fun Fr Hc σ H ρ xs ds d S r e Q q => by
  unfold cSumT at e
  split at e
  · rename_i ds'
    cases e1 : intsD ds' with
    | none => rw [e1] at e; cases e
    | some is =>
      rw [e1] at e
      cases e
      cases r with
      | cons r0 r1 =>
        cases r1
        cases r0 with
        | tup h r' =>
          rw [intsD_ok e1] at r'
          have z := r'.int_inv
          subst z
          exact ⟨_, is, rfl, SqT.of (S.hc _ _ h), q _ Hc H (Same.refl _) S (.int _)⟩
  · cases e
/-! ### C.NAME, a whole number -/
structure CI (K : PySem.W.Frag) (mg : Str → Option Value) (x : Str) (C : Addr) (f : Str) (i : Int) : Prop where
  ex : ∃ mc t, mg x = some (.ref C) ∧ ClX.CRead K C mc ∧ ClX.CVal K C mc f (.int i) (.int i t)
theorem x_cint {T : Tab} {W : WX} {X : Cx} {x f : Str} {C : Addr} {i : Int} {p pos : Pos} (hg : Gl X x) (c : CI X.K X.mg x C f i) (hd : (x == ("__debug__" : Str)) = false := by decide)
    (hb : attributeBase (.Name x p) f X.env (eval (.Name x p) X.env) = eval (.Name x p) X.env := by rfl) : SimE T W X (.Attribute (.Name x p) f pos) (eC (.int i)) := by
  obtain ⟨mc, t, hm, h1, h2⟩ := c.ex
  exact sim_of (ClX.pe_cval (pe_glob (v := .ref C) hg hm rfl hd) hb) fun Fr Hc σ H ρ S Q P => ⟨C, mc, .int i, _, rfl, h1, h2, P Hc H (Same.refl _) S _ (.int i)⟩
end PD
set_option maxRecDepth 100000
/-! PD14: defs of a class whose body says super(). -/
namespace PD
open PySem PySem.Spec PyProof.Rows L2
open NdefX (NF NScope ncx startF CellsAt inv_startN envF)
/-! ### blocks, run at their code -/
def tSsA (X : Cx) (body st : List Stmt) : TS := fun D σ H => ∀ (pins : List (Addr × Obj)) (s : Shared), Inv X pins σ H s → _root_.PySem.wpAt (model X.prog X.w) X.A (.func body X.env) (execs st X.env) (SP X pins D) X.xe s
def tStA (X : Cx) (body : List Stmt) (st : Stmt) : TS := fun D σ H => ∀ (pins : List (Addr × Obj)) (s : Shared), Inv X pins σ H s → _root_.PySem.wpAt (model X.prog X.w) X.A (.func body X.env) (exec st X.env) (SP X pins D) X.xe s
abbrev SimBA (T : Tab) (W : WX) (X : Cx) (body st : List Stmt) (g : MS) : Prop := RdS T W (tSsA X body st) g
abbrev SimSA (T : Tab) (W : WX) (X : Cx) (body : List Stmt) (st : Stmt) (g : MS) : Prop := RdS T W (tStA X body st) g
section
variable {T : Tab} {W : WX} {X : Cx} {body sts : List Stmt} {st : Stmt} {g g' : MS}
theorem ba_any (h : SimB T W X sts g) : SimBA T W X body sts g := h.imp fun D σ H q pins s I => wpAt_of_wpAny (q pins s I)
theorem seqA (h2 : ∀ D σ H, tSsA X body sts D σ H → tSsA X body sts D σ H) : ∀ D σ H, tStA X body st { D with nx := tSsA X body sts D } σ H → tSsA X body (st :: sts) D σ H := fun D σ H q pins s I => by
  refine ks_wpAt_execs_cons (ks_wpAt_mono (q pins s I) (fun f s1 hf => ?_) fun _ _ x => x)
  cases f with
  | next =>
    obtain ⟨σ', H', I', q'⟩ := hf
    exact q' pins s1 I'
  | ret v => exact hf
  | brk => exact hf
  | cont => exact hf
theorem ba_cons (h1 : SimSA T W X body st g) (h2 : SimBA T W X body sts g') : SimBA T W X body (st :: sts) (sSeq g g') := (rs_seq h1 h2).imp (seqA fun _ _ _ q => q)
theorem sa_any (h : SimS T W X st g) : SimSA T W X body st g := h.imp fun D σ H q pins s I => wpAt_of_wpAny (q pins s I)
end
/-! ### such a def -/
def cCell (cc : Addr) : List (Str × Addr) := [("__class__", cc)]
/-- the def's object at f, its cell, its code's file; D: the class that it stands in -/
structure FunS (P : Program) (K : PySem.W.Frag) (D f : Addr) (F : NF) (fd : FuncData) : Prop where
  ex : ∃ (oc : Value) (od : Option Addr) (doc pm ctv : Value) (osl : Array (Option Value)) (cc : Addr) (cl : Value) (cld : Option Addr) (csl : Array (Option Value)) (ccl : Value) (cdd : Option Addr) (vs : Array Value) (ccs : Array (Option Value)) (file : Str) (tf : Tok) (cd : ClassData),
    fd = F.fd doc pm ctv ∧ K.lookup f = some ⟨oc, od, .func fd, osl⟩ ∧ F.cl = cCell cc ∧ PySem.W.codeIn K (.ref F.c) F.qual = true ∧ K.lookup cc = some ⟨cl, cld, .cell (some (.ref D)), csl⟩ ∧
    K.lookup F.c = some ⟨ccl, cdd, .fields vs, ccs⟩ ∧ vs[2]? = some (.str file tf) ∧ ((P.main.file : Str) == file) = true ∧ PySem.W.clsIn K D = some cd
  kp : PySem.W.keepIn K (.ref f) = true
  sup : PySem.W.nsIn K mainGlobals "super" = some none
  top : (P.main.scope.names.lookup ("super" : Str)).isSome = false
section
variable {P : Program} {w : World} {K : PySem.W.Frag} {mg : Str → Option Value} {base : Heap} {CX : CXT} {k : Nat} {D f : Addr} {F : NF} {fd : FuncData} {N ps : List Str} {sp : Sp}
theorem fn_super (Fs : FunS P K D f F fd) (S : NScope N ps ["__class__"] F.scope) (len : ∀ vs H Q E, sp vs H Q E → vs.length = ps.length)
    (hbody : ∀ (A : Around) (outer : List Env) (s : Shared) (H : Hp) (vs : List V) (Q : VK) (E : XK), Room k (A.deeper (envF F f s.heap.objs.size)) → sp vs H Q E →
      tSsA (ncx CX P w K mg base N F f A outer s H E) F.body F.body { nx := fun _ H' => Q .non H', rt := Q } (startF N vs [none]) H) : FnOk P w K mg base CX (k + 1) f fd ps sp := by
  obtain ⟨oc, od, doc, pm, ctv, osl, cc, cl, cld, csl, ccl, cdd, vs', ccs, file, tf, cd, rfl, lk, hcl, hcd, lc, lco, hvs, hfile, hD⟩ := Fs.ex
  refine ⟨len, fun A outer s H args us vs Q E hr e0 hb r hsp => ?_⟩
  have hl := len _ _ _ _ hsp
  have KX : K.In s.heap := e0.mod.kin.keeps fun b o e => (e0.bs b o e).1
  have lim : s.heap.NoLimit := e0.mod.nolimit.keeps fun b o e => (e0.bs b o e).1
  have C : CellsAt F.cl ["__class__"] [none] s.heap H := by
    rw [hcl]
    refine ⟨rfl, fun y c e => ?_, fun x y c e1 e2 => ?_, fun i y e => ?_⟩
    · have hc : c = cc := by
        unfold cCell at e
        rw [List.lookup_cons] at e
        split at e
        · cases e; rfl
        · cases e
      subst hc
      have hbs : base.get? c = some ⟨cl, cld, .cell (some (.ref D)), csl⟩ := e0.mod.kin _ _ lc
      exact ⟨(e0.bs c _ hbs).2, some (.ref D), _, (e0.bs c _ hbs).1, rfl⟩
    · have one : ∀ {z : Str}, (cCell cc).lookup z = some c → z = "__class__" := fun {z} e => by
        unfold cCell at e
        rw [List.lookup_cons] at e
        split at e
        · rename_i h; exact eq_of_beq h
        · cases e
      rw [one e1, one e2]
    · cases i with
      | zero =>
        simp at e
        subst e
        exact ⟨cc, by unfold cCell; simp [List.lookup], fun v hv => by simp at hv⟩
      | succ i => simp at e
  refine ks_codeAny_call_defAt hr.depth (KX _ _ lk) rfl lim (PySem.W.codeRec_of KX hcd) rfl hb S.nocell (fun ⟨n, _⟩ hy => S.par n (List.of_mem_zip hy).1) (fun h₁ hns kp => ?_) S.co S.gen S.kind
  have I : Inv (ncx CX P w K mg base N F f A outer s H E) [] (startF N vs [none]) H { s with heap := h₁, toks := s.toks + (ps.zip us).length } := inv_startN S hr.hd e0 hl r C hns kp
  refine ks_wpAt_mono (hbody A outer s H vs Q E (hr.deeper _) hsp [] _ I) (fun fl s' hs => ?_) fun e s' hs => hs
  have fin : ∀ {σ' : L2.St} {H' : Hp} {v : V} {u : Value}, Inv (ncx CX P w K mg base N F f A outer s H E) [] σ' H' s' → L2.RelV v u → Q v H' → CE outer P w H s Q u s' :=
    fun {σ' H' v u} J rv q => ⟨v, H', J.os, J.bare, J.base, J.hok, rv, q⟩
  cases fl with
  | ret u =>
    obtain ⟨v, σ', H', J, rv, q⟩ := hs
    exact fin J rv q
  | next =>
    obtain ⟨σ', H', J, q⟩ := hs
    exact fin (v := V.non) (u := Value.none) J rfl q
  | brk =>
    obtain ⟨_, _, _, q⟩ := hs
    exact False.elim q
  | cont =>
    obtain ⟨_, _, _, q⟩ := hs
    exact False.elim q
end
/-! ### super().m: the base of the attribute -/
section
variable {X : Cx} {pins : List (Addr × Obj)} {σ : L2.St} {H : Hp} {s : Shared}
theorem super_base {P : Program} {K : PySem.W.Frag} {D f x C : Addr} {F : NF} {fd : FuncData} {L : Addr} {body : List Stmt} {p0 p1 : Pos} {attr : Str} {whole : Sem Value} {ar : Arg} {ox : Obj} {odx : Option Obj} {Q : Value → Shared → Prop}
    (hP : X.prog = P) (hK : X.K = K) (he : X.env = envF F f L) (Fs : FunS P K D f F fd) (I : Inv X pins σ H s)
    (hp : (F.params.posonlyargs ++ F.params.args).head? = some ar) (ha : F.scope.names.lookup ar.arg = some .local) (hs0 : X.N[0]? = some ar.arg) (hσ : σ[0]? = some (some (.ref x)))
    (hks : F.scope.names.lookup ("super" : Str) = some .globalImplicit) (hkc : F.scope.names.lookup ("__class__" : Str) = some .free) (hk : F.scope.kind = .function)
    (J : PySem.W.InstAt s.heap x ox C odx) (hsub : PySem.W.mroIn K C (.ref D) = some true) (hat : (attr == ("__class__" : Str)) = false)
    (h : ∀ h', h'.get? s.heap.objs.size = some (PySem.W.ks_superObj D x C) → (∀ b o, s.heap.get? b = some o → h'.get? b = some o) → Q (.ref s.heap.objs.size) { s with heap := h' }) :
    _root_.PySem.wpAt (model X.prog X.w) X.A (.func body X.env) (attributeBase (.Call (.Name "super" p0) [] [] p1) attr X.env whole) Q X.xe s := by
  subst hP hK
  obtain ⟨oc, od, doc, pm, ctv, osl, cc, cl, cld, csl, ccl, cdd, vs', ccs, file, tf, cd, rfl, lk, hcl, hcd, lc, lco, hvs, hfile, hD⟩ := Fs.ex
  have KX := I.kIn
  obtain ⟨oD, hD1, hD2⟩ : ∃ oD, s.heap.get? D = some oD ∧ oD.data = .cls cd := by
    unfold PySem.W.clsIn at hD
    split at hD
    · rename_i c d cd' sl ho
      cases hD
      exact ⟨_, KX _ _ ho, rfl⟩
    · cases hD
  have e1 : X.env.kindOf "super" = some .globalImplicit := by rw [he]; exact hks
  have e2 : X.env.kindOf "__class__" = some .free := by rw [he]; exact hkc
  have ek : X.env.scope.kind = .function := by rw [he]; exact hk
  refine ks_wpAt_super_base e1 e2 hat (by rw [he]) (KX _ _ lk) rfl hp (by rw [he]) (KX _ _ lco) rfl hvs hfile Fs.top ?_
  obtain ⟨mb, b1, b2⟩ := I.mod.blt
  refine PySem.W.ks_loadName_global ek e1 (Calls.loadGlobal_builtin (by rw [I.ok.glob]; exact I.mod.glob.keeps I.bk) (PySem.W.mg_none_of I.mod.kin I.mod.glob Fs.sup) (by rw [I.ok.blt]; exact b1.keeps I.bk) ((b2 "super" (by decide)).trans (by decide +kernel)) ⟨rfl, ?_⟩)
  refine wpAny_loadName_free ek e2 (c := cc) (by rw [he]; show F.cl.lookup _ = _; rw [hcl]; unfold cCell; simp [List.lookup]) ⟨_, KX _ _ lc, rfl⟩ ?_
  obtain ⟨m, hn, hl⟩ := I.loc
  obtain ⟨u, ru, look⟩ := hl 0 ar.arg (.ref x) hs0 hσ (by rw [he]; exact .inl ha)
  obtain rfl : u = Value.ref x := ru
  have hloc : X.env.kindOf ar.arg = some .local := by rw [he]; exact ha
  rcases look with ⟨_, hm⟩ | ⟨hx, _⟩
  · refine wpAny_loadName_local ek hloc hn hm ?_
    obtain ⟨hh, g, d, t, os⟩ := s
    refine ks_wpAny_isType_cls hD1 hD2 ⟨rfl, ?_⟩
    refine ks_wpAny_call_super hD1 hD2 J.at_ J.cls (fun c e => ?_) (PySem.W.looks_mroIn KX hsub) (fun h' e k => h h' e k)
    have := J.no
    unfold PySem.W.notCls at this
    rw [e] at this
    exact Bool.noConfusion this
  · rcases hx with hx | hx <;> (rw [hloc] at hx; cases hx)
end
end PD
set_option maxRecDepth 100000
/-! PD15: super().__init__(e, ..) of an ordinary class. -/
namespace PD
open PySem PySem.Spec PyProof.Rows L2
open NdefX (NF NScope ncx startF envF)
/-- what super().nm of an instance of C within the class at D finds: the def at f -/
structure SupM (K : PySem.W.Frag) (C D : Addr) (nm : Str) (f : Addr) : Prop where
  at_ : PySem.W.ks_superIn K C D nm = some (some (.ref f))
  ty : PySem.W.typeIn K (.ref f) = some (.type "function")
  fi : PySem.W.fnIn K f = true
  st : PySem.W.nsIn K cStatics "thirdparty.any" = some none
  sub : PySem.W.mroIn K C (.ref D) = some true
/-- the words of the def around -/
structure SupW (X : Cx) (F : NF) (f0 : Addr) (L : Addr) (ar : Arg) : Prop where
  env : X.env = envF F f0 L
  hp : (F.params.posonlyargs ++ F.params.args).head? = some ar
  ha : F.scope.names.lookup ar.arg = some .local
  h0 : X.N[0]? = some ar.arg
  ks : F.scope.names.lookup ("super" : Str) = some .globalImplicit
  kc : F.scope.names.lookup ("__class__" : Str) = some .free
  k : F.scope.kind = .function
section
variable {X : Cx} {k : Nat} {D f0 f C L : Addr} {F : NF} {fd0 fd : FuncData} {ar : Arg} {body : List Stmt} {p0 p1 p2 pos pos' : Pos} {e : Expr} {es : List Expr} {ps : List Str} {sp : Sp} {tA : TA} {nm : Str} {pl : Sem Bool}
theorem psa_super (Fs : FunS X.prog X.K D f0 F fd0) (Sw : SupW X F f0 L ar) (Sm : SupM X.K C D nm f) (Fn : FnOk X.prog X.w X.K X.mg X.base (L2.CX X.prog X.w) k f fd ps sp) (hr : Room k X.A) (hb : Binds X.K fd ps []) (ha : PA X (e :: es) tA)
    (hn : (nm == ("__class__" : Str)) = false) (hs : swapsWith (.Call (.Attribute (.Call (.Name "super" p0) [] [] p1) nm p2) (e :: es) [] pos) none pos'.line X.env = pure false)
    (hst : starEach (e :: es) X.env = (false, eval e X.env) :: starEach es X.env) (hpl : (backTo pos (starEach es X.env)).any (·.1) = false)
    (he : eval (.Call (.Attribute (.Call (.Name "super" p0) [] [] p1) nm p2) (e :: es) [] pos) X.env = (do
      let ov ← attributeBase (.Call (.Name "super" p0) [] [] p1) nm X.env (eval (.Call (.Name "super" p0) [] [] p1) X.env)
      standAt p2.atName
      let (f, first) ← holding [ov] (getMethod ov nm pl)
      callWith pos f first (backTo pos (starEach (e :: es) X.env)) [])) (hi : interactive X.env = false) :
    ∀ (De : Ends) (σ : L2.St) (H : Hp), (∃ (x dx : Addr) (fs : List (Str × V)), σ[0]? = some (some (.ref x)) ∧ H x = some (.ins C dx fs) ∧ tA σ H fun vs H1 => sp (.ref x :: vs) H1 (fun _ H2 => De.nx σ H2) E0) →
      tStA X body (.Expr (.Call (.Attribute (.Call (.Name "super" p0) [] [] p1) nm p2) (e :: es) [] pos) pos') De σ H := by
  intro De σ H ⟨x, dx, fs, hσ, hH, h⟩ pins s I
  refine ks_wpAt_Expr_any (prog := X.prog) (w := X.w) ?_ hi hs
  refine ks_wpAt_MethodCall (pl := pl) ?_ he
  obtain ⟨mA, O, r, _, _, _⟩ := ins_get I.hok hH
  obtain ⟨od, J, _⟩ := O.look
  refine super_base rfl rfl Sw.env Fs I Sw.hp Sw.ha Sw.h0 hσ Sw.ks Sw.kc Sw.k J Sm.sub hn fun h' e1 k1 => ?_
  have I1 : Inv X pins σ H { s with heap := h', toks := s.toks } := I.kept k1
  have KX := I1.kIn
  have so := e1
  obtain ⟨hh, g, d, t, os⟩ := s
  obtain ⟨cdC, hcC, hal⟩ : ∃ cdC, PySem.W.clsIn X.K C = some cdC ∧ PySem.W.alongIn X.K nm ((cdC.mro.dropWhile (· != .ref D)).drop 1) = some (some (.ref f)) := by
    have z := Sm.at_
    unfold PySem.W.ks_superIn at z
    cases hc : PySem.W.clsIn X.K C with
    | none => rw [hc] at z; cases z
    | some cd => rw [hc] at z; exact ⟨cd, rfl, z⟩
  obtain ⟨of, hof, hofc⟩ : ∃ of, h'.get? f = some of ∧ of.cls = .type "function" := by
    have ht' : (X.K.lookup f).map (·.cls) = some (.type "function") := Sm.ty
    cases z : X.K.lookup f with
    | none => rw [z] at ht'; cases ht'
    | some of => rw [z] at ht'; exact ⟨of, KX _ _ z, Option.some.inj ht'⟩
  have J1 : PySem.W.InstAt h' x (PySem.W.instObj C dx) C (some od) := ⟨k1 _ _ J.at_, J.cls, J.no, k1 _ _ J.dict⟩
  refine ks_wpAny_getMethod_super so (PySem.W.looks_opaque KX Sm.st) (l₀ := cdC.mro) (fun A Q E s kk q => wpAny_bind ((PySem.W.looks_clsIn KX hcC) A _ E s kk (wpAny_pure q))) rfl KX hal hof hofc (PySem.W.ks_ne KX J1 hcC) hn ?_
  have I2 : Inv X ((h'.objs.size, PySem.W.methodObj (.ref f) (.ref x)) :: pins) σ H ⟨h'.push (PySem.W.methodObj (.ref f) (.ref x)), g, d, t + 1, os⟩ :=
    ClX.pin_new (s := ⟨h', g, d, t, os⟩) I1 (fun b u q => Heap.get?_push_of_some _ q) (Nat.le_refl _) (Heap.get?_push_at rfl rfl) (fun v z => by cases z)
  refine ClX.callwith_cm I2 (ClX.base_none I1 (Nat.le_refl _)) Sm.fi (thn (ha.run pos _ _ σ H _ I2 h) fun us s3 ⟨vs, H2, I3, rv, q2⟩ => ⟨⟨ClX.pin_at I3, I3.kIn⟩, ?_⟩) hst hpl
  have z2 : wpAny (model X.prog X.w) X.A (call (.ref h'.objs.size) us) (EP X pins σ fun _ H2 => De.nx σ H2) X.xe s3 := ClX.run_cm (E := E0) (Fn.raw hb .nil) hr passL I3 rv (by show sp (_ ++ []) _ _ _; rw [List.append_nil]; exact q2)
  exact thn z2 fun v s4 y => by
    obtain ⟨v', H4, I4, _, q4⟩ := y
    exact ⟨σ, H4, I4, q4⟩
end
end PD
set_option maxRecDepth 100000
/-! PD16: defs that say super(), over data; an exception's super().__init__(text). -/
namespace PD
open PySem PySem.Spec PyProof.Rows L2
open NdefX (NF NScope ncx startF envF)
/-! ### a body keeps spO -/
theorem body_O {T : Tab} {N : List Str} {m n : Nat} {b : MS} {ts : TS} {vs : List V} {H : Hp} {Q : VK} {E : XK} (hn : N.length = n) (hmn : m ≤ n) (h : RdS T (fun cls d _ H => E cls d H) ts b) (q : spO T m (runO n m b) vs H Q E) :
    ts { nx := fun _ H' => Q .non H', rt := Q } (L2.start N vs) H := by
  obtain ⟨Hc, a, us, o, ds, rfl, l, e, ca, ob, r, q⟩ := q
  have ld : ds.length + 1 = m := by rw [← r.length, ← l, List.length_cons]
  have hS : StC T ⟨fun b => if Hc b = none ∧ b ≠ a then H b else none, some a⟩ Hc (start N (.ref a :: us)) H (Slot.own o :: ds.map Slot.val ++ List.replicate (n - m) Slot.un) := by
    refine ⟨fun b u hb => ?_, e, fun b u hb _ => ?_, ?_, fun i => ?_, fun i j c h1 h2 h3 h4 => ?_, fun c hc => ?_⟩
    · by_cases z : Hc b = none ∧ b ≠ a
      · simp only [if_pos z] at hb; exact hb
      · simp only [if_neg z] at hb; cases hb
    · by_cases z : Hc b = none ∧ b ≠ a
      · exact z.1
      · simp only [if_neg z] at hb; cases hb
    · unfold L2.start
      rw [List.length_append, List.length_append, List.length_map, List.length_cons, List.length_cons, List.length_map, List.length_replicate, List.length_replicate, r.length, hn]
      omega
    · unfold L2.start
      cases i with
      | zero => exact ⟨a, rfl, by simp, ca, ob⟩
      | succ i =>
        have e1 : N.length - (V.ref a :: us).length = n - m := by rw [List.length_cons, r.length, hn, ld]
        rw [e1]
        exact Rps.start r i
    · have z : ∀ t : Nat, isOwn (Slot.own o :: ds.map Slot.val ++ List.replicate (n - m) Slot.un)[t]? = true → t = 0 := fun t ht => by
        cases t with
        | zero => rfl
        | succ t => exact (stD_noown (i := t) ht).elim
      rw [z i h3, z j h4]
    · cases hc
      rfl
  refine h _ Hc _ H _ _ hS ?_
  have aft : ∀ {σ' : L2.St} {ρ' : DEnv} {Hc' H' : Hp}, Same Hc Hc' → StC T ⟨fun b => if Hc b = none ∧ b ≠ a then H b else none, some a⟩ Hc' σ' H' ρ' → ∀ o', ρ'[0]? = some (.own o') → AftO a Hc H Hc' H' ∧ Ob T Hc' (H' a) o' := fun {σ' ρ' Hc' H'} e' S' o' h0 => by
    obtain ⟨a', g1, g2, g3, g4⟩ := S'.ownv h0
    rw [S'.pn a rfl] at g1
    cases g1
    refine ⟨⟨e', S'.hc, fun b u nb hb => ?_, fun b u hb hu hc => ?_⟩, g4⟩
    · by_cases c : Hc b = none
      · exact S'.fr b u (by simp only [if_pos (show Hc b = none ∧ b ≠ a from ⟨c, nb⟩)]; exact hb)
      · cases g : Hc b with
        | none => exact absurd g c
        | some u' =>
          have z := e b u' g
          rw [hb] at z
          cases z
          exact S'.hc b u (e' b u g)
    · by_cases nb : b = a
      · rw [nb]; exact g3
      · exact S'.dj b u (by simp only [if_pos (show Hc b = none ∧ b ≠ a from ⟨hc, nb⟩)]; exact hb) hu
  unfold runO at q
  rw [if_pos ld] at q
  cases g : b (Slot.own o :: ds.map Slot.val ++ List.replicate (n - m) Slot.un) with
  | nx ρ' =>
    rw [g] at q
    intro σ' Hc' H' e' S'
    dsimp only at q
    split at q
    · rename_i d' o'' eq
      split at eq
      · rename_i o' h0
        cases eq
        obtain ⟨A1, ob1⟩ := aft e' S' _ h0
        exact q .non Hc' H' A1 ob1 .non
      · cases eq
    · exact q.elim
  | rt d ρ' =>
    rw [g] at q
    intro v σ' Hc' H' e' S' rv
    dsimp only at q
    split at q
    · rename_i d' o'' eq
      split at eq
      · rename_i o' h0
        cases eq
        obtain ⟨A1, ob1⟩ := aft e' S' _ h0
        exact q v Hc' H' A1 ob1 rv
      · cases eq
    · exact q.elim
  | exc z ρ' => rw [g] at q; exact q.elim
  | bk ρ' => rw [g] at q; exact q.elim
  | ct ρ' => rw [g] at q; exact q.elim
  | stuck => rw [g] at q; exact q.elim
theorem startF_start {N : List Str} {vs : List V} (h : vs.length < N.length) : startF N vs [none] = L2.start N vs := by
  unfold startF L2.start
  have e : ∃ k, N.length - vs.length = k + 1 := ⟨N.length - vs.length - 1, by omega⟩
  obtain ⟨k, e⟩ := e
  rw [e, List.replicate_succ, List.length_singleton, Nat.add_sub_cancel] <;> rfl
/-- class x, its __init__ a def at f that says super() -/
structure DiS (P : Program) (K : PySem.W.Frag) (mg : Str → Option Value) (x : Str) (C : Addr) (nm qual : Str) (st : Stmt) : Prop where
  ex : ∃ (f : Addr) (F : NF) (fd : FuncData), FunS P K C f F fd ∧ F.name = nm ∧ F.qual = qual ∧ F.params = defArgs st ∧ F.body = defBody st ∧ F.scope = defScope st ∧ Mk K C f ∧ mg x = some (.ref C)
def BindsS (nm qual : Str) (st : Stmt) (ps : List Str) : Prop := ∀ (cl : List (Str × Addr)) (c : Addr) (doc pm ctv : Value) (us : List Value), us.length = ps.length → bindArgs (NF.fd ⟨nm, qual, defArgs st, defBody st, defScope st, cl, c⟩ doc pm ctv) ⟨us, []⟩ = pure (ps.zip us)
section
variable {P : Program} {w : World} {K : PySem.W.Frag} {mg : Str → Option Value} {base : Heap} {k n m : Nat} {x nm qual : Str} {C : Addr} {ps N : List Str} {st : Stmt} {T : Tab} {b : MS}
theorem binds_S {F : NF} {fd : FuncData} {D f : Addr} (Fs : FunS P K D f F fd) (hb : ∀ (doc pm ctv : Value) (us : List Value), us.length = ps.length → bindArgs (F.fd doc pm ctv) ⟨us, []⟩ = pure (ps.zip us)) : Binds K fd ps [] := by
  obtain ⟨oc, od, doc, pm, ctv, osl, cc, cl, cld, csl, ccl, cdd, vs', ccs, file, tf, cd, rfl, _⟩ := Fs.ex
  exact .all (hb doc pm ctv)
abbrev NFo (nm qual : Str) (st : Stmt) (cl : List (Str × Addr)) (c : Addr) : NF := ⟨nm, qual, defArgs st, defBody st, defScope st, cl, c⟩
theorem nf_of {F : NF} (e1 : F.name = nm) (e2 : F.qual = qual) (e3 : F.params = defArgs st) (e4 : F.body = defBody st) (e5 : F.scope = defScope st) : F = NFo nm qual st F.cl F.c := by
  obtain ⟨f1, f2, f3, f4, f5, f6, f7⟩ := F
  simp only at e1 e2 e3 e4 e5
  rw [e1, e2, e3, e4, e5]
theorem fi_S (d : DiS P K mg x C nm qual st) (S : NScope N ps ["__class__"] (defScope st)) (hb : BindsS nm qual st ps) (hm : m = ps.length) (hn : N.length = n) (hmn : m < n)
    (h : ∀ (cl : List (Str × Addr)) (c f : Addr) (fd : FuncData) (A : Around) (outer : List Env) (s : Shared) (H : Hp) (E : XK), FunS P K C f (NFo nm qual st cl c) fd → Room k (A.deeper (envF (NFo nm qual st cl c) f s.heap.objs.size)) →
      SimBA T (fun cls d _ H => E cls d H) (ncx (L2.CX P w) P w K mg base N (NFo nm qual st cl c) f A outer s H E) (defBody st) (defBody st) b) : Fi P w K mg base (k + 1) x C ps (spO T m (runO n m b)) := by
  obtain ⟨f, F, fd, Fs, e1, e2, e3, e4, e5, hM, hg⟩ := d.ex
  rw [nf_of e1 e2 e3 e4 e5] at Fs
  refine ⟨f, fd, fn_super Fs S (fun vs H Q E q => ?_) (fun A outer s H vs Q E hr q => ?_), hM, hg, binds_S Fs fun doc pm ctv us hl => hb F.cl F.c doc pm ctv us hl⟩
  · obtain ⟨Hc, a, us, o, ds, _, l, _⟩ := q
    rw [l, hm]
  · have lv : vs.length < N.length := by
      obtain ⟨Hc, a, us, o, ds, _, l, _⟩ := q
      omega
    rw [startF_start lv]
    exact body_O hn (Nat.le_of_lt hmn) (h F.cl F.c f fd A outer s H E Fs hr) q
end
/-! ### super().__init__(e, ..) over data -/
def sSupO (c : Nat) (G : D → List D → RO) (a : M (List D)) : MS := fun ρ => match ρ[0]? with
  | some (Slot.own (D.ins c' _)) => if c' = c then (RS.ofT (eFnO 0 G a ρ) fun _ ρ1 => .nx ρ1) else .stuck
  | _ => .stuck
section
/-- the def that super().nm finds -/
structure Fs' (P : Program) (w : World) (K : PySem.W.Frag) (mg : Str → Option Value) (base : Heap) (k : Nat) (C D : Addr) (nm : Str) (ps : List Str) (sp : Sp) : Prop where
  ex : ∃ f fd, FnOk P w K mg base (L2.CX P w) k f fd ps sp ∧ SupM K C D nm f ∧ Binds K fd ps []
end
section
variable {T : Tab} {W : WX} {X : Cx} {k m c : Nat} {C0 f0 L : Addr} {F : NF} {fd0 : FuncData} {ar : Arg} {body : List Stmt} {p0 p1 p2 pos pos' : Pos} {e : Expr} {es : List Expr} {ps : List Str} {fA : M (List D)} {nm : Str} {pl : Sem Bool} {G : D → List D → RO}
theorem sa_super (Fs : FunS X.prog X.K C0 f0 F fd0) (Sw : SupW X F f0 L ar) (Fn : Fs' X.prog X.w X.K X.mg X.base k (T.cls c) C0 nm ps (spO T m G)) (hG : ∀ o ds, ds.length + 1 ≠ m → G o ds = .stuck) (hr : Room k X.A) (ha : SimA T W X (e :: es) fA)
    (hn : (nm == ("__class__" : Str)) = false) (hs : swapsWith (.Call (.Attribute (.Call (.Name "super" p0) [] [] p1) nm p2) (e :: es) [] pos) none pos'.line X.env = pure false)
    (hst : starEach (e :: es) X.env = (false, eval e X.env) :: starEach es X.env) (hpl : (backTo pos (starEach es X.env)).any (·.1) = false)
    (he : eval (.Call (.Attribute (.Call (.Name "super" p0) [] [] p1) nm p2) (e :: es) [] pos) X.env = (do
      let ov ← attributeBase (.Call (.Name "super" p0) [] [] p1) nm X.env (eval (.Call (.Name "super" p0) [] [] p1) X.env)
      standAt p2.atName
      let (f, first) ← holding [ov] (getMethod ov nm pl)
      callWith pos f first (backTo pos (starEach (e :: es) X.env)) [])) (hi : interactive X.env = false) :
    SimSA T W X body (.Expr (.Call (.Attribute (.Call (.Name "super" p0) [] [] p1) nm p2) (e :: es) [] pos) pos') (sSupO c G fA) := fun Fr Hc σ H ρ De S P => by
  obtain ⟨f, fd, F1, Sm, hb⟩ := Fn.ex
  unfold sSupO at P
  split at P
  · rename_i c' fs h0
    split at P
    · rename_i ec
      subst ec
      refine psa_super Fs Sw Sm F1 hr hb pa_tA hn hs hst hpl he hi De σ H ?_
      obtain ⟨a, h1, h2, h3, dx, vs, hH, rf⟩ := S.ownv h0
      refine ⟨a, dx, vs, h1, hH, ?_⟩
      have P' := PostS.ofT (σ := σ) P
      unfold eFnO at P'
      rw [h0] at P'
      dsimp only at P'
      refine ha.use S P'.bind fun ds ρ1 us Hc1 H1 e1 S1 P1 r => ?_
      split at P1
      · rename_i od ho
        obtain ⟨b, g1, g2, g3, g4⟩ := S1.ownv ho
        rw [h1] at g1
        cases g1
        by_cases l : ds.length + 1 = m
        · refine ⟨Hc1, a, us, od, ds, rfl, by rw [List.length_cons, r.length]; exact l, S1.hc, g3, g4, r, ?_⟩
          cases g : G od ds with
          | ok d o' =>
            rw [g] at P1
            exact fun v Hc' H' A ob rv => P1 Hc' H' A.c (S1.afterO ho h1 A ob) σ Hc' H' (Same.refl _) (S1.afterO ho h1 A ob)
          | stuck => rw [g] at P1; exact P1
        · rw [hG od ds l] at P1
          exact P1.elim
      · exact P1.elim
    · exact P.elim
  · exact P.elim
end
/-! ### an exception's super().__init__(text) -/
section
variable {X : Cx} {C0 f0 C L : Addr} {F : NF} {fd0 : FuncData} {ar : Arg} {body : List Stmt} {p0 p1 p2 pos pos' : Pos} {e : Expr} {es : List Expr} {tA : TA} {pl : Sem Bool}
/-- what the text must say of the exception's class for it -/
structure SupE (K : PySem.W.Frag) (C D : Addr) : Prop where
  oex : OexC K C
  at_ : PySem.W.ks_superIn K C D "__init__" = some (some (.builtin "ValueError.__init__"))
  subB : PySem.W.subIn K (.ref C) (.type "ValueError") = some true
  st : PySem.W.nsIn K cStatics "thirdparty.any" = some none
  sub : PySem.W.mroIn K C (.ref D) = some true
set_option maxHeartbeats 4000000 in
theorem psa_excsuper (Fs : FunS X.prog X.K C0 f0 F fd0) (Sw : SupW X F f0 L ar) (Sm : SupE X.K C C0) (ha : PA X (e :: es) tA)
    (hs : swapsWith (.Call (.Attribute (.Call (.Name "super" p0) [] [] p1) "__init__" p2) (e :: es) [] pos) none pos'.line X.env = pure false)
    (hst : starEach (e :: es) X.env = (false, eval e X.env) :: starEach es X.env) (hpl : (backTo pos (starEach es X.env)).any (·.1) = false)
    (he : eval (.Call (.Attribute (.Call (.Name "super" p0) [] [] p1) "__init__" p2) (e :: es) [] pos) X.env = (do
      let ov ← attributeBase (.Call (.Name "super" p0) [] [] p1) "__init__" X.env (eval (.Call (.Name "super" p0) [] [] p1) X.env)
      standAt p2.atName
      let (f, first) ← holding [ov] (getMethod ov "__init__" pl)
      callWith pos f first (backTo pos (starEach (e :: es) X.env)) [])) (hi : interactive X.env = false) :
    ∀ (De : Ends) (σ : L2.St) (H : Hp), (∃ (x : Addr), σ[0]? = some (some (.ref x)) ∧ H x = some (exo x C none) ∧ tA σ H fun vs H1 => H1 = H ∧ vs.length ≤ 1000 ∧ De.nx σ H) →
      tStA X body (.Expr (.Call (.Attribute (.Call (.Name "super" p0) [] [] p1) "__init__" p2) (e :: es) [] pos) pos') De σ H := by
  intro De σ H ⟨x, hσ, hH, h⟩ pins s I
  refine ks_wpAt_Expr_any (prog := X.prog) (w := X.w) ?_ hi hs
  refine ks_wpAt_MethodCall (pl := pl) ?_ he
  obtain ⟨t1, ho⟩ := exo_at I.hok hH
  have J : PySem.W.InstAt s.heap x ({ cls := .ref C, dict := none, data := .fields #[.ref t1, .none, .none, .none, .bool false, .none] } : Obj) C none := ⟨ho, rfl, rfl, trivial⟩
  refine super_base rfl rfl Sw.env Fs I Sw.hp Sw.ha Sw.h0 hσ Sw.ks Sw.kc Sw.k J Sm.sub (by decide) fun h' e1 k1 => ?_
  have I1 : Inv X pins σ H { s with heap := h', toks := s.toks } := I.kept k1
  have KX := I1.kIn
  have so := e1
  obtain ⟨hh, g, d, t, os⟩ := s
  obtain ⟨cdC, hcC, hal⟩ : ∃ cdC, PySem.W.clsIn X.K C = some cdC ∧ PySem.W.alongIn X.K "__init__" ((cdC.mro.dropWhile (· != .ref C0)).drop 1) = some (some (.builtin "ValueError.__init__")) := by
    have z := Sm.at_
    unfold PySem.W.ks_superIn at z
    cases hc : PySem.W.clsIn X.K C with
    | none => rw [hc] at z; cases z
    | some cd => rw [hc] at z; exact ⟨cd, rfl, z⟩
  have J1 : PySem.W.InstAt h' x ({ cls := .ref C, dict := none, data := .fields #[.ref t1, .none, .none, .none, .bool false, .none] } : Obj) C none := ⟨k1 _ _ J.at_, rfl, rfl, trivial⟩
  have hI : PySem.W.Looks (model X.prog X.w) h' (isInstance (.ref x) (.type "ValueError")) true := J1.type.andThen (PySem.W.looks_subIn KX Sm.subB)
  refine PySem.W.kxs_getMethod PySem.W.kxs_ValueError so (PySem.W.looks_opaque KX Sm.st) (l₀ := cdC.mro) (fun A Q E s kk q => wpAny_bind ((PySem.W.looks_clsIn KX hcC) A _ E s kk (wpAny_pure q))) rfl KX hal hI (PySem.W.ks_ne KX J1 hcC) (by decide) ?_
  have I2 : Inv X ((h'.objs.size, PySem.W.kxs_mw "ValueError.__init__" x) :: pins) σ H ⟨h'.push (PySem.W.kxs_mw "ValueError.__init__" x), g, d, t + 1, os⟩ :=
    ClX.pin_new (s := ⟨h', g, d, t, os⟩) I1 (fun b u q => Heap.get?_push_of_some _ q) (Nat.le_refl _) (Heap.get?_push_at rfl rfl) (fun v z => by cases z)
  rw [hst]
  refine PySem.W.kxs_callWith (i := "ValueError.__init__") (x := x) (by show (false || (backTo pos (starEach es X.env)).any (·.1)) = false; rw [hpl] <;> rfl) (Calls.evalArgs_plain ?_)
  have hA := ha.run pos _ _ σ H _ I2 h
  rw [hst] at hA
  refine thn hA fun us s3 ⟨vs, H2, I3, rv, eH, hl, q2⟩ => ⟨ClX.pin_at I3, ?_⟩
  subst eH
  have hu := ClX.pin_at I3
  obtain ⟨nm, q, N, bs, bm, sn, sub, ab, col, dd, k0, k1', k2, k3, k5, hC, hbm⟩ := Sm.oex.cls
  obtain ⟨t2, ho3⟩ := exo_at I3.hok hH
  have hC3 := I3.kIn _ _ hC
  have hlen : us.length ≤ sizeLine := by
    rw [← rv.length, sizeLine_eq]
    omega
  obtain ⟨h3, g3, d3, tk3, os3⟩ := s3
  show wpAny _ _ (call (.ref h'.objs.size) us) _ _ _
  refine wpAny_call (codeAny_of_tree ?_)
  show wpAny _ X.A.in1 (callAny (.ref h'.objs.size) ⟨us, []⟩) _ _ _
  simp only [callAny]
  refine wpAny_bind (wpAny_load hu ?_)
  simp only [PySem.W.kxs_mw, show (Value.type "method-wrapper" == Value.type "method" || Value.type "method-wrapper" == Value.type "builtin_function_or_method" || Value.type "method-wrapper" == Value.type "method-wrapper") = true by decide, if_true]
  refine PySem.W.KFB.if_so (by decide) ?_
  refine wpAny_bind (PySem.W.check_bound_init PySem.F.excBase_ValueError.toExcCallFacts hC3 ho3 rfl ?_)
  refine wpAny_bind (wpAny_pure (wpAny_pure ?_))
  refine ⟨plainId_quiet PySem.F.excBase_ValueError.init.plain _, codeAny_builtin PySem.F.excBase_ValueError.initEntry ?_⟩
  refine PySem.W.exc_init_tree (cls := .ref C) (t0 := t2) (dv := none) (c2 := .none) (c3 := .none) (b4 := .bool false) ho3 hlen fun h4 kk hx hz => ?_
  have I4 := (ClX.unpin I3).write (t' := tk3) (x := x) (e := x) (o := exo x C none) (by rw [hH]; exact True.intro) (.inl rfl) kk ⟨_, hx⟩ (exo_ok hx)
  have eu : upd H2 x (exo x C none) = H2 := by
    funext b
    by_cases hb : b = x
    · rw [hb, upd_same, hH]
    · rw [upd_ne hb]
  rw [eu] at I4
  exact ⟨σ, H2, I4, q2⟩
end
end PD
set_option maxRecDepth 100000
/-! PD17: own exceptions, made and raised. -/
namespace PD
open PySem PySem.Spec PyProof.Rows L2
open NdefX (NF NScope ncx startF envF)
/-! ### their __init__ -/
/-- self and nothing more; a field more -/
def spX0 (C : Addr) : Sp := fun vs H Q _ => ∃ a, vs = [.ref a] ∧ H a = some (exo a C none) ∧ Q .non H
def spX1 (C : Addr) (f : Str) : Sp := fun vs H Q _ => ∃ a v, vs = [.ref a, v] ∧ H a = some (exo a C none) ∧ ∀ dx, H dx = none → dx ≠ a → Q .non (upd (upd H dx (exd dx [(f, v)])) a (exo a C (some dx)))
/-- class x, an exception over ValueError, its __init__ a def that says super() -/
structure DiE (P : Program) (K : PySem.W.Frag) (mg : Str → Option Value) (x : Str) (C : Addr) (qual : Str) (st : Stmt) : Prop where
  ex : ∃ (f : Addr) (F : NF) (fd : FuncData), FunS P K C f F fd ∧ F.name = "__init__" ∧ F.qual = qual ∧ F.params = defArgs st ∧ F.body = defBody st ∧ F.scope = defScope st ∧ SupE K C C ∧
    PySem.W.findIn K (.ref C) "__init__" = some (some (.ref f)) ∧ PySem.W.typeIn K (.ref f) = some (.type "function") ∧ mg x = some (.ref C)
/-- class x can be raised -/
structure Ex (P : Program) (w : World) (K : PySem.W.Frag) (mg : Str → Option Value) (base : Heap) (k : Nat) (x : Str) (C : Addr) (ps : List Str) (sp : Sp) : Prop where
  ex : ∃ f fd, FnOk P w K mg base (L2.CX P w) k f fd ps sp ∧ OexC K C ∧ PySem.W.findIn K (.ref C) "__init__" = some (some (.ref f)) ∧ PySem.W.typeIn K (.ref f) = some (.type "function") ∧ Binds K fd ps [] ∧ mg x = some (.ref C)
theorem Ex.up {P : Program} {w : World} {K : PySem.W.Frag} {mg : Str → Option Value} {base : Heap} {j k : Nat} {x : Str} {C : Addr} {ps : List Str} {sp : Sp} (h : Ex P w K mg base j x C ps sp) (l : j ≤ k) : Ex P w K mg base k x C ps sp := by
  obtain ⟨f, fd, a, b⟩ := h.ex
  exact ⟨f, fd, a.mono l, b⟩
section
variable {P : Program} {w : World} {K : PySem.W.Frag} {mg : Str → Option Value} {base : Heap} {k : Nat} {x qual y0 y1 fl : Str} {C : Addr} {N : List Str} {st : Stmt}
theorem ex_of {ps : List Str} {sp : Sp} (d : DiE P K mg x C qual st) (hb : BindsS "__init__" qual st ps)
    (h : ∀ (cl : List (Str × Addr)) (c f : Addr) (fd : FuncData), FunS P K C f (NFo "__init__" qual st cl c) fd → SupE K C C → FnOk P w K mg base (L2.CX P w) k f fd ps sp) : Ex P w K mg base k x C ps sp := by
  obtain ⟨f, F, fd, Fs, e1, e2, e3, e4, e5, sE, i1, i2, hg⟩ := d.ex
  rw [nf_of e1 e2 e3 e4 e5] at Fs
  exact ⟨f, fd, h F.cl F.c f fd Fs sE, sE.oex, i1, i2, binds_S Fs fun doc pm ctv us hl => hb F.cl F.c doc pm ctv us hl, hg⟩
/-- __init__(self): super().__init__(text) -/
theorem ex_0 {s1 : Stmt} (d : DiE P K mg x C qual st) (hb : BindsS "__init__" qual st [y0]) (S : NScope N [y0] ["__class__"] (defScope st)) (hbd : defBody st = [s1])
    (h1 : ∀ (cl : List (Str × Addr)) (c f : Addr) (fd : FuncData) (A : Around) (outer : List Env) (s : Shared) (H : Hp) (E : XK) (De : Ends) (σ : L2.St) (H1 : Hp), FunS P K C f (NFo "__init__" qual st cl c) fd → SupE K C C →
      (∃ a, σ[0]? = some (some (.ref a)) ∧ H1 a = some (exo a C none) ∧ De.nx σ H1) → tStA (ncx (L2.CX P w) P w K mg base N (NFo "__init__" qual st cl c) f A outer s H E) (defBody st) s1 De σ H1) : Ex P w K mg base (k + 1) x C [y0] (spX0 C) := by
  refine ex_of d hb fun cl c f fd Fs sE => fn_super Fs S (fun vs H Q E q => ?_) fun A outer s H vs Q E hr q => ?_
  · obtain ⟨a, rfl, _⟩ := q; rfl
  · obtain ⟨a, rfl, ha, q⟩ := q
    have z := seqA (X := ncx (L2.CX P w) P w K mg base N (NFo "__init__" qual st cl c) f A outer s H E) (body := defBody st) (sts := []) (st := s1) (fun _ _ _ q => q) { nx := fun _ H' => Q .non H', rt := Q } (startF N [.ref a] [none]) H
    rw [← hbd] at z
    exact z (h1 cl c f fd A outer s H E _ _ H Fs sE ⟨a, rfl, ha, fun pins s I => wpAt_of_wpAny ((pss_nil).run pins s _ _ _ I q)⟩)
/-- __init__(self, y): super().__init__(text); self.f = y -/
theorem ex_1 {s1 s2 : Stmt} (d : DiE P K mg x C qual st) (hb : BindsS "__init__" qual st [y0, y1]) (S : NScope N [y0, y1] ["__class__"] (defScope st)) (hbd : defBody st = [s1, s2]) (hno : PySem.W.findIn K (.ref C) fl = some none)
    (h1 : ∀ (cl : List (Str × Addr)) (c f : Addr) (fd : FuncData) (A : Around) (outer : List Env) (s : Shared) (H : Hp) (E : XK) (De : Ends) (σ : L2.St) (H1 : Hp), FunS P K C f (NFo "__init__" qual st cl c) fd → SupE K C C →
      (∃ a, σ[0]? = some (some (.ref a)) ∧ H1 a = some (exo a C none) ∧ De.nx σ H1) → tStA (ncx (L2.CX P w) P w K mg base N (NFo "__init__" qual st cl c) f A outer s H E) (defBody st) s1 De σ H1)
    (h2 : ∀ (cl : List (Str × Addr)) (c f : Addr) (A : Around) (outer : List Env) (s : Shared) (H : Hp) (E : XK), PS (ncx (L2.CX P w) P w K mg base N (NFo "__init__" qual st cl c) f A outer s H E) s2 (tOst K fl (tVar 0) (tVar 1))) : Ex P w K mg base (k + 1) x C [y0, y1] (spX1 C fl) := by
  refine ex_of d hb fun cl c f fd Fs sE => fn_super Fs S (fun vs H Q E q => ?_) fun A outer s H vs Q E hr q => ?_
  · obtain ⟨a, v, rfl, _⟩ := q; rfl
  · obtain ⟨a, v, rfl, ha, q⟩ := q
    have z := seqA (X := ncx (L2.CX P w) P w K mg base N (NFo "__init__" qual st cl c) f A outer s H E) (body := defBody st) (sts := [s2]) (st := s1) (fun _ _ _ q => q) { nx := fun _ H' => Q .non H', rt := Q } (startF N [.ref a, v] [none]) H
    rw [← hbd] at z
    refine z (h1 cl c f fd A outer s H E _ _ H Fs sE ⟨a, rfl, ha, fun pins s' I => wpAt_of_wpAny ((pss_one (h2 cl c f A outer s H E)).run pins s' _ _ _ I ?_)⟩)
    exact ⟨v, rfl, .ref a, rfl, a, C, rfl, sE.oex, hno, .inl ⟨ha, fun dx h1 h2 => q dx h1 h2⟩⟩
end
/-! ### made -/
theorem mk_none {X : Cx} {pins : List (Addr × Obj)} {σ : L2.St} {H1 H2 : Hp} {hp hp2 h2 : Heap} {g1 g2 : Array GenState} {d1 d2 : Drawn} {t1 t2 : Nat} {os1 os2 : OsState} {a C : Addr} (I1 : Inv X pins σ H1 ⟨hp, g1, d1, t1, os1⟩)
    (ha : hp.objs.size ≤ a) (k : ∀ b o, hp.get? b = some o → hp2.get? b = some o) (un : Un (frs X.stack) [] (upd H1 a (exo a C none)) H2 hp2 h2) (hok : HOk X.prog X.w H2 h2) (ho : os2 = os1) (hb : AllBare g2) (ea : H2 a = some (exo a C none)) :
    ∃ (t0 : Addr) (G : Heap), Inv X pins σ (del H2 a) ⟨G, g2, d2, t2, os2⟩ ∧ (∀ b o, G.get? b = some o → h2.get? b = some o) ∧ G.get? a = none ∧
      h2.get? a = some ({ cls := .ref C, dict := none, data := .fields #[.ref t0, .none, .none, .none, .bool false, .none] } : Obj) ∧ (del H2 a) a = none := by
  obtain ⟨t0, hoe⟩ := exo_at hok ea
  have hn : H1 a = none := I1.hok.fresh ha
  obtain ⟨G, g1', g2'⟩ := restrict h2 fun b => decide (b ≠ a)
  have gk : ∀ b, b ≠ a → G.get? b = h2.get? b := fun b hb => g1' b (decide_eq_true hb)
  have ge : G.get? a = none := g2' a (by simp)
  have nha : ∀ {b : Addr} {o : Obj}, hp.get? b = some o → b ≠ a := fun {b o} z => Nat.ne_of_lt (Nat.lt_of_lt_of_le (Heap.lt_size z) ha)
  have up : ∀ {b : Addr}, b ≠ a → H1 b = none → upd H1 a (exo a C none) b = none := fun {b} hb n => by rw [upd_ne hb]; exact n
  have U : Un (frs X.stack) [] H1 (del H2 a) hp G := {
    keep := fun b o z n hf hx => by
      rw [gk b (nha z)]
      exact un.keep b o (k b o z) (up (nha z) n) hf hx
    slot := fun b o z n hf hx => by
      rw [gk b (nha z)]
      exact un.slot b o (k b o z) (up (nha z) n) hf hx
    free := fun b o z n hx => by
      rw [del_ne (nha z)]
      exact un.free b o (k b o z) (up (nha z) n) hx
    there := fun b o z hx => by
      rw [gk b (nha z)]
      exact un.there b o (k b o z) hx
    tups := fun b xs z => by
      rw [del_ne (ne_of_none z hn)]
      exact un.tups b xs (by rw [upd_ne (ne_of_none z hn)]; exact z)
    frzs := fun b o v z => by
      rw [del_ne (ne_of_none z hn)]
      exact un.frzs b o v (by rw [upd_ne (ne_of_none z hn)]; exact z)
    tbls := fun b ps z => by
      rw [del_ne (ne_of_none z hn)]
      exact un.tbls b ps (by rw [upd_ne (ne_of_none z hn)]; exact z) }
  have hok3 : HOk X.prog X.w (del H2 a) G := fun b o z => by
    have hba : b ≠ a := fun e => by
      rw [e, del_same] at z
      cases z
    rw [del_ne hba] at z
    have noa : ∀ {c : Addr}, H2 c = some (.own b) → c ≠ a := fun {c} hc => at_ne ea hc exo_own
    exact (hok b o z).stay (fun c v hc y => by
        have hca : c ≠ a := by
          rcases hc with hc | hc
          · rw [hc]
            exact hba
          · exact noa hc
        rw [gk c hca]
        exact y)
      (fun c hc => by rw [del_ne (noa hc)]; exact hc) (fun c xs hc => by rw [del_ne (at_ne ea hc exo_tup)]; exact hc)
  have J : Inv X pins σ (del H2 a) ⟨G, g2, d2, t2, os2⟩ := I1.call' (ch := []) ho U hok3 hb (fun b z => absurd z (by simp))
  refine ⟨t0, G, J, fun b o z => ?_, ge, hoe, del_same⟩
  by_cases hba : b = a
  · rw [hba, ge] at z
    cases z
  · exact (gk b hba).symm.trans z
section
variable {X : Cx} {k : Nat} {x y0 y1 fl : Str} {C : Addr} {p pos pos' : Pos} {e : Expr} {es : List Expr} {tA : TA}
/-- C(), C's __init__ keeping spX0 -/
theorem pmk_x0 (Ec : Ex X.prog X.w X.K X.mg X.base k x C [y0] (spX0 C)) (hr : Room (k + 1) X.A) (hg : Gl X x) (hdb : (x == ("__debug__" : Str)) = false := by decide) :
    PMk X (.Call (.Name x p) [] [] pos) (fun σ H Q => ∀ a, H a = none → Q (.ref C) none H) := by
  intro pins s σ H Q I h
  obtain ⟨fI, fd, F1, T, iC, tI, hb, hm⟩ := Ec.ex
  obtain ⟨nm, q, N, bs, bm, sn, sub, ab, col, dd, k0, k1, k2, k3, k5, hC, hbm⟩ := T.cls
  refine wpAny_Call_Name_kw (ld_glob I hg hm ?_ hdb)
  refine PySem.W.callWith_K0 (first := []) I.kIn T.kC ?_
  show wpAny _ _ (call (.ref C) []) _ _ _
  obtain ⟨hp, g, dr, tk, os⟩ := s
  have hsz : hp.objs.size ≤ hp.objs.size + 1 := Nat.le_succ _
  have hn : H (hp.objs.size + 1) = none := I.hok.fresh hsz
  have kk : ∀ b o, hp.get? b = some o → ((hp.push (PySem.W.kdv_tup [])).push (PySem.HandSPX.excO C hp.objs.size)).get? b = some o := fun b o e => Heap.get?_push_of_some _ (Heap.get?_push_of_some _ e)
  have hget : ((hp.push (PySem.W.kdv_tup [])).push (PySem.HandSPX.excO C hp.objs.size)).get? (hp.objs.size + 1) = some (PySem.HandSPX.excO C hp.objs.size) := by heap_get
  have I2 : Inv X pins σ (upd H (hp.objs.size + 1) (exo (hp.objs.size + 1) C none)) ⟨(hp.push (PySem.W.kdv_tup [])).push (PySem.HandSPX.excO C hp.objs.size), g, dr, tk, os⟩ :=
    I.laid (t' := tk) (a := hp.objs.size + 1) (o := exo (hp.objs.size + 1) C none) (h' := (hp.push (PySem.W.kdv_tup [])).push (PySem.HandSPX.excO C hp.objs.size)) kk hsz (exo_ok hget)
  have r2 : Vals [V.ref (hp.objs.size + 1)] [Value.ref (hp.objs.size + 1)] := .cons rfl .nil
  have hq : spX0 C [.ref (hp.objs.size + 1)] (upd H (hp.objs.size + 1) (exo (hp.objs.size + 1) C none)) (fun v H2 => v = .non ∧ H2 = upd H (hp.objs.size + 1) (exo (hp.objs.size + 1) C none)) (fun _ _ _ => False) := ⟨_, rfl, upd_same, rfl, rfl⟩
  have hx : Passes (L2.CX X.prog X.w) X (fun _ _ _ => False) := passL
  have hb' : BindsTo _ fd ⟨[Value.ref (hp.objs.size + 1)], []⟩ ([y0].zip [Value.ref (hp.objs.size + 1)]) := hb _ [Value.ref (hp.objs.size + 1)] I2.kIn rfl
  refine wpAny_call (PySem.HandSPX.call_own PySem.F.excBase_ValueError (fun Y => PySem.HandSPX.refsVE_contains Y bm hbm) (I.kIn _ _ hC) (PySem.W.looks_findIn I.kIn iC) (fun self => PySem.W.bind_fn I.kIn self tI) (Nat.zero_le _)
    (codeAny_mono (F1.run _ X.stack _ _ ⟨[Value.ref (hp.objs.size + 1)], []⟩ [Value.ref (hp.objs.size + 1)] _ _ (fun _ _ _ => False) (hr.make C [] []) (I2.env0.make C [] []) hb' r2 hq) fun r s' hq' => ?_))
  cases r with
  | error er => exact hx pins σ _ _ er s' I2 hq'
  | ok fl =>
    cases fl with
    | ret u =>
      obtain ⟨v, H2, os2, bare2, un2, hok2, rv, ev, eH⟩ := hq'
      subst ev
      obtain ⟨h2, g2, d2, t2, os'⟩ := s'
      have ea : H2 (hp.objs.size + 1) = some (exo (hp.objs.size + 1) C none) := by rw [eH, upd_same]
      obtain ⟨t0, G, J, kG, ge, hoe, na⟩ := mk_none (d2 := d2) (t2 := t2) I hsz kk un2 hok2 os2 bare2 ea
      have eD : del H2 (hp.objs.size + 1) = H := by
        rw [eH]
        funext b
        by_cases hb : b = hp.objs.size + 1
        · rw [hb, del_same, hn]
        · rw [del_ne hb, upd_ne hb]
      rw [eD] at J
      exact ⟨rv, _, _, _, ⟨G, g2, d2, t2, os'⟩, H, .ref C, none, rfl, J, kG, ge, hoe, ⟨rfl, rfl⟩, rfl, rfl, hn, rfl, bare2, raises_own T.exC T.tyC, h _ hn⟩
    | next => exact False.elim hq'
    | brk => exact False.elim hq'
    | cont => exact False.elim hq'
end
/-! ### raised -/
def sRaise0 (c : Nat) : MS := fun ρ => .exc ⟨c, []⟩ ρ
def sRaise1 (c : Nat) (f : Str) (a : M D) : MS := fun ρ => RS.ofT (a ρ) fun d ρ1 => .exc ⟨c, [(f, d)]⟩ ρ1
section
variable {T : Tab} {W : WX} {X : Cx} {k c : Nat} {x y0 y1 fl : Str} {p pos pos' : Pos} {e : Expr} {fe : M D}
theorem s_raise0 (Ec : Ex X.prog X.w X.K X.mg X.base k x (T.cls c) [y0] (spX0 (T.cls c))) (hc : X.calm = true) (hr : Room (k + 1) X.A) (hg : Gl X x) (tk : Takes X W) (hdb : (x == ("__debug__" : Str)) = false := by decide) :
    SimS T W X (.Raise (some (.Call (.Name x p) [] [] pos)) none pos') (sRaise0 c) :=
  simS_of (ps_raise hc tk (pmk_x0 Ec hr hg hdb)) fun Fr Hc σ H ρ De S P a ha => P σ _ _ Hc H (Same.refl _) S ⟨rfl, .inl rfl⟩
theorem s_raise1 (Ec : Ex X.prog X.w X.K X.mg X.base k x (T.cls c) [y0, y1] (spX1 (T.cls c) fl)) (hc : X.calm = true) (hr : Room (k + 1) X.A) (hg : Gl X x) (tk : Takes X W) (he : SimE T W X e fe) (hdb : (x == ("__debug__" : Str)) = false := by decide)
    (hst : starEach [e] X.env = (false, eval e X.env) :: starEach [] X.env := by rfl) :
    SimS T W X (.Raise (some (.Call (.Name x p) [e] [] pos)) none pos') (sRaise1 c fl fe) := by
  obtain ⟨fI, fd, F1, Tt, iC, tI, hb, hm⟩ := Ec.ex
  refine simS_of (ps_raise hc tk (pmk_oex Tt iC tI F1 hr hb .nil passL hg hm (pa_cons pe_tE pa_nil hst) hdb hst rfl)) fun Fr Hc σ H ρ De S P => ?_
  refine he.use S (PostS.ofT P) fun d ρ1 v Hc1 H1 e1 S1 P1 r1 => ⟨by show 1 ≤ 1000; decide, fun a ha => ?_⟩
  refine ⟨a, v, rfl, upd_same, fun dx hd nd => ⟨rfl, dx, [(fl, v)], upd_same, by rw [upd_ne nd, upd_same], ?_, ?_⟩⟩
  · rw [upd_ne nd] at hd; exact hd
  · rw [upd_ne nd] at hd
    refine P1 σ _ _ Hc1 _ (Same.refl _) (S1.aside fun b u hb => ?_) ⟨rfl, .inr ⟨dx, [(fl, v)], rfl, upd_same, .cons r1 .nil⟩⟩
    have n1 : b ≠ dx := ne_of_none hb hd
    have n2 : b ≠ a := ne_of_none hb ha
    rw [upd_ne n1, del_ne n2, upd_ne n2, upd_ne n1, upd_ne n2]
    exact hb
end
end PD
set_option maxRecDepth 100000
/-! PD18: list comprehensions whose element may raise. -/
namespace PD
open PySem PySem.Spec PyProof.Rows L2
/-- an exception of a call within the block goes on in the def's frame -/
theorem comp_fails {X : Cx} {W : WX} {pins pinsB : List (Addr × Obj)} {σ σ8 : L2.St} {H3 H9 : Hp} {s3 s9 s' : Shared} {scope : Scope} {ce : Env} {fp : List Addr} {E : XK} {u : Value}
    (hstk : X.stack = X.env :: X.outer) (hf : X.env.frame = some X.env.locals) (tk : Takes X W) (I3 : Inv X pins σ H3 s3) (hce : ce.frame = X.env.frame) (f3 : ∀ b ∈ fp, FpOk X pins H3 b ∧ b < s3.heap.objs.size)
    (I9 : Inv (X.blk s3 H3 scope ce fp) pinsB σ8 H9 s9) (c : L2.CX X.prog X.w X.stack H9 s9 E u s') (hW : ∀ cls d H', E cls d H' → W cls d σ H') :
    notedBy (model X.prog X.w) X.A ce (CompFails (model X.prog X.w) X.A X.xe ce) u s' := by
  obtain ⟨a, B, H', cls, d, rfl, fl, hok, ub, na, os, ag, hE⟩ := c
  have hfr : X.A.frames = some (X.env :: X.outer) := by rw [I3.ok.frames, hstk]
  have en : noteFrame (.ref a) ce = noteFrame (.ref a) X.env := by
    unfold PySem.noteFrame PySem.frameOf
    rw [hce]
  unfold notedBy
  rw [en]
  have fl' : HandSPX.FlyingZ B (X.env :: X.outer) a (Zc cls d) s'.heap := by rw [← hstk]; exact fl
  refine HandSPX.looks_onZ Zc.steady hfr hf fl' fun h1 hh up1 => ?_
  -- the block's names
  have above : s3.heap.objs.size ≤ ce.locals := I9.ok.above
  have nC : ce.locals ∉ frs X.stack := fun hb => by
    obtain ⟨_, o, ho, _⟩ := I9.ok.funs.mem hb
    exact absurd (Nat.lt_of_lt_of_le (Heap.lt_size ho) I9.ok.above) (Nat.lt_irrefl _)
  obtain ⟨mC, nsC, _⟩ := I9.loc
  have freeC : H9 ce.locals = none := I9.free
  obtain ⟨oC, esC, epC, gC, rC⟩ := id nsC
  have bC : B.get? ce.locals = some oC := ub.keep _ _ gC freeC nC
  have ns1 : h1.Ns ce.locals mC := ⟨oC, esC, epC, hh.1 _ _ bC, rC⟩
  refine ⟨mC, ns1, fun h2 m2 hn2 sb => ?_⟩
  obtain ⟨B', b1, b2⟩ := restrict B fun b => decide (b ≠ ce.locals)
  have bk : ∀ b, b ≠ ce.locals → B'.get? b = B.get? b := fun b hb => b1 b (decide_eq_true hb)
  have bn : B'.get? ce.locals = none := b2 _ (by simp)
  have bsub : ∀ b o, B'.get? b = some o → B.get? b = some o ∧ b ≠ ce.locals := fun b o e => by
    have hb : b ≠ ce.locals := fun z => by rw [z, bn] at e; cases e
    exact ⟨by rw [← bk b hb]; exact e, hb⟩
  obtain ⟨k1, k2, k3, oe, vs, T, oT, ts, he, hz, hd, hv1, hnT, hTe, hT, hdT, hv3⟩ := hh
  have naC : a ≠ ce.locals := fun z => by rw [z, bC] at k2; cases k2
  have nTC : T ≠ ce.locals := fun z => by rw [z, bC] at hnT; cases hnT
  have off : ∀ b, b ≠ ce.locals → h2.get? b = h1.get? b := fun b hb => sb.2 b hb
  have none' : ∀ {b}, B.get? b = none → B'.get? b = none := fun {b} e => by
    by_cases z : b = ce.locals
    · rw [z]; exact bn
    · rw [bk b z]; exact e
  have hh2 : HandSPX.HeldZ B' (X.env :: X.outer) a (Zc cls d) X.env.locals h2 := by
    refine ⟨fun b o e => ?_, none' k2, ?_, oe, vs, T, oT, ts, (off a naC).trans he, hz, hd, hv1, none' hnT, hTe, (off T nTC).trans hT, hdT, hv3⟩
    · obtain ⟨e1, e2⟩ := bsub b o e
      exact (off b e2).trans (k1 b o e1)
    · exact funFrames_none (Heap.FunFrames.sameBut sb hn2 k3) fun L hL => none' (k3.mem hL).1
  unfold PySem.passOn
  refine wpAny_bind (wpAny_field ((off a naC).trans he) hd hv1 ?_)
  rw [if_neg (show ¬ ((Value.ref T == Value.none) = true) from by simp)]
  have fin : wpAny (model X.prog X.w) X.A (setFlight (.ref a) ce.frame) (fun _ s4 => wpAny (model X.prog X.w) X.A (throw (.ref a) : Sem Value) (fun _ _ => False) X.xe s4) X.xe { s' with heap := h2 } := by
    rw [hce, hf]
    refine HandSPX.setFlight_onZ (s := { s' with heap := h2 }) hh2 fun h4 hh4 up4 => wpAny_throw (tk _ _ ?_)
    obtain ⟨G, g1, g2⟩ := restrict s'.heap fun b => (B'.get? b).isSome || decide (b ∈ frs X.stack)
    have st : B.StaysIn s'.heap := fl.1
    have gB : ∀ b o, B'.get? b = some o → G.get? b = some o := fun b o e => by
      rw [g1 b (by simp [e])]
      exact st b o (bsub b o e).1
    have gF : ∀ b, b ∈ frs X.stack → G.get? b = s'.heap.get? b := fun b hb => g1 b (by simp [hb])
    have og : ∀ b o, G.get? b = some o → s'.heap.get? b = some o ∧ ((B'.get? b).isSome = true ∨ b ∈ frs X.stack) := fun b o e => by
      cases q : ((B'.get? b).isSome || decide (b ∈ frs X.stack)) with
      | false => rw [g2 b q] at e; cases e
      | true =>
        rw [g1 b q] at e
        exact ⟨e, by simpa [Bool.or_eq_true] using q⟩
    have ogC : ∀ b o, G.get? b = some o → b ≠ ce.locals := fun b o e z => by
      rcases (og b o e).2 with y | y
      · rw [z, bn] at y; cases y
      · exact nC (z ▸ y)
    have fC : H' ce.locals = none := ub.free _ _ gC freeC
    have hokB' : HOk X.prog X.w H' B' := fun b o z => (hok b o z).stay (fun cc v hc y => by
        have hcc : cc ≠ ce.locals := fun q => by
          rcases hc with hc | hc
          · rw [← hc, q, fC] at z; cases z
          · rw [q, fC] at hc; cases hc
        rw [bk cc hcc]
        exact y) (fun cc hc => hc) (fun cc xs hc => hc)
    have lt3 : ∀ {b : Addr} {o : Obj}, s3.heap.get? b = some o → b ≠ ce.locals := fun {b o} z => Nat.ne_of_lt (Nat.lt_of_lt_of_le (Heap.lt_size z) above)
    have ub' : Un (frs X.stack) fp H3 H' s3.heap G := {
      keep := fun b o e n hb hx => gB b o (by rw [bk b (lt3 e)]; exact ub.keep b o (I9.base.keep b o e n hb hx) (I9.base.free b o e n hx) hb)
      slot := fun b o e n hb hx => by
        obtain ⟨sl, q⟩ := I9.base.slot b o e n hb hx
        obtain ⟨sl2, q2⟩ := ub.slot b _ q hb
        exact ⟨sl2, by rw [gF b hb]; exact q2⟩
      free := fun b o e n hx => by
        have z := I9.base.free b o e n hx
        obtain ⟨o', q⟩ := I9.base.there b o e hx
        exact ub.free b o' q z
      there := fun b o e hx => by
        obtain ⟨o', q⟩ := I9.base.there b o e hx
        by_cases hb : b ∈ frs X.stack
        · obtain ⟨sl, q2⟩ := ub.slot b o' q hb
          exact ⟨_, by rw [gF b hb]; exact q2⟩
        · obtain ⟨o2, q2⟩ := ub.there b o' q hb
          exact ⟨o2, gB b o2 (by rw [bk b (lt3 e)]; exact q2)⟩
      tups := fun b xs q => ub.tups b xs (I9.base.tups b xs q)
      frzs := fun b o v q => ub.frzs b o v (I9.base.frzs b o v q)
      tbls := fun b ps q => by
        obtain ⟨q1, e1⟩ := I9.base.tbls b ps q
        obtain ⟨q2, e2⟩ := ub.tbls b _ e1
        exact ⟨q1 ++ q2, by rw [e2, Array.append_assoc]⟩ }
    have J : Inv X pins σ H' { s' with heap := G } := I3.call' (ch := fp) (os.trans I9.os) ub' (hokB'.kept gB) ag fun b hb => ⟨(f3 b hb).1.2.2.2.1, (f3 b hb).1.2.1, (f3 b hb).1.2.2.2.2.1, (f3 b hb).1.2.2.2.2.2⟩
    refine ⟨a, B', { s' with heap := G }, pins, σ, H', cls, d, rfl, J, fun b o e hb => ?_, fun b o e hnf => ?_, .inr (.inr (by rw [hstk]; exact hh4)), na, rfl, ag, hW _ _ _ hE⟩
    · obtain ⟨e', h⟩ := og b o e
      rcases h with h | h
      · obtain ⟨o', q⟩ := Option.isSome_iff_exists.mp h
        have z := st b o' (bsub b o' q).1
        rw [e'] at z; cases z
        exact q
      · exact absurd h hb
    · obtain ⟨sl1, x1⟩ := up1 b o (og b o e).1 hnf
      have x2 : h2.get? b = some { o with slots := sl1 } := (off b (ogC b o e)).trans x1
      obtain ⟨sl2, x3⟩ := up4 b _ x2 hnf
      exact ⟨sl2, x3⟩
  first
    | exact wpAny_bind (wpAny_pure (wpAny_bind fin))
    | exact wpAny_bind fin
end PD
set_option maxRecDepth 100000
/-! PD19: list comprehensions whose element may raise: the loop, over data. -/
namespace PD
open PySem PySem.Spec PyProof.Rows L2
theorem inv_xe {X : Cx} {pins : List (Addr × Obj)} {σ : L2.St} {H : Hp} {s : Shared} {E E' : Value → Shared → Prop} (I : Inv { X with xe := E } pins σ H s) : Inv { X with xe := E' } pins σ H s := by
  obtain ⟨⟨a1, a2, a3, a4, a5, a6, a7, a8, a9, a10, a11, a12, a13, a14, a15, a16, a17, a18⟩, b1, b2, b3, b4, b5, b6, b7, b8, b9, b10⟩ := I
  exact ⟨⟨a1, a2, a3, a4, a5, a6, a7, a8, a9, a10, a11, a12, a13, a14, a15, a16, a17, a18⟩, b1, b2, b3, b4, b5, b6, b7, b8, b9, b10⟩
/-- the block's context with a wish for exceptions -/
abbrev blkE (X : Cx) (s : Shared) (H : Hp) (scope : Scope) (ce : Env) (fp : List Addr) (Eb : Value → Shared → Prop) : Cx := { X.blk s H scope ce fp with xe := Eb }
/-- the element, in any such context -/
def tEx (X : Cx) (scope : Scope) (e : Expr) (Wx : XK) : TE := fun σ H Q => ∀ (s : Shared) (H0 : Hp) (C : Addr) (cl : List (Str × Addr)) (fp : List Addr) (Eb : Value → Shared → Prop),
  (∀ σ', PassesAt (L2.CX X.prog X.w) (blkE X s H0 scope (compEnvC scope cl C X.env) fp Eb) σ' Wx) → tE (blkE X s H0 scope (compEnvC scope cl C X.env) fp Eb) e σ H Q
def tRlc (X : Cx) (scope : Scope) (elt : Expr) (W : WX) (wi : TI) (g : TG) (vs : List Nat) : TE := fun σ H Q => wi σ H fun J H1 => ∀ D, H1 D = none → ∃ Wn : Nat → Nat → Hp → Prop, (∃ m, Wn 0 m (upd H1 D (.lst []))) ∧ ∀ i m H, Wn i m H →
  (J.stop i H ∧ Q (.ref D) H) ∨ (J.go i H ∧ ∃ Nx : Hp → Prop, (∀ H', Nx H' → ∃ m', m' < m ∧ Wn (i + 1) m' H') ∧ ∀ x H', J.yld i H x H' → g x (wipe σ vs) H' fun σ2 H2 => wipe σ2 vs = wipe σ vs ∧
    tEx X scope elt (fun cls d H' => W cls d σ H') σ2 H2 fun y H4 => ∃ acc, H4 D = some (.lst acc) ∧ acc.length < sizeLine ∧ Nx (upd H4 D (.lst (acc ++ [y]))))
section
variable {X : Cx}
theorem rlc_core {W : WX} {pins : List (Addr × Obj)} {s : Shared} {σ : L2.St} {H : Hp} {Q : VK} {elt tg iter : Expr} {scope : Scope} {own : List (Str × Nat)} {pos pos' : Pos} {wi : TI} {g : TG} {use : Option (Value → Sem Unit)} {Qf : Value → Shared → Prop}
    (hstk : X.stack = X.env :: X.outer) (hf : X.env.frame = some X.env.locals) (tk : Takes X W) (hc : X.calm = true) (hN : X.N.Nodup) (I : Inv X pins σ H s) (hi : PI X tg iter wi) (ok : BlkOk X.N X.env.scope scope own)
    (hg : ∀ (s : Shared) (H : Hp) (C : Addr) (cl : List (Str × Addr)) (fp : List Addr), PG (X.blk s H scope (compEnvC scope cl C X.env) fp) tg g) (hs : ∀ x, foldedSetIterable iter X.env x = pure x)
    (h : tRlc X scope elt W wi g (own.map (·.2)) σ H Q)
    (hRR : ∀ D ce s' m H', Inv X pins σ H' s' → Q (.ref D) H' → s'.heap.Ns ce.locals m → FpOk X pins H' ce.locals → compEnds (model X.prog X.w) X.A X.xe use Qf (.ref D) ce (.ok .next) s') :
    wpAny (model X.prog X.w) X.A (comprehension (.ListComp elt [⟨tg, iter, [], 0⟩] scope pos) scope X.env pos' (newList []) false (eval iter X.env) use) Qf X.xe s := by
  have caps : ∀ y ∈ scope.names, y.2 = .free → ∃ c, X.env.cells.lookup y.1 = some c := fun y hy e => by
    rcases ok.free y hy e with k | k
    · exact I.ok.has _ (.inl k)
    · exact I.ok.has _ (.inr k)
  refine comprehension_at (use := use) rfl hs (closure_ok caps) ok.kind (fun y hy e => by rw [ok.uniq y hy, e]) (thn (hi.run pins s σ H _ I h) fun xv s1 hx => thn hx fun itv s2 got => ?_)
  obtain ⟨it, fp, tn, J, H2, rfl, I2, T, st2, f2, q⟩ := got
  refine wpAny_newObj_type (newEnv_comp ?_) (by show 0 ≤ sizeLine; decide)
  -- the new list at D
  generalize hD : s2.heap.objs.size = D
  have fresh : H2 D = none := I2.hok.fresh (Nat.le_of_eq hD)
  obtain ⟨Wn, ⟨m0, w0⟩, turn⟩ := q D fresh
  generalize es3 : ({ s2 with heap := s2.heap.push { cls := .type "list", data := .seq ([] : List Value).toArray } } : Shared) = s3
  have hp3 : s3.heap = s2.heap.push { cls := .type "list", data := .seq ([] : List Value).toArray } := by rw [← es3]
  have I3 : Inv X pins σ (upd H2 D (.lst [])) s3 := by
    rw [← es3]
    refine I2.laid (t' := s2.toks) (fun b o e => Heap.get?_push_of_some _ e) (Nat.le_of_eq hD) ⟨Nat.zero_le _, [], 0, .nil, ?_⟩
    rw [← hD]
    exact Heap.get?_push_size _ rfl
  have below : ∀ b ∈ fp, b < s2.heap.objs.size := fun b hb => by
    obtain ⟨o, e, _⟩ := T.obj _ _ st2 b hb
    exact Heap.lt_size e
  have f3 : ∀ b ∈ fp, FpOk X pins (upd H2 D (.lst [])) b ∧ b < s3.heap.objs.size := fun b hb => by
    have lt := below b hb
    refine ⟨⟨?_, (f2 b hb).2⟩, by rw [hp3, Heap.size_push]; exact Nat.lt_succ_of_lt lt⟩
    rw [upd_ne (by rw [← hD]; exact Nat.ne_of_lt lt)]
    exact (f2 b hb).1
  have st3 : tn 0 s3.heap := T.keep _ _ _ st2 fun b _ o e => by rw [hp3]; exact Heap.get?_push_of_some _ e
  have I4 := block_start I3 ok hN f3
  show codeAny _ _ (.compStart (.ListComp elt [⟨tg, iter, [], 0⟩] scope pos) 0 (.ref it) (.ref D) (compEnvC scope (cellsFrom (s3.heap.objs.size + 1) scope.names (cloFrom X.env.cells scope.names [])) s3.heap.objs.size X.env))
    (compEnds (model X.prog X.w) X.A X.xe use Qf (.ref D) (compEnvC scope (cellsFrom (s3.heap.objs.size + 1) scope.names (cloFrom X.env.cells scope.names [])) s3.heap.objs.size X.env)) { s3 with heap := pushCells (s3.heap.push { cls := .type "dict", data := .dict #[] }) scope.names }
  have pg := hg s3 (upd H2 D (.lst [])) s3.heap.objs.size (cellsFrom (s3.heap.objs.size + 1) scope.names (cloFrom X.env.cells scope.names [])) fp
  have nfp : ∀ b ∈ fp, (upd H2 D (.lst [])) b = none := fun b hb => (f3 b hb).1.1
  have pe : ∀ (Eb : Value → Shared → Prop) (Wx : XK) (σ' : L2.St) (H' : Hp) (Q' : VK), tEx X scope elt Wx σ' H' Q' → (∀ σ', PassesAt (L2.CX X.prog X.w) (blkE X s3 (upd H2 D (.lst [])) scope (compEnvC scope (cellsFrom (s3.heap.objs.size + 1) scope.names (cloFrom X.env.cells scope.names [])) s3.heap.objs.size X.env) fp Eb) σ' Wx) →
      tE (blkE X s3 (upd H2 D (.lst [])) scope (compEnvC scope (cellsFrom (s3.heap.objs.size + 1) scope.names (cloFrom X.env.cells scope.names [])) s3.heap.objs.size X.env) fp Eb) elt σ' H' Q' := fun Eb Wx σ' H' Q' t px => t _ _ _ _ _ Eb px
  generalize ece : compEnvC scope (cellsFrom (s3.heap.objs.size + 1) scope.names (cloFrom X.env.cells scope.names [])) s3.heap.objs.size X.env = ce at I4 pg pe ⊢
  have cL : ce.locals = s3.heap.objs.size := by subst ece; rfl
  have cF : ce.frame = X.env.frame := by subst ece; rfl
  generalize eH3 : upd H2 D (.lst []) = H3 at I3 I4 pg pe w0 nfp f3
  generalize es4 : ({ s3 with heap := pushCells (s3.heap.push { cls := .type "dict", data := .dict #[] }) scope.names } : Shared) = s4 at I4 ⊢
  have st4 : tn 0 s4.heap := T.keep _ _ _ st3 fun b _ o e => by rw [← es4]; exact pushCells_keeps _ _ _ _ (Heap.get?_push_of_some _ e)
  have stat : ∀ {σ' : L2.St} {H' : Hp} {s' : Shared}, Inv (X.blk s3 H3 scope ce fp) [] σ' H' s' → (∀ b ∈ fp, H' b = none) → ∀ b ∈ fp, FpOk (X.blk s3 H3 scope ce fp) [] H' b := fun {σ' H' s'} I' hn b hb =>
    ⟨hn b hb, (I'.ok.exf b hb).1, I'.ok.exfs b hb, .inl hb, fun x c e => (I'.ok.exf b hb).2 x c e, fun p hp => absurd (show p ∈ ([] : List (Addr × Obj)) ++ [] from hp) (by simp)⟩
  have loop : codeAny (model X.prog X.w) X.A (.compLoop (.ListComp elt [⟨tg, iter, [], 0⟩] scope pos) 0 (.ref it) (.ref D) ce) (compEnds (model X.prog X.w) X.A X.xe use Qf (.ref D) ce) s4 := by
    refine compLoop_any (fun n s' => ∃ i H', Inv (X.blk s3 H3 scope ce fp) [] (wipe σ (own.map (·.2))) H' s' ∧ tn i s'.heap ∧ (∀ b ∈ fp, H' b = none) ∧ Wn i n H') ?_ m0 ⟨0, H3, I4, st4, nfp, w0⟩
    rintro n s5 ⟨i, H5, I5, st5, n5, w5⟩
    rcases turn i n H5 w5 with ⟨stop, qq⟩ | ⟨go, Nx, hNx, step⟩
    · refine thnF (T.done (X.blk s3 H3 scope ce fp) rfl rfl rfl hc i [] s5 _ H5 (fun _ _ => False) I5 (stat I5 n5) st5 stop) fun r s6 ⟨hr, I6⟩ => ?_
      subst hr
      have I7 : Inv X pins σ H5 s6 := I3.call' (ch := fp) I6.os I6.base I6.hok I6.bare fun b hb => ⟨(f3 b hb).1.2.2.2.1, (f3 b hb).1.2.1, (f3 b hb).1.2.2.2.2.1, (f3 b hb).1.2.2.2.2.2⟩
      have nC : H5 ce.locals = none := I6.free
      obtain ⟨m, hm, _⟩ := I6.loc
      have hm' : s6.heap.Ns ce.locals m := hm
      refine hRR D ce s6 m H5 I7 qq hm' ?_
      rw [cL]
      rw [cL] at nC
      exact I3.fpOk (Nat.le_refl _) nC
    · refine thnF (T.item (X.blk s3 H3 scope ce fp) rfl rfl rfl hc i [] s5 _ H5 (fun _ _ => False) I5 (stat I5 n5) st5 go) fun r s6 ⟨u, hr, h6⟩ => ?_
      subst hr
      refine thnF h6 fun _ s7 ⟨x, H7, I7, r7, y7, st7, n7⟩ => ?_
      refine thnF (pg.run _ s7 _ H7 x u _ (I7.pinned (stat I7 n7) (T.obj _ _ st7)) r7 (step x H7 y7)) fun _ s8 ⟨σ8, H8, I8, hw8, q8⟩ => ?_
      refine wpAny_tests_nil ?_
      have fin : ∀ {s' : Shared} {H' : Hp}, Inv (X.blk s3 H3 scope ce fp) ([] ++ pinsAt fp s7.heap) σ8 H' s' → Nx H' → ∃ m, m < n ∧ ∃ i H', Inv (X.blk s3 H3 scope ce fp) [] (wipe σ (own.map (·.2))) H' s' ∧ tn i s'.heap ∧ (∀ b ∈ fp, H' b = none) ∧ Wn i m H' := fun {s' H'} I' nx => by
        obtain ⟨m', hm, w'⟩ := hNx H' nx
        have pin' : ∀ b ∈ fp, ∀ o, s7.heap.get? b = some o → s'.heap.get? b = some o ∧ H' b = none := fun b hb o e =>
          let z := I'.pin (b, o) (List.mem_append_right _ (List.mem_append_right _ (mem_pinsAt hb e)))
          ⟨z.1, z.2.1⟩
        have len : (wipe σ (own.map (·.2))).length = σ8.length := by rw [← hw8, wipe_length]
        refine ⟨m', hm, i + 1, H', (I'.unpinned (pins := [])).weak len (fun j v e => ?_), T.keep _ _ _ st7 fun b hb o e => (pin' b hb o e).1, fun b hb => ?_, w'⟩
        · rw [← hw8] at e
          exact (wipe_some e).1
        · obtain ⟨o, e, _⟩ := T.obj _ _ st7 b hb
          exact (pin' b hb o e).2
      simp only [if_true]
      have px : ∀ σ', PassesAt (L2.CX X.prog X.w) (blkE X s3 H3 scope ce fp (notedBy (model X.prog X.w) X.A ce (CompFails (model X.prog X.w) X.A X.xe ce))) σ' (fun cls d H' => W cls d σ H') := fun σ' pinsB HB sB eB sB' IB cB =>
        comp_fails (W := W) hstk hf tk I3 cF f3 (inv_xe (E' := fun _ _ => False) IB) cB fun cls d H' w => w
      have z := pe _ _ _ _ _ q8 px ([] ++ pinsAt fp s7.heap) s8 (inv_xe I8)
      refine wpAny_mono z (fun zv s10 ⟨yv, H10, I10, r10, acc, hD10, hz10, nx⟩ => ?_) fun _ _ y => y
      exact app_ok (X := X.blk s3 H3 scope ce fp) (inv_xe I10) hD10 hz10 r10 fun s11 I11 => fin I11 nx
  exact codeAny_compStart_list loop (T.self X.A 0 _ _ _ st4 loop)
theorem pe_rlc {W : WX} {elt tg iter : Expr} {scope : Scope} {own : List (Str × Nat)} {pos : Pos} {wi : TI} {g : TG} (hstk : X.stack = X.env :: X.outer) (hf : X.env.frame = some X.env.locals) (tk : Takes X W) (hc : X.calm = true) (hN : X.N.Nodup) (hi : PI X tg iter wi)
    (ok : BlkOk X.N X.env.scope scope own) (hg : ∀ (s : Shared) (H : Hp) (C : Addr) (cl : List (Str × Addr)) (fp : List Addr), PG (X.blk s H scope (compEnvC scope cl C X.env) fp) tg g) (hs : ∀ x, foldedSetIterable iter X.env x = pure x := by intro _; rfl) :
    PE X (.ListComp elt [⟨tg, iter, [], 0⟩] scope pos) (tRlc X scope elt W wi g (own.map (·.2))) := by
  refine ⟨fun pins s σ H Q I h => ?_⟩
  rw [eval_ListComp]
  refine rlc_core hstk hf tk hc hN I hi ok hg hs h fun D ce s' m H' I' q hn f => ⟨m, hn, fun h'' sb => ?_⟩
  obtain ⟨f0, f1, f2, f3, f4, f5⟩ := f
  exact ⟨.ref D, H', I'.turned (t' := s'.toks) (fun b o hb e => (sb.2 b hb).trans e) f0 f1 f3 f4 f5, rfl, q⟩
theorem ps_setRlc {W : WX} {i : Nat} {y : Str} {py : Pos} {elt tg iter : Expr} {scope : Scope} {own : List (Str × Nat)} {pos spos : Pos} {wi : TI} {g : TG} (hstk : X.stack = X.env :: X.outer) (hf : X.env.frame = some X.env.locals) (tk : Takes X W) (hc : X.calm = true) (hN : X.N.Nodup)
    (hy : X.N[i]? = some y) (hyl : X.env.scope.names.lookup y = some .local) (hsw : swapsWith (.ListComp elt [⟨tg, iter, [], 0⟩] scope pos) (some (.Name y py)) spos.line X.env = pure true) (hi : PI X tg iter wi) (ok : BlkOk X.N X.env.scope scope own)
    (hg : ∀ (s : Shared) (H : Hp) (C : Addr) (cl : List (Str × Addr)) (fp : List Addr), PG (X.blk s H scope (compEnvC scope cl C X.env) fp) tg g) (hs : ∀ x, foldedSetIterable iter X.env x = pure x := by intro _; rfl) :
    PS X (.Assign [.Name y py] (.ListComp elt [⟨tg, iter, [], 0⟩] scope pos) spos) (tAsg (tRlc X scope elt W wi g (own.map (·.2))) (gName i)) := by
  refine ⟨fun pins s σ H D I h => ?_⟩
  rw [exec_Assign_Name_used _ _ _ _ hsw]
  refine wpAny_bind (wpAny_standAt (wpAny_bind ?_))
  show wpAny _ X.A (do let _ ← comprehension (.ListComp elt [⟨tg, iter, [], 0⟩] scope pos) scope X.env (firstIterPos [⟨tg, iter, [], 0⟩] pos) (newList []) false (eval iter X.env) (some (assign (.Name y py) X.env))) _ _ s
  have h : tRlc X scope elt W wi g (own.map (·.2)) σ H (fun x H1 => gName i x σ H1 D.nx) := h
  refine wpAny_bind (thn (rlc_core (Qf := fun _ s' => SP X pins D .next s') hstk hf tk hc hN I hi ok hg hs h fun L ce s' m H' I' q hn f => ?_) fun _ s' hq => wpAny_pure (wpAny_pure hq))
  show wpAny _ _ (assign (.Name y py) X.env (.ref L)) _ _ _
  refine wpAny_assign_Name (store_ok2 (v := V.ref L) I' hN hy (.inl hyl) rfl (fun s2 I2 ⟨a, sb, ha⟩ => ?_) (.inr hyl))
  obtain ⟨f0, f1, f2, f3, f4, f5⟩ := f
  have haC : ce.locals ≠ a := by
    rcases ha with z | z
    · rw [z]; exact f1
    · exact fun e => f4 y a z e.symm
  refine ⟨m, hn.sameBut sb haC, fun h3 sb3 => ?_⟩
  exact ⟨_, H', I2.turned (t' := s2.toks) (fun b o hb e => (sb3.2 b hb).trans e) f0 f1 f3 f4 f5, q⟩
end
/-! ### over data -/
def rlcLoop (vs : List Nat) (tg : GD) (fe : M D) : List D → DEnv → List D → RM D
  | [], ρ, acc => .ok (.lst acc) ρ
  | d :: r, ρ, acc => match tg d ρ with
    | none => .stuck
    | some ρ1 => match fe ρ1 with
      | .ok y ρ2 => if acc.length < 100000 then rlcLoop vs tg fe r (wipeD ρ2 vs) (acc ++ [y]) else .stuck
      | .exc x ρ2 => .exc x (wipeD ρ2 vs)
      | .stuck => .stuck
def eRlc (vs : List Nat) (fi : M (List D)) (tg : GD) (fe : M D) : M D := fun ρ => (fi ρ).bind fun ds ρ1 => rlcLoop vs tg fe ds (wipeD ρ1 vs) []
/-- an element in any context with a wish -/
def SimEx (T : Tab) (X : Cx) (scope : Scope) (e : Expr) (f : M D) : Prop := ∀ (s : Shared) (H : Hp) (C : Addr) (cl : List (Str × Addr)) (fp : List Addr) (Eb : Value → Shared → Prop) (Wb : WX),
  (∀ σ', PassesAt (L2.CX X.prog X.w) (blkE X s H scope (compEnvC scope cl C X.env) fp Eb) σ' (WE Wb σ')) → SimE T Wb (blkE X s H scope (compEnvC scope cl C X.env) fp Eb) e f
section
variable {T : Tab} {W : WX} {X : Cx} {wi : TI} {g : TG} {fi : M (List D)} {tg : GD} {fe : M D} {vs js : List Nat} {scope : Scope} {elt : Expr}
theorem rd_rlc (h0 : ∀ v ∈ vs, v ≠ 0) (hj : ∀ j ∈ js, j ∈ vs) (hi : RdI T W wi fi) (hg : RdW T g tg js) (he : SimEx T X scope elt fe) : RdN T W (tRlc X scope elt W wi g vs) (eRlc vs fi tg fe) := fun Fr Hc σ H ρ S Q P => by
  refine hi.use S (PostR.bind P) fun ds ρ1 J Hc1 H1 e1 S1 P1 ok => ?_
  intro D hD
  have fD : Fr.fr D = none := S1.fr.free hD
  refine ⟨fun i m H' => m = ds.length - i ∧ i ≤ ds.length ∧ ∃ Hc2 ρ2 acc das, Same Hc1 Hc2 ∧ StC T (Fr.plus D (.lst acc)) Hc2 (wipe σ vs) H' ρ2 ∧ Bare ρ2 vs ∧ Rps T Hc2 acc das ∧
    PostR T W Fr Hc2 σ (rlcLoop vs tg fe (ds.drop i) ρ2 das) (fun d ρ' Hc' H' => ∀ p, Nw T Fr Hc' σ H' ρ' p d → Q (.ref p) H'),
    ⟨_, rfl, Nat.zero_le _, Hc1, wipeD ρ1 vs, [], [], Same.refl _, (S1.wipe h0).plus hD, bare_wipe _ _, .nil, P1⟩, ?_⟩
  rintro i m H2 ⟨rfl, hi, Hc2, ρ2, acc, das, e2, S2, b2, r2, P2⟩
  by_cases l : i < ds.length
  · refine .inr ⟨ok.go i H2 (e2.trans S2.hc) l, _, fun H' n => ⟨ds.length - (i + 1), by omega, n⟩, fun x H3 y => ?_⟩
    obtain ⟨Hc3, e3, S3, r3⟩ := ok.yld i H2 x H3 _ _ ρ2 Hc2 _ S2 e2 (List.getElem?_eq_getElem l) y
    rw [List.drop_eq_getElem_cons l] at P2
    unfold rlcLoop at P2
    cases g1 : tg ds[i] ρ2 with
    | none => rw [g1] at P2; exact P2.elim
    | some ρ3 =>
      rw [g1] at P2
      refine hg _ Hc3 _ H3 ρ2 ρ3 x _ S3 r3 g1 _ fun σ4 S4 w4 => ?_
      have wq : wipe σ4 vs = wipe σ vs := w4 vs hj |>.trans (wipe_wipe fun _ h => h)
      refine ⟨wq, fun s' H0 C cl fp Eb px => ?_⟩
      refine he s' H0 C cl fp Eb (fun cls d _ H' => W cls d σ H') px _ Hc3 σ4 H3 ρ3 S4 _ ?_
      dsimp only at P2
      cases g3 : fe ρ3 with
      | ok y' ρ5 =>
        rw [g3] at P2
        intro Hc5 H5 e5 S6 v rv
        dsimp only at P2
        by_cases la : das.length < 100000
        · rw [if_pos la] at P2
          have ra : Rps T Hc5 acc das := (r2.mono e3).mono e5
          refine ⟨acc, S6.plus_at.1, line_lt (by rw [ra.length]; exact la), rfl, l, Hc5, wipeD ρ5 vs, acc ++ [v], das ++ [y'], (e2.trans e3).trans e5, ?_, bare_wipe _ _, ra.append (.cons rv .nil), P2.up (e3.trans e5)⟩
          rw [← wq]
          exact (S6.wipe h0).replus
        · rw [if_neg la] at P2; exact P2.elim
      | exc z ρ5 =>
        rw [g3] at P2
        intro cls da Hc5 H5 e5 S6 rz
        have S7 : StC T Fr Hc5 (wipe σ vs) H5 (wipeD ρ5 vs) := by
          rw [← wq]
          exact (S6.wipe h0).unplus fD
        exact P2 cls da Hc5 H5 (e3.trans e5) (S7.unwipe h0 (bare_wipe _ _)) rz
      | stuck => rw [g3] at P2; exact P2.elim
  · have e : i = ds.length := by omega
    subst e
    rw [List.drop_eq_nil_of_le (Nat.le_refl _)] at P2
    refine .inl ⟨ok.stop H2 (e2.trans S2.hc), ?_⟩
    obtain ⟨q1, q2, q3⟩ := S2.plus_at
    have S3 : StC T Fr Hc2 (wipe σ vs) H2 ρ2 := S2.unplus fD
    have S4 : StC T Fr Hc2 σ H2 ρ2 := S3.unwipe h0 b2
    refine P2 Hc2 H2 (Same.refl _) S4 D ⟨fD, q2, fun j h1 h2 => ?_, acc, q1, r2⟩
    have nj : j ∉ vs := fun hv => by rcases b2 j hv with z | z <;> rw [z] at h2 <;> cases h2
    exact q3 j (by rw [wipe_out nj]; exact h1) h2
end
section
variable {T : Tab} {W : WX} {X : Cx} {g : TG} {fi : M (List D)} {tgf : GD} {fe : M D} {js : List Nat} {elt tg iter c : Expr} {scope : Scope} {own : List (Str × Nat)} {pos : Pos}
theorem x_rlc (hstk : X.stack = X.env :: X.outer) (hf : X.env.frame = some X.env.locals) (tk : Takes X W) (hc : X.calm = true) (hN : X.N.Nodup) (ok : BlkOk X.N X.env.scope scope own) (h0 : ∀ v ∈ own.map (·.2), v ≠ 0) (hj : ∀ j ∈ js, j ∈ own.map (·.2)) (hi : SimI T W X tg iter fi)
    (hg : ∀ (s : Shared) (H : Hp) (C : Addr) (cl : List (Str × Addr)) (fp : List Addr), PG (X.blk s H scope (compEnvC scope cl C X.env) fp) tg g) (hr : RdW T g tgf js) (he : SimEx T X scope elt fe) (hs : ∀ x, foldedSetIterable iter X.env x = pure x := by intro _; rfl) :
    SimN T W X (.ListComp elt [⟨tg, iter, [], 0⟩] scope pos) (eRlc (own.map (·.2)) fi tgf fe) :=
  simN_of (pe_rlc hstk hf tk hc hN pi_tI ok hg hs) (rd_rlc h0 hj hi hr he)
theorem s_rlc {i : Nat} {y : Str} {py spos : Pos} (hi0 : i ≠ 0) (hy : X.N[i]? = some y) (hyl : X.env.scope.names.lookup y = some .local) (hsw : swapsWith (.ListComp elt [⟨tg, iter, [], 0⟩] scope pos) (some (.Name y py)) spos.line X.env = pure true)
    (hstk : X.stack = X.env :: X.outer) (hf : X.env.frame = some X.env.locals) (tk : Takes X W) (hc : X.calm = true) (hN : X.N.Nodup) (ok : BlkOk X.N X.env.scope scope own) (h0 : ∀ v ∈ own.map (·.2), v ≠ 0) (hj : ∀ j ∈ js, j ∈ own.map (·.2)) (hi : SimI T W X tg iter fi)
    (hg : ∀ (s : Shared) (H : Hp) (C : Addr) (cl : List (Str × Addr)) (fp : List Addr), PG (X.blk s H scope (compEnvC scope cl C X.env) fp) tg g) (hr : RdW T g tgf js) (he : SimEx T X scope elt fe) (hs : ∀ x, foldedSetIterable iter X.env x = pure x := by intro _; rfl) :
    SimS T W X (.Assign [.Name y py] (.ListComp elt [⟨tg, iter, [], 0⟩] scope pos) spos) (sSet i (eRlc (own.map (·.2)) fi tgf fe)) :=
  simS_of (ps_setRlc hstk hf tk hc hN hy hyl hsw pi_tI ok hg hs) (rs_set (rd_rlc h0 hj hi hr he).val hi0)
/-- f(e, ..) as such an element -/
theorem x_fnP {k m : Nat} {ps : List Str} {x : Str} {p pos : Pos} {e : Expr} {es : List Expr} {fA : M (List D)} {G : List D → RF} (F : Fk X.prog X.w X.K X.mg X.base k x ps (spF T m G)) (hG : ∀ ds, ds.length ≠ m → G ds = .stuck) (hr : Room k X.A) (hg : Gl X x) (px : ∀ σ', PassesAt (L2.CX X.prog X.w) X σ' (WE W σ')) (ha : SimA T W X (e :: es) fA)
    (hdb : (x == ("__debug__" : Str)) = false := by decide) (he : starEach (e :: es) X.env = (false, eval e X.env) :: starEach es X.env := by rfl) (hpl : (backTo pos (starEach es X.env)).any (·.1) = false := by rfl) :
    SimE T W X (.Call (.Name x p) (e :: es) [] pos) (eFn G fA) := by
  obtain ⟨f, fd, F1, hm, hk, hb⟩ := F.ex
  refine sim_of (pe_callSD (E := WE W) F1 hr hg hm hk hb .nil px pa_tA hdb he hpl) fun Fr Hc σ H ρ S Q P => ?_
  refine ha.use S (PostR.bind P) fun ds ρ1 vs Hc1 H1 e1 S1 P1 r => ?_
  show spF T m G (vs ++ []) H1 Q (WE W σ)
  rw [List.append_nil]
  by_cases l : ds.length = m
  · exact spF_use (by rw [r.length]; exact l) S1 r P1
  · rw [hG ds l] at P1
    exact P1.elim
end
end PD
set_option maxRecDepth 100000
/-! PD20: try with several clauses, with and without names. -/
namespace PD
open PySem PySem.Spec PyProof.Rows L2
/-- a clause: the class, the slot of its name, its suite's reading -/
structure ClR where
  c : Value
  i : Option Nat
  ts : Addr → Value → Option Addr → TS
def endsAs (i : Nat) (D : Ends) : Ends := { nx := fun σ' H' => D.nx (σ'.set i none) H', rt := D.rt, bk := fun σ' H' => D.bk (σ'.set i none) H', ct := fun σ' H' => D.ct (σ'.set i none) H' }
def ClR.go (k : ClR) (a : Addr) (cls : Value) (d : Option Addr) (D : Ends) (σ : L2.St) (H : Hp) : Prop := match k.i with
  | none => k.ts a cls d D σ H
  | some i => k.ts a cls d (endsAs i D) (σ.set i (some (.ref a))) H
def wAll (K : PySem.W.Frag) (Wout : WX) (D : Ends) : List ClR → WX
  | [] => Wout
  | k :: r => fun cls d σ H => ∃ b, PySem.W.exmOne K cls k.c = some b ∧ (b = true → ∀ a, H a = none → k.go a cls d D σ H) ∧ (b = false → wAll K Wout D r cls d σ H)
inductive HdsA (X : Cx) : List ExceptHandler → List ClR → Prop
  | nil : HdsA X [] []
  | cons {x : Str} {c : Value} {ts : Addr → Value → Option Addr → TS} {b₀ : Stmt} {suite : List Stmt} {np pos' : Pos} {hds : List ExceptHandler} {l : List ClR} (hc : Names X x c)
      (hsu : ∀ (a : Addr) (oe : Obj) (cls : Value) (d : Option Addr) (pn : List (Addr × Obj)), Zc cls d oe → (∃ vs, oe.data = .fields vs) → PSs (X.suite a ((a, oe) :: pn)) (b₀ :: suite) (ts a cls d)) (r : HdsA X hds l) :
      HdsA X (.ExceptHandler (some (.Name x np)) none (b₀ :: suite) pos' :: hds) (⟨c, none, ts⟩ :: l)
  | as {x n : Str} {i : Nat} {c : Value} {ts : Addr → Value → Option Addr → TS} {b₀ : Stmt} {suite : List Stmt} {np pos' : Pos} {hds : List ExceptHandler} {l : List ClR} (hc : Names X x c) (hi : X.N[i]? = some n) (hln : X.env.kindOf n = some .local)
      (hsu : ∀ (a : Addr) (oe : Obj) (cls : Value) (d : Option Addr) (pn : List (Addr × Obj)), Zc cls d oe → (∃ vs, oe.data = .fields vs) → PSs (X.suite a ((a, oe) :: pn)) (b₀ :: suite) (ts a cls d)) (r : HdsA X hds l) :
      HdsA X (.ExceptHandler (some (.Name x np)) (some n) (b₀ :: suite) pos' :: hds) (⟨c, some i, ts⟩ :: l)
section
variable {X : Cx} {body : List Stmt} {h₀ : ExceptHandler} {hds : List ExceptHandler} {l : List ClR} {pos : Pos} {tb : WX → TS} {Wout : WX}
theorem ps_try_all (hs : X.stack = X.env :: X.outer) (hf : X.env.frame = some X.env.locals) (hN : X.N.Nodup) (tk : Takes X Wout)
    (hb : ∀ (W : WX) (pn : List (Addr × Obj)) (xe : Value → Shared → Prop), Takes (X.tr pn xe) W → PassesOwn (model X.prog X.w) X.A X.env xe → PSs (X.tr pn xe) body (tb W))
    (hh : HdsA X (h₀ :: hds) l) : PS X (.Try body (h₀ :: hds) [] [] pos) (fun D σ H => tb (wAll X.K Wout D l) D σ H) := by
  refine ⟨fun pins s σ H D I h => ?_⟩
  have ok := I.ok
  have hfr : X.A.frames = some (X.env :: X.outer) := by rw [ok.frames, hs]
  refine wpAny_Try_except (wpAny_mono ((hb (wAll X.K Wout D l) (X.pn ++ pins) (fun e s₁ => wpAny (model X.prog X.w) X.A (noteFrame e X.env) (fun _ s₂ => wpAny (model X.prog X.w) X.A (setFlight e none) (fun _ s₃ =>
    wpAny (model X.prog X.w) X.A (handleBy e X.env (h₀ :: hds)) (SP X pins D) X.xe s₃) X.xe s₂) X.xe s₁) (fun u s' xx => ?_) PassesOwn.looking).run [] s σ H D (I.toTry _) h) (fun f s1 hsp => ?_) (fun e s1 he => he))
  · -- caught
    obtain ⟨a, B, sI, pins', σ', H', cls, d, rfl, J', nb, up, sky, na, os, ag, w⟩ := xx
    have J : Inv X pins σ' H' sI := J'.ofTry ok
    have sky' : Sky B (X.env :: X.outer) a (Zc cls d) X.env.locals s'.heap := by rw [← hs]; exact sky
    show wpAny (model X.prog X.w) X.A (noteFrame (.ref a) X.env) _ _ _
    refine Sky.land Zc.steady hfr hf sky' fun h3 fl3 up3 => ?_
    have J3 : Inv X pins σ' H' { s' with heap := h3 } := J.landed nb fl3.1 (up.trans up3) os ag
    obtain ⟨oe3, vs3, he3, hz3, hd3⟩ := fl3.there
    have nfr : a ∉ frs (X.env :: X.outer) := fun hm => by
      obtain ⟨_, o', e', hnf⟩ := fl3.2.2.1.mem hm
      rw [he3] at e'
      cases e'
      exact hnf _ hd3
    have nL : a ≠ X.env.locals := fun z => nfr (List.mem_filterMap.mpr ⟨X.env, List.mem_cons_self, by rw [hf, z]⟩)
    have nF : a ∉ X.fs := fun hm => by
      obtain ⟨e, he, q⟩ := List.mem_filterMap.mp hm
      exact nfr (List.mem_filterMap.mpr ⟨e, List.mem_cons_of_mem _ he, q⟩)
    have S3 := J3.suite he3 hd3 na nL nF
    have LT : PySem.W.Looks (model X.prog X.w) h3 (typeOf (.ref a)) cls := fun A Q E s k q => wpAny_typeOf_ref (k _ _ he3) (by rw [hz3.1]; exact q)
    have test : ∀ {x : Str} {c : Value} {np : Pos} {Q : Value → Shared → Prop} {E : Value → Shared → Prop}, Names X x c → Q c { s' with heap := h3 } → wpAny (model X.prog X.w) (X.A.mark (some (.ref a))) (eval (.Name x np) X.env) Q E { s' with heap := h3 } := fun {x c np Q E} hc q => by
      obtain ⟨hg, hdbg, hm | ⟨hm, hv, hnn⟩⟩ := hc
      · exact ld_glob (X := X.suite a ((a, oe3) :: (X.pn ++ pins))) S3 hg hm q hdbg
      · exact ld_blt (X := X.suite a ((a, oe3) :: (X.pn ++ pins))) S3 hg hm hv q hnn hdbg
    have inSuite : ∀ {h4 : Heap}, HandSPX.FlyingZ B (X.env :: X.outer) a (Zc cls d) h4 → h3.UpToSlots h4 → ∃ oe4, Zc cls d oe4 ∧ (∃ vs, oe4.data = .fields vs) ∧ Inv (X.suite a ((a, oe4) :: (X.pn ++ pins))) [] σ' H' { s' with heap := h4 } := fun {h4} fl4 up4 => by
      have J4 : Inv X pins σ' H' { s' with heap := h4 } := J.landed nb fl4.1 ((up.trans up3).trans up4) os ag
      obtain ⟨oe4, vs4, he4, hz4, hd4⟩ := fl4.there
      exact ⟨oe4, hz4, ⟨_, hd4⟩, J4.suite he4 hd4 na nL nF⟩
    have go : ∀ {hds' : List ExceptHandler} {l' : List ClR}, HdsA X hds' l' → wAll X.K Wout D l' cls d σ' H' → wpAny (model X.prog X.w) X.A (handleBy (.ref a) X.env hds') (SP X pins D) X.xe { s' with heap := h3 } := by
      intro hds' l' hk
      induction hk with
      | nil =>
        intro w
        refine wpAny_handleBy_nil ?_
        obtain ⟨k1, k2, k3, oe, vs, T, oT, ts', he, hz, hd, h1, hr⟩ := id fl3
        unfold PySem.passOn
        refine wpAny_bind (wpAny_field he hd h1 ?_)
        rw [if_neg (show ¬ ((Value.ref T == Value.none) = true) from by simp)]
        have fin : wpAny (model X.prog X.w) X.A (setFlight (.ref a) X.env.frame) (fun _ s4 => wpAny (model X.prog X.w) X.A (throw (.ref a) : Sem Flow) (SP X pins D) X.xe s4) X.xe { s' with heap := h3 } := by
          rw [hf]
          exact HandSPX.setFlight_upZ fl3 fun h4 hh4 up4 => wpAny_throw (tk _ _ ⟨a, B, sI, pins, σ', H', cls, d, rfl, J, nb, (up.trans up3).trans up4, .inr (.inr (by rw [hs]; exact hh4)), na, os, ag, w⟩)
        first
          | exact wpAny_bind (wpAny_pure (wpAny_bind fin))
          | exact wpAny_bind fin
      | @cons x c ts b₀ suite np pos' hds2 l2 hc hsu r ih =>
        intro w
        obtain ⟨b, hb1, hyes, hno⟩ := w
        refine wpAny_handleBy_cons (codeAny_handlers_test (test hc ((PySem.W.exm_one (M := model X.prog X.w) (J3.kIn) LT hb1).here ?_))) (by intro q; cases q)
        cases b with
        | true =>
          refine codeAny_handlers_suite (HandSPX.lands_againZ fl3 fun h4 fl4 up4 => ?_)
          obtain ⟨oe4, hz4, hd4, S4⟩ := inSuite fl4 up4
          refine wpAny_mono ((hsu a oe4 cls d (X.pn ++ pins) hz4 hd4).run [] _ _ H' _ S4 (hyes rfl a na)) (fun f s6 hsp => ?_) (fun _ _ z => False.elim z)
          cases f with
          | next => obtain ⟨σ6, H6, S6, q6⟩ := hsp; exact ⟨_, _, S6.unsuite ok, q6⟩
          | brk => obtain ⟨σ6, H6, S6, q6⟩ := hsp; exact ⟨_, _, S6.unsuite ok, q6⟩
          | cont => obtain ⟨σ6, H6, S6, q6⟩ := hsp; exact ⟨_, _, S6.unsuite ok, q6⟩
          | ret u => obtain ⟨v6, σ6, H6, S6, r6, q6⟩ := hsp; exact ⟨_, _, _, S6.unsuite ok, r6, q6⟩
        | false =>
          show wpAny _ X.A (handleBy (.ref a) X.env hds2) _ _ _
          exact ih (hno rfl)
      | @as x n i c ts b₀ suite np pos' hds2 l2 hc hi hln hsu r ih =>
        intro w
        obtain ⟨b, hb1, hyes, hno⟩ := w
        refine wpAny_handleBy_cons (codeAny_handlers_test (test hc ((PySem.W.exm_one (M := model X.prog X.w) (J3.kIn) LT hb1).here ?_))) (by intro q; cases q)
        cases b with
        | true =>
          refine codeAny_handlers_suite_as (HandSPX.lands_againZ fl3 fun h4 fl4 up4 => ?_)
          obtain ⟨oe4, hz4, hd4, S4⟩ := inSuite fl4 up4
          refine store_ok (X := X.suite a ((a, oe4) :: (X.pn ++ pins))) (v := .ref a) S4 hN hi (.inl hln) rfl (fun s5 S5 => ?_) (.inr hln)
          refine wpAny_mono ((hsu a oe4 cls d (X.pn ++ pins) hz4 hd4).run [] s5 _ H' _ S5 (hyes rfl a na)) (fun f s6 hsp => ?_) (fun _ _ z => False.elim z)
          have end_ : ∀ {σ6 : L2.St} {H6 : Hp} {Q : Shared → Prop}, Inv (X.suite a ((a, oe4) :: (X.pn ++ pins))) [] σ6 H6 s6 → (∀ s7, Inv X pins (σ6.set i none) H6 s7 → Q s7) →
              wpAny (model X.prog X.w) X.A (do bindName X.env n .none; unbindBehindTheSuite X.env n pos') (fun _ s7 => Q s7) X.xe s6 := fun {σ6 H6 Q} S6 hq => gone_ok (S6.unsuite ok) hN hi hln hq
          cases f with
          | next => obtain ⟨σ6, H6, S6, q6⟩ := hsp; exact end_ S6 fun s7 J7 => ⟨_, _, J7, q6⟩
          | brk => obtain ⟨σ6, H6, S6, q6⟩ := hsp; exact end_ S6 fun s7 J7 => ⟨_, _, J7, q6⟩
          | cont => obtain ⟨σ6, H6, S6, q6⟩ := hsp; exact end_ S6 fun s7 J7 => ⟨_, _, J7, q6⟩
          | ret u => obtain ⟨v6, σ6, H6, S6, r6, q6⟩ := hsp; exact end_ S6 fun s7 J7 => ⟨_, _, _, J7, r6, q6⟩
        | false =>
          show wpAny _ X.A (handleBy (.ref a) X.env hds2) _ _ _
          exact ih (hno rfl)
    exact go hh w
  · cases f with
    | next => obtain ⟨σ', H', J', q⟩ := hsp; exact wpAny_execs_nil ⟨σ', H', J'.ofTry ok, q⟩
    | brk => obtain ⟨σ', H', J', q⟩ := hsp; exact ⟨σ', H', J'.ofTry ok, q⟩
    | cont => obtain ⟨σ', H', J', q⟩ := hsp; exact ⟨σ', H', J'.ofTry ok, q⟩
    | ret u => obtain ⟨v, σ', H', J', r, q⟩ := hsp; exact ⟨v, σ', H', J'.ofTry ok, r, q⟩
end
/-! ### over data -/
structure Cl where
  c : Nat
  i : Option Nat
  g : Exn → MS
def unI (ρ : DEnv) : Option Nat → DEnv
  | none => ρ
  | some i => ρ.set i .un
def pick : List Cl → Exn → DEnv → RS
  | [], x, ρ => .exc x ρ
  | k :: r, x, ρ => if x.c = k.c then (match k.g x (unI ρ k.i) with
    | .rt d ρ' => .rt d ρ'
    | .nx ρ' => if k.i = none then .nx ρ' else .stuck
    | _ => .stuck) else pick r x ρ
def sTry (n : Nat) (b : MS) (cs : List Nat) (l : List Cl) : MS := fun ρ => match b ρ with
  | .exc x ρ1 => if x.c ∈ cs ∧ ρ1.length = n then pick l x ρ1 else .stuck
  | r => r
def tSuite (X : Cx) (suite : List Stmt) : Addr → Value → Option Addr → TS := fun a cls d D σ H => ∀ (oe : Obj) (pn : List (Addr × Obj)), Zc cls d oe → (∃ vs, oe.data = .fields vs) → tSs (X.suite a ((a, oe) :: pn)) suite D σ H
theorem pss_suite {X : Cx} {suite : List Stmt} (a : Addr) (oe : Obj) (cls : Value) (d : Option Addr) (pn : List (Addr × Obj)) (hz : Zc cls d oe) (hf : ∃ vs, oe.data = .fields vs) : PSs (X.suite a ((a, oe) :: pn)) suite (tSuite X suite a cls d) :=
  ⟨fun pins s σ H D I h => h oe pn hz hf pins s I⟩
/-- a suite over data, the exception x caught at a (in slot i, where it has a name) -/
def SimX (T : Tab) (X : Cx) (c : Nat) (i : Option Nat) (suite : List Stmt) (g : Exn → MS) : Prop := ∀ (a : Addr) (d : Option Addr) (x : Exn) (Fr : Fm) (Hc : Hp) (σ : L2.St) (H : Hp) (ρ : DEnv) (D : Ends), x.c = c → StC T Fr Hc σ H ρ → RpX T Hc H (.ref (T.cls c)) d x → H a = none →
  (∀ j, i = some j → σ[j]? = some (some (.ref a))) → PostS T W0 Fr Hc (g x ρ) D → tSuite X suite a (.ref (T.cls c)) d D σ H
/-- which of the raised classes a clause takes -/
structure Mtch (K : PySem.W.Frag) (T : Tab) (cs : List Nat) (c : Nat) : Prop where
  h : ∀ c' ∈ cs, PySem.W.exmOne K (.ref (T.cls c')) (.ref (T.cls c)) = some (decide (c' = c))
inductive ClsOk (T : Tab) (X : Cx) (cs : List Nat) : List ExceptHandler → List Cl → List ClR → Prop
  | nil : ClsOk T X cs [] [] []
  | cons {x : Str} {c : Nat} {g : Exn → MS} {b₀ : Stmt} {suite : List Stmt} {np pos' : Pos} {hds : List ExceptHandler} {l : List Cl} {l' : List ClR} (hc : Names X x (.ref (T.cls c))) (hm : Mtch X.K T cs c) (hg : SimX T X c none (b₀ :: suite) g) (r : ClsOk T X cs hds l l') :
      ClsOk T X cs (.ExceptHandler (some (.Name x np)) none (b₀ :: suite) pos' :: hds) (⟨c, none, g⟩ :: l) (⟨.ref (T.cls c), none, tSuite X (b₀ :: suite)⟩ :: l')
  | as {x n : Str} {i c : Nat} {g : Exn → MS} {b₀ : Stmt} {suite : List Stmt} {np pos' : Pos} {hds : List ExceptHandler} {l : List Cl} {l' : List ClR} (h0 : i ≠ 0) (hc : Names X x (.ref (T.cls c))) (hi : X.N[i]? = some n) (hln : X.env.kindOf n = some .local) (hm : Mtch X.K T cs c)
      (hg : SimX T X c (some i) (b₀ :: suite) g) (r : ClsOk T X cs hds l l') :
      ClsOk T X cs (.ExceptHandler (some (.Name x np)) (some n) (b₀ :: suite) pos' :: hds) (⟨c, some i, g⟩ :: l) (⟨.ref (T.cls c), some i, tSuite X (b₀ :: suite)⟩ :: l')
section
variable {T : Tab} {W : WX} {X : Cx} {cs : List Nat}
theorem ClsOk.hds {hds : List ExceptHandler} {l : List Cl} {l' : List ClR} (h : ClsOk T X cs hds l l') : HdsA X hds l' := by
  induction h with
  | nil => exact .nil
  | cons hc hm hg r ih => exact .cons hc pss_suite ih
  | as h0 hc hi hln hm hg r ih => exact .as hc hi hln pss_suite ih
theorem pick_ok {Fr : Fm} {De : Ends} {hds : List ExceptHandler} {l : List Cl} {l' : List ClR} (h : ClsOk T X cs hds l l') : ∀ {Hc H : Hp} {σ : L2.St} {ρ : DEnv} {x : Exn} {cls : Value} {d : Option Addr} (hlen : ∀ i k, k ∈ l → k.i = some i → i < σ.length), x.c ∈ cs → StC T Fr Hc σ H ρ → RpX T Hc H cls d x → PostS T W Fr Hc (pick l x ρ) De → wAll X.K W De l' cls d σ H := by
  induction h with
  | nil => intro Hc H σ ρ x cls d hlen hx S r P; exact P σ cls d Hc H (Same.refl _) S r
  | @cons y c g b₀ suite np pos' hds l l' hc hm hg r ih =>
    intro Hc H σ ρ x cls d hlen hx S rx P
    obtain ⟨rfl, rf⟩ := id rx
    refine ⟨_, hm.h x.c hx, fun hb a ha => ?_, fun hb => ?_⟩
    · have e : x.c = c := of_decide_eq_true hb
      unfold pick at P
      rw [if_pos e] at P
      subst e
      refine hg a d x Fr Hc σ H ρ De rfl S rx ha (fun j hj => by cases hj) ?_
      dsimp only [unI] at P
      cases q : g x ρ with
      | rt v ρ' => rw [q] at P; exact P
      | nx ρ' => rw [q] at P; exact P
      | bk ρ' => rw [q] at P; exact P.elim
      | ct ρ' => rw [q] at P; exact P.elim
      | exc z ρ' => rw [q] at P; exact P.elim
      | stuck => rw [q] at P; exact P.elim
    · have e : ¬ x.c = c := of_decide_eq_false hb
      unfold pick at P
      rw [if_neg e] at P
      exact ih (fun i k hk => hlen i k (List.mem_cons_of_mem _ hk)) hx S rx P
  | @as y n i c g b₀ suite np pos' hds l l' h0 hc hi hln hm hg r ih =>
    intro Hc H σ ρ x cls d hlen hx S rx P
    obtain ⟨rfl, rf⟩ := id rx
    refine ⟨_, hm.h x.c hx, fun hb a ha => ?_, fun hb => ?_⟩
    · have e : x.c = c := of_decide_eq_true hb
      unfold pick at P
      rw [if_pos e] at P
      subst e
      have lt : i < σ.length := hlen i _ List.mem_cons_self rfl
      refine hg a d x Fr Hc (σ.set i (some (.ref a))) H (ρ.set i .un) (endsAs i De) rfl (S.set_un h0) rx ha (fun j hj => by cases hj; exact List.getElem?_set_self lt) ?_
      dsimp only [unI] at P
      cases q : g x (ρ.set i .un) with
      | rt v ρ' => rw [q] at P; exact P
      | nx ρ' => rw [q] at P; exact P.elim
      | bk ρ' => rw [q] at P; exact P.elim
      | ct ρ' => rw [q] at P; exact P.elim
      | exc z ρ' => rw [q] at P; exact P.elim
      | stuck => rw [q] at P; exact P.elim
    · have e : ¬ x.c = c := of_decide_eq_false hb
      unfold pick at P
      rw [if_neg e] at P
      exact ih (fun i k hk => hlen i k (List.mem_cons_of_mem _ hk)) hx S rx P
theorem s_try {h₀ : ExceptHandler} {hds : List ExceptHandler} {l : List Cl} {l' : List ClR} {body : List Stmt} {pos : Pos} {b : MS} {n : Nat} (hs : X.stack = X.env :: X.outer) (hf : X.env.frame = some X.env.locals) (hN : X.N.Nodup) (tk : Takes X W)
    (hb : ∀ (W : WX) (pn : List (Addr × Obj)) (xe : Value → Shared → Prop), Takes (X.tr pn xe) W → PassesOwn (model X.prog X.w) X.A X.env xe → SimB T W (X.tr pn xe) body b)
    (hk : ClsOk T X cs (h₀ :: hds) l l') (hl : (l.all fun k => match k.i with | none => true | some i => decide (i < n)) = true) : SimS T W X (.Try body (h₀ :: hds) [] [] pos) (sTry n b cs l) := by
  refine simS_of (ps_try_all (tb := fun W D σ H => ∀ (pn : List (Addr × Obj)) (xe : Value → Shared → Prop), Takes (X.tr pn xe) W → PassesOwn (model X.prog X.w) X.A X.env xe → tSs (X.tr pn xe) body D σ H) hs hf hN tk (fun W pn xe t p => ⟨fun pins s σ H D I h => h pn xe t p pins s I⟩) hk.hds) fun Fr Hc σ H ρ De S P => ?_
  have hlen : ∀ i k, k ∈ l → k.i = some i → i < n := fun i k hk hi => by
    have z := List.all_eq_true.mp hl k hk
    rw [hi] at z
    exact of_decide_eq_true z
  intro pn xe t p
  refine hb _ pn xe t p Fr Hc σ H ρ De S ?_
  unfold sTry at P
  cases q : b ρ with
  | exc x ρ1 =>
    rw [q] at P
    dsimp only at P
    split at P
    · rename_i hx
      intro σ1 cls da Hc1 H1 e1 S1 r1
      exact pick_ok hk (fun i k hk hi => by rw [S1.ln, hx.2]; exact hlen i k hk hi) hx.1 S1 r1 (P.up e1)
    · exact P.elim
  | nx ρ1 => rw [q] at P; exact P
  | rt d ρ1 => rw [q] at P; exact P
  | bk ρ1 => rw [q] at P; exact P
  | ct ρ1 => rw [q] at P; exact P
  | stuck => rw [q] at P; exact P
/-- a suite that doesn't ask the exception -/
theorem suite_of {c : Nat} {suite : List Stmt} {g : MS} (h : ∀ (a : Addr) (pn : List (Addr × Obj)), SimB T W0 (X.suite a pn) suite g) : SimX T X c none suite (fun _ => g) := fun a d x Fr Hc σ H ρ D _ S _ _ _ P oe pn hz hf => h a ((a, oe) :: pn) Fr Hc σ H ρ D S P
/-- return (text, e.f) -/
def gXf (z : Str) (f : Str) (x : Exn) : MS := fun ρ => match x.fs.lookup f with
  | some d => .rt (.tup [.str z, d]) ρ
  | none => .stuck
theorem suite_xf {c i : Nat} {y z f : Str} {j k : Nat} {p1 p2 p3 p4 p5 : Pos} (xf : XfC X.K (T.cls c)) (hno : PySem.W.findIn X.K (.ref (T.cls c)) f = some none)
    (hv : ∀ (a : Addr) (pn : List (Addr × Obj)), PE (X.suite a pn) (.Name y p1) (tVar i)) (hb : attributeBase (.Name y p1) f X.env (eval (.Name y p1) X.env) = eval (.Name y p1) X.env := by rfl)
    (h1 : ∀ (a : Addr) (pn : List (Addr × Obj)), starEach [.Constant (.str z) j p3, .Attribute (.Name y p1) f p2] (X.suite a pn).env = (false, eval (.Constant (.str z) j p3) (X.suite a pn).env) :: starEach [.Attribute (.Name y p1) f p2] (X.suite a pn).env := by intro _ _; rfl)
    (h2 : ∀ (a : Addr) (pn : List (Addr × Obj)), starEach [.Attribute (.Name y p1) f p2] (X.suite a pn).env = (false, eval (.Attribute (.Name y p1) f p2) (X.suite a pn).env) :: starEach [] (X.suite a pn).env := by intro _ _; rfl) :
    SimX T X c (some i) [.Return (some (.Tuple [.Constant (.str z) j p3, .Attribute (.Name y p1) f p2] k p4)) p5] (gXf z f) := fun a d x Fr Hc σ H ρ D hc S rx _ hσ P oe pn hz hf => by
  unfold gXf at P
  split at P
  · rename_i dv hl
    have pe : PSs (X.suite a ((a, oe) :: pn)) [.Return (some (.Tuple [.Constant (.str z) j p3, .Attribute (.Name y p1) f p2] k p4)) p5] _ := pss_one (ps_ret (pe_tup (pa_cons pe_str (pa_cons (pe_xf (pn := pn) xf hno hz hf (hv a ((a, oe) :: pn)) hb) pa_nil (h2 a _)) (h1 a _))))
    refine fun pins s I => pe.run pins s σ H D I ?_
    obtain ⟨_, rf⟩ := rx
    rcases rf with e | ⟨dd, vs, rfl, hd, rr⟩
    · rw [e] at hl; cases hl
    · obtain ⟨u, hu, ru⟩ := rr.lookup hl
      refine ⟨.ref a, hσ i rfl, rfl, rfl, dd, vs, u, rfl, hd, hu, ?_⟩
      refine ⟨by show 2 ≤ sizeLine; decide, fun p hp => ?_⟩
      obtain ⟨e2, S2⟩ := S.laid (o := .tup [.str z, u]) hp
      exact P _ σ _ _ e2 S2 (.tup upd_same (.cons (.str z) (.cons (ru.mono e2) .nil)))
  · exact P.elim
end
end PD
set_option maxRecDepth 100000
/-! PD21: more forms. -/
namespace PD
open PySem PySem.Spec PyProof.Rows L2
open NdefX (NF NScope ncx startF envF)
section
variable {T : Tab} {W : WX} {X : Cx} {p pos : Pos} {e : Expr} {es : List Expr} {fA : M (List D)}
theorem x_callBN {id : String} {x : Str} {r : List V → Hp → VK → Prop} {g : List D → Option D} (hc : CallR X (.builtin id) r) (og : ClN T r g) (hg : Gl X x) (hm : X.mg x = none) (hv : bootBuiltins x = some (.builtin id)) (ha : SimA T W X (e :: es) fA)
    (hn : x ≠ "__name__" := by decide) (hdb : (x == ("__debug__" : Str)) = false := by decide) (he : starEach (e :: es) X.env = (false, eval e X.env) :: starEach es X.env := by rfl) (hpl : (backTo pos (starEach es X.env)).any (·.1) = false := by rfl) :
    SimN T W X (.Call (.Name x p) (e :: es) [] pos) (eCall g fA) := simN_of (pe_callB hc hg hm hv pa_tA hn hdb he hpl) (rd_callN og ha)
end
/-- a def that is never reached so deep -/
theorem fk_stuck {P : Program} {w : World} {K : PySem.W.Frag} {mg : Str → Option Value} {base : Heap} {k m : Nat} {x : Str} {ps : List Str} {st : Stmt} {T : Tab} (d : Dn K mg x st) (hb : BindsP x x (defArgs st) (defBody st) (defScope st) ps) (hm : m = ps.length) : Fk P w K mg base k x ps (spF T m fun _ => .stuck) := by
  obtain ⟨f, fd, F, g⟩ := d.ex
  exact ⟨f, fd, ⟨fun vs H Q E q => by obtain ⟨Hc, ds, l, _⟩ := q; rw [l, hm], fun A outer s H args us vs Q E hr he hbd r q => by obtain ⟨Hc, ds, _, _, _, z⟩ := q; exact z.elim⟩, g, F.kp, F.bindsN hb⟩
/-- the def that super().nm finds stands at f -/
structure Ds (K : PySem.W.Frag) (C D : Addr) (nm qual : Str) (st : Stmt) : Prop where
  ex : ∃ f fd, FunD K nm qual (defArgs st) (defBody st) (defScope st) [] [] f fd ∧ SupM K C D nm f
theorem fs_O {P : Program} {w : World} {K : PySem.W.Frag} {mg : Str → Option Value} {base : Heap} {k n m : Nat} {nm qual : Str} {C D0 : Addr} {ps N : List Str} {st : Stmt} {T : Tab} {b : MS} (d : Ds K C D0 nm qual st) (S : FnScope N ps (defScope st)) (hb : BindsP nm qual (defArgs st) (defBody st) (defScope st) ps) (hm : m = ps.length) (hn : N.length = n)
    (h : ∀ (f : Addr) (cdv : Value) (A : Around) (outer : List Env) (s : Shared) (H : Hp) (E : XK), Room k (A.deeper (envOfC qual (defScope st) s.heap.objs.size f cdv)) →
      SimB T (fun cls d _ H => E cls d H) (cxOf (L2.CX P w) P w K mg base N qual (defScope st) f cdv A outer s H E) (defBody st) b) : Fs' P w K mg base (k + 1) C D0 nm ps (spO T m (runO n m b)) := by
  obtain ⟨f, fd, F, g⟩ := d.ex
  exact ⟨f, fd, fn_O F S hm hn (h f), g, F.bindsN hb⟩
theorem Fs'.up {P : Program} {w : World} {K : PySem.W.Frag} {mg : Str → Option Value} {base : Heap} {j k : Nat} {nm : Str} {C D0 : Addr} {ps : List Str} {sp : Sp} (h : Fs' P w K mg base j C D0 nm ps sp) (l : j ≤ k) : Fs' P w K mg base k C D0 nm ps sp := by
  obtain ⟨f, fd, a, b⟩ := h.ex
  exact ⟨f, fd, a.mono l, b⟩
theorem call_1 {v : V} {e : Nat} : [v].length ≤ 1000 := by show 1 ≤ 1000; decide
end PD
set_option maxRecDepth 100000
/-! PD22: a list of new lists, its places stored: xs = [[..] * n for ..], for ..: xs[i][j] = v. -/
namespace PD
open PySem PySem.Spec PyProof.Rows L2
def look2 : List Addr → List (List V) → Addr → Option (List V)
  | b :: bs, v :: vs, a => if a = b then some v else look2 bs vs a
  | _, _, _ => none
def mHp (D : Addr) (bs : List Addr) (vss : List (List V)) (base : Hp) : Hp := fun a => if a = D then some (.lst (bs.map V.ref)) else match look2 bs vss a with
  | some vs => some (.lst vs)
  | none => base a
theorem look2_none : ∀ {bs : List Addr} {vss : List (List V)} {a : Addr}, a ∉ bs → look2 bs vss a = none
  | [], _, _, _ => by unfold look2; rfl
  | _ :: _, [], _, _ => by unfold look2; rfl
  | b :: bs, v :: vs, a, h => by
    unfold look2
    rw [if_neg fun e => h (by rw [e]; exact List.mem_cons_self)]
    exact look2_none fun m => h (List.mem_cons_of_mem _ m)
theorem look2_at : ∀ {bs : List Addr} {vss : List (List V)} {k : Nat} {b : Addr} {vs : List V}, bs.Nodup → bs[k]? = some b → vss[k]? = some vs → look2 bs vss b = some vs
  | [], _, _, _, _, _, h, _ => by simp at h
  | _ :: _, [], _, _, _, _, _, h => by simp at h
  | c :: bs, u :: us, 0, b, vs, nd, h1, h2 => by
    simp at h1 h2; subst h1; subst h2
    unfold look2; rw [if_pos rfl]
  | c :: bs, u :: us, k + 1, b, vs, nd, h1, h2 => by
    obtain ⟨n1, n2⟩ := List.nodup_cons.mp nd
    have hb : bs[k]? = some b := by simpa using h1
    unfold look2
    rw [if_neg fun e => n1 (by rw [← e]; exact List.mem_of_getElem? hb)]
    exact look2_at n2 hb (by simpa using h2)
theorem look2_some : ∀ {bs : List Addr} {vss : List (List V)} {a : Addr} {v : List V}, look2 bs vss a = some v → a ∈ bs
  | [], _, _, _, h => by unfold look2 at h; cases h
  | _ :: _, [], _, _, h => by unfold look2 at h; cases h
  | b :: bs, u :: us, a, v, h => by
    unfold look2 at h
    by_cases e : a = b
    · rw [e]; exact List.mem_cons_self
    · rw [if_neg e] at h; exact List.mem_cons_of_mem _ (look2_some h)
theorem look2_app : ∀ {bs : List Addr} {vss : List (List V)} {a p : Addr} {v : List V}, bs.length = vss.length → look2 (bs ++ [p]) (vss ++ [v]) a = (match look2 bs vss a with
    | some u => some u
    | none => if a = p then some v else none)
  | [], [], a, p, v, _ => by simp [look2]
  | b :: bs, u :: us, a, p, v, h => by
    rw [List.cons_append, List.cons_append]
    unfold look2
    by_cases e : a = b
    · rw [if_pos e, if_pos e]
    · rw [if_neg e, if_neg e]
      exact look2_app (by simpa using h)
theorem look2_set : ∀ {bs : List Addr} {vss : List (List V)} {a : Addr} {k : Nat} {b : Addr} {v : List V}, bs.Nodup → bs.length = vss.length → bs[k]? = some b → look2 bs (vss.set k v) a = if a = b then some v else look2 bs vss a
  | [], [], _, _, _, _, _, _, h => by simp at h
  | c :: bs, u :: us, a, 0, b, v, nd, hl, h => by
    simp at h; subst h
    rw [List.set_cons_zero]
    unfold look2
    by_cases e : a = c
    · rw [if_pos e, if_pos e]
    · rw [if_neg e, if_neg e, if_neg e]
  | c :: bs, u :: us, a, k + 1, b, v, nd, hl, h => by
    obtain ⟨n1, n2⟩ := List.nodup_cons.mp nd
    have hb : bs[k]? = some b := by simpa using h
    have ncb : ¬ c = b := fun e => n1 (by rw [e]; exact List.mem_of_getElem? hb)
    rw [List.set_cons_succ]
    unfold look2
    by_cases e : a = c
    · rw [if_pos e, if_neg (by rw [e]; exact ncb), if_pos e]
    · rw [if_neg e, if_neg e]
      exact look2_set n2 (by simpa using hl) hb
/-- the new lists in the frame -/
structure MatS (T : Tab) (Fr : Fm) (Hc : Hp) (σ : L2.St) (H : Hp) (ρ : DEnv) (D : Addr) (bs : List Addr) (vss : List (List V)) (m : List (List PD.D)) : Prop where
  S : StC T ⟨mHp D bs vss Fr.fr, Fr.pin⟩ Hc σ H ρ
  nd : bs.Nodup
  nD : D ∉ bs
  len : bs.length = vss.length
  fD : Fr.fr D = none
  fb : ∀ b ∈ bs, Fr.fr b = none
  lm : vss.length = m.length
  r : ∀ (k : Nat) (vs : List V) (ds : List PD.D), vss[k]? = some vs → m[k]? = some ds → Rps T Hc vs ds
section
variable {T : Tab} {Fr : Fm} {Hc Hc' H : Hp} {σ : L2.St} {ρ : DEnv} {D : Addr} {bs : List Addr} {vss : List (List V)} {m : List (List PD.D)}
theorem mHp_at (nd : bs.Nodup) (nD : D ∉ bs) {base : Hp} {k : Nat} {b : Addr} {vs : List V} (h1 : bs[k]? = some b) (h2 : vss[k]? = some vs) : mHp D bs vss base b = some (.lst vs) := by
  unfold mHp
  rw [if_neg fun e => nD (by rw [← e]; exact List.mem_of_getElem? h1), look2_at nd h1 h2]
theorem mHp_off {base : Hp} {a : Addr} (h1 : a ≠ D) (h2 : a ∉ bs) : mHp D bs vss base a = base a := by
  unfold mHp
  rw [if_neg h1, look2_none h2]
theorem mHp_base {base : Hp} (fD : base D = none) (fb : ∀ b ∈ bs, base b = none) : Same base (mHp D bs vss base) := fun a o e => by
  rw [mHp_off (fun z => by rw [z, fD] at e; cases e) (fun z => by rw [fb a z] at e; cases e)]
  exact e
theorem MatS.atD (M : MatS T Fr Hc σ H ρ D bs vss m) : H D = some (.lst (bs.map V.ref)) := M.S.fr _ _ (by show mHp D bs vss Fr.fr D = _; unfold mHp; rw [if_pos rfl])
theorem MatS.at (M : MatS T Fr Hc σ H ρ D bs vss m) {k : Nat} {b : Addr} {vs : List V} (h1 : bs[k]? = some b) (h2 : vss[k]? = some vs) : H b = some (.lst vs) := M.S.fr _ _ (mHp_at M.nd M.nD h1 h2)
/-- the frame forgets them -/
theorem StC.weak {fr : Hp} {Fr : Fm} (e : Same Fr.fr fr) (S : StC T ⟨fr, Fr.pin⟩ Hc σ H ρ) : StC T Fr Hc σ H ρ := by
  refine ⟨e.trans S.fr, S.hc, fun b u hb hu => S.dj b u (e b u hb) hu, S.ln, fun i => ?_, S.ds, S.pn⟩
  have h := S.sl i
  cases er : ρ[i]? with
  | none => trivial
  | some s =>
    rw [er] at h
    cases s with
    | un => trivial
    | val d => exact h
    | own d =>
      obtain ⟨a, h1, h2, h3, h4⟩ := h
      exact ⟨a, h1, e.free h2, h3, h4⟩
theorem MatS.weak (M : MatS T Fr Hc σ H ρ D bs vss m) : StC T Fr Hc σ H ρ := M.S.weak (mHp_base M.fD M.fb)
/-- the state moves on, the lists as they stand -/
theorem MatS.next (M : MatS T Fr Hc σ H ρ D bs vss m) {σ' : L2.St} {H' : Hp} {ρ' : DEnv} (e : Same Hc Hc') (S' : StC T ⟨mHp D bs vss Fr.fr, Fr.pin⟩ Hc' σ' H' ρ') : MatS T Fr Hc' σ' H' ρ' D bs vss m :=
  ⟨S', M.nd, M.nD, M.len, M.fD, M.fb, M.lm, fun k vs ds h1 h2 => (M.r k vs ds h1 h2).mono e⟩
theorem MatS.start (S : StC T Fr Hc σ H ρ) (hD : H D = none) : MatS T Fr Hc σ (upd H D (.lst [])) ρ D [] [] [] := by
  refine ⟨?_, List.nodup_nil, by simp, rfl, S.fr.free hD, fun b hb => (by simp at hb), rfl, fun k vs ds h => by simp at h⟩
  have z := S.plus (o := .lst []) hD
  have e : (Fr.plus D (.lst [])) = ⟨mHp D [] [] Fr.fr, Fr.pin⟩ := by
    show (⟨upd Fr.fr D (.lst []), Fr.pin⟩ : Fm) = _
    congr 1
  rw [e] at z
  exact z
/-- one more new list -/
theorem MatS.push (M : MatS T Fr Hc σ H ρ D bs vss m) {p : Addr} {ds : List PD.D} (n : Nw T ⟨mHp D bs vss Fr.fr, Fr.pin⟩ Hc σ H ρ p (.lst ds)) : ∃ v, MatS T Fr Hc σ (upd H D (.lst ((bs ++ [p]).map V.ref))) ρ D (bs ++ [p]) (vss ++ [v]) (m ++ [ds]) := by
  obtain ⟨v, hv, rv⟩ := n.b
  have np : mHp D bs vss Fr.fr p = none := n.f
  have pD : p ≠ D := fun e => by
    unfold mHp at np
    rw [if_pos e] at np
    cases np
  have pb : p ∉ bs := fun hb => by
    obtain ⟨k, hk⟩ := List.mem_iff_getElem?.mp hb
    have lt : k < vss.length := by rw [← M.len]; exact (List.getElem?_eq_some_iff.mp hk).1
    rw [mHp_at M.nd M.nD hk (List.getElem?_eq_getElem lt)] at np
    cases np
  have pF : Fr.fr p = none := by
    rw [mHp_off pD pb] at np
    exact np
  have ex : ∀ a, a ≠ D → a ≠ p → mHp D (bs ++ [p]) (vss ++ [v]) Fr.fr a = mHp D bs vss Fr.fr a := fun a h1 h2 => by
    unfold mHp
    rw [if_neg h1, if_neg h1, look2_app M.len]
    cases look2 bs vss a with
    | some u => rfl
    | none => simp only [if_neg h2]
  have ep : mHp D (bs ++ [p]) (vss ++ [v]) Fr.fr p = some (.lst v) := by
    unfold mHp
    rw [if_neg pD, look2_app M.len, look2_none pb]
    simp
  have eD : mHp D (bs ++ [p]) (vss ++ [v]) Fr.fr D = some (.lst ((bs ++ [p]).map V.ref)) := by unfold mHp; rw [if_pos rfl]
  have cD : Hc D = none := M.S.dj D (.lst (bs.map V.ref)) (by show mHp D bs vss Fr.fr D = _; unfold mHp; rw [if_pos rfl]) trivial
  refine ⟨v, ⟨⟨fun a o ha => ?_, fun a o ha => ?_, fun a o ha ho => ?_, M.S.ln, fun i => ?_, M.S.ds, M.S.pn⟩, ?_, ?_, ?_, M.fD, ?_, ?_, ?_⟩⟩
  · by_cases h1 : a = D
    · subst h1
      have ha' : mHp a (bs ++ [p]) (vss ++ [v]) Fr.fr a = some o := ha
      rw [eD] at ha'
      rw [upd_same]; exact ha'
    · rw [upd_ne h1]
      by_cases h2 : a = p
      · subst h2
        have ha' : mHp D (bs ++ [a]) (vss ++ [v]) Fr.fr a = some o := ha
        rw [ep] at ha'
        rw [hv]; exact ha'
      · have ha' : mHp D (bs ++ [p]) (vss ++ [v]) Fr.fr a = some o := ha
        rw [ex a h1 h2] at ha'
        exact M.S.fr a o ha'
  · rw [upd_ne (ne_of_none ha cD)]
    exact M.S.hc a o ha
  · by_cases h1 : a = D
    · rw [h1]; exact cD
    · by_cases h2 : a = p
      · rw [h2]; exact n.c
      · have ha' : mHp D (bs ++ [p]) (vss ++ [v]) Fr.fr a = some o := ha
        rw [ex a h1 h2] at ha'
        exact M.S.dj a o ha' ho
  · have h := M.S.sl i
    cases er : ρ[i]? with
    | none => trivial
    | some s =>
      rw [er] at h
      cases s with
      | un => trivial
      | val d => exact h
      | own d =>
        obtain ⟨a, h1, h2, h3, h4⟩ := h
        have h2' : mHp D bs vss Fr.fr a = none := h2
        have aD : a ≠ D := fun e => by unfold mHp at h2'; rw [if_pos e] at h2'; cases h2'
        have ap : a ≠ p := fun e => n.o i (by rw [h1, e]) (by rw [er]; rfl)
        refine ⟨a, h1, ?_, h3, by rw [upd_ne aD]; exact h4⟩
        show mHp D (bs ++ [p]) (vss ++ [v]) Fr.fr a = none
        rw [ex a aD ap]; exact h2'
  · exact List.nodup_append.mpr ⟨M.nd, by simp, fun a ha b hb => by simp at hb; subst hb; exact fun e => pb (e ▸ ha)⟩
  · intro h
    rcases List.mem_append.mp h with h | h
    · exact M.nD h
    · exact pD (List.mem_singleton.mp h).symm
  · rw [List.length_append, List.length_append, M.len] <;> rfl
  · intro b hb
    rcases List.mem_append.mp hb with hb | hb
    · exact M.fb b hb
    · rw [List.mem_singleton.mp hb]; exact pF
  · rw [List.length_append, List.length_append, M.lm] <;> rfl
  · intro k vs es h1 h2
    by_cases hk : k < vss.length
    · rw [List.getElem?_append_left hk] at h1
      rw [List.getElem?_append_left (by rw [← M.lm]; exact hk)] at h2
      exact M.r k vs es h1 h2
    · rw [List.getElem?_append_right (Nat.not_lt.mp hk)] at h1
      rw [List.getElem?_append_right (by rw [← M.lm]; exact Nat.not_lt.mp hk), ← M.lm] at h2
      by_cases z : k - vss.length = 0
      · rw [z] at h1 h2
        simp at h1 h2
        subst h1; subst h2
        exact rv
      · rw [List.getElem?_eq_none (by simp; omega)] at h1; cases h1
/-- a place is stored -/
theorem MatS.put (M : MatS T Fr Hc σ H ρ D bs vss m) {k : Nat} {b : Addr} {vs : List V} {ds : List PD.D} (j : Nat) {x : V} {y : PD.D} (h1 : bs[k]? = some b) (h2 : vss[k]? = some vs) (h3 : m[k]? = some ds) (rx : Rp T Hc x y) :
    MatS T Fr Hc σ (upd H b (.lst (vs.set j x))) ρ D bs (vss.set k (vs.set j x)) (m.set k (ds.set j y)) := by
  have bD : b ≠ D := fun e => M.nD (by rw [← e]; exact List.mem_of_getElem? h1)
  have mb := List.mem_of_getElem? h1
  have kl : k < vss.length := (List.getElem?_eq_some_iff.mp h2).1
  have km : k < m.length := (List.getElem?_eq_some_iff.mp h3).1
  have ex : ∀ a, a ≠ b → mHp D bs (vss.set k (vs.set j x)) Fr.fr a = mHp D bs vss Fr.fr a := fun a h => by
    unfold mHp
    rw [look2_set M.nd M.len h1, if_neg h]
  have eb : mHp D bs (vss.set k (vs.set j x)) Fr.fr b = some (.lst (vs.set j x)) := by
    unfold mHp
    rw [if_neg bD, look2_set M.nd M.len h1, if_pos rfl]
  have cb : Hc b = none := M.S.dj b (.lst vs) (mHp_at M.nd M.nD h1 h2) trivial
  refine ⟨⟨fun a o ha => ?_, fun a o ha => ?_, fun a o ha ho => ?_, M.S.ln, fun i => ?_, M.S.ds, M.S.pn⟩, M.nd, M.nD, by rw [List.length_set]; exact M.len, M.fD, M.fb, by rw [List.length_set, List.length_set]; exact M.lm, fun l us es g1 g2 => ?_⟩
  · have ha' : mHp D bs (vss.set k (vs.set j x)) Fr.fr a = some o := ha
    by_cases h : a = b
    · subst h; rw [eb] at ha'; rw [upd_same]; exact ha'
    · rw [ex a h] at ha'; rw [upd_ne h]; exact M.S.fr a o ha'
  · rw [upd_ne (ne_of_none ha cb)]; exact M.S.hc a o ha
  · have ha' : mHp D bs (vss.set k (vs.set j x)) Fr.fr a = some o := ha
    by_cases h : a = b
    · rw [h]; exact cb
    · rw [ex a h] at ha'; exact M.S.dj a o ha' ho
  · have h := M.S.sl i
    cases er : ρ[i]? with
    | none => trivial
    | some s =>
      rw [er] at h
      cases s with
      | un => trivial
      | val d => exact h
      | own d =>
        obtain ⟨a, g1, g2, g3, g4⟩ := h
        have g2' : mHp D bs vss Fr.fr a = none := g2
        have ab : a ≠ b := fun e => by rw [e, mHp_at M.nd M.nD h1 h2] at g2'; cases g2'
        refine ⟨a, g1, ?_, g3, by rw [upd_ne ab]; exact g4⟩
        show mHp D bs (vss.set k (vs.set j x)) Fr.fr a = none
        rw [ex a ab]; exact g2'
  · by_cases e : k = l
    · subst e
      rw [List.getElem?_set_self kl] at g1
      rw [List.getElem?_set_self km] at g2
      cases g1; cases g2
      exact Rps.set rx j (M.r k vs ds h2 h3)
    · rw [List.getElem?_set_ne e] at g1 g2
      exact M.r l us es g1 g2
theorem Rps.refs : ∀ {bs : List Addr} {vss : List (List V)} {m : List (List PD.D)} {Hx : Hp}, bs.length = vss.length → vss.length = m.length → (∀ (k : Nat) (b : Addr) (vs : List V), bs[k]? = some b → vss[k]? = some vs → Hx b = some (.lst vs)) →
    (∀ (k : Nat) (vs : List V) (ds : List PD.D), vss[k]? = some vs → m[k]? = some ds → Rps T Hx vs ds) → Rps T Hx (bs.map V.ref) (m.map PD.D.lst)
  | [], [], [], _, _, _, _, _ => .nil
  | b :: bs, v :: vs, d :: ds, Hx, h1, h2, h3, h4 => .cons (.lst (h3 0 b v rfl rfl) (h4 0 v d rfl rfl)) (Rps.refs (by simpa using h1) (by simpa using h2) (fun k b' v' e1 e2 => h3 (k + 1) b' v' (by simpa using e1) (by simpa using e2)) fun k v' d' e1 e2 => h4 (k + 1) v' d' (by simpa using e1) (by simpa using e2))
/-- they become a value -/
theorem MatS.frozen (M : MatS T Fr Hc σ H ρ D bs vss m) : ∃ Hc', Same Hc Hc' ∧ StC T Fr Hc' σ H ρ ∧ Rp T Hc' (.ref D) (.lst (m.map PD.D.lst)) := by
  have cD : Hc D = none := M.S.dj D (.lst (bs.map V.ref)) (by show mHp D bs vss Fr.fr D = _; unfold mHp; rw [if_pos rfl]) trivial
  have cb : ∀ b ∈ bs, Hc b = none := fun b hb => by
    obtain ⟨k, hk⟩ := List.mem_iff_getElem?.mp hb
    have lt : k < vss.length := by rw [← M.len]; exact (List.getElem?_eq_some_iff.mp hk).1
    exact M.S.dj b _ (mHp_at M.nd M.nD hk (List.getElem?_eq_getElem lt)) trivial
  have e : Same Hc (mHp D bs vss Hc) := mHp_base cD cb
  have hH : ∀ a o, mHp D bs vss Hc a = some o → Hc a = none → H a = some o ∧ Fr.fr a = none := fun a o ha hn => by
    unfold mHp at ha
    by_cases h1 : a = D
    · rw [if_pos h1] at ha
      cases ha
      rw [h1]
      exact ⟨M.atD, M.fD⟩
    · rw [if_neg h1] at ha
      cases q : look2 bs vss a with
      | some vs =>
        rw [q] at ha
        cases ha
        refine ⟨M.S.fr a _ (by show mHp D bs vss Fr.fr a = _; unfold mHp; rw [if_neg h1, q]), M.fb a (look2_some q)⟩
      | none =>
        rw [q] at ha
        dsimp only at ha
        rw [hn] at ha
        cases ha
  refine ⟨_, e, ⟨M.weak.fr, fun a o ha => ?_, fun a o ha ho => ?_, M.S.ln, fun i => ?_, M.S.ds, M.S.pn⟩, .lst (vs := bs.map V.ref) (by unfold mHp; rw [if_pos rfl]) (Rps.refs M.len M.lm (fun k b vs h1 h2 => mHp_at M.nd M.nD h1 h2) fun k vs ds h1 h2 => (M.r k vs ds h1 h2).mono e)⟩
  · cases q : Hc a with
    | none => exact (hH a o ha q).1
    | some o' =>
      have z := e a o' q
      rw [ha] at z
      cases z
      exact M.S.hc a o q
  · cases q : mHp D bs vss Hc a with
    | none => rfl
    | some o' =>
      have cn := M.weak.dj a o ha ho
      have z := (hH a o' q cn).2
      rw [ha] at z
      cases z
  · have h := M.S.sl i
    cases er : ρ[i]? with
    | none => trivial
    | some s =>
      rw [er] at h
      cases s with
      | un => trivial
      | val d => obtain ⟨v, g1, g2⟩ := h; exact ⟨v, g1, g2.mono e⟩
      | own d =>
        obtain ⟨a, g1, g2, g3, g4⟩ := h
        have g2' : mHp D bs vss Fr.fr a = none := g2
        have aD : a ≠ D := fun e => by unfold mHp at g2'; rw [if_pos e] at g2'; cases g2'
        have ab : a ∉ bs := fun hb => by
          obtain ⟨k, hk⟩ := List.mem_iff_getElem?.mp hb
          have lt : k < vss.length := by rw [← M.len]; exact (List.getElem?_eq_some_iff.mp hk).1
          rw [mHp_at M.nd M.nD hk (List.getElem?_eq_getElem lt)] at g2'
          cases g2'
        refine ⟨a, g1, by rw [mHp_off aD ab] at g2'; exact g2', by rw [mHp_off aD ab]; exact g3, g4.mono e⟩
end
end PD
set_option maxRecDepth 100000
/-! PD23: the same as statements. -/
namespace PD
open PySem PySem.Spec PyProof.Rows L2
def matLoop (vs : List Nat) (tg : GD) (fe : M D) : List D → DEnv → List (List D) → RM (List (List D))
  | [], ρ, acc => .ok acc ρ
  | d :: r, ρ, acc => match tg d ρ with
    | none => .stuck
    | some ρ1 => match fe ρ1 with
      | .ok (.lst y) ρ2 => if acc.length < 100000 then matLoop vs tg fe r (wipeD ρ2 vs) (acc ++ [y]) else .stuck
      | _ => .stuck
def eMat (vs : List Nat) (fi : M (List D)) (tg : GD) (fe : M D) : M (List (List D)) := fun ρ => (fi ρ).bind fun ds ρ1 => matLoop vs tg fe ds (wipeD ρ1 vs) []
def matFor (tg : GD) (f1 f2 f3 : M D) : List D → DEnv → List (List D) → RM (List (List D))
  | [], ρ, m => .ok m ρ
  | d :: r, ρ, m => match tg d ρ with
    | none => .stuck
    | some ρ1 => match f3 ρ1 with
      | .ok w ρ2 => (match f1 ρ2 with
        | .ok (.int i) ρ3 => (match f2 ρ3 with
          | .ok (.int j) ρ4 => (match ixN m.length i with
            | some k => (match m[k]? with
              | some row => (match ixN row.length j with
                | some l => matFor tg f1 f2 f3 r ρ4 (m.set k (row.set l w))
                | none => .stuck)
              | none => .stuck)
            | none => .stuck)
          | _ => .stuck)
        | _ => .stuck)
      | _ => .stuck
def sMat (wi : Nat) (em : M (List (List D))) (fi : M (List D)) (tg : GD) (f1 f2 f3 : M D) (g : MS) : MS := fun ρ => RS.ofT (em ρ) fun m ρ1 => if wi < ρ1.length then (RS.ofT (fi (ρ1.set wi .un)) fun ds ρ2 => RS.ofT (matFor tg f1 f2 f3 ds ρ2 m) fun m' ρ3 => g (ρ3.set wi (.val (.lst (m'.map .lst))))) else .stuck
section
variable {T : Tab} {W : WX} {X : Cx} {wi : TI} {g : TG} {te : TE} {fi : M (List D)} {tg : GD} {fe : M D} {vs js : List Nat}
theorem rd_mat (h0 : ∀ v ∈ vs, v ≠ 0) (hj : ∀ j ∈ js, j ∈ vs) (hi : RdI T W wi fi) (hg : RdW T g tg js) (he : RdN T W0 te fe) {Fr : Fm} {Hc : Hp} {σ : L2.St} {H : Hp} {ρ : DEnv} (S : StC T Fr Hc σ H ρ) {Q : VK}
    (P : PostR T W Fr Hc σ (eMat vs fi tg fe ρ) (fun m ρ' Hc' H' => ∀ D bs vss, MatS T Fr Hc' σ H' ρ' D bs vss m → Q (.ref D) H')) : tLc wi g tYes te vs σ H Q := by
  refine hi.use S (PostR.bind P) fun ds ρ1 J Hc1 H1 e1 S1 P1 ok => ?_
  intro D hD
  refine ⟨fun i m H' => m = ds.length - i ∧ i ≤ ds.length ∧ ∃ Hc2 ρ2 bs vss das, Same Hc1 Hc2 ∧ MatS T Fr Hc2 (wipe σ vs) H' ρ2 D bs vss das ∧ Bare ρ2 vs ∧
    PostR T W Fr Hc2 σ (matLoop vs tg fe (ds.drop i) ρ2 das) (fun m ρ' Hc' H' => ∀ D bs vss, MatS T Fr Hc' σ H' ρ' D bs vss m → Q (.ref D) H'),
    ⟨_, rfl, Nat.zero_le _, Hc1, wipeD ρ1 vs, [], [], [], Same.refl _, MatS.start (S1.wipe h0) hD, bare_wipe _ _, P1⟩, ?_⟩
  rintro i m H2 ⟨rfl, hi, Hc2, ρ2, bs, vss, das, e2, M2, b2, P2⟩
  by_cases l : i < ds.length
  · refine .inr ⟨ok.go i H2 (e2.trans M2.S.hc) l, _, fun H' n => ⟨ds.length - (i + 1), by omega, n⟩, fun x H3 y => ?_⟩
    obtain ⟨Hc3, e3, S3, r3⟩ := ok.yld i H2 x H3 _ _ ρ2 Hc2 _ M2.S e2 (List.getElem?_eq_getElem l) y
    rw [List.drop_eq_getElem_cons l] at P2
    unfold matLoop at P2
    cases g1 : tg ds[i] ρ2 with
    | none => rw [g1] at P2; exact P2.elim
    | some ρ3 =>
      rw [g1] at P2
      refine hg _ Hc3 _ H3 ρ2 ρ3 x _ S3 r3 g1 _ fun σ4 S4 w4 => ?_
      have wq : wipe σ4 vs = wipe σ vs := w4 vs hj |>.trans (wipe_wipe fun _ h => h)
      refine ⟨wq, ?_⟩
      unfold tYes
      dsimp only
      rw [if_pos rfl]
      refine he _ Hc3 σ4 H3 ρ3 S4 _ ?_
      dsimp only at P2
      cases g3 : fe ρ3 with
      | ok y' ρ5 =>
        rw [g3] at P2
        intro Hc5 H5 e5 S6 p np
        cases y' with
        | lst ys =>
          dsimp only at P2
          split at P2
          · rename_i la
            have M6 : MatS T Fr Hc5 σ4 H5 ρ5 D bs vss das := M2.next (e3.trans e5) S6
            obtain ⟨v, M7⟩ := M6.push np
            have M8 : MatS T Fr Hc5 (wipe σ vs) (upd H5 D (.lst ((bs ++ [p]).map V.ref))) (wipeD ρ5 vs) D (bs ++ [p]) (vss ++ [v]) (das ++ [ys]) := by
              rw [← wq]
              exact M7.next (Same.refl _) (M7.S.wipe h0)
            refine ⟨bs.map V.ref, M6.atD, line_lt (by rw [List.length_map, M6.len, M6.lm]; exact la), rfl, l, Hc5, wipeD ρ5 vs, bs ++ [p], vss ++ [v], das ++ [ys], (e2.trans e3).trans e5, ?_, bare_wipe _ _, P2.up (e3.trans e5)⟩
            rw [List.map_append] at M8
            exact M8
          · exact P2.elim
        | _ => exact P2.elim
      | exc z ρ5 => rw [g3] at P2; exact P2.elim
      | stuck => rw [g3] at P2; exact P2.elim
  · have e : i = ds.length := by omega
    subst e
    rw [List.drop_eq_nil_of_le (Nat.le_refl _)] at P2
    refine .inl ⟨ok.stop H2 (e2.trans M2.S.hc), ?_⟩
    have M3 : MatS T Fr Hc2 σ H2 ρ2 D bs vss das := M2.next (Same.refl _) (M2.S.unwipe h0 b2)
    exact P2 Hc2 H2 (Same.refl _) M3.weak D bs vss M3
end
section
variable {T : Tab} {W : WX} {X : Cx} {wi : TI} {g : TG} {fi : M (List D)} {tg : GD} {f1 f2 f3 : M D} {js : List Nat} {ta tb tw : TE}
/-- for tg in iter: xs[a][b] = w -/
theorem rd_matFor {i : Nat} (h0 : i ≠ 0) (hj : i ∉ js) (hg : RdW T g tg js) (ha : RdE T W ta f1) (hb : RdE T W tb f2) (hw : RdE T W tw f3) {K : PySem.W.Frag} {ts : TS}
    (hts : ∀ D σ H, tw σ H (fun v H1 => tOp (rIxL K) (tVar i) ta σ H1 fun x H2 => tb σ H2 fun y H3 => L2.rSetL x y v H3 fun H4 => D.nx σ H4) → ts D σ H)
    {Fr : Fm} {Hc : Hp} {σ : L2.St} {H : Hp} {ρ : DEnv} {D : Addr} {bs : List Addr} {vss : List (List V)} {m : List (List PD.D)} {De : Ends} {J : It} {ds : List PD.D} (ok : ItOk T Hc J ds) (hσ : σ[i]? = some (some (.ref D))) (M : MatS T Fr Hc σ H ρ D bs vss m)
    (P : ∀ (σ' : L2.St), PostR T W Fr Hc σ' (matFor tg f1 f2 f3 ds ρ m) (fun m' ρ' Hc' H' => ∀ vss', σ'[i]? = some (some (.ref D)) → MatS T Fr Hc' σ' H' ρ' D bs vss' m' → De.nx σ' H')) :
    ∃ Wn : Nat → Nat → L2.St → Hp → Prop, (∃ n, Wn 0 n σ H) ∧ ∀ k n σ H, Wn k n σ H → (J.stop k H ∧ De.nx σ H) ∨ (J.go k H ∧ ∃ N : L2.St → Hp → Prop, (∀ σ' H', N σ' H' → ∃ n', n' < n ∧ Wn (k + 1) n' σ' H') ∧ ∀ x H', J.yld k H x H' → g x σ H' fun σ2 H2 => ts { De with nx := N, ct := N, bk := De.nx } σ2 H2) := by
  refine ⟨fun k n σ' H' => n = ds.length - k ∧ k ≤ ds.length ∧ ∃ Hc2 ρ2 vss2 m2, Same Hc Hc2 ∧ σ'[i]? = some (some (.ref D)) ∧ MatS T Fr Hc2 σ' H' ρ2 D bs vss2 m2 ∧
    ∀ σ'', PostR T W Fr Hc2 σ'' (matFor tg f1 f2 f3 (ds.drop k) ρ2 m2) (fun m' ρ' Hc' H' => ∀ vss', σ''[i]? = some (some (.ref D)) → MatS T Fr Hc' σ'' H' ρ' D bs vss' m' → De.nx σ'' H'), ⟨_, rfl, Nat.zero_le _, Hc, ρ, vss, m, Same.refl _, hσ, M, P⟩, ?_⟩
  rintro k n σ2 H2 ⟨rfl, hk, Hc2, ρ2, vss2, m2, e2, hσ2, M2, P2⟩
  by_cases l : k < ds.length
  · refine .inr ⟨ok.go k H2 (e2.trans M2.S.hc) l, _, fun σ' H' n => ⟨ds.length - (k + 1), by omega, n⟩, fun x H3 y => ?_⟩
    obtain ⟨Hc3, e3, S3, r3⟩ := ok.yld k H2 x H3 _ _ ρ2 Hc2 _ M2.S e2 (List.getElem?_eq_getElem l) y
    rw [List.drop_eq_getElem_cons l] at P2
    unfold matFor at P2
    cases g1 : tg ds[k] ρ2 with
    | none => have z := P2 σ2; rw [g1] at z; exact z.elim
    | some ρ3 =>
      rw [g1] at P2
      refine hg _ Hc3 _ H3 ρ2 ρ3 x _ S3 r3 g1 _ fun σ4 S4 w4 => ?_
      have hσ4 : σ4[i]? = some (some (.ref D)) := by
        have z := congrArg (fun l => l[i]?) (w4 js fun _ h => h)
        simp only [wipe_out hj] at z
        rw [z]; exact hσ2
      refine hts _ _ _ ?_
      have P3 := P2 σ4
      dsimp only at P3
      cases g3 : f3 ρ3 with
      | exc z ρ5 => rw [g3] at P3; exact P3.elim
      | stuck => rw [g3] at P3; exact P3.elim
      | ok w ρ4 =>
        refine hw _ Hc3 σ4 H3 ρ3 S4 _ ?_
        rw [g3]
        intro Hc4 H4 e4 S5 v rv
        simp only [g3] at P2
        refine ⟨.ref D, hσ4, ?_⟩
        cases ga : f1 ρ4 with
        | exc z ρ5 => have z := P2 σ4; simp only [ga] at z; exact z.elim
        | stuck => have z := P2 σ4; simp only [ga] at z; exact z.elim
        | ok ia ρ5 =>
          refine ha _ Hc4 σ4 H4 ρ4 S5 _ ?_
          rw [ga]
          intro Hc5 H5 e5 S6 va ra
          simp only [ga] at P2
          cases ra with
          | int ix =>
            dsimp only at P2
            cases gb : f2 ρ5 with
            | exc z ρ6 => have z := P2 σ4; simp only [gb] at z; exact z.elim
            | stuck => have z := P2 σ4; simp only [gb] at z; exact z.elim
            | ok ib ρ6 =>
              simp only [gb] at P2
              cases ib with
              | int iy =>
                dsimp only at P2
                cases gk : ixN m2.length ix with
                | none => have z := P2 σ4; simp only [gk] at z; exact z.elim
                | some kk =>
                  simp only [gk] at P2
                  cases gr : m2[kk]? with
                  | none => have z := P2 σ4; simp only [gr] at z; exact z.elim
                  | some row =>
                    simp only [gr] at P2
                    cases gl : ixN row.length iy with
                    | none => have z := P2 σ4; simp only [gl] at z; exact z.elim
                    | some ll =>
                      simp only [gl] at P2
                      have M5 : MatS T Fr Hc5 σ4 H5 ρ5 D bs vss2 m2 := M2.next ((e3.trans e4).trans e5) S6
                      have km : kk < m2.length := (List.getElem?_eq_some_iff.mp gr).1
                      have kv : kk < vss2.length := by rw [M5.lm]; exact km
                      have kb : kk < bs.length := by rw [M5.len]; exact kv
                      refine ⟨D, bs.map V.ref, ix, .ref bs[kk], rfl, rfl, .inl (.inl M5.atD), ?_, ?_⟩
                      · unfold atI
                        rw [List.length_map, M5.len, M5.lm, gk, Option.bind_some, List.getElem?_map, List.getElem?_eq_getElem kb] <;> rfl
                      · refine hb _ Hc5 σ4 H5 ρ5 S6 _ ?_
                        rw [gb]
                        intro Hc6 H6 e6 S7 vb rb
                        cases rb with
                        | int _ =>
                          have M6 : MatS T Fr Hc6 σ4 H6 ρ6 D bs vss2 m2 := M5.next e6 S7
                          have eb := List.getElem?_eq_getElem kb
                          have ev := List.getElem?_eq_getElem kv
                          have rr := M6.r kk _ _ ev gr
                          refine ⟨bs[kk], vss2[kk], iy, ll, rfl, rfl, M6.at eb ev, by rw [rr.length]; exact gl, rfl, l, Hc6, ρ6, _, _, (((e2.trans e3).trans e4).trans e5).trans e6, hσ4, M6.put ll eb ev gr ((rv.mono e5).mono e6), fun σ'' => (P2 σ'').up (((e3.trans e4).trans e5).trans e6)⟩
              | _ => have z := P2 σ4; exact z.elim
          | _ => have z := P2 σ4; exact z.elim
  · have e : k = ds.length := by omega
    subst e
    rw [List.drop_eq_nil_of_le (Nat.le_refl _)] at P2
    exact .inl ⟨ok.stop H2 (e2.trans M2.S.hc), P2 σ2 Hc2 H2 (Same.refl _) M2.weak vss2 hσ2 M2⟩
end
end PD
set_option maxRecDepth 100000
/-! PD24: the statements. -/
namespace PD
open PySem PySem.Spec PyProof.Rows L2
theorem PostR.fr {α : Type} {T : Tab} {W : WX} {Fr Fr' : Fm} {Hc : Hp} {σ : L2.St} {r : RM α} {k : α → DEnv → Hp → Hp → Prop} (w : ∀ Hc' H' ρ', StC T Fr' Hc' σ H' ρ' → StC T Fr Hc' σ H' ρ') (h : PostR T W Fr Hc σ r k) : PostR T W Fr' Hc σ r k := by
  cases r with
  | ok a ρ => exact fun Hc' H' e S => h Hc' H' e (w _ _ _ S)
  | exc x ρ => exact fun cls da Hc' H' e S rx => h cls da Hc' H' e (w _ _ _ S) rx
  | stuck => exact h
theorem set_same {α : Type} : ∀ {l : List α} {i : Nat} {x : α}, l[i]? = some x → l.set i x = l
  | [], _, _, h => by simp at h
  | y :: l, 0, x, h => by simp at h; subst h; rfl
  | y :: l, i + 1, x, h => by rw [List.set_cons_succ, set_same (by simpa using h)]
section
variable {T : Tab} {W : WX} {X : Cx} {g : TG} {fi : M (List D)} {tgf : GD} {fe : M D} {js : List Nat} {elt tg iter : Expr} {scope : Scope} {own : List (Str × Nat)} {pos : Pos}
theorem b_mat {i : Nat} {y : Str} {py spos p1 p2 p3 p4 p5 : Pos} {target iter2 ea eb ew : Expr} {rest : List Stmt} {fi2 : M (List D)} {g2 : TG} {tg2 : GD} {js2 : List Nat} {f1 f2 f3 : M D} {gr : MS}
    (hi0 : i ≠ 0) (hy : X.N[i]? = some y) (hyl : X.env.scope.names.lookup y = some .local) (hsw : swapsWith (.ListComp elt [⟨tg, iter, [], 0⟩] scope pos) (some (.Name y py)) spos.line X.env = pure true)
    (hc : X.calm = true) (hN : X.N.Nodup) (ok : BlkOk X.N X.env.scope scope own) (h0 : ∀ v ∈ own.map (·.2), v ≠ 0) (hj : ∀ j ∈ js, j ∈ own.map (·.2)) (hi : SimI T W X tg iter fi)
    (hg : ∀ (s : Shared) (H : Hp) (C : Addr) (cl : List (Str × Addr)) (fp : List Addr), PG (X.blk s H scope (compEnvC scope cl C X.env) fp) tg g) (hr : RdW T g tgf js) (he : ∀ (s : Shared) (H : Hp) (C : Addr) (cl : List (Str × Addr)) (fp : List Addr), SimN T W0 (X.blk s H scope (compEnvC scope cl C X.env) fp) elt fe)
    (hp : PassesOwn (model X.prog X.w) X.A X.env X.xe) (hi2 : SimI T W X target iter2 fi2) (hg2 : PG X target g2) (hr2 : RdW T g2 tg2 js2) (hj2 : i ∉ js2) (hv : PE X (.Name y p1) (tVar i)) (ha : SimE T W X ea f1) (hb : SimE T W X eb f2) (hw : SimE T W X ew f3) (hR : SimB T W X rest gr)
    (hs : ∀ x, foldedSetIterable iter X.env x = pure x := by intro _; rfl) (hs2 : ∀ x, foldedSetIterable iter2 X.env x = pure x := by intro _; rfl) (hix : PlainIx ea := by intro _ _; rfl)
    (hsw2 : swapsWithSole [.Subscript (.Subscript (.Name y p1) ea p2) eb p3] ew p4.line X.env = pure false := by rfl) (hw2 : swappedStores [.Subscript (.Subscript (.Name y p1) ea p2) eb p3] ew X.env = pure none := by rfl)
    (ha1 : (assignEach [.Subscript (.Subscript (.Name y p1) ea p2) eb p3] X.env).map (·.2) = [assign (.Subscript (.Subscript (.Name y p1) ea p2) eb p3) X.env] := by rfl)
    (hasn : ∀ v, assign (.Subscript (.Subscript (.Name y p1) ea p2) eb p3) X.env v = (do
      let ov ← holding [v] (eval (.Subscript (.Name y p1) ea p2) X.env)
      let iv ← holding [v, ov] (eval eb X.env)
      standAt p3
      holding [v, ov, iv] (setItem ov iv v)
      release [v, ov, iv] []) := by intro _; rfl) :
    SimB T W X (.Assign [.Name y py] (.ListComp elt [⟨tg, iter, [], 0⟩] scope pos) spos :: .For target iter2 [.Assign [.Subscript (.Subscript (.Name y p1) ea p2) eb p3] ew p4] [] p5 :: rest)
      (sMat i (eMat (own.map (·.2)) fi tgf fe) fi2 tg2 f1 f2 f3 gr) := by
  have he' : RdN T W0 (fun σ H Q => ∀ (s : Shared) (H0 : Hp) (C : Addr) (cl : List (Str × Addr)) (fp : List Addr), tE (X.blk s H0 scope (compEnvC scope cl C X.env) fp) elt σ H Q) fe := fun Fr Hc σ H ρ S Q P s H0 C cl fp => he s H0 C cl fp Fr Hc σ H ρ S Q P
  have st1 := ps_setLc (tt := tYes) (spos := spos) hc hN hy hyl hsw (pi_tI (tg := tg)) ok hg (fun _ _ _ _ _ => pts_nil) (fun s H0 C cl fp => (⟨fun pins s1 σ H Q I h => h s H0 C cl fp pins s1 I⟩ : PE (X.blk s H0 scope (compEnvC scope cl C X.env) fp) elt (fun σ H Q => ∀ (s : Shared) (H0 : Hp) (C : Addr) (cl : List (Str × Addr)) (fp : List Addr), tE (X.blk s H0 scope (compEnvC scope cl C X.env) fp) elt σ H Q))) hs
  have st2 := ps_for (pos := p5) hp hc (pi_tI (tg := target)) hg2 (pss_one (ps_asg (pos := p4) (pe_tE (e := ew)) (pg_sub (pe_ix (pos := p2) ix_list hv (pe_tE (e := ea)) hix) (pe_tE (e := eb)) set_list hasn) hsw2 hw2 ha1)) hs2
  refine simB_of (pss_cons st1 (pss_cons st2 pss_tS)) fun Fr Hc σ H ρ De S P => ?_
  unfold sMat at P
  change tLc (tIt X tg iter) g tYes (fun σ H Q => ∀ (s : Shared) (H0 : Hp) (C : Addr) (cl : List (Str × Addr)) (fp : List Addr), tE (X.blk s H0 scope (compEnvC scope cl C X.env) fp) elt σ H Q) (own.map (·.2)) σ H (fun x H1 => tSeq (tFor (tIt X target iter2) g2 (tAsg (tE X ew) (gSub (tOp (rIxL X.K) (tVar i) (tE X ea)) (tE X eb) L2.rSetL))) (tSs X rest) De (σ.set i (some x)) H1)
  refine rd_mat h0 hj hi hr he' S ((PostS.ofT (σ := σ) P).imp fun m ρ1 Hc1 H1 e1 S1 P1 D bs vss M1 => ?_)
  by_cases lt : i < ρ1.length
  case neg => rw [if_neg lt] at P1; exact P1.elim
  rw [if_pos lt] at P1
  have M2 : MatS T Fr Hc1 (σ.set i (some (.ref D))) H1 (ρ1.set i .un) D bs vss m := M1.next (Same.refl _) (M1.S.set_un hi0)
  have hσ : (σ.set i (some (V.ref D)))[i]? = some (some (V.ref D)) := List.getElem?_set_self (by rw [S1.ln]; exact lt)
  refine hi2.use M2.S ((PostS.ofT (σ := σ.set i (some (.ref D))) P1).fr fun Hc' H' ρ' S' => S'.weak (mHp_base M2.fD M2.fb)) fun ds ρ2 J Hc2 H2 e2 S2 P2 okJ => ?_
  refine rd_matFor hi0 hj2 hr2 ha hb hw (fun D' σ' H' q => q) okJ hσ (M2.next e2 S2) fun σ' => (PostS.ofT (σ := σ') P2).imp fun m' ρ3 Hc3 H3 e3 S3 P3 vss' hσ' M3 => ?_
  obtain ⟨Hc4, e4, S4, r4⟩ := M3.frozen
  have S5 := S4.set_val hi0 r4
  rw [set_same hσ'] at S5
  exact hR Fr Hc4 σ' H3 _ De S5 (P3.up e4)
end
end PD
set_option maxRecDepth 100000
/-! PD25: a call's new lists, changed by the caller: told = f(..); if test: return ..; for x, xs in told: xs.append(0); told.clear(). -/
namespace PD
open PySem PySem.Spec PyProof.Rows L2
mutual
def nolst : D → Bool
  | .lst _ => false
  | .scr _ => false
  | .tup ds => nolsts ds
  | .dic kvs => nolstk kvs
  | .ins _ fs => nolstf fs
  | _ => true
def nolsts : List D → Bool
  | [] => true
  | d :: ds => nolst d && nolsts ds
def nolstk : List (List Key × D) → Bool
  | [] => true
  | (_, d) :: ds => nolst d && nolstk ds
def nolstf : List (Str × D) → Bool
  | [] => true
  | (_, d) :: ds => nolst d && nolstf ds
end
/-- without the lists -/
def lf (Hc : Hp) : Hp := fun a => match Hc a with
  | some (.lst _) => none
  | x => x
theorem lf_same {Hc : Hp} : Same (lf Hc) Hc := fun a o e => by
  unfold lf at e
  split at e
  · cases e
  · exact e
theorem lf_of {Hc : Hp} {a : Addr} {o : HO} (e : Hc a = some o) (h : ∀ vs, o ≠ .lst vs) : lf Hc a = some o := by
  unfold lf
  rw [e]
  split
  · rename_i vs q; cases q; exact absurd rfl (h vs)
  · rfl
mutual
theorem Rp.nl {T : Tab} {Hc : Hp} : ∀ {v : V} {d : D}, nolst d = true → Rp T Hc v d → Rp T (lf Hc) v d
  | _, _, _, .non => .non
  | _, _, _, .bl b => .bl b
  | _, _, _, .int i => .int i
  | _, _, _, .str x => .str x
  | _, _, n, .tup h r => .tup (lf_of h fun vs z => nomatch z) (Rps.nl (by unfold nolst at n; exact n) r)
  | _, _, n, .lst h r => by unfold nolst at n; cases n
  | _, _, n, .dic h r => .dic (lf_of h fun vs z => nomatch z) (Rpk.nl (by unfold nolst at n; exact n) r)
  | _, _, n, .ins h r => .ins (lf_of h fun vs z => nomatch z) (Rpf.nl (by unfold nolst at n; exact n) r)
  | _, _, n, .scr h => by unfold nolst at n; cases n
theorem Rps.nl {T : Tab} {Hc : Hp} : ∀ {v : List V} {d : List D}, nolsts d = true → Rps T Hc v d → Rps T (lf Hc) v d
  | _, _, _, .nil => .nil
  | _, _, n, .cons h r => by
    unfold nolsts at n
    obtain ⟨n1, n2⟩ := Bool.and_eq_true_iff.mp n
    exact .cons (Rp.nl n1 h) (Rps.nl n2 r)
theorem Rpk.nl {T : Tab} {Hc : Hp} : ∀ {v : List (List Key × V)} {d : List (List Key × D)}, nolstk d = true → Rpk T Hc v d → Rpk T (lf Hc) v d
  | _, _, _, .nil => .nil
  | _, _, n, .cons h r => by
    unfold nolstk at n
    obtain ⟨n1, n2⟩ := Bool.and_eq_true_iff.mp n
    exact .cons (Rp.nl n1 h) (Rpk.nl n2 r)
theorem Rpf.nl {T : Tab} {Hc : Hp} : ∀ {v : List (Str × V)} {d : List (Str × D)}, nolstf d = true → Rpf T Hc v d → Rpf T (lf Hc) v d
  | _, _, _, .nil => .nil
  | _, _, n, .cons h r => by
    unfold nolstf at n
    obtain ⟨n1, n2⟩ := Bool.and_eq_true_iff.mp n
    exact .cons (Rp.nl n1 h) (Rpf.nl n2 r)
end
/-- X over fr -/
def jn (X fr : Hp) : Hp := fun a => match X a with
  | some o => some o
  | none => fr a
theorem jn_some {X fr : Hp} {a : Addr} {o : HO} (h : X a = some o) : jn X fr a = some o := by unfold jn; rw [h]
theorem jn_none {X fr : Hp} {a : Addr} (h : X a = none) : jn X fr a = fr a := by unfold jn; rw [h]
theorem jn_cases {X fr : Hp} {a : Addr} {o : HO} (h : jn X fr a = some o) : X a = some o ∨ (X a = none ∧ fr a = some o) := by
  unfold jn at h
  cases q : X a with
  | some o' => rw [q] at h; cases h; exact .inl rfl
  | none => rw [q] at h; exact .inr ⟨rfl, h⟩
def noOwn (ρ : DEnv) : Bool := ρ.all fun s => match s with
  | .own _ => false
  | _ => true
theorem noOwn_ok {ρ : DEnv} (h : noOwn ρ = true) {i : Nat} : isOwn ρ[i]? = false := by
  cases e : ρ[i]? with
  | none => rfl
  | some s =>
    have z := List.all_eq_true.mp h s (List.mem_of_getElem? e)
    cases s with
    | own d => cases z
    | _ => rfl
section
variable {T : Tab} {Fr : Fm} {Hc Hc3 H H3 X : Hp} {σ σ3 : L2.St} {ρ : DEnv}
/-- what lies behind Hc is put into the frame; the slots are the old ones -/
theorem StC.forget (S : StC T Fr Hc σ H ρ) (no : noOwn ρ = true) (hF : Same Fr.fr H3) (hC : Same Hc H3) (hX : Same X H3) (dj : ∀ a o, X a = some o → Hc a = none) (hl : σ3.length = σ.length) (hs : ∀ (j : Nat) (d : D), ρ[j]? = some (.val d) → σ3[j]? = σ[j]?) (h0 : σ3[0]? = σ[0]?) : StC T ⟨jn X Fr.fr, Fr.pin⟩ Hc σ3 H3 ρ := by
  refine ⟨fun a o e => ?_, hC, fun a o e ho => ?_, by rw [hl]; exact S.ln, fun i => ?_, fun i j a h1 h2 h3 h4 => ?_, fun a e => ?_⟩
  · rcases jn_cases e with e | ⟨_, e⟩
    · exact hX a o e
    · exact hF a o e
  · rcases jn_cases e with e | ⟨_, e⟩
    · exact dj a o e
    · exact S.dj a o e ho
  · cases er : ρ[i]? with
    | none => trivial
    | some s =>
      have h := S.sl i
      rw [er] at h
      cases s with
      | un => trivial
      | val d => obtain ⟨v, g1, g2⟩ := h; exact ⟨v, by rw [hs i d er]; exact g1, g2⟩
      | own d => have z := noOwn_ok no (i := i); rw [er] at z; cases z
  · rw [noOwn_ok no] at h3; cases h3
  · rw [h0]; exact S.pn a e
/-- the frame's extra part becomes constant -/
theorem StC.adopt (S : StC T ⟨jn X Fr.fr, Fr.pin⟩ Hc σ H ρ) (no : noOwn ρ = true) (nf : ∀ a o, X a = some o → Fr.fr a = none) (nc : ∀ a o, X a = some o → Hc a = none) : Same Hc (jn X Hc) ∧ StC T Fr (jn X Hc) σ H ρ := by
  have e1 : Same Hc (jn X Hc) := fun a o e => by
    cases q : X a with
    | some o' => rw [nc a o' q] at e; cases e
    | none => rw [jn_none q]; exact e
  refine ⟨e1, ⟨fun a o e => S.fr a o ?_, fun a o e => ?_, fun a o e ho => ?_, S.ln, fun i => ?_, fun i j a h1 h2 h3 h4 => ?_, S.pn⟩⟩
  · show jn X Fr.fr a = some o
    cases q : X a with
    | some o' => rw [nf a o' q] at e; cases e
    | none => rw [jn_none q]; exact e
  · rcases jn_cases e with e | ⟨_, e⟩
    · exact S.fr a o (jn_some e)
    · exact S.hc a o e
  · cases q : X a with
    | some o' => rw [nf a o' q] at e; cases e
    | none =>
      rw [jn_none q]
      refine S.dj a o ?_ ho
      show jn X Fr.fr a = some o
      rw [jn_none q]; exact e
  · cases er : ρ[i]? with
    | none => trivial
    | some s =>
      have h := S.sl i
      rw [er] at h
      cases s with
      | un => trivial
      | val d => obtain ⟨v, g1, g2⟩ := h; exact ⟨v, g1, g2.mono e1⟩
      | own d => have z := noOwn_ok no (i := i); rw [er] at z; cases z
  · rw [noOwn_ok no] at h3; cases h3
/-- an object of the extra part is changed -/
theorem StC.poke (S : StC T ⟨jn X Fr.fr, Fr.pin⟩ Hc σ H ρ) (no : noOwn ρ = true) {a : Addr} {o o' : HO} (ha : X a = some o) (nc : Hc a = none) : StC T ⟨jn (upd X a o') Fr.fr, Fr.pin⟩ Hc σ (upd H a o') ρ := by
  have off : ∀ b, b ≠ a → jn (upd X a o') Fr.fr b = jn X Fr.fr b := fun b h => by
    unfold jn; rw [upd_ne h]
  refine ⟨fun b u e => ?_, fun b u e => ?_, fun b u e hu => ?_, S.ln, fun i => ?_, fun i j b h1 h2 h3 h4 => ?_, S.pn⟩
  · by_cases h : b = a
    · subst h
      rw [upd_same]
      have e' : jn (upd X b o') Fr.fr b = some u := e
      rw [jn_some upd_same] at e'
      exact e'
    · rw [upd_ne h]
      exact S.fr b u ((off b h).symm.trans e)
  · rw [upd_ne (ne_of_none e nc)]; exact S.hc b u e
  · by_cases h : b = a
    · rw [h]; exact nc
    · exact S.dj b u ((off b h).symm.trans e) hu
  · cases er : ρ[i]? with
    | none => trivial
    | some s =>
      have h := S.sl i
      rw [er] at h
      cases s with
      | un => trivial
      | val d => exact h
      | own d => have z := noOwn_ok no (i := i); rw [er] at z; cases z
  · rw [noOwn_ok no] at h3; cases h3
theorem noOwn_set {ρ : DEnv} {i : Nat} (no : noOwn ρ = true) : noOwn (ρ.set i .un) = true := by
  unfold noOwn at no ⊢
  rw [List.all_eq_true] at no ⊢
  intro s hs
  rcases List.mem_or_eq_of_mem_set hs with h | h
  · exact no s h
  · subst h; rfl
end
/-! ### the loop -/
/-- (x, [..]) with no tuple in the list -/
def pairLst : D → Option Nat
  | .tup [_, .lst ys] => if ys.all (fun y => match y with | .int _ => true | .non => true | _ => false) then some ys.length else none
  | _ => none
def toldOk : D → Bool
  | .lst ds => ds.all fun d => match pairLst d with
    | some n => decide (n + ds.length ≤ 50000)
    | none => false
  | _ => false
section
variable {T : Tab} {K : PySem.W.Frag}
theorem pairLst_inv {d : D} {n : Nat} (h : pairLst d = some n) : ∃ d1 ys, d = .tup [d1, .lst ys] ∧ ys.length = n ∧ ∀ y ∈ ys, (∃ z, y = .int z) ∨ y = .non := by
  unfold pairLst at h
  split at h
  · rename_i d1 ys
    split at h
    · rename_i c
      cases h
      refine ⟨d1, ys, rfl, rfl, fun y hy => ?_⟩
      have z := List.all_eq_true.mp c y hy
      cases y with
      | int k => exact .inl ⟨k, rfl⟩
      | non => exact .inr rfl
      | _ => cases z
    · cases h
  · cases h
theorem StC.drop {Fr : Fm} {Hc H : Hp} {σ : L2.St} {ρ : DEnv} (S : StC T Fr Hc σ H ρ) {i : Nat} (h0 : i ≠ 0) (l : i < σ.length) : StC T Fr Hc σ H (ρ.set i .un) := by
  have z := S.set_un (v := σ[i]) h0
  rw [set_same (List.getElem?_eq_getElem l)] at z
  exact z
theorem set_uu {ρ : DEnv} {a b : Nat} (hab : a ≠ b) : ((((ρ.set a .un).set b .un).set a .un).set b .un) = (ρ.set a .un).set b Slot.un := by
  rw [List.set_comm _ _ (fun h => hab h.symm), List.set_set, List.set_set]
/-- for x, xs in told: xs.append(0), the told objects in the frame -/
theorem rd_told {k a b : Nat} (h0 : k ≠ 0) (ha0 : a ≠ 0) (hb0 : b ≠ 0) (hka : k ≠ a) (hkb : k ≠ b) (hab : a ≠ b) {tb : TS} (htb : ∀ De σ H, (∃ p vs, σ[b]? = some (some (.ref p)) ∧ H p = some (.lst vs) ∧ vs.length < sizeLine ∧ De.nx σ (upd H p (.lst (vs ++ [.int 0])))) → tb De σ H)
    {Fr : Fm} {Hc X0 : Hp} {σ : L2.St} {H : Hp} {ρ : DEnv} {A : Addr} {vs : List V} {ds : List D} {De : Ends} (no : noOwn ρ = true) (la : a < σ.length) (lb : b < σ.length) (hσ : σ[k]? = some (some (.ref A))) (nf : ∀ a o, X0 a = some o → Fr.fr a = none) (nc : ∀ a o, X0 a = some o → Hc a = none)
    (S : StC T ⟨jn X0 Fr.fr, Fr.pin⟩ Hc σ H ρ) (hA : X0 A = some (.lst vs)) {Hc2 : Hp} (hr : Rps T Hc2 vs ds) (h2 : ∀ p o, Hc2 p = some o → X0 p = some o ∨ Hc p = some o ∨ Fr.fr p = some o) (hl : ∀ (p : Addr) (us : List V), Hc2 p = some (.lst us) → X0 p = some (.lst us)) (hok : toldOk (.lst ds) = true)
    (P : ∀ (σ' : L2.St) (H' X' : Hp), StC T ⟨jn X' Fr.fr, Fr.pin⟩ Hc σ' H' ((ρ.set a .un).set b .un) → (∀ a o, X' a = some o → Fr.fr a = none) → (∀ a o, X' a = some o → Hc a = none) → X' A = some (.lst vs) → σ'[k]? = some (some (.ref A)) → De.nx σ' H') :
    ∃ Wn : Nat → Nat → L2.St → Hp → Prop, (∃ n, Wn 0 n σ H) ∧ ∀ i n σ H, Wn i n σ H → ((Itl K A).stop i H ∧ De.nx σ H) ∨ ((Itl K A).go i H ∧ ∃ N : L2.St → Hp → Prop, (∀ σ' H', N σ' H' → ∃ n', n' < n ∧ Wn (i + 1) n' σ' H') ∧
      ∀ x H', (Itl K A).yld i H x H' → gTup K 2 (gCons (gName a) (gCons (gName b) gNil)) x σ H' fun σ2 H2 => tb { De with nx := N, ct := N, bk := De.nx } σ2 H2) := by
  have lv := hr.length
  refine ⟨fun i n σ' H' => n = ds.length - i ∧ i ≤ ds.length ∧ ∃ X', StC T ⟨jn X' Fr.fr, Fr.pin⟩ Hc σ' H' ((ρ.set a .un).set b .un) ∧ σ'[k]? = some (some (.ref A)) ∧ σ'.length = σ.length ∧
    X' A = some (.lst vs) ∧ (∀ a o, X' a = some o → Fr.fr a = none) ∧ (∀ a o, X' a = some o → Hc a = none) ∧ (∀ p xs, X0 p = some (.tup xs) → X' p = some (.tup xs)) ∧ (∀ p us, X0 p = some (.lst us) → p ≠ A → ∃ us', X' p = some (.lst us') ∧ us'.length ≤ us.length + i), ?_, ?_⟩
  · exact ⟨_, rfl, Nat.zero_le _, X0, (S.drop ha0 la).drop hb0 lb, hσ, rfl, hA, nf, nc, fun _ _ h => h, fun p us h _ => ⟨us, h, Nat.le_refl _⟩⟩
  · rintro i n σ2 H2 ⟨rfl, hi, X', S2, hσ2, hl2, hA2, nf2, nc2, kt, kl⟩
    have hA3 : H2 A = some (.lst vs) := S2.fr A _ (jn_some hA2)
    by_cases l : i < ds.length
    · have lv' : i < vs.length := by rw [lv]; exact l
      refine .inr ⟨⟨vs, vs[i], SqL.of hA3, List.getElem?_eq_getElem lv'⟩, _, fun σ' H' n => ⟨ds.length - (i + 1), by omega, n⟩, fun x H3 y => ?_⟩
      obtain ⟨rfl, y2⟩ := y
      have hx := y2 vs (SqL.of hA3)
      obtain ⟨d, hd, rx⟩ := hr.getV hx
      have okd : ∃ n, pairLst d = some n ∧ n + ds.length ≤ 50000 := by
        have z := List.all_eq_true.mp (show (ds.all fun d => match pairLst d with
          | some n => decide (n + ds.length ≤ 50000)
          | none => false) = true from hok) d (List.mem_of_getElem? hd)
        cases q : pairLst d with
        | none => rw [q] at z; cases z
        | some n => rw [q] at z; exact ⟨n, rfl, of_decide_eq_true z⟩
      obtain ⟨n, hn, hb⟩ := okd
      obtain ⟨d1, ys, rfl, hy, hys⟩ := pairLst_inv hn
      cases rx with
      | @tup t xs _ ht rt =>
      obtain ⟨x1, r2, rfl⟩ : ∃ x1 r2, xs = x1 :: r2 := by cases rt; exact ⟨_, _, rfl⟩
      cases rt with
      | cons r1 rt =>
      cases rt with
      | @cons x2 _ _ _ r2 rt =>
      cases rt
      cases r2 with
      | @lst p us _ hp rp =>
      have hp0 := hl p us hp
      have npA : p ≠ A := fun e => by
        subst e
        rw [hA] at hp0
        cases hp0
        obtain ⟨d', e1, e2⟩ := rp.getV hx
        rcases hys d' (List.mem_of_getElem? e1) with ⟨z, e⟩ | e
        · subst e; cases e2
        · subst e; cases e2
      obtain ⟨us', hp2, lu⟩ := kl p us hp0 npA
      have hlen := rp.length
      have ht3 : H3 t = some (.tup [x1, .ref p]) := by
        rcases h2 t _ ht with e | e | e
        · exact S2.fr t _ (jn_some (kt _ _ e))
        · exact S2.hc t _ e
        · refine S2.fr t _ ?_
          show jn X' Fr.fr t = _
          cases q : X' t with
          | some o' => rw [nf2 _ _ q] at e; cases e
          | none => rw [jn_none q]; exact e
      have S3 : StC T ⟨jn X' Fr.fr, Fr.pin⟩ Hc ((σ2.set a (some x1)).set b (some (.ref p))) H3 ((ρ.set a .un).set b .un) := by
        have z := (S2.set_un (v := some x1) ha0).set_un (v := some (.ref p)) hb0
        rw [set_uu hab] at z
        exact z
      have no3 : noOwn ((ρ.set a .un).set b .un) = true := noOwn_set (noOwn_set no)
      have S4 := S3.poke no3 (o' := .lst (us' ++ [.int 0])) hp2 (nc2 _ _ hp2)
      refine ⟨t, [x1, .ref p], rfl, SqT.of ht3, rfl, x1, [.ref p], rfl, .ref p, [], rfl, rfl, ?_⟩
      refine htb _ _ _ ⟨p, us', ?_, S2.fr p _ (jn_some hp2), line_lt (by omega), rfl, l, upd X' p (.lst (us' ++ [.int 0])), S4, ?_, ?_, ?_, ?_, ?_, ?_, ?_⟩
      · rw [List.getElem?_set_self (by rw [List.length_set, hl2]; exact lb)]
      · rw [List.getElem?_set_ne (fun h => hkb h.symm), List.getElem?_set_ne (fun h => hka h.symm)]; exact hσ2
      · rw [List.length_set, List.length_set, hl2]
      · rw [upd_ne (fun h => npA h.symm)]; exact hA2
      · intro q o e
        by_cases h : q = p
        · rw [h]; exact nf2 _ _ hp2
        · rw [upd_ne h] at e; exact nf2 _ _ e
      · intro q o e
        by_cases h : q = p
        · rw [h]; exact nc2 _ _ hp2
        · rw [upd_ne h] at e; exact nc2 _ _ e
      · intro q xs e
        by_cases h : q = p
        · subst h; rw [hp0] at e; cases e
        · rw [upd_ne h]; exact kt _ _ e
      · intro q vs' e nA
        by_cases h : q = p
        · subst h
          rw [hp0] at e; cases e
          exact ⟨_, upd_same, by rw [List.length_append]; simp; omega⟩
        · rw [upd_ne h]
          obtain ⟨w, e1, e2⟩ := kl q vs' e nA
          exact ⟨w, e1, by omega⟩
    · exact .inl ⟨⟨vs, SqL.of hA3, by rw [lv]; omega⟩, P σ2 H2 X' S2 nf2 nc2 hA2 hσ2⟩
def noNx (r : RS) : RS := match r with
  | .nx _ => .stuck
  | r => r
theorem PostS.noNx {T : Tab} {W : WX} {Fr : Fm} {Hc : Hp} {r : RS} {D : Ends} {n : L2.St → Hp → Prop} (h : PostS T W Fr Hc (noNx r) D) : PostS T W Fr Hc r { D with nx := n } := by
  cases r with
  | nx ρ => exact h.elim
  | rt d ρ => exact h
  | bk ρ => exact h
  | ct ρ => exact h
  | exc x ρ => exact h
  | stuck => exact h
/-- told = f(..); if test: return ..; for x, xs in told: xs.append(0); told.clear(); rest -/
def sTold (k a b : Nat) (fA : M (List D)) (G : List D → RF) (ft : M Bool) (g1 gr : MS) : MS := fun ρ => RS.ofT (fA ρ) fun ds ρ1 => if noOwn ρ1 = true ∧ nolsts ds = true ∧ k < ρ1.length ∧ a < ρ1.length ∧ b < ρ1.length then (match G ds with
  | .ok d => if toldOk d = true then RS.ofT (ft (ρ1.set k (.val d))) fun c ρ2 => if c = true then noNx (g1 ρ2) else gr (((ρ1.set k .un).set a .un).set b .un) else .stuck
  | .exc x => .exc x ρ1
  | .stuck => .stuck) else .stuck
theorem toldOk_inv {d : D} (h : toldOk d = true) : ∃ ds, d = .lst ds := by
  cases d with
  | lst ds => exact ⟨ds, rfl⟩
  | _ => cases h
variable {W : WX} {tA : TA} {fA : M (List D)} {G : List D → RF} {m : Nat} {tt : TT} {ft : M Bool} {ts1 tsr : TS} {g1 gr : MS}
theorem rd_sTold {k a b : Nat} (h0 : k ≠ 0) (ha0 : a ≠ 0) (hb0 : b ≠ 0) (hka : k ≠ a) (hkb : k ≠ b) (hab : a ≠ b) (hG : ∀ ds, ds.length ≠ m → G ds = .stuck) (hA : RdA T W tA fA) (hT : RdT T W tt ft) (keep : ∀ ρ c ρ', ft ρ = .ok c ρ' → ρ' = ρ) (h1 : RdS T W ts1 g1) (hr : RdS T W tsr gr)
    {tb : TS} (htb : ∀ De σ H, (∃ p vs, σ[b]? = some (some (.ref p)) ∧ H p = some (.lst vs) ∧ vs.length < sizeLine ∧ De.nx σ (upd H p (.lst (vs ++ [.int 0])))) → tb De σ H) {ts : TS}
    {tcl : TS} (htcl : ∀ De σ H, (∃ A vs, σ[k]? = some (some (.ref A)) ∧ H A = some (.lst vs) ∧ De.nx σ (upd H A (.lst []))) → tcl De σ H)
    (hts : ∀ De σ H, (tA σ H fun us H1 => spF T m G (us ++ []) H1 (fun v H2 => tt (σ.set k (some v)) H2 fun c H3 => if c = true then ts1 { De with nx := tFor (iList K (tVar k)) (gTup K 2 (gCons (gName a) (gCons (gName b) gNil))) tb { De with nx := fun σ4 H4 => tcl { De with nx := tsr De } σ4 H4 } } (σ.set k (some v)) H3 else
      (tFor (iList K (tVar k)) (gTup K 2 (gCons (gName a) (gCons (gName b) gNil))) tb { De with nx := fun σ4 H4 => tcl { De with nx := tsr De } σ4 H4 } (σ.set k (some v)) H3)) (WE W σ)) → ts De σ H) : RdS T W ts (sTold k a b fA G ft g1 gr) := by
  intro Fr Hc σ H ρ De S P
  refine hts _ _ _ ?_
  unfold sTold at P
  refine hA.use S (PostS.ofT (σ := σ) P) fun ds ρ1 us Hc1 H1 e1 S1 P1 ru => ?_
  by_cases cc : noOwn ρ1 = true ∧ nolsts ds = true ∧ k < ρ1.length ∧ a < ρ1.length ∧ b < ρ1.length
  case neg => rw [if_neg cc] at P1; exact P1.elim
  rw [if_pos cc] at P1
  obtain ⟨no, nl, lk, la, lb⟩ := cc
  by_cases lm : ds.length = m
  case neg => rw [hG ds lm] at P1; exact P1.elim
  rw [List.append_nil]
  refine ⟨lf Hc1, ds, by rw [ru.length]; exact lm, lf_same.trans S1.hc, ru.nl nl, ?_⟩
  have aft : ∀ {Hc2 H2 : Hp}, Aft (lf Hc1) H1 Hc2 H2 → Same Hc2 (jn Hc1 Hc2) ∧ Aft Hc1 H1 (jn Hc1 Hc2) H2 := fun {Hc2 H2} A => by
    have sm : Same Hc2 (jn Hc1 Hc2) := fun q o e => by
      cases e' : Hc1 q with
      | none => rw [jn_none e']; exact e
      | some o' =>
        rw [jn_some e']
        have z1 := A.h q o' (S1.hc q o' e')
        have z2 := A.ch q o e
        rw [z1] at z2
        exact z2
    refine ⟨sm, ⟨fun q o e => jn_some e, fun q o e => ?_, A.h, fun q o e hu n => ?_⟩⟩
    · rcases jn_cases e with e | ⟨_, e⟩
      · exact A.h q o (S1.hc q o e)
      · exact A.ch q o e
    · rw [jn_none n]
      refine A.n q o e hu ?_
      unfold lf; rw [n]
  cases g : G ds with
  | stuck => rw [g] at P1; exact P1
  | exc z =>
    rw [g] at P1
    intro cls da Hc2 H2 A rz
    obtain ⟨sm, A2⟩ := aft A
    exact P1 σ cls da (jn Hc1 Hc2) H2 A2.c (S1.after A2) ⟨rz.1, rz.2.imp id fun ⟨a, vs, q1, q2, q3⟩ => ⟨a, vs, q1, q2, q3.mono sm⟩⟩
  | ok d =>
    rw [g] at P1
    dsimp only at P1 ⊢
    by_cases tk : toldOk d = true
    case neg => rw [if_neg tk] at P1; exact P1.elim
    rw [if_pos tk] at P1
    obtain ⟨dl, rfl⟩ := toldOk_inv tk
    intro v Hc2 H2 A rv
    obtain ⟨sm, A2⟩ := aft A
    have S2 : StC T Fr (jn Hc1 Hc2) (σ.set k (some v)) H2 (ρ1.set k (.val (.lst dl))) := (S1.after A2).set_val h0 (rv.mono sm)
    cases rv with
    | @lst Ad vs _ hAd rvs =>
    have fresh : ∀ q us, Hc2 q = some (.lst us) → Hc1 q = none := fun q us e => by
      cases e' : Hc1 q with
      | none => rfl
      | some o' =>
        exfalso
        have z1 := A.h q o' (S1.hc q o' e')
        have z2 := A.ch q _ e
        rw [z1] at z2
        cases z2
        have z3 : lf Hc1 q = none := by unfold lf; rw [e']
        rw [A.n q _ (S1.hc q _ e') trivial z3] at e
        cases e
    have P2 := P1.up A2.c
    have P3 := PostS.ofT (σ := σ.set k (some (.ref Ad))) P2
    refine hT Fr (jn Hc1 Hc2) _ H2 _ S2 _ ?_
    cases et : ft (ρ1.set k (.val (.lst dl))) with
    | stuck => rw [et] at P3; exact P3
    | exc z ρ2 => rw [et] at P3; exact P3
    | ok c ρ2 =>
      obtain rfl := keep _ _ _ et
      rw [et] at P3 P1
      intro Hc4 H3 e4 S4
      have P5 := P3 Hc4 H3 e4 S4
      dsimp only at P5 ⊢
      cases c with
      | true => rw [if_pos rfl] at P5 ⊢; exact h1 Fr Hc4 _ H3 _ _ S4 P5.noNx
      | false =>
        rw [if_neg Bool.false_ne_true]
        have P6 : PostS T W Fr Hc1 (gr (((ρ1.set k .un).set a .un).set b .un)) De := P1
        have hX0 : ∃ X0 : Hp, ∀ q, X0 q = if Hc1 q = none ∧ Fr.fr q = none then Hc4 q else none := ⟨_, fun q => rfl⟩
        obtain ⟨X0, hX⟩ := hX0
        have x1' : ∀ q o, X0 q = some o → (Hc1 q = none ∧ Fr.fr q = none) ∧ Hc4 q = some o := fun q o e => by
          rw [hX] at e
          by_cases n : Hc1 q = none ∧ Fr.fr q = none
          · rw [if_pos n] at e; exact ⟨n, e⟩
          · rw [if_neg n] at e; cases e
        have x1 : ∀ q o, X0 q = some o → Hc1 q = none ∧ Hc4 q = some o := fun q o e => ⟨(x1' q o e).1.1, (x1' q o e).2⟩
        have x2 : ∀ q o, Hc1 q = none → Fr.fr q = none → Hc4 q = some o → X0 q = some o := fun q o n n2 e => by rw [hX, if_pos ⟨n, n2⟩]; exact e
        have e24 : Same Hc2 Hc4 := sm.trans e4
        have e14 : Same Hc1 Hc4 := A2.c.trans e4
        have S5 : StC T ⟨jn X0 Fr.fr, Fr.pin⟩ Hc1 (σ.set k (some (.ref Ad))) H3 (ρ1.set k .un) :=
          (S1.set_un (v := some (.ref Ad)) h0).forget (noOwn_set no) S4.fr (e14.trans S4.hc) (fun q o e => S4.hc q o (x1 q o e).2) (fun q o e => (x1 q o e).1) rfl (fun _ _ _ => rfl) rfl
        have nf : ∀ q o, X0 q = some o → Fr.fr q = none := fun q o e => (x1' q o e).1.2
        have ff : ∀ q o o', Fr.fr q = some o' → Hc4 q = some o → o' = o := fun q o o' e e' => by
          have z1 := S4.fr q o' e
          have z2 := S4.hc q o e'
          rw [z1] at z2
          cases z2
          rfl
        have nc : ∀ q o, X0 q = some o → Hc1 q = none := fun q o e => (x1 q o e).1
        have hl : ∀ q us, Hc2 q = some (.lst us) → X0 q = some (.lst us) := fun q us e => x2 q _ (fresh q us e) (by
          cases e' : Fr.fr q with
          | none => rfl
          | some o' =>
            have z0 := ff q _ o' e' (e24 q _ e)
            subst z0
            have z := S4.dj q _ e' trivial
            rw [e24 q _ e] at z
            cases z) (e24 q _ e)
        have hσ : (σ.set k (some (V.ref Ad)))[k]? = some (some (V.ref Ad)) := List.getElem?_set_self (by rw [S1.ln]; exact lk)
        have hl1 : (σ.set k (some (V.ref Ad))).length = ρ1.length := by rw [List.length_set]; exact S1.ln
        refine ⟨.ref Ad, hσ, Ad, rfl, ⟨vs, SqL.of (S4.hc _ _ (e24 _ _ hAd))⟩, ?_⟩
        refine rd_told h0 ha0 hb0 hka hkb hab htb (noOwn_set no) (by rw [hl1]; exact la) (by rw [hl1]; exact lb) hσ nf nc S5 (hl _ _ hAd) rvs (fun q o e => ?_) hl tk fun σ' H' X' S6 nf6 nc6 hA6 hσ6 => ?_
        · cases n : Hc1 q with
          | none =>
            cases n2 : Fr.fr q with
            | none => exact .inl (x2 q o n n2 (e24 q o e))
            | some o' =>
              refine .inr (.inr ?_)
              rw [ff q o o' n2 (e24 q o e)]
          | some o' =>
            refine .inr (.inl ?_)
            have z1 := e14 q o' n
            rw [e24 q o e] at z1
            exact z1.symm
        · refine htcl _ _ _ ⟨Ad, vs, hσ6, S6.fr _ _ (jn_some hA6), ?_⟩
          have no6 : noOwn (((ρ1.set k .un).set a .un).set b .un) = true := noOwn_set (noOwn_set (noOwn_set no))
          have S7 := S6.poke no6 (o' := .lst []) hA6 (nc6 _ _ hA6)
          obtain ⟨e8, S8⟩ := S7.adopt no6 (fun q o e => by
            by_cases h : q = Ad
            · rw [h]; exact nf6 _ _ hA6
            · rw [upd_ne h] at e; exact nf6 _ _ e) (fun q o e => by
            by_cases h : q = Ad
            · rw [h]; exact nc6 _ _ hA6
            · rw [upd_ne h] at e; exact nc6 _ _ e)
          exact hr Fr _ σ' _ _ De S8 (P6.up e8)
end
section
variable {X : Cx} {f c2 elt tg iter : Expr} {x y z : Str} {es : List Expr} {ps : List Str} {kk : Nat} {sts rest : List Stmt} {p pos spos ipos fpos q1 q2 q3 ap1 ap2 cp1 cp2 ep1 ep2 cpos2 : Pos} {js : Nat} {e : Expr} {py : Pos}
theorem b_told {k a b : Nat} (h0 : k ≠ 0) (ha0 : a ≠ 0) (hb0 : b ≠ 0) (hka : k ≠ a) (hkb : k ≠ b) (hab : a ≠ b) (F : Fk X.prog X.w X.K X.mg X.base kk x ps (spF T m G)) (hG : ∀ ds, ds.length ≠ m → G ds = .stuck) (hr : Room kk X.A) (hg : Gl X x) (tk : Takes X W) (ha : SimA T W X (e :: es) fA)
    (hN : X.N.Nodup) (hk : X.N[k]? = some y) (hy : Loc X.env.scope y) (hv : ∀ {p : Pos}, PE X (.Name y p) (tVar k)) (hz : PE X (.Name z q2) (tVar b)) (ht : SimT T W X c2 ft) (keep : ∀ ρ c ρ', ft ρ = .ok c ρ' → ρ' = ρ) (h1 : SimB T W X sts g1) (hR : SimB T W X rest gr)
    (hp : PassesOwn (model X.prog X.w) X.A X.env X.xe) (hc : X.calm = true) (hg2 : PG X tg (gTup X.K 2 (gCons (gName a) (gCons (gName b) gNil))))
    (hdb : (x == ("__debug__" : Str)) = false := by decide) (he : starEach (e :: es) X.env = (false, eval e X.env) :: starEach es X.env := by rfl) (hpl : (backTo pos (starEach es X.env)).any (·.1) = false := by rfl)
    (hsw : swapsWith (.Call (.Name x p) (e :: es) [] pos) (some (.Name y py)) spos.line X.env = pure false := by rfl) (hf : X.fn y = true ∨ X.env.scope.names.lookup y = some .local := by first | exact .inl rfl | exact .inr rfl | assumption)
    (hs : ∀ v, foldedSetIterable (.Name y q1) X.env v = pure v := by intro _; rfl)
    (hbase1 : attributeBase (.Name z q2) ("append" : Str) X.env (eval (.Name z q2) X.env) = eval (.Name z q2) X.env := by rfl)
    (hfew : ((backTo cp1 (starEach [.Constant (.int 0) js cpos2] X.env)).all (fun x => !x.1) && (backToKw cp1 (keywordEach [] X.env)).all (fun x => x.1.isSome)
      && decide (([.Constant (.int 0) js cpos2] : List Expr).length + ([] : List Keyword).length + (if ([] : List Keyword).isEmpty then 0 else 1) < 30)) = true := by rfl)
    (hline1 : (ap1.endLine == cp1.line) = true := by rfl) (hs1 : starEach [.Constant (.int 0) js cpos2] X.env = (false, eval (.Constant (.int 0) js cpos2) X.env) :: starEach [] X.env := by rfl) (hplain : (backTo cp1 (starEach [] X.env)).any (·.1) = false := by rfl)
    (hsw1 : swapsWith (.Call (.Attribute (.Name z q2) ("append" : Str) ap1) [.Constant (.int 0) js cpos2] [] cp1) none ep1.line X.env = pure false := by rfl)
    (hbase2 : attributeBase (.Name y q3) ("clear" : Str) X.env (eval (.Name y q3) X.env) = eval (.Name y q3) X.env := by rfl) (hline2 : (ap2.endLine == cp2.line) = true := by rfl) (hsw2 : swapsWith (.Call (.Attribute (.Name y q3) ("clear" : Str) ap2) [] [] cp2) none ep2.line X.env = pure false := by rfl) :
    SimB T W X (.Assign [.Name y py] (.Call (.Name x p) (e :: es) [] pos) spos :: .If c2 sts [] ipos :: .For tg (.Name y q1) [.Expr (.Call (.Attribute (.Name z q2) "append" ap1) [.Constant (.int 0) js cpos2] [] cp1) ep1] [] fpos :: .Expr (.Call (.Attribute (.Name y q3) "clear" ap2) [] [] cp2) ep2 :: rest)
      (sTold k a b fA G ft g1 gr) := by
  obtain ⟨fa, fd, F1, hm, hkp, hb⟩ := F.ex
  have st1 := ps_set (pos := spos) (pos' := py) hN hk hy (pe_callSD (E := WE W) (pos := pos) (p := p) F1 hr hg hm hkp hb .nil (fun σ => passAt tk σ) (pa_tA (es := e :: es)) hdb he hpl) hsw hf
  have st2 := ps_if (pos := ipos) (pt_tT (e := c2)) (pss_tS (st := sts)) (pss_nil (X := X))
  have st3 := ps_for (pos := fpos) hp hc (pi_list (tg := tg) (hv (p := q1))) hg2 (pss_one (ps_expr (pos := ep1) (pe_bm PySem.F.plainAttrs_list PySem.F.slot_list_append PySem.F.type_list_append mt_append hz (pa_cons pe_int pa_nil hs1) hbase1 hfew hline1 hs1 hplain) hsw1)) hs
  have st4 := ps_expr (pos := ep2) (pe_bm0 PySem.F.plainAttrs_list PySem.F.slot_list_clear PySem.F.type_list_clear mt_clear (hv (p := q3)) hbase2 hline2) hsw2
  refine simB_of (pss_cons st1 (pss_cons st2 (pss_cons st3 (pss_cons st4 (pss_tS (st := rest)))))) ?_
  refine rd_sTold (K := X.K) (tA := tAr X (e :: es)) (tb := tDrop (tBM X.K "list" rAppend (tVar b) (tCons (tC (.int 0)) tNil))) (tcl := tDrop (tBM0 X.K "list" rClear (tVar k))) h0 ha0 hb0 hka hkb hab hG ha ht keep h1 hR ?_ ?_ ?_
  · rintro De σ H ⟨q, us, g1, g2, g3, g4⟩
    exact ⟨.ref q, g1, .inl ⟨rfl, us, SqL.of g2⟩, q, us, .int 0, rfl, rfl, g2, g3, g4⟩
  · rintro De σ H ⟨A, vs, q1, q2, q3⟩
    exact ⟨.ref A, q1, .inl ⟨rfl, vs, SqL.of q2⟩, A, vs, rfl, rfl, q2, q3⟩
  · intro De σ H h
    exact h
end
end PD
set_option maxRecDepth 100000
/-! PD26: what keeps the slots. -/
namespace PD
open PySem PySem.Spec PyProof.Rows L2
def Kp {α : Type} (f : M α) : Prop := ∀ ρ c ρ', f ρ = .ok c ρ' → ρ' = ρ
theorem Kp.bind {α β : Type} {f : M α} {g : α → M β} (h : Kp f) (k : ∀ a, Kp (g a)) : Kp (fun ρ => (f ρ).bind (g · )) := by
  intro ρ c ρ' e
  dsimp only at e
  cases q : f ρ with
  | ok a ρ1 => rw [q] at e; obtain rfl := h _ _ _ q; exact k a _ _ _ e
  | exc z ρ1 => rw [q] at e; cases e
  | stuck => rw [q] at e; cases e
theorem kp_var {i : Nat} : Kp (eVar i) := by
  intro ρ c ρ' e
  unfold eVar at e
  split at e <;> first | cases e; rfl | cases e
theorem kp_nil : Kp aNil := by
  intro ρ c ρ' e
  cases e; rfl
theorem kp_cons {f : M D} {g : M (List D)} (h : Kp f) (k : Kp g) : Kp (aCons f g) :=
  h.bind fun a => k.bind fun b ρ c ρ' e => by cases e; rfl
theorem kp_fn {G : List D → RF} {g : M (List D)} (k : Kp g) : Kp (eFn G g) :=
  k.bind fun ds ρ c ρ' e => by
    split at e <;> first | cases e; rfl | cases e
theorem kp_T {f : M D} (h : Kp f) : Kp (eT f) := by
  intro ρ c ρ' e
  unfold eT at e
  exact (h.bind fun a ρ c ρ' e => by first | (split at e <;> first | cases e; rfl | cases e) | (cases a <;> first | (cases e; rfl) | cases e)) ρ c ρ' e
theorem kp_not {f : M Bool} (h : Kp f) : Kp (eNot f) :=
  h.bind fun a ρ c ρ' e => by cases e; rfl
end PD
set_option maxRecDepth 100000
/-! PD27: more facts of a head: defs that say super(), own exceptions, class constants. -/
namespace PD
open PySem PySem.Spec PyProof.Rows L2
/-- a def of class C that says super(): C's name, the def's name, its qualified name, its statement -/
structure SupD where
  cls : Str
  nm : Str
  qual : Str
  st : Stmt
abbrev SupV : Type := Option (Str × Str × Arguments × FuncBody × Scope × Addr × List Str × Addr)
def SupD.adr (K : PySem.W.Frag) (d : SupD) : Addr := He.ma K (He.ga K d.cls) d.nm
def SupD.obs (K : PySem.W.Frag) (d : SupD) : SupV := match K.lookup (d.adr K) with
  | some ⟨_, _, .func fd, _⟩ => some (fd.name, fd.qualname, fd.params, fd.body, fd.scope, fd.globals, fd.closure.map (·.1), fd.builtins)
  | _ => none
def SupD.val (d : SupD) : SupV := some (d.nm, d.qual, defArgs d.st, .stmts (defBody d.st), defScope d.st, mainGlobals, ["__class__"], builtinsNs)
def fileB (K : PySem.W.Frag) (file : Str) (c : Addr) : Bool := match K.lookup c with
  | some ⟨_, _, .fields vs, _⟩ => (match (vs[2]? : Option Value) with
    | some (.str f _) => file == f
    | _ => false)
  | _ => false
def cellB (K : PySem.W.Frag) (cc D : Addr) : Bool := match K.lookup cc with
  | some ⟨_, _, .cell (some (.ref E)), _⟩ => decide (E = D)
  | _ => false
def SupD.ok (K : PySem.W.Frag) (file : Str) (d : SupD) : Bool := match K.lookup (d.adr K) with
  | some ⟨_, _, .func fd, _⟩ => (match fd.closure, fd.code, fd.defaults, fd.kwdefaults, fd.annotations with
    | [(_, cc)], .ref c, .none, .none, none => PySem.W.codeIn K (.ref c) d.qual && (cellB K cc (He.ga K d.cls) && (fileB K file c && ((PySem.W.clsIn K (He.ga K d.cls)).isSome && (PySem.W.keepIn K (.ref (d.adr K)) && He.eqO (PySem.W.nsIn K mainGlobals "super") (some none)))))
    | _, _, _, _, _ => false)
  | _ => false
theorem fileB_ok {K : PySem.W.Frag} {file : Str} {c : Addr} (h : fileB K file c = true) : ∃ (ccl : Value) (cdd : Option Addr) (vs : Array Value) (ccs : Array (Option Value)) (f : Str) (tf : Tok), K.lookup c = some ⟨ccl, cdd, .fields vs, ccs⟩ ∧ vs[2]? = some (.str f tf) ∧ (file == f) = true := by
  unfold fileB at h
  split at h
  · rename_i a b vs d e
    split at h
    · rename_i f t e2
      exact ⟨a, b, vs, d, f, t, e, e2, h⟩
    · cases h
  · cases h
theorem cellB_ok {K : PySem.W.Frag} {cc D : Addr} (h : cellB K cc D = true) : ∃ (cl : Value) (cld : Option Addr) (csl : Array (Option Value)), K.lookup cc = some ⟨cl, cld, .cell (some (.ref D)), csl⟩ := by
  unfold cellB at h
  split at h
  · rename_i a b E d e
    have z : E = D := of_decide_eq_true h
    rw [z] at e
    exact ⟨a, b, d, e⟩
  · cases h
theorem SupD.fun_ {P : Program} {K : PySem.W.Frag} {d : SupD} (e : d.obs K = d.val) (h : d.ok K P.main.file = true) (top : (P.main.scope.names.lookup ("super" : Str)).isSome = false) :
    ∃ (F : NdefX.NF) (fd : FuncData), FunS P K (He.ga K d.cls) (d.adr K) F fd ∧ F.name = d.nm ∧ F.qual = d.qual ∧ F.params = defArgs d.st ∧ F.body = defBody d.st ∧ F.scope = defScope d.st := by
  unfold SupD.obs at e
  unfold SupD.ok at h
  cases q : K.lookup (d.adr K) with
  | none => rw [q] at h; cases h
  | some o =>
    obtain ⟨oc, od, dt, osl⟩ := o
    rw [q] at h e
    cases dt with
    | func fd =>
      obtain ⟨f1, f2, f3, f4, f5, f6, f7, f8, f9, f10, f11, f12, f13, f14, f15⟩ := fd
      dsimp only at h e
      split at h
      · rename_i z cc c
        obtain ⟨h1, h⟩ := Bool.and_eq_true_iff.mp h
        obtain ⟨h2, h⟩ := Bool.and_eq_true_iff.mp h
        obtain ⟨h3, h⟩ := Bool.and_eq_true_iff.mp h
        obtain ⟨h4, h⟩ := Bool.and_eq_true_iff.mp h
        obtain ⟨h5, h6⟩ := Bool.and_eq_true_iff.mp h
        unfold SupD.val at e
        simp only [Option.some.injEq, Prod.mk.injEq, List.map_cons, List.map_nil, List.cons.injEq, and_true] at e
        obtain ⟨e1, e2, e3, e4, e5, e6, e7, e8⟩ := e
        subst e1 e2 e3 e4 e5 e6 e7 e8
        obtain ⟨ccl, cdd, vs, ccs, f, tf, g1, g2, g3⟩ := fileB_ok h3
        obtain ⟨cl, cld, csl, g4⟩ := cellB_ok h2
        obtain ⟨cd, g5⟩ := Option.isSome_iff_exists.mp h4
        exact ⟨⟨d.nm, d.qual, defArgs d.st, defBody d.st, defScope d.st, cCell cc, c⟩, _, ⟨⟨oc, od, _, _, _, osl, cc, cl, cld, csl, ccl, cdd, vs, ccs, f, tf, cd, rfl, q, rfl, h1, g4, g1, g2, g3, g5⟩, h5, He.eqO_ok h6, top⟩, rfl, rfl, rfl, rfl, rfl⟩
      · cases h
    | _ => cases h
/-! ### own exceptions -/
def exB (K : PySem.W.Frag) (C : Addr) : Bool := match K.lookup C with
  | some ⟨.type "type", _, .cls cd, sl⟩ => (match cd.mro, sl.toList with
    | .ref C' :: bm, [_, _, _, _, some (.builtin n), _] => decide (C' = C) && (decide (n = "ValueError.__new__") && (!cd.hasDel && (cd.hasDict && PySem.HandSPX.refsVE bm)))
    | _, _ => false)
  | _ => false
def oexB (K : PySem.W.Frag) (C : Addr) : Bool := exB K C && (He.eqO (PySem.W.findIn K (.ref C) "__setattr__") (some (some (.builtin "object.__setattr__"))) && (decide (PySem.W.subIn K (.ref C) (.type "BaseException") = some true) && (decide (PySem.W.typeIn K (.ref C) = some (.type "type")) && PySem.W.keepIn K (.ref C))))
theorem oexB_ok {K : PySem.W.Frag} {C : Addr} (h : oexB K C = true) : OexC K C := by
  obtain ⟨h1, h⟩ := Bool.and_eq_true_iff.mp h
  obtain ⟨h2, h⟩ := Bool.and_eq_true_iff.mp h
  obtain ⟨h3, h⟩ := Bool.and_eq_true_iff.mp h
  obtain ⟨h4, h5⟩ := Bool.and_eq_true_iff.mp h
  refine ⟨?_, He.eqO_ok h2, of_decide_eq_true h3, of_decide_eq_true h4, h5⟩
  unfold exB at h1
  split at h1
  · rename_i dd cd sl lk
    split at h1
    · rename_i C' bm k0 k1 k2 k3 n k5 em es
      obtain ⟨a1, h1⟩ := Bool.and_eq_true_iff.mp h1
      obtain ⟨a2, h1⟩ := Bool.and_eq_true_iff.mp h1
      obtain ⟨a3, h1⟩ := Bool.and_eq_true_iff.mp h1
      obtain ⟨a4, a5⟩ := Bool.and_eq_true_iff.mp h1
      obtain ⟨nm, bs, mro, ns, q, hd, sn, sub, ab, col, hdel⟩ := cd
      obtain ⟨l⟩ := sl
      dsimp only at em es a3 a4
      subst em
      have es' : l = [k0, k1, k2, k3, some (.builtin n), k5] := es
      subst es'
      obtain rfl := of_decide_eq_true a1
      obtain rfl := of_decide_eq_true a2
      subst a4
      cases hdel with
      | true => cases a3
      | false => exact ⟨nm, q, ns, bs, bm, sn, sub, ab, col, dd, k0, k1, k2, k3, k5, lk, a5⟩
    · cases h1
  · cases h1
end PD
set_option maxRecDepth 100000
/-! PD28: the head's hook, its facts. -/
namespace PD
open PySem PySem.Spec PyProof.Rows L2
def ciB (K : PySem.W.Frag) (x f : Str) (i : Int) : Bool := PySem.W.readsIn K (He.ga K x) (.type "type") && (He.eqO (PySem.W.specialIn K (.ref (He.ga K x)) "__getattribute__") (some (some (.builtin "type.__getattribute__"))) && (match PySem.W.findCls K (.ref (He.ga K x)) (.type "type") f with
  | some (.val (.int j _)) => decide (j = i)
  | _ => false))
theorem ciB_ok {K : PySem.W.Frag} {mg : Str → Option Value} {x f : Str} {i : Int} (h : ciB K x f i = true) (hm : mg x = some (.ref (He.ga K x))) : CI K mg x (He.ga K x) f i := by
  obtain ⟨h1, h⟩ := Bool.and_eq_true_iff.mp h
  obtain ⟨h2, h3⟩ := Bool.and_eq_true_iff.mp h
  split at h3
  · rename_i j t e
    have z : j = i := of_decide_eq_true h3
    subst z
    exact ⟨_, t, hm, ⟨h1, He.eqO_ok h2⟩, ⟨e, ⟨_, rfl⟩⟩⟩
  · cases h3
def stB (K : PySem.W.Frag) : Bool := He.eqO (PySem.W.nsIn K cStatics "thirdparty.any") (some none)
def supEB (K : PySem.W.Frag) (C D : Addr) : Bool := oexB K C && (He.eqO (PySem.W.ks_superIn K C D "__init__") (some (some (.builtin "ValueError.__init__"))) && (decide (PySem.W.subIn K (.ref C) (.type "ValueError") = some true) && (stB K && decide (PySem.W.mroIn K C (.ref D) = some true))))
theorem supEB_ok {K : PySem.W.Frag} {C D : Addr} (h : supEB K C D = true) : SupE K C D := by
  obtain ⟨h1, h⟩ := Bool.and_eq_true_iff.mp h
  obtain ⟨h2, h⟩ := Bool.and_eq_true_iff.mp h
  obtain ⟨h3, h⟩ := Bool.and_eq_true_iff.mp h
  obtain ⟨h4, h5⟩ := Bool.and_eq_true_iff.mp h
  exact ⟨oexB_ok h1, He.eqO_ok h2, of_decide_eq_true h3, He.eqO_ok h4, of_decide_eq_true h5⟩
def supMB (K : PySem.W.Frag) (C D : Addr) (nm : Str) (f : Addr) : Bool := He.eqO (PySem.W.ks_superIn K C D nm) (some (some (.ref f))) && (decide (PySem.W.typeIn K (.ref f) = some (.type "function")) && (PySem.W.fnIn K f && (stB K && decide (PySem.W.mroIn K C (.ref D) = some true))))
theorem supMB_ok {K : PySem.W.Frag} {C D : Addr} {nm : Str} {f : Addr} (h : supMB K C D nm f = true) : SupM K C D nm f := by
  obtain ⟨h1, h⟩ := Bool.and_eq_true_iff.mp h
  obtain ⟨h2, h⟩ := Bool.and_eq_true_iff.mp h
  obtain ⟨h3, h⟩ := Bool.and_eq_true_iff.mp h
  obtain ⟨h4, h5⟩ := Bool.and_eq_true_iff.mp h
  exact ⟨He.eqO_ok h1, of_decide_eq_true h2, h3, He.eqO_ok h4, of_decide_eq_true h5⟩
/-- the __init__ of the class at C is f, a function -/
def initB (K : PySem.W.Frag) (C f : Addr) : Bool := He.eqO (PySem.W.findIn K (.ref C) "__init__") (some (some (.ref f))) && decide (PySem.W.typeIn K (.ref f) = some (.type "function"))
structure HdL where
  fa : List He.Fa
  fn : List He.DefD
  su : List SupD
  xs : List (PySem.W.Frag → Bool)
  file : Str
abbrev HdV : Type := He.AlD × (Bool × List SupV)
def HdL.obs (L : HdL) (K : PySem.W.Frag) : HdV := (He.obsD L.fa L.fn K, ((L.su.all fun d => d.ok K L.file) && L.xs.all fun f => f K, L.su.map fun d => d.obs K))
def HdL.val (L : HdL) : HdV := (He.valD L.fn, (true, L.su.map SupD.val))
def HdL.says (L : HdL) (K : PySem.W.Frag) : Prop := L.obs K = L.val
def HdL.hook (L : HdL) (as : List Addr) : PySem.W.Hook where
  α := HdV
  obs := fun s => L.obs (He.frG s.heap.get? as)
  val := fun _ => L.val
  says := fun _ h => ∃ K : PySem.W.Frag, K.In h ∧ L.says K
  of := fun _ _ e => ⟨_, He.frG_in, e⟩
  keeps := fun _ _ _ ⟨K, hK, c⟩ k => ⟨K, PySem.W.Frag.In.keeps hK k, c⟩
def HdL.ob (L : HdL) (as : List Addr) (s : PySem.W.SharedT) : HdV := L.obs (He.frG (HandSHeadRun.getT s) as)
theorem HdL.ob_eq {L : HdL} {as : List Addr} (s : PySem.W.SharedT) : L.ob as s = (L.hook as).obs s.abs := by
  have e : HandSHeadRun.getT s = s.abs.heap.get? := funext (HandSHeadRun.getT_eq s)
  show L.obs (He.frG (HandSHeadRun.getT s) as) = L.obs (He.frG s.abs.heap.get? as)
  rw [e]
section
variable {L : HdL} {K : PySem.W.Frag}
theorem HdL.says.he (c : L.says K) : He.SaysD L.fa L.fn K := congrArg (fun z : HdV => z.1) c
theorem HdL.says.bits (c : L.says K) : ((L.su.all fun d => d.ok K L.file) && L.xs.all fun f => f K) = true := congrArg (fun z : HdV => z.2.1) c
theorem HdL.says.x (c : L.says K) (i : Nat) {f : PySem.W.Frag → Bool} (h : L.xs[i]? = some f := by rfl) : f K = true :=
  List.all_eq_true.mp (Bool.and_eq_true_iff.mp c.bits).2 f (List.mem_of_getElem? h)
theorem HdL.says.supOk (c : L.says K) {d : SupD} (h : d ∈ L.su) : d.ok K L.file = true := List.all_eq_true.mp (Bool.and_eq_true_iff.mp c.bits).1 d h
theorem HdL.says.supObs (c : L.says K) {d : SupD} (h : d ∈ L.su) : d.obs K = d.val := by
  have e : L.su.map (fun d => d.obs K) = L.su.map SupD.val := congrArg (fun z : HdV => z.2.2) c
  exact List.map_inj_left.mp e d h
theorem HdL.says.sup (c : L.says K) {P : Program} (i : Nat) {d : SupD} (h : L.su[i]? = some d) (hf : L.file = P.main.file) (top : (P.main.scope.names.lookup ("super" : Str)).isSome = false) :
    ∃ (F : NdefX.NF) (fd : FuncData), FunS P K (He.ga K d.cls) (d.adr K) F fd ∧ F.name = d.nm ∧ F.qual = d.qual ∧ F.params = defArgs d.st ∧ F.body = defBody d.st ∧ F.scope = defScope d.st :=
  SupD.fun_ (c.supObs (List.mem_of_getElem? h)) (by rw [← hf]; exact c.supOk (List.mem_of_getElem? h)) top
end
end PD
set_option maxRecDepth 100000
/-! PD29: plain runs of loops. -/
namespace PD
open PySem PySem.Spec PyProof.Rows L2
theorem lcLoop_ok {vs : List Nat} {tg : GD} {ft : M Bool} {fe : M D} {ρ : DEnv} {p : D → Bool} {f : D → D} : ∀ (ds acc : List D), acc.length + ds.length ≤ 100000 →
    (∀ d ∈ ds, ∃ ρ1, tg d ρ = some ρ1 ∧ ft ρ1 = .ok (p d) ρ1 ∧ (p d = true → fe ρ1 = .ok (f d) ρ1) ∧ wipeD ρ1 vs = ρ) →
    lcLoop vs tg ft fe ds ρ acc = .ok (.lst (acc ++ (ds.filter p).map f)) ρ
  | [], acc, _, _ => by simp [lcLoop]
  | d :: ds, acc, hl, h => by
    obtain ⟨ρ1, h1, h2, h3, h4⟩ := h d (List.mem_cons_self ..)
    rw [List.length_cons] at hl
    have IH := fun acc hl => lcLoop_ok (vs := vs) (tg := tg) (ft := ft) (fe := fe) (ρ := ρ) (p := p) (f := f) ds acc hl fun x hx => h x (List.mem_cons_of_mem _ hx)
    unfold lcLoop
    rw [h1]
    dsimp only
    rw [h2]
    dsimp only
    by_cases c : p d = true
    · rw [if_pos c, h3 c]
      dsimp only
      rw [if_pos (by omega), h4, IH (acc ++ [f d]) (by rw [List.length_append, List.length_singleton]; omega), List.filter_cons_of_pos c, List.map_cons, List.append_assoc]
      rfl
    · rw [if_neg c, h4, IH acc (by omega), List.filter_cons_of_neg c]
/-- a for whose body goes on: a fold -/
theorem forLoop_ok {β : Type} {tg : GD} {gb : MS} (E : β → DEnv) (f : β → D → β) (I : β → Prop) : ∀ (ds : List D) (b : β), I b →
    (∀ d ∈ ds, ∀ b, I b → I (f b d) ∧ ∃ ρ1, tg d (E b) = some ρ1 ∧ (gb ρ1 = .nx (E (f b d)) ∨ gb ρ1 = .ct (E (f b d)))) →
    I (ds.foldl f b) ∧ forLoop tg gb ds (E b) = .nx (E (ds.foldl f b))
  | [], b, i, _ => ⟨i, rfl⟩
  | d :: ds, b, i, h => by
    obtain ⟨i2, ρ1, h1, h2⟩ := h d (List.mem_cons_self ..) b i
    obtain ⟨i3, IH⟩ := forLoop_ok E f I ds (f b d) i2 fun x hx => h x (List.mem_cons_of_mem _ hx)
    refine ⟨i3, ?_⟩
    unfold forLoop
    rw [h1]
    dsimp only
    rcases h2 with h2 | h2 <;> rw [h2] <;> exact IH
/-- a for whose body goes on, by what is true ahead of the rest -/
theorem forLoop_inv {tg : GD} {gb : MS} (I : List D → DEnv → Prop) (h : ∀ d r ρ, I (d :: r) ρ → ∃ ρ1 ρ2, tg d ρ = some ρ1 ∧ (gb ρ1 = .nx ρ2 ∨ gb ρ1 = .ct ρ2) ∧ I r ρ2) : ∀ (ds : List D) (ρ : DEnv), I ds ρ → ∃ ρ', forLoop tg gb ds ρ = .nx ρ' ∧ I [] ρ'
  | [], ρ, i => ⟨ρ, rfl, i⟩
  | d :: ds, ρ, i => by
    obtain ⟨ρ1, ρ2, h1, h2, i2⟩ := h d ds ρ i
    obtain ⟨ρ', h3, i3⟩ := forLoop_inv I h ds ρ2 i2
    refine ⟨ρ', ?_, i3⟩
    unfold forLoop
    rw [h1]
    dsimp only
    rcases h2 with h2 | h2 <;> rw [h2] <;> exact h3
end PD
set_option maxRecDepth 100000
/-! PD30: sorted of a dict with tuple keys: its keys. -/
namespace PD
open PySem PySem.Spec PyProof.Rows PySem.Calls L2
open PySem.W (SortsAt AllAlike Sortable EachIs dataKind dataLe dataKind_some dataKind_inv alike alikeAll dataLt keyToks)
def keyP : Key → PyData
  | .inl i => .int i
  | .inr x => .str x
def keyDat (k : List Key) : PyData := .tuple (k.map keyP)
def keyX : Key → D
  | .inl i => .int i
  | .inr x => .str x
def keyT (k : List Key) : D := .tup (k.map keyX)
/-- the sorted keys, by their addresses -/
def rSortK (K : PySem.W.Frag) : List V → Hp → VK → Prop := fun xs H Q => ∃ (a : Addr) (kvs : List (List Key × V)), xs = [V.ref a] ∧ H a = some (.dT kvs) ∧ SrtOk (kvs.map fun kv => keyDat kv.1) ∧
  ∀ p bs, H p = none → IsKeys H kvs bs → Q (.ref p) (upd H p (.lst (((bs.zip (kvs.map (·.1))).mergeSort (dataLe false fun q => keyDat q.2)).map fun q => V.ref q.1)))
theorem paired_get {α β : Type} {F : α → β → Prop} : ∀ {l : List α} {m : List β}, Paired F l m → ∀ p ∈ m.zip l, F p.2 p.1
  | _, _, .nil, p, h => by simp at h
  | _, _, .cons q r, p, h => by
    rw [List.zip_cons_cons] at h
    rcases List.mem_cons.mp h with e | h
    · rw [e]; exact q
    · exact paired_get r p h
section
variable {X : Cx}
theorem sortsAt_data {prog : Program} {w : World} {A : Around} {s : Shared} {vs : List Value} {ds : List PyData} (e : EachIs (fun v d => ∃ as, Reads s.heap v d as) vs ds) (h : SrtOk ds) (hu : A.units + 62 < cLine) : SortsAt prog w A s (dataKind s.heap ds) vs := by
  obtain ⟨hal, hs, hd⟩ := h
  have hd' : ∀ d, d ∈ ds → A.units + d.depth < cLine := fun d hm => by have := hd d hm; omega
  rcases hs with h1 | h1
  · exact SortsAt.data e hal h1 hd'
  · exact sortsAt_empty e hal h1 hd'
theorem cr_sortedK (hc : X.calm = true) (hu : X.A.units + 64 < cLine) : CallR X (.builtin "sorted") (rSortK X.K) := by
  intro pins s σ H xs us Q I r h
  obtain ⟨d, kvs, rfl, hd, hso, q⟩ := h
  obtain ⟨u, rfl, rx⟩ := r.one
  cases rx
  obtain ⟨z, hs, ks, pr, o, es, ep, ho, hx, hdt, he, hn⟩ := (show ObjOk X.prog X.w H s.heap d (.dT kvs) from (Rd.of hd).ok I.hok)
  have l1 : es.size = ks.length := size_of_entries he
  have l2 : kvs.length = ks.length := Paired.length pr
  have hk0 : IsKeys H kvs (ks.map fun x => x.2.1) := isKeys_of pr
  generalize hbs : (ks.map fun x => x.2.1) = bs at hk0
  have lb : bs.length = kvs.length := by rw [← hbs, List.length_map]; omega
  refine Calls.call_function_entry PyProof.Rows.kind_sorted PyProof.Rows.plain_sorted PyProof.Rows.entry_sorted (PyProof.Rows.args_sorted1 _) ?_
  unfold Builtin.«sorted»
  refine wpAny_bind (m := checkCount "sorted" 1 1 _) (wpAny_pure ?_)
  refine wpAny_bind (PySem.W.kdu_collect (A := X.A.in1) (kdl_raw hs hx hdt) (I.ok.hd hc) ho (by omega) fun h' tk acc' kp it => ?_)
  have ea : acc'.toList = bs.map Value.ref := by
    have hl : acc'.toList.length = ks.length := by rw [Array.length_toList, it.1]; exact l1
    rw [← hbs, List.map_map]
    apply List.ext_getElem?
    intro j
    rw [List.getElem?_map]
    cases hj : acc'.toList[j]? with
    | none =>
      have h1 := List.getElem?_eq_none_iff.mp hj
      rw [List.getElem?_eq_none (by omega)]
      all_goals rfl
    | some v =>
      obtain ⟨en, hen, hv⟩ := it.2 j v (by rw [← Array.getElem?_toList]; exact hj)
      have qe := entry_at he j
      rw [hen] at qe
      cases hb : ks[j]? with
      | none =>
        rw [hb] at qe
        exact nomatch (show some en = none from qe)
      | some b =>
        rw [hb] at qe
        have e2 : en = entryOfKey (tupleKind (mixKind X.prog X.w)) b := Option.some.inj qe
        rw [hv, e2]
        all_goals rfl
  generalize hvs : acc'.toList = vs at ea
  subst ea
  have I1 : Inv X pins σ H { s with heap := h', toks := tk } := I.kept (t' := tk) kp
  have hz : (bs.map Value.ref).length ≤ sizeLine := by rw [List.length_map]; omega
  refine wpAny_bind (wpAny_newList ?_ hz)
  have hoL : (h'.push (seqObj "list" (bs.map Value.ref).toArray 0)).get? h'.objs.size = some (seqObj "list" (bs.map Value.ref).toArray 0) := Heap.get?_push_size _ rfl
  show wpAny _ _ _ _ _ { s with heap := h'.push (seqObj "list" (bs.map Value.ref).toArray 0), toks := tk }
  -- what the keys read as
  have hrd : ∀ p ∈ bs.zip (kvs.map (·.1)), ∃ as, Reads h' (.ref p.1) (keyDat p.2) as := fun p hp => by
    have hH : H p.1 = some (.tup (p.2.map kV)) := by
      have : ∀ {kvs : List (List Key × V)} {bs : List Addr}, IsKeys H kvs bs → ∀ p ∈ bs.zip (kvs.map (·.1)), H p.1 = some (.tup (p.2.map kV)) := by
        intro kvs bs hk
        induction hk with
        | nil => intro p hp; simp at hp
        | cons a b ih =>
          intro p hp
          rw [List.map_cons, List.zip_cons_cons] at hp
          rcases List.mem_cons.mp hp with e | hp
          · rw [e]; exact a
          · exact ih p hp
      exact this hk0 p hp
    have hD : Dp X.K H (V.ref p.1) (keyDat p.2) := by
      refine .tup (SqT.of hH) ?_
      generalize p.2 = kk
      induction kk with
      | nil => exact .nil
      | cons k r ih =>
        cases k with
        | inl i => exact .cons (.int i) ih
        | inr x => exact .cons (.str x) ih
    exact Dp.reads I1 _ _ _ hD rfl
  have hev : EachIs (fun (v : Value) (p : Addr × List Key) => v = .ref p.1) (bs.map Value.ref) (bs.zip (kvs.map (·.1))) := by
    have : ∀ {bs : List Addr} {l : List (List Key)}, bs.length = l.length → EachIs (fun (v : Value) (p : Addr × List Key) => v = .ref p.1) (bs.map Value.ref) (bs.zip l) := by
      intro bs
      induction bs with
      | nil => intro l _; exact .nil
      | cons b r ih =>
        intro l hl
        cases l with
        | nil => cases hl
        | cons k l => exact .cons rfl (ih (by simpa using hl))
    exact this (by rw [List.length_map]; exact lb)
  have hmap : (bs.zip (kvs.map (·.1))).map (fun p => keyDat p.2) = kvs.map fun kv => keyDat kv.1 := by
    have z : (bs.zip (kvs.map (·.1))).map (fun p => keyDat p.2) = ((bs.zip (kvs.map (·.1))).map (·.2)).map keyDat := by rw [List.map_map] <;> rfl
    rw [z, List.map_snd_zip (by rw [List.length_map]; omega), List.map_map]
    rfl
  have hrdE : ∀ (hh : Heap), (∀ b o, h'.get? b = some o → hh.get? b = some o) → EachIs (fun (v : Value) (d : PyData) => ∃ as, Reads hh v d as) (bs.map Value.ref) (kvs.map fun kv => keyDat kv.1) := fun hh hk => by
    rw [← hmap]
    exact each_map (fun p : Addr × List Key => keyDat p.2) ((each_add hev hrd).mono fun v p ⟨e1, as, e2⟩ => ⟨as, by rw [e1]; exact PyProof.Rows.Reads.keeps hk e2⟩)
  have kpush : ∀ b o, h'.get? b = some o → (PySem.W.sortingHeap (h'.push (seqObj "list" (bs.map Value.ref).toArray 0)) h'.objs.size (bs.map Value.ref)).get? b = some o := fun b o e =>
    PySem.W.sortingHeap_old (Nat.ne_of_lt (Heap.lt_size e)) (Heap.get?_push_of_some _ e)
  have hS : SortsAt X.prog X.w X.A.in1.in1 { s with heap := PySem.W.sortingHeap (h'.push (seqObj "list" (bs.map Value.ref).toArray 0)) h'.objs.size (bs.map Value.ref), toks := tk } (dataKind (PySem.W.sortingHeap (h'.push (seqObj "list" (bs.map Value.ref).toArray 0)) h'.objs.size (bs.map Value.ref)) (kvs.map fun kv => keyDat kv.1)) (bs.map Value.ref) :=
    sortsAt_data (s := { s with heap := PySem.W.sortingHeap (h'.push (seqObj "list" (bs.map Value.ref).toArray 0)) h'.objs.size (bs.map Value.ref), toks := tk }) (hrdE _ kpush) hso (by show X.A.units + 1 + 1 + 62 < cLine; omega)
  have ko : PySem.W.KeyedOut false (kvs.map fun kv => keyDat kv.1) (bs.map Value.ref) (PySem.W.sortVals (dataKind (PySem.W.sortingHeap (h'.push (seqObj "list" (bs.map Value.ref).toArray 0)) h'.objs.size (bs.map Value.ref)) (kvs.map fun kv => keyDat kv.1)) false (bs.map Value.ref) (bs.map Value.ref)) := ⟨_, _, hso.1, rfl, hrdE _ kpush⟩
  have kl := ko.length (by rw [List.length_map, List.length_map, lb])
  have ke : EachIs (fun (v : Value) (p : Addr × List Key) => v = .ref p.1) (PySem.W.sortVals (dataKind (PySem.W.sortingHeap (h'.push (seqObj "list" (bs.map Value.ref).toArray 0)) h'.objs.size (bs.map Value.ref)) (kvs.map fun kv => keyDat kv.1)) false (bs.map Value.ref) (bs.map Value.ref)) ((bs.zip (kvs.map (·.1))).mergeSort (dataLe false fun p => keyDat p.2)) :=
    PySem.W.keyedOut_each (fun p : Addr × List Key => keyDat p.2) (by rw [hmap]; exact ko) hev
  refine wpAny_bind (wpAny_holding (wpAny_call_entry PyProof.Rows.slot_list_sort ⟨_, hoL, rfl⟩ PyProof.Rows.entry_list_sort
    (PySem.W.list_sort_vals (s := { s with heap := h'.push (seqObj "list" (bs.map Value.ref).toArray 0), toks := tk }) hoL hS hz ⟨_, rfl, ?_⟩)
    (PyProof.Rows.args_list_sort _)))
  generalize PySem.W.sortVals (dataKind (PySem.W.sortingHeap (h'.push (seqObj "list" (bs.map Value.ref).toArray 0)) h'.objs.size (bs.map Value.ref)) (kvs.map fun kv => keyDat kv.1)) false (bs.map Value.ref) (bs.map Value.ref) = out at kl ke
  have hv : Vals (((bs.zip (kvs.map (·.1))).mergeSort (dataLe false fun p => keyDat p.2)).map fun p => V.ref p.1) out := by
    clear kl ko hS kpush hrdE
    generalize (bs.zip (kvs.map (·.1))).mergeSort (dataLe false fun p => keyDat p.2) = zs at ke
    induction ke with
    | nil => exact .nil
    | cons a b ih => subst a; exact .cons rfl ih
  obtain ⟨e', he'⟩ := PyProof.Rows.sortedHeap_at (vs := bs.map Value.ref) (out := out.toArray) hoL
  refine wpAny_pure ⟨_, rfl, .ref h'.objs.size, upd H h'.objs.size (.lst (((bs.zip (kvs.map (·.1))).mergeSort (dataLe false fun p => keyDat p.2)).map fun p => V.ref p.1)), I1.laid (t' := tk) (fun b u e => ?_) (Nat.le_refl _)
    (show ObjOk X.prog X.w _ _ _ (.lst _) from ⟨by rw [hv.length, kl]; exact hz, out, e', hv, he'⟩), rfl, q _ bs (I1.hok.fresh (Nat.le_refl _)) hk0⟩
  have hb : b < h'.objs.size := Heap.lt_size e
  rw [PyProof.Rows.sortedHeap_old (Nat.ne_of_lt hb) (by rw [size_push']; exact Nat.lt_succ_of_lt hb)]
  exact Heap.get?_push_of_some _ e
end
/-! ### the rule -/
def cSortK : List D → Option D
  | [.dic es] => cSort [.lst (es.map fun e => keyT e.1)]
  | _ => none
theorem pyDs_keys : ∀ k : List Key, pyDs (k.map keyX) = some (k.map keyP)
  | [] => rfl
  | .inl i :: r => by
    show (pyD (.int i)).bind _ = _
    rw [pyDs_keys r]
    rfl
  | .inr x :: r => by
    show (pyD (.str x)).bind _ = _
    rw [pyDs_keys r]
    rfl
theorem kD_key (k : List Key) : kD (keyT k) = keyDat k := by
  have : pyD (keyT k) = some (keyDat k) := by
    show (pyDs (k.map keyX)).map PyData.tuple = _
    rw [pyDs_keys]
    rfl
  unfold kD
  rw [this]
  rfl
theorem Rpk.keys {T : Tab} {H : Hp} : ∀ {vs : List (List Key × V)} {es : List (List Key × D)}, Rpk T H vs es → vs.map (·.1) = es.map (·.1)
  | _, _, .nil => rfl
  | _, _, .cons _ r => by rw [List.map_cons, List.map_cons, Rpk.keys r]
theorem rps_key {T : Tab} {H : Hp} : ∀ k : List Key, Rps T H (k.map kV) (k.map keyX)
  | [] => .nil
  | .inl i :: r => .cons (.int i) (rps_key r)
  | .inr x :: r => .cons (.str x) (rps_key r)
section
variable {T : Tab}
/-- tuples that stand come to the frozen heap -/
theorem StC.tups {Fr : Fm} {Hc H : Hp} {σ : L2.St} {ρ : DEnv} (S : StC T Fr Hc σ H ρ) (bs : List Addr) (hb : ∀ b ∈ bs, ∃ xs, H b = some (.tup xs)) :
    ∃ Hc', Same Hc Hc' ∧ StC T Fr Hc' σ H ρ ∧ ∀ b ∈ bs, Hc' b = H b := by
  have e : Same Hc (fun b => if b ∈ bs then H b else Hc b) := fun b u hu => by
    by_cases q : b ∈ bs
    · simp only [if_pos q]; exact S.hc b u hu
    · simp only [if_neg q]; exact hu
  refine ⟨fun b => if b ∈ bs then H b else Hc b, e, ⟨S.fr, fun b u hu => ?_, fun b u hu hn => ?_, S.ln, fun i => (S.sl i).grow e fun a u h1 h2 h3 h4 => ⟨?_, h3⟩, S.ds, S.pn⟩, fun b q => if_pos q⟩
  · by_cases q : b ∈ bs
    · simp only [if_pos q] at hu; exact hu
    · simp only [if_neg q] at hu; exact S.hc b u hu
  · by_cases q : b ∈ bs
    · obtain ⟨xs, hx⟩ := hb b q
      rw [S.fr b u hu] at hx
      cases hx
      exact hn.elim
    · simp only [if_neg q]; exact S.dj b u hu hn
  · by_cases q : a ∈ bs
    · obtain ⟨xs, hx⟩ := hb a q
      rw [h3] at hx
      cases hx
      exact h4.elim
    · simp only [if_neg q]; exact h2
theorem oSortK : ClN T (rSortK T.K) cSortK := fun Fr Hc σ H ρ xs ds d S r e Q q => by
  unfold cSortK at e
  split at e
  · rename_i es
    unfold cSort at e
    dsimp only at e
    split at e
    · rename_i c
      cases e
      cases r with
      | cons r0 r1 =>
        cases r1
        cases r0 with
        | @dic a vs _ h rk =>
          have hkeys := rk.keys
          have e1 : (es.map fun e => keyT e.1).map kD = vs.map fun kv => keyDat kv.1 := by
            have z1 : (es.map fun e => keyT e.1).map kD = (es.map (·.1)).map keyDat := by
              rw [List.map_map, List.map_map]
              exact List.map_congr_left fun x _ => kD_key x.1
            have z2 : (vs.map fun kv => keyDat kv.1) = (vs.map (·.1)).map keyDat := by rw [List.map_map] <;> rfl
            rw [z1, z2, hkeys]
          refine ⟨a, vs, rfl, S.hc _ _ h, by rw [← e1]; exact srtB_ok c.2, fun p bs hp hk => ?_⟩
          have hH : ∀ z ∈ bs.zip (vs.map (·.1)), H z.1 = some (.tup (z.2.map kV)) := by
            have : ∀ {kvs : List (List Key × V)} {bs : List Addr}, IsKeys H kvs bs → ∀ p ∈ bs.zip (kvs.map (·.1)), H p.1 = some (.tup (p.2.map kV)) := by
              intro kvs bs hk
              induction hk with
              | nil => intro p hp; simp at hp
              | cons a b ih =>
                intro p hp
                rw [List.map_cons, List.zip_cons_cons] at hp
                rcases List.mem_cons.mp hp with e | hp
                · rw [e]; exact a
                · exact ih p hp
            exact this hk
          have lb : vs.length = bs.length := Paired.length hk
          have hb : ∀ b ∈ bs, ∃ xs, H b = some (.tup xs) := fun b hb => by
            obtain ⟨j, hj⟩ := List.mem_iff_getElem?.mp hb
            have lj : j < vs.length := by rw [lb]; exact (List.getElem?_eq_some_iff.mp hj).1
            have hm : (b, (vs[j]).1) ∈ bs.zip (vs.map (·.1)) := List.mem_iff_getElem?.mpr ⟨j, by rw [List.getElem?_zip_eq_some]; exact ⟨hj, by rw [List.getElem?_map, List.getElem?_eq_getElem lj] <;> rfl⟩⟩
            exact ⟨_, hH _ hm⟩
          obtain ⟨Hc', e0, S1, hc'⟩ := S.tups bs hb
          have hm := PySem.W.sort_maps (r := dataLe false fun q : Addr × List Key => keyDat q.2) (s := dataLe false kD) (fun q : Addr × List Key => keyT q.2) (l := bs.zip (vs.map (·.1))) fun a _ b _ => by
            show PySem.W.sortLe _ false _ a b = PySem.W.sortLe _ false _ (keyT a.2) (keyT b.2)
            unfold PySem.W.sortLe
            dsimp only
            rw [kD_key, kD_key]
          have e3 : (bs.zip (vs.map (·.1))).map (fun q => keyT q.2) = es.map fun e => keyT e.1 := by
            have z : (bs.zip (vs.map (·.1))).map (fun q => keyT q.2) = ((bs.zip (vs.map (·.1))).map (·.2)).map keyT := by rw [List.map_map] <;> rfl
            rw [z, List.map_snd_zip (by rw [List.length_map]; omega), hkeys, List.map_map]
            rfl
          rw [e3] at hm
          have rz : Rps T Hc' (((bs.zip (vs.map (·.1))).mergeSort (dataLe false fun q => keyDat q.2)).map fun q => V.ref q.1) ((es.map fun e => keyT e.1).mergeSort (dataLe false kD)) := by
            rw [← hm]
            have mem : ∀ z ∈ (bs.zip (vs.map (·.1))).mergeSort (dataLe false fun q => keyDat q.2), z ∈ bs.zip (vs.map (·.1)) := fun z hz => (List.mergeSort_perm _ _).mem_iff.mp hz
            generalize (bs.zip (vs.map (·.1))).mergeSort (dataLe false fun q => keyDat q.2) = zs at mem
            clear hm
            induction zs with
            | nil => exact .nil
            | cons z zs ih =>
              refine .cons (.tup ?_ (rps_key z.2)) (ih fun y hy => mem y (List.mem_cons_of_mem _ hy))
              have hz := mem z (List.mem_cons_self ..)
              have hzb : z.1 ∈ bs := (List.of_mem_zip hz).1
              rw [hc' _ hzb]
              exact hH z hz
          obtain ⟨S2, n⟩ := Nw.laid S1 (o := .lst (((bs.zip (vs.map (·.1))).mergeSort (dataLe false fun q => keyDat q.2)).map fun q => V.ref q.1)) (d := .lst ((es.map fun e => keyT e.1).mergeSort (dataLe false kD))) hp ⟨_, rfl, rz⟩
          exact q _ _ _ e0 S2 n
    · cases e
  · cases e
end
end PD
set_option maxRecDepth 100000
set_option maxHeartbeats 0
namespace PD
open PySem PySem.Spec PyProof.Rows L2
def top (i : Nat) : Stmt := PySem.Challenge.pw_nearbydown_k75_circuits_by_near_steps.main.body.getD i (.Pass ⟨0, 0, 0, 0⟩)
structure Hd (P : Program) (K : PySem.W.Frag) (mg : Str → Option Value) (cl : Nat → Addr) : Prop where
  c_Bases : Cls K (cl 2)
  c_Listed : Cls K (cl 1)
  c_Table : Cls K (cl 0)
  d_Bases___init__ : Di K mg "Bases" "Bases.__init__" (cl 2) (inClass (top 69) 0)
  d_Bases_cost : Dm K (cl 2) "cost" "Bases.cost" (inClass (top 69) 1)
  d_Bases_dual : Dm K (cl 2) "dual" "Bases.dual" (inClass (top 69) 4)
  d_Bases_listed : Dm K (cl 2) "listed" "Bases.listed" (inClass (top 69) 3)
  d_Listed___init__ : DiS P K mg "Listed" (cl 1) "__init__" "Listed.__init__" (inClass (top 63) 1)
  d_Listed_near : Dm K (cl 1) "near" "Source.near" (inClass (top 61) 6)
  d_Source___init__ : Ds K (cl 1) (cl 1) "__init__" "Source.__init__" (inClass (top 61) 1)
  d_Table___init__ : Di K mg "Table" "Table.__init__" (cl 0) (inClass (top 40) 1)
  d_Table_points : Dm K (cl 0) "points" "Table.points" (inClass (top 40) 4)
  d__law_bends : Dn K mg "_law_bends" (top 73)
  d__law_draw : Dn K mg "_law_draw" (top 72)
  d__law_entries : Dn K mg "_law_entries" (top 77)
  d__law_lots : Dn K mg "_law_lots" (top 74)
  d__law_near : Dn K mg "_law_near" (top 80)
  d__law_pool_of : Dn K mg "_law_pool_of" (top 71)
  d__law_refusal : Dn K mg "_law_refusal" (top 78)
  d__law_right_circuits : Dn K mg "_law_right_circuits" (top 79)
  d__law_right_near : Dn K mg "_law_right_near" (top 81)
  d__law_rows : Dn K mg "_law_rows" (top 76)
  d__law_same : Dn K mg "_law_same" (top 75)
  d_bad_triple : Dn K mg "bad_triple" (top 53)
  d_circuit : Dn K mg "circuit" (top 36)
  d_circuits : Dn K mg "circuits" (top 37)
  d_end_amounts : Dn K mg "end_amounts" (top 28)
  d_end_place : Dn K mg "end_place" (top 27)
  d_ends : Dn K mg "ends" (top 26)
  d_first_triple : Dn K mg "first_triple" (top 52)
  d_has_number : Dn K mg "has_number" (top 35)
  d_law : Dn K mg "law" (top 82)
  d_lessened_costs : Dn K mg "lessened_costs" (top 34)
  d_look_count : Dn K mg "look_count" (top 17)
  d_look_index : Dn K mg "look_index" (top 21)
  d_look_lot : Dn K mg "look_lot" (top 22)
  d_look_number : Dn K mg "look_number" (top 16)
  d_look_numbers : Dn K mg "look_numbers" (top 18)
  d_look_point : Dn K mg "look_point" (top 19)
  d_looked_lots : Dn K mg "looked_lots" (top 68)
  d_looked_rows : Dn K mg "looked_rows" (top 41)
  d_lot_point : Dn K mg "lot_point" (top 66)
  d_lot_table : Dn K mg "lot_table" (top 67)
  d_lots_below : Dn K mg "lots_below" (top 32)
  d_moved : Dn K mg "moved" (top 30)
  d_near_of : Dn K mg "near_of" (top 59)
  d_near_steps : Dn K mg "near_steps" (top 29)
  d_near_weights : Dn K mg "near_weights" (top 46)
  d_place_without_partner : Dn K mg "place_without_partner" (top 50)
  d_table_costs : Dn K mg "table_costs" (top 42)
  d_table_from : Dn K mg "table_from" (top 43)
  d_weight_rows : Dn K mg "weight_rows" (top 49)
  e_EndError : DiE P K mg "EndError" (cl 11) "EndError.__init__" (inClass (top 5) 0)
  e_NothingError : DiE P K mg "NothingError" (cl 12) "NothingError.__init__" (inClass (top 10) 0)
  e_SizeError : DiE P K mg "SizeError" (cl 10) "SizeError.__init__" (inClass (top 3) 0)
  f_EndError : XfC K (cl 11)
  f_SizeError : XfC K (cl 10)
  g_ENDLESS : ∃ t, mg "ENDLESS" = some (.int (100000000000000000000) t)
  g_MOST_AMOUNT : ∃ t, mg "MOST_AMOUNT" = some (.int (1000) t)
  g_MOST_BASE_LOTS : ∃ t, mg "MOST_BASE_LOTS" = some (.int (20) t)
  g_MOST_COST : ∃ t, mg "MOST_COST" = some (.int (1000000000000000) t)
  g_MOST_LEAF_COST : ∃ t, mg "MOST_LEAF_COST" = some (.int (1000000) t)
  g_MOST_LETTERS : ∃ t, mg "MOST_LETTERS" = some (.int (6) t)
  g_MOST_LOT_ENTRIES : ∃ t, mg "MOST_LOT_ENTRIES" = some (.int (60) t)
  k_Table_MOST_ROWS : CI K mg "Table" (cl 0) "MOST_ROWS" (400)
  m_EndError : mg "EndError" = some (.ref (cl 11))
  m_NothingError : mg "NothingError" = some (.ref (cl 12))
  m_SizeError : mg "SizeError" = some (.ref (cl 10))
  n_any : mg "any" = none
  n_bool : mg "bool" = none
  n_enumerate : mg "enumerate" = none
  n_int : mg "int" = none
  n_isinstance : mg "isinstance" = none
  n_len : mg "len" = none
  n_list : mg "list" = none
  n_max : mg "max" = none
  n_min : mg "min" = none
  n_range : mg "range" = none
  n_set : mg "set" = none
  n_sorted : mg "sorted" = none
  n_str : mg "str" = none
  n_sum : mg "sum" = none
  n_tuple : mg "tuple" = none
  na_Bases__costs : NoAttr K (cl 2) "_costs"
  na_Bases_letters : NoAttr K (cl 2) "letters"
  na_Bases_rank : NoAttr K (cl 2) "rank"
  na_Bases_rows : NoAttr K (cl 2) "rows"
  na_EndError_end : NoAttr K (cl 11) "end"
  na_Listed__known : NoAttr K (cl 1) "_known"
  na_Listed_factors : NoAttr K (cl 1) "factors"
  na_Listed_highs : NoAttr K (cl 1) "highs"
  na_Listed_lows : NoAttr K (cl 1) "lows"
  na_Listed_nodes : NoAttr K (cl 1) "nodes"
  na_Listed_width : NoAttr K (cl 1) "width"
  na_SizeError_count : NoAttr K (cl 10) "count"
  na_Table__costs : NoAttr K (cl 0) "_costs"
  na_Table_highs : NoAttr K (cl 0) "highs"
  na_Table_lows : NoAttr K (cl 0) "lows"
  na_Table_rows : NoAttr K (cl 0) "rows"
  na_Table_width : NoAttr K (cl 0) "width"
  x_EndError : Mtch K ⟨K, cl⟩ [10, 11, 12] 11
  x_NothingError : Mtch K ⟨K, cl⟩ [10, 11, 12] 12
  x_SizeError : Mtch K ⟨K, cl⟩ [10, 11, 12] 10
section
variable {P : Program} {w : World} {K : PySem.W.Frag} {mg : Str → Option Value} {base : Heap} {cl : Nat → Addr}
theorem bs_SizeError : BindsS "__init__" "SizeError.__init__" (inClass (top 3) 0) ["self", "count"] := fun _ _ _ _ _ us hl => match us, hl with | [_, _], _ => rfl
theorem sc_SizeError : NdefX.NScope ["self", "count", "__class__"] ["self", "count"] ["__class__"] (defScope (inClass (top 3) 0)) := NdefX.nscope_by (by decide +kernel)
theorem tie_SizeError (h : Hd P K mg cl) : Ex P w K mg base 1 "SizeError" (cl 10) ["self", "count"] (spX1 (cl 10) "count") :=
  ex_1 h.e_SizeError bs_SizeError sc_SizeError rfl h.na_SizeError_count (fun cl' c f fd A outer s H E De σ H1 Fs sE q => psa_excsuper Fs ⟨rfl, rfl, rfl, rfl, rfl, rfl, rfl⟩ sE (pa_cons pe_str pa_nil) rfl rfl rfl rfl rfl De σ H1 (let ⟨a, h1, h2, h3⟩ := q; ⟨a, h1, h2, rfl, by show 1 ≤ 1000; decide, h3⟩)) (fun _ _ _ _ _ _ _ _ => ps_ost (pv 0) (pv 1))
theorem bs_EndError : BindsS "__init__" "EndError.__init__" (inClass (top 5) 0) ["self", "end"] := fun _ _ _ _ _ us hl => match us, hl with | [_, _], _ => rfl
theorem sc_EndError : NdefX.NScope ["self", "end", "__class__"] ["self", "end"] ["__class__"] (defScope (inClass (top 5) 0)) := NdefX.nscope_by (by decide +kernel)
theorem tie_EndError (h : Hd P K mg cl) : Ex P w K mg base 1 "EndError" (cl 11) ["self", "end"] (spX1 (cl 11) "end") :=
  ex_1 h.e_EndError bs_EndError sc_EndError rfl h.na_EndError_end (fun cl' c f fd A outer s H E De σ H1 Fs sE q => psa_excsuper Fs ⟨rfl, rfl, rfl, rfl, rfl, rfl, rfl⟩ sE (pa_cons pe_str pa_nil) rfl rfl rfl rfl rfl De σ H1 (let ⟨a, h1, h2, h3⟩ := q; ⟨a, h1, h2, rfl, by show 1 ≤ 1000; decide, h3⟩)) (fun _ _ _ _ _ _ _ _ => ps_ost (pv 0) (pv 1))
theorem bs_NothingError : BindsS "__init__" "NothingError.__init__" (inClass (top 10) 0) ["self"] := fun _ _ _ _ _ us hl => match us, hl with | [_], _ => rfl
theorem sc_NothingError : NdefX.NScope ["self", "__class__"] ["self"] ["__class__"] (defScope (inClass (top 10) 0)) := NdefX.nscope_by (by decide +kernel)
theorem tie_NothingError (h : Hd P K mg cl) : Ex P w K mg base 1 "NothingError" (cl 12) ["self"] (spX0 (cl 12)) :=
  ex_0 h.e_NothingError bs_NothingError sc_NothingError rfl (fun cl' c f fd A outer s H E De σ H1 Fs sE q => psa_excsuper Fs ⟨rfl, rfl, rfl, rfl, rfl, rfl, rfl⟩ sE (pa_cons pe_str pa_nil) rfl rfl rfl rfl rfl De σ H1 (let ⟨a, h1, h2, h3⟩ := q; ⟨a, h1, h2, rfl, by show 1 ≤ 1000; decide, h3⟩))
def b_look_number : MS :=
  (sSeq (sIf (eNot (eT (eCh (gB fun i j => decide (i ≤ j)) (gB fun i j => decide (i ≤ j)) (eVar 1) (eVar 0) (eVar 2)))) sNo sSkip)
  (sRet (eVar 0)))
def F_look_number : List D → RF := runF 3 3 b_look_number
abbrev N_look_number : List Str := ["number", "low", "high"]
theorem sc_look_number : FnScope N_look_number ["number", "low", "high"] (defScope (top 16)) := ⟨rfl, rfl, rfl, by decide +kernel, rfl, by decide +kernel, by decide +kernel⟩
theorem bi_look_number : BindsP "look_number" "look_number" (defArgs (top 16)) (defBody (top 16)) (defScope (top 16)) ["number", "low", "high"] := fun _ _ _ _ _ _ us hl => match us, hl with | [_, _, _], _ => rfl
theorem tie_look_number (h : Hd P K mg cl) : Fk P w K mg base 1 "look_number" ["number", "low", "high"] (spF ⟨K, cl⟩ 3 F_look_number) := by
  refine fk_F h.d_look_number sc_look_number bi_look_number rfl rfl fun f cdv A outer s H E hr => ?_
  exact (b_cons (s_if (t_not (t_chain op_le op_le oB oB (x_var (pv 1)) (x_var (pv 0)) (x_var (pv 2)))) (b_one s_no) b_nil)
  (b_one (s_ret (x_var (pv 0)))))
def b_look_count : MS :=
  (sSeq (sIf (eNot (eT (eCh (gB fun i j => decide (i ≤ j)) (gB fun i j => decide (i ≤ j)) (eVar 1) (eVar 0) (eVar 2)))) (sRaise1 10 "count" (eVar 0)) sSkip)
  (sRet (eVar 0)))
def F_look_count : List D → RF := runF 3 3 b_look_count
abbrev N_look_count : List Str := ["count", "low", "high"]
theorem sc_look_count : FnScope N_look_count ["count", "low", "high"] (defScope (top 17)) := ⟨rfl, rfl, rfl, by decide +kernel, rfl, by decide +kernel, by decide +kernel⟩
theorem bi_look_count : BindsP "look_count" "look_count" (defArgs (top 17)) (defBody (top 17)) (defScope (top 17)) ["count", "low", "high"] := fun _ _ _ _ _ _ us hl => match us, hl with | [_, _, _], _ => rfl
theorem tie_look_count (h : Hd P K mg cl) : Fk P w K mg base 3 "look_count" ["count", "low", "high"] (spF ⟨K, cl⟩ 3 F_look_count) := by
  refine fk_F h.d_look_count sc_look_count bi_look_count rfl rfl fun f cdv A outer s H E hr => ?_
  exact (b_cons (s_if (t_not (t_chain op_le op_le oB oB (x_var (pv 1)) (x_var (pv 0)) (x_var (pv 2)))) (b_one (s_raise1 ((tie_SizeError h).up (by decide : 1 ≤ 2 - 1)) rfl (hr.mono (by decide : 2 - 1 + 1 ≤ 2)) rfl (takes_of rfl rfl rfl rfl) (x_var (pv 0)))) b_nil)
  (b_one (s_ret (x_var (pv 0)))))
def b_look_numbers : MS :=
  (sSeq (sExpr (eFn F_look_count (aCons (eCall cLen (aCons (eVar 1) aNil)) (aCons (eVar 0) (aCons (eVar 0) aNil)))))
  (sRet (eCall cTuple (aCons (eLc [4] (iSeq (eVar 1)) (gdN 4) mYes (eFn F_look_number (aCons (eVar 4) (aCons (eVar 2) (aCons (eVar 3) aNil))))) aNil))))
def F_look_numbers : List D → RF := runF 5 4 b_look_numbers
abbrev N_look_numbers : List Str := ["count", "numbers", "low", "high", "number"]
theorem sc_look_numbers : FnScope N_look_numbers ["count", "numbers", "low", "high"] (defScope (top 18)) := ⟨rfl, rfl, rfl, by decide +kernel, rfl, by decide +kernel, by decide +kernel⟩
theorem bi_look_numbers : BindsP "look_numbers" "look_numbers" (defArgs (top 18)) (defBody (top 18)) (defScope (top 18)) ["count", "numbers", "low", "high"] := fun _ _ _ _ _ _ us hl => match us, hl with | [_, _, _, _], _ => rfl
theorem tie_look_numbers (h : Hd P K mg cl) : Fk P w K mg base 4 "look_numbers" ["count", "numbers", "low", "high"] (spF ⟨K, cl⟩ 4 F_look_numbers) := by
  refine fk_F h.d_look_numbers sc_look_numbers bi_look_numbers rfl rfl fun f cdv A outer s H E hr => ?_
  exact (b_cons (s_expr (x_fn ((tie_look_count h).up (by decide : 3 ≤ 3)) (fun ds => runF_len ds) hr rfl (takes_of rfl rfl rfl rfl) (a_cons (x_callB call_len oLen rfl h.n_len rfl (a_cons (x_var (pv 1)) a_nil)) (a_cons (x_var (pv 0)) (a_cons (x_var (pv 0)) a_nil)))))
  (b_one (s_ret (x_callTy call_tuple_of oTuple rfl h.n_tuple rfl (a_cons (RdN.val (x_lc (own := [("number", 4)]) rfl sc_look_numbers.nd (blkOk_by (N := N_look_numbers) (sc := (defScope (top 18))) (by decide +kernel)) (by decide) (by decide) (i_seq (x_var (pv 1))) (fun _ _ _ _ _ => pg_name (i := 4) sc_look_numbers.nd rfl (by first | exact Or.inl rfl | exact Or.inr rfl) (by first | exact Or.inl rfl | exact Or.inr rfl)) (rw_name (by decide)) (fun _ _ _ _ _ => (x_fn ((tie_look_number h).up (by decide : 1 ≤ 3)) (fun ds => runF_len ds) hr rfl takes_no (a_cons (x_var (pv 4)) (a_cons (x_var (pv 2)) (a_cons (x_var (pv 3)) a_nil))))))) a_nil)))))
def b_look_point : MS :=
  (sRet (eFn F_look_numbers (aCons (eVar 0) (aCons (eVar 1) (aCons (e1 (gU fun i => -i) (eC (.int (1000)))) (aCons (eC (.int (1000))) aNil))))))
def F_look_point : List D → RF := runF 2 2 b_look_point
abbrev N_look_point : List Str := ["width", "point"]
theorem sc_look_point : FnScope N_look_point ["width", "point"] (defScope (top 19)) := ⟨rfl, rfl, rfl, by decide +kernel, rfl, by decide +kernel, by decide +kernel⟩
theorem bi_look_point : BindsP "look_point" "look_point" (defArgs (top 19)) (defBody (top 19)) (defScope (top 19)) ["width", "point"] := fun _ _ _ _ _ _ us hl => match us, hl with | [_, _], _ => rfl
theorem tie_look_point (h : Hd P K mg cl) : Fk P w K mg base 5 "look_point" ["width", "point"] (spF ⟨K, cl⟩ 2 F_look_point) := by
  refine fk_F h.d_look_point sc_look_point bi_look_point rfl rfl fun f cdv A outer s H E hr => ?_
  exact (b_one (s_ret (x_fn ((tie_look_numbers h).up (by decide : 4 ≤ 4)) (fun ds => runF_len ds) hr rfl (takes_of rfl rfl rfl rfl) (a_cons (x_var (pv 0)) (a_cons (x_var (pv 1)) (a_cons (x_neg (x_gint rfl h.g_MOST_AMOUNT)) (a_cons (x_gint rfl h.g_MOST_AMOUNT) a_nil)))))))
def b_look_index : MS :=
  (sSeq (sIf (eNot (eT (eCh (gB fun i j => decide (i ≤ j)) (gB fun i j => decide (i < j)) (eC (.int 0)) (eVar 1) (eVar 0)))) (sRaise1 11 "end" (eVar 1)) sSkip)
  (sRet (eVar 1)))
def F_look_index : List D → RF := runF 2 2 b_look_index
abbrev N_look_index : List Str := ["count", "index"]
theorem sc_look_index : FnScope N_look_index ["count", "index"] (defScope (top 21)) := ⟨rfl, rfl, rfl, by decide +kernel, rfl, by decide +kernel, by decide +kernel⟩
theorem bi_look_index : BindsP "look_index" "look_index" (defArgs (top 21)) (defBody (top 21)) (defScope (top 21)) ["count", "index"] := fun _ _ _ _ _ _ us hl => match us, hl with | [_, _], _ => rfl
theorem tie_look_index (h : Hd P K mg cl) : Fk P w K mg base 3 "look_index" ["count", "index"] (spF ⟨K, cl⟩ 2 F_look_index) := by
  refine fk_F h.d_look_index sc_look_index bi_look_index rfl rfl fun f cdv A outer s H E hr => ?_
  exact (b_cons (s_if (t_not (t_chain op_le op_lt oB oB x_int (x_var (pv 1)) (x_var (pv 0)))) (b_one (s_raise1 ((tie_EndError h).up (by decide : 1 ≤ 2 - 1)) rfl (hr.mono (by decide : 2 - 1 + 1 ≤ 2)) rfl (takes_of rfl rfl rfl rfl) (x_var (pv 1)))) b_nil)
  (b_one (s_ret (x_var (pv 1)))))
def b_look_lot : MS :=
  (sSeq (sExpr (eFn F_look_count (aCons (eCall cLen (aCons (eVar 1) aNil)) (aCons (eC (.int 0)) (aCons (eC (.int (60))) aNil)))))
  (sSeq (sSet 2 (eRlc [3] (iSeq (eVar 1)) (gdN 3) (eFn F_look_index (aCons (eVar 0) (aCons (eVar 3) aNil)))))
  (sRet (eCall cTuple (aCons (e1 gSortSet (eVar 2)) aNil)))))
def F_look_lot : List D → RF := runF 4 2 b_look_lot
abbrev N_look_lot : List Str := ["count", "entries", "kept", "entry"]
theorem sc_look_lot : FnScope N_look_lot ["count", "entries"] (defScope (top 22)) := ⟨rfl, rfl, rfl, by decide +kernel, rfl, by decide +kernel, by decide +kernel⟩
theorem bi_look_lot : BindsP "look_lot" "look_lot" (defArgs (top 22)) (defBody (top 22)) (defScope (top 22)) ["count", "entries"] := fun _ _ _ _ _ _ us hl => match us, hl with | [_, _], _ => rfl
theorem tie_look_lot (h : Hd P K mg cl) : Fk P w K mg base 4 "look_lot" ["count", "entries"] (spF ⟨K, cl⟩ 2 F_look_lot) := by
  refine fk_F h.d_look_lot sc_look_lot bi_look_lot rfl rfl fun f cdv A outer s H E hr => ?_
  exact (b_cons (s_expr (x_fn ((tie_look_count h).up (by decide : 3 ≤ 3)) (fun ds => runF_len ds) hr rfl (takes_of rfl rfl rfl rfl) (a_cons (x_callB call_len oLen rfl h.n_len rfl (a_cons (x_var (pv 1)) a_nil)) (a_cons x_int (a_cons (x_gint rfl h.g_MOST_LOT_ENTRIES) a_nil)))))
  (b_cons (s_rlc (own := [("entry", 3)]) (i := 2) (by decide) rfl rfl rfl rfl rfl (takes_of rfl rfl rfl rfl) rfl sc_look_lot.nd (blkOk_by (N := N_look_lot) (sc := (defScope (top 22))) (by decide +kernel)) (by decide) (by decide) (i_seq (x_var (pv 1))) (fun _ _ _ _ _ => pg_name (i := 3) sc_look_lot.nd rfl (by first | exact Or.inl rfl | exact Or.inr rfl) (by first | exact Or.inl rfl | exact Or.inr rfl)) (rw_name (by decide)) (fun _ _ _ _ _ _ _ px => (x_fnP ((tie_look_index h).up (by decide : 3 ≤ 3)) (fun ds => runF_len ds) hr rfl px (a_cons (x_var (pv 0)) (a_cons (x_var (pv 3)) a_nil)))))
  (b_one (s_ret (x_callTy call_tuple_of oTuple rfl h.n_tuple rfl (a_cons (RdN.val (x_sortSet rfl rfl rfl h.n_sorted rfl h.n_set (x_var (pv 2)))) a_nil))))))
def b_ends : MS :=
  (sSeq (sExpr (eFn F_look_number (aCons (eVar 0) (aCons (eC (.int 0)) (aCons (eC (.int (6))) aNil)))))
  (sRet (e2 gCatL (e1 cRange (eVar 0)) (eLst (aCons (eC .non) aNil)))))
def F_ends : List D → RF := runF 1 1 b_ends
abbrev N_ends : List Str := ["width"]
theorem sc_ends : FnScope N_ends ["width"] (defScope (top 26)) := ⟨rfl, rfl, rfl, by decide +kernel, rfl, by decide +kernel, by decide +kernel⟩
theorem bi_ends : BindsP "ends" "ends" (defArgs (top 26)) (defBody (top 26)) (defScope (top 26)) ["width"] := fun _ _ _ _ _ _ us hl => match us, hl with | [_], _ => rfl
theorem tie_ends (h : Hd P K mg cl) : Fk P w K mg base 2 "ends" ["width"] (spF ⟨K, cl⟩ 1 F_ends) := by
  refine fk_F h.d_ends sc_ends bi_ends rfl rfl fun f cdv A outer s H E hr => ?_
  exact (b_cons (s_expr (x_fn ((tie_look_number h).up (by decide : 1 ≤ 1)) (fun ds => runF_len ds) hr rfl (takes_of rfl rfl rfl rfl) (a_cons (x_var (pv 0)) (a_cons x_int (a_cons (x_gint rfl h.g_MOST_LETTERS) a_nil)))))
  (b_one (s_ret (RdN.val (x_catL (RdN.val (x_listRg rfl rfl h.n_list rfl h.n_range (x_var (pv 0)))) (RdN.val (x_lst (a_cons x_non a_nil))))))))
def b_end_place : MS :=
  (sSeq (sIf (eT (e2 (gIsN) (eVar 1) (eC .non))) (sRet (eVar 0)) sSkip)
  (sRet (eVar 1)))
def F_end_place : List D → RF := runF 2 2 b_end_place
abbrev N_end_place : List Str := ["width", "end"]
theorem sc_end_place : FnScope N_end_place ["width", "end"] (defScope (top 27)) := ⟨rfl, rfl, rfl, by decide +kernel, rfl, by decide +kernel, by decide +kernel⟩
theorem bi_end_place : BindsP "end_place" "end_place" (defArgs (top 27)) (defBody (top 27)) (defScope (top 27)) ["width", "end"] := fun _ _ _ _ _ _ us hl => match us, hl with | [_, _], _ => rfl
theorem tie_end_place (h : Hd P K mg cl) : Fk P w K mg base 1 "end_place" ["width", "end"] (spF ⟨K, cl⟩ 2 F_end_place) := by
  refine fk_F h.d_end_place sc_end_place bi_end_place rfl rfl fun f cdv A outer s H E hr => ?_
  exact (b_cons (s_if (t_cmp op_isN oIsN rfl (x_var (pv 1)) x_non) (b_one (s_ret (x_var (pv 0)))) b_nil)
  (b_one (s_ret (x_var (pv 1)))))
def b_end_amounts : MS :=
  (sRet (e2 gCatL (eCall cList (aCons (eVar 0) aNil)) (eLst (aCons (e1 (gU fun i => -i) (eCall cSumT (aCons (eVar 0) aNil))) aNil))))
def F_end_amounts : List D → RF := runF 1 1 b_end_amounts
abbrev N_end_amounts : List Str := ["point"]
theorem sc_end_amounts : FnScope N_end_amounts ["point"] (defScope (top 28)) := ⟨rfl, rfl, rfl, by decide +kernel, rfl, by decide +kernel, by decide +kernel⟩
theorem bi_end_amounts : BindsP "end_amounts" "end_amounts" (defArgs (top 28)) (defBody (top 28)) (defScope (top 28)) ["point"] := fun _ _ _ _ _ _ us hl => match us, hl with | [_], _ => rfl
theorem tie_end_amounts (h : Hd P K mg cl) : Fk P w K mg base 1 "end_amounts" ["point"] (spF ⟨K, cl⟩ 1 F_end_amounts) := by
  refine fk_F h.d_end_amounts sc_end_amounts bi_end_amounts rfl rfl fun f cdv A outer s H E hr => ?_
  exact (b_one (s_ret (RdN.val (x_catL (RdN.val (x_callTyN call_list_of oList rfl h.n_list rfl (a_cons (x_var (pv 0)) a_nil))) (RdN.val (x_lst (a_cons (x_neg (x_callB (cr_sumT rfl) oSumT rfl h.n_sum rfl (a_cons (x_var (pv 0)) a_nil))) a_nil)))))))
def b_near_steps : MS :=
  (sSeq (sSet 1 (eFn F_ends (aCons (eVar 0) aNil)))
  (sRet (eLc2 [2, 3] [3] (iSeq (eVar 1)) (gdN 2) mYes (iSeq (eVar 1)) (gdN 3) (eT (e2 (gEq true) (eVar 2) (eVar 3))) (eTup (aCons (eVar 2) (aCons (eVar 3) aNil))))))
def F_near_steps : List D → RF := runF 4 1 b_near_steps
abbrev N_near_steps : List Str := ["width", "names", "out", "into"]
theorem sc_near_steps : FnScope N_near_steps ["width"] (defScope (top 29)) := ⟨rfl, rfl, rfl, by decide +kernel, rfl, by decide +kernel, by decide +kernel⟩
theorem bi_near_steps : BindsP "near_steps" "near_steps" (defArgs (top 29)) (defBody (top 29)) (defScope (top 29)) ["width"] := fun _ _ _ _ _ _ us hl => match us, hl with | [_], _ => rfl
theorem tie_near_steps (h : Hd P K mg cl) : Fk P w K mg base 3 "near_steps" ["width"] (spF ⟨K, cl⟩ 1 F_near_steps) := by
  refine fk_F h.d_near_steps sc_near_steps bi_near_steps rfl rfl fun f cdv A outer s H E hr => ?_
  exact (b_cons (s_set 1 sc_near_steps.nd rfl (Or.inr rfl) (by decide) (x_fn ((tie_ends h).up (by decide : 2 ≤ 2)) (fun ds => runF_len ds) hr rfl (takes_of rfl rfl rfl rfl) (a_cons (x_var (pv 0)) a_nil)))
  (b_one (s_ret (RdN.val (x_lc2If (own := [("out", 2), ("into", 3)]) (vs1 := [3]) rfl sc_near_steps.nd (blkOk_by (N := N_near_steps) (sc := (defScope (top 29))) (by decide +kernel)) (by decide) (by decide) (by decide) (by decide) (i_seq (x_var (pv 1))) (fun _ _ _ _ _ => pg_name (i := 2) sc_near_steps.nd rfl (by first | exact Or.inl rfl | exact Or.inr rfl) (by first | exact Or.inl rfl | exact Or.inr rfl)) (rw_name (by decide)) (fun _ _ _ _ _ => (i_seq (x_var (pv 1)))) (fun _ _ _ _ _ => pg_name (i := 3) sc_near_steps.nd rfl (by first | exact Or.inl rfl | exact Or.inr rfl) (by first | exact Or.inl rfl | exact Or.inr rfl)) (rw_name (by decide)) (fun _ _ _ _ _ => (t_cmp (op_neD hr.units) oNe rfl (x_var (pv 2)) (x_var (pv 3)))) (fun _ _ _ _ _ => (x_tup (a_cons (x_var (pv 2)) (a_cons (x_var (pv 3)) a_nil)))))))))
def b_moved : MS :=
  (sSeq (sOwn 3 (eCall cList (aCons (eVar 0) aNil)))
  (sSeq (sIf (eT (e2 (gNotN) (eVar 1) (eC .non))) (sIxAug 3 (fun i j => i - j) (eVar 1) (eC (.int 1))) sSkip)
  (sSeq (sIf (eT (e2 (gNotN) (eVar 2) (eC .non))) (sIxAug 3 (fun i j => i + j) (eVar 2) (eC (.int 1))) sSkip)
  (sFrz 3 (sRet (eCall cTuple (aCons (eVar 3) aNil)))))))
def F_moved : List D → RF := runF 4 3 b_moved
abbrev N_moved : List Str := ["point", "out", "into", "amounts"]
theorem sc_moved : FnScope N_moved ["point", "out", "into"] (defScope (top 30)) := ⟨rfl, rfl, rfl, by decide +kernel, rfl, by decide +kernel, by decide +kernel⟩
theorem bi_moved : BindsP "moved" "moved" (defArgs (top 30)) (defBody (top 30)) (defScope (top 30)) ["point", "out", "into"] := fun _ _ _ _ _ _ us hl => match us, hl with | [_, _, _], _ => rfl
theorem tie_moved (h : Hd P K mg cl) : Fk P w K mg base 1 "moved" ["point", "out", "into"] (spF ⟨K, cl⟩ 3 F_moved) := by
  refine fk_F h.d_moved sc_moved bi_moved rfl rfl fun f cdv A outer s H E hr => ?_
  exact (b_cons (s_own 3 sc_moved.nd rfl (Or.inl rfl) (by decide) (x_callTyN call_list_of oList rfl h.n_list rfl (a_cons (x_var (pv 0)) a_nil)))
  (b_cons (s_if (t_cmp op_notN oNotN rfl (x_var (pv 1)) x_non) (b_one (s_ixaug ip_sub (pv 3) (x_var (pv 1)) x_int)) b_nil)
  (b_cons (s_if (t_cmp op_notN oNotN rfl (x_var (pv 2)) x_non) (b_one (s_ixaug ip_add (pv 3) (x_var (pv 2)) x_int)) b_nil)
  (b_frz 3 (b_one (s_ret (x_callTy call_tuple_of oTuple rfl h.n_tuple rfl (a_cons (x_var (pv 3)) a_nil))))))))
def b_lots_below : MS :=
  (sSeq (sSet 1 (eLst (aCons (eTup aNil) aNil)))
  (sSeq (sSet 2 (eLst (aCons (eTup aNil) aNil)))
  (sSeq (sFor (iRg1 (eVar 0)) (gdN 3) (sSeq (sSet 2 (eLc2 [4, 5] [5] (iSeq (eVar 2)) (gdN 4) mYes (iRg1 (eVar 0)) (gdN 5) (eOr (eNot (eTru (eVar 4))) (eT (e2 (gB fun i j => decide (i < j)) (e2 gIx (eVar 4) (e1 (gU fun i => -i) (eC (.int 1)))) (eVar 5)))) (e2 gCatT (eVar 4) (eTup (aCons (eVar 5) aNil)))))
  (sSet 1 (e2 gCatL (eVar 1) (eVar 2)))))
  (sRet (eVar 1)))))
def F_lots_below : List D → RF := runF 6 1 b_lots_below
abbrev N_lots_below : List Str := ["count", "lots", "layer", "_", "lot", "number"]
theorem sc_lots_below : FnScope N_lots_below ["count"] (defScope (top 32)) := ⟨rfl, rfl, rfl, by decide +kernel, rfl, by decide +kernel, by decide +kernel⟩
theorem bi_lots_below : BindsP "lots_below" "lots_below" (defArgs (top 32)) (defBody (top 32)) (defScope (top 32)) ["count"] := fun _ _ _ _ _ _ us hl => match us, hl with | [_], _ => rfl
theorem tie_lots_below (h : Hd P K mg cl) : Fk P w K mg base 1 "lots_below" ["count"] (spF ⟨K, cl⟩ 1 F_lots_below) := by
  refine fk_F h.d_lots_below sc_lots_below bi_lots_below rfl rfl fun f cdv A outer s H E hr => ?_
  exact (b_cons (s_set 1 sc_lots_below.nd rfl (Or.inl rfl) (by decide) (RdN.val (x_lst (a_cons (x_tup a_nil) a_nil))))
  (b_cons (s_set 2 sc_lots_below.nd rfl (Or.inl rfl) (by decide) (RdN.val (x_lst (a_cons (x_tup a_nil) a_nil))))
  (b_cons (s_for (passes_of rfl) rfl (i_rg1 rfl h.n_range (x_var (pv 0))) (g_name 3 sc_lots_below.nd rfl (Or.inl rfl) (by decide)) (b_cons (s_lc2If (own := [("lot", 4), ("number", 5)]) (i := 2) (vs1 := [5]) (by decide) rfl rfl rfl rfl sc_lots_below.nd (blkOk_by (N := N_lots_below) (sc := (defScope (top 32))) (by decide +kernel)) (by decide) (by decide) (by decide) (by decide) (i_seq (x_var (pv 2))) (fun _ _ _ _ _ => pg_name (i := 4) sc_lots_below.nd rfl (by first | exact Or.inl rfl | exact Or.inr rfl) (by first | exact Or.inl rfl | exact Or.inr rfl)) (rw_name (by decide)) (fun _ _ _ _ _ => (i_rg1 rfl h.n_range (x_var (pv 0)))) (fun _ _ _ _ _ => pg_name (i := 5) sc_lots_below.nd rfl (by first | exact Or.inl rfl | exact Or.inr rfl) (by first | exact Or.inl rfl | exact Or.inr rfl)) (rw_name (by decide)) (fun _ _ _ _ _ => (t_or2 (t_not (t_tru (x_var (pv 4)))) (t_cmp op_lt oB rfl (x_ix rfl (x_var (pv 4)) (x_neg x_int)) (x_var (pv 5))))) (fun _ _ _ _ _ => (x_catT rfl (x_var (pv 4)) (x_tup (a_cons (x_var (pv 5)) a_nil)))))
  (b_one (s_set 1 sc_lots_below.nd rfl (Or.inl rfl) (by decide) (RdN.val (x_catL (x_var (pv 1)) (x_var (pv 2))))))))
  (b_one (s_ret (x_var (pv 1)))))))
def b_Bases_cost : MS :=
  (sRet (eDGet (eFld 2 "_costs" (eVar 0)) (eFn F_look_lot (aCons (eFld 2 "letters" (eVar 0)) (aCons (eVar 1) aNil)))))
def F_Bases_cost : List D → RF := runF 2 2 b_Bases_cost
abbrev N_Bases_cost : List Str := ["self", "lot"]
theorem sc_Bases_cost : FnScope N_Bases_cost ["self", "lot"] (defScope (inClass (top 69) 1)) := ⟨rfl, rfl, rfl, by decide +kernel, rfl, by decide +kernel, by decide +kernel⟩
theorem bi_Bases_cost : BindsP "cost" "Bases.cost" (defArgs (inClass (top 69) 1)) (defBody (inClass (top 69) 1)) (defScope (inClass (top 69) 1)) ["self", "lot"] := fun _ _ _ _ _ _ us hl => match us, hl with | [_, _], _ => rfl
theorem tie_Bases_cost (h : Hd P K mg cl) : Fm' P w K mg base 5 (cl 2) "cost" ["self", "lot"] (spF ⟨K, cl⟩ 2 F_Bases_cost) := by
  refine fm_F h.d_Bases_cost sc_Bases_cost bi_Bases_cost rfl rfl fun f cdv A outer s H E hr => ?_
  exact (b_one (s_ret (x_dget1 (hu_of hr) (x_fld rfl h.c_Bases h.na_Bases__costs (x_var (pv 0))) (x_fn ((tie_look_lot h).up (by decide : 4 ≤ 4)) (fun ds => runF_len ds) hr rfl (takes_of rfl rfl rfl rfl) (a_cons (x_fld rfl h.c_Bases h.na_Bases_letters (x_var (pv 0))) (a_cons (x_var (pv 1)) a_nil))))))
def b_lessened_costs : MS :=
  (sSeq (sOwn 2 (eLst aNil))
  (sSeq (sFor (iRg1 (eFld 2 "letters" (eVar 0))) (gdN 3) (sIf (eT (e2 (gIn false) (eVar 3) (eVar 1))) (sApp 2 (eMeth 2 "cost" F_Bases_cost (eVar 0) (aCons (eLc [4] (iSeq (eVar 1)) (gdN 4) (eT (e2 (gEq true) (eVar 4) (eVar 3))) (eVar 4)) aNil))) (sApp 2 (eC .non))))
  (sFrz 2 (sRet (eVar 2)))))
def F_lessened_costs : List D → RF := runF 5 2 b_lessened_costs
abbrev N_lessened_costs : List Str := ["bases", "lot", "entries", "letter", "other"]
theorem sc_lessened_costs : FnScope N_lessened_costs ["bases", "lot"] (defScope (top 34)) := ⟨rfl, rfl, rfl, by decide +kernel, rfl, by decide +kernel, by decide +kernel⟩
theorem bi_lessened_costs : BindsP "lessened_costs" "lessened_costs" (defArgs (top 34)) (defBody (top 34)) (defScope (top 34)) ["bases", "lot"] := fun _ _ _ _ _ _ us hl => match us, hl with | [_, _], _ => rfl
theorem tie_lessened_costs (h : Hd P K mg cl) : Fk P w K mg base 6 "lessened_costs" ["bases", "lot"] (spF ⟨K, cl⟩ 2 F_lessened_costs) := by
  refine fk_F h.d_lessened_costs sc_lessened_costs bi_lessened_costs rfl rfl fun f cdv A outer s H E hr => ?_
  exact (b_cons (s_own 2 sc_lessened_costs.nd rfl (Or.inl rfl) (by decide) (x_lst a_nil))
  (b_cons (s_for (passes_of rfl) rfl (i_rg1 rfl h.n_range (x_fld rfl h.c_Bases h.na_Bases_letters (x_var (pv 0)))) (g_name 3 sc_lessened_costs.nd rfl (Or.inr rfl) (by decide)) (b_one (s_if (t_cmp op_in_seq oIn rfl (x_var (pv 3)) (x_var (pv 1))) (b_one (s_app (pv 2) (x_meth ((tie_Bases_cost h).up (by decide : 5 ≤ 5)) (fun ds => runF_len ds) h.c_Bases hr (takes_of rfl rfl rfl rfl) (x_var (pv 0)) (a_cons (RdN.val (x_lcIf (own := [("other", 4)]) rfl sc_lessened_costs.nd (blkOk_by (N := N_lessened_costs) (sc := (defScope (top 34))) (by decide +kernel)) (by decide) (by decide) (i_seq (x_var (pv 1))) (fun _ _ _ _ _ => pg_name (i := 4) sc_lessened_costs.nd rfl (by first | exact Or.inl rfl | exact Or.inr rfl) (by first | exact Or.inl rfl | exact Or.inr rfl)) (rw_name (by decide)) (fun _ _ _ _ _ => (t_cmp (op_neD hr.units) oNe rfl (x_var (pv 4)) (x_var (pv 3)))) (fun _ _ _ _ _ => (x_var (pv 4))))) a_nil)))) (b_one (s_app (pv 2) x_non)))))
  (b_frz 2 (b_one (s_ret (x_var (pv 2)))))))
def b_has_number : MS :=
  (sRet (eCall cAny (aCons (eLc [1] (iSeq (eVar 0)) (gdN 1) mYes (e2 (gNotN) (eVar 1) (eC .non))) aNil)))
def F_has_number : List D → RF := runF 2 1 b_has_number
abbrev N_has_number : List Str := ["entries", "entry"]
theorem sc_has_number : FnScope N_has_number ["entries"] (defScope (top 35)) := ⟨rfl, rfl, rfl, by decide +kernel, rfl, by decide +kernel, by decide +kernel⟩
theorem bi_has_number : BindsP "has_number" "has_number" (defArgs (top 35)) (defBody (top 35)) (defScope (top 35)) ["entries"] := fun _ _ _ _ _ _ us hl => match us, hl with | [_], _ => rfl
theorem tie_has_number (h : Hd P K mg cl) : Fk P w K mg base 1 "has_number" ["entries"] (spF ⟨K, cl⟩ 1 F_has_number) := by
  refine fk_F h.d_has_number sc_has_number bi_has_number rfl rfl fun f cdv A outer s H E hr => ?_
  exact (b_one (s_ret (x_callB (cr_any rfl) oAny rfl h.n_any rfl (a_cons (RdN.val (x_lc (own := [("entry", 1)]) rfl sc_has_number.nd (blkOk_by (N := N_has_number) (sc := (defScope (top 35))) (by decide +kernel)) (by decide) (by decide) (i_seq (x_var (pv 0))) (fun _ _ _ _ _ => pg_name (i := 1) sc_has_number.nd rfl (by first | exact Or.inl rfl | exact Or.inr rfl) (by first | exact Or.inl rfl | exact Or.inr rfl)) (rw_name (by decide)) (fun _ _ _ _ _ => (x_cmp op_notN oNotN rfl (x_var (pv 1)) x_non)))) a_nil))))
def b_circuit : MS :=
  (sSeq (sSet 2 (eFn F_look_lot (aCons (eFld 2 "letters" (eVar 0)) (aCons (eVar 1) aNil))))
  (sSeq (sExpr (eFn F_look_count (aCons (eCall cLen (aCons (eVar 2) aNil)) (aCons (e2 (gI fun i j => i + j) (eFld 2 "rank" (eVar 0)) (eC (.int 1))) (aCons (e2 (gI fun i j => i + j) (eFld 2 "rank" (eVar 0)) (eC (.int 1))) aNil)))))
  (sSeq (sSet 3 (eFn F_lessened_costs (aCons (eVar 0) (aCons (eVar 2) aNil))))
  (sSeq (sIf (eNot (eT (eFn F_has_number (aCons (eVar 3) aNil)))) (sRaise0 12) sSkip)
  (sRet (eVar 3))))))
def F_circuit : List D → RF := runF 4 2 b_circuit
abbrev N_circuit : List Str := ["bases", "lot", "kept", "entries"]
theorem sc_circuit : FnScope N_circuit ["bases", "lot"] (defScope (top 36)) := ⟨rfl, rfl, rfl, by decide +kernel, rfl, by decide +kernel, by decide +kernel⟩
theorem bi_circuit : BindsP "circuit" "circuit" (defArgs (top 36)) (defBody (top 36)) (defScope (top 36)) ["bases", "lot"] := fun _ _ _ _ _ _ us hl => match us, hl with | [_, _], _ => rfl
theorem tie_circuit (h : Hd P K mg cl) : Fk P w K mg base 7 "circuit" ["bases", "lot"] (spF ⟨K, cl⟩ 2 F_circuit) := by
  refine fk_F h.d_circuit sc_circuit bi_circuit rfl rfl fun f cdv A outer s H E hr => ?_
  exact (b_cons (s_set 2 sc_circuit.nd rfl (Or.inl rfl) (by decide) (x_fn ((tie_look_lot h).up (by decide : 4 ≤ 6)) (fun ds => runF_len ds) hr rfl (takes_of rfl rfl rfl rfl) (a_cons (x_fld rfl h.c_Bases h.na_Bases_letters (x_var (pv 0))) (a_cons (x_var (pv 1)) a_nil))))
  (b_cons (s_expr (x_fn ((tie_look_count h).up (by decide : 3 ≤ 6)) (fun ds => runF_len ds) hr rfl (takes_of rfl rfl rfl rfl) (a_cons (x_callB call_len oLen rfl h.n_len rfl (a_cons (x_var (pv 2)) a_nil)) (a_cons (x_add (x_fld rfl h.c_Bases h.na_Bases_rank (x_var (pv 0))) x_int) (a_cons (x_add (x_fld rfl h.c_Bases h.na_Bases_rank (x_var (pv 0))) x_int) a_nil)))))
  (b_cons (s_set 3 sc_circuit.nd rfl (Or.inl rfl) (by decide) (x_fn ((tie_lessened_costs h).up (by decide : 6 ≤ 6)) (fun ds => runF_len ds) hr rfl (takes_of rfl rfl rfl rfl) (a_cons (x_var (pv 0)) (a_cons (x_var (pv 2)) a_nil))))
  (b_cons (s_if (t_not (t_val (x_fn ((tie_has_number h).up (by decide : 1 ≤ 6)) (fun ds => runF_len ds) hr rfl (takes_of rfl rfl rfl rfl) (a_cons (x_var (pv 3)) a_nil)))) (b_one (s_raise0 ((tie_NothingError h).up (by decide : 1 ≤ 6 - 1)) rfl (hr.mono (by decide : 6 - 1 + 1 ≤ 6)) rfl (takes_of rfl rfl rfl rfl))) b_nil)
  (b_one (s_ret (x_var (pv 3))))))))
def b_circuits : MS :=
  (sSeq (sOwn 1 (eLst aNil))
  (sSeq (sFor (iSeq (eFn F_lots_below (aCons (eFld 2 "letters" (eVar 0)) aNil))) (gdN 2) (sIf (eT (e2 (gEq false) (eCall cLen (aCons (eVar 2) aNil)) (e2 (gI fun i j => i + j) (eFld 2 "rank" (eVar 0)) (eC (.int 1))))) (sSeq (sSet 3 (eFn F_lessened_costs (aCons (eVar 0) (aCons (eVar 2) aNil))))
  (sIf (eT (eFn F_has_number (aCons (eVar 3) aNil))) (sApp 1 (eTup (aCons (eVar 2) (aCons (eVar 3) aNil)))) sSkip)) sSkip))
  (sFrz 1 (sRet (eVar 1)))))
def F_circuits : List D → RF := runF 4 1 b_circuits
abbrev N_circuits : List Str := ["bases", "found", "lot", "entries"]
theorem sc_circuits : FnScope N_circuits ["bases"] (defScope (top 37)) := ⟨rfl, rfl, rfl, by decide +kernel, rfl, by decide +kernel, by decide +kernel⟩
theorem bi_circuits : BindsP "circuits" "circuits" (defArgs (top 37)) (defBody (top 37)) (defScope (top 37)) ["bases"] := fun _ _ _ _ _ _ us hl => match us, hl with | [_], _ => rfl
theorem tie_circuits (h : Hd P K mg cl) : Fk P w K mg base 7 "circuits" ["bases"] (spF ⟨K, cl⟩ 1 F_circuits) := by
  refine fk_F h.d_circuits sc_circuits bi_circuits rfl rfl fun f cdv A outer s H E hr => ?_
  exact (b_cons (s_own 1 sc_circuits.nd rfl (Or.inl rfl) (by decide) (x_lst a_nil))
  (b_cons (s_for (passes_of rfl) rfl (i_seq (x_fn ((tie_lots_below h).up (by decide : 1 ≤ 6)) (fun ds => runF_len ds) hr rfl (takes_of rfl rfl rfl rfl) (a_cons (x_fld rfl h.c_Bases h.na_Bases_letters (x_var (pv 0))) a_nil))) (g_name 2 sc_circuits.nd rfl (Or.inl rfl) (by decide)) (b_one (s_if (t_cmp (op_eqD hr.units) oEq rfl (x_callB call_len oLen rfl h.n_len rfl (a_cons (x_var (pv 2)) a_nil)) (x_add (x_fld rfl h.c_Bases h.na_Bases_rank (x_var (pv 0))) x_int)) (b_cons (s_set 3 sc_circuits.nd rfl (Or.inl rfl) (by decide) (x_fn ((tie_lessened_costs h).up (by decide : 6 ≤ 6)) (fun ds => runF_len ds) hr rfl (takes_of rfl rfl rfl rfl) (a_cons (x_var (pv 0)) (a_cons (x_var (pv 2)) a_nil))))
  (b_one (s_if (t_val (x_fn ((tie_has_number h).up (by decide : 1 ≤ 6)) (fun ds => runF_len ds) hr rfl (takes_of rfl rfl rfl rfl) (a_cons (x_var (pv 3)) a_nil))) (b_one (s_app (pv 1) (x_tup (a_cons (x_var (pv 2)) (a_cons (x_var (pv 3)) a_nil))))) b_nil))) b_nil)))
  (b_frz 1 (b_one (s_ret (x_var (pv 1)))))))
def b_looked_rows : MS :=
  (sSeq (sExpr (eFn F_look_count (aCons (eCall cLen (aCons (eVar 1) aNil)) (aCons (eC (.int 1)) (aCons (eVar 2) aNil)))))
  (sSeq (sOwn 3 (eLst aNil))
  (sSeq (sFor (iSeq (eVar 1)) (gdTup 2 (gdCons (gdN 4) (gdCons (gdN 5) gdNil))) (sApp 3 (eTup (aCons (eFn F_look_point (aCons (eVar 0) (aCons (eVar 4) aNil))) (aCons (eFn F_look_number (aCons (eVar 5) (aCons (e1 (gU fun i => -i) (eC (.int (1000000000000000)))) (aCons (eC (.int (1000000000000000))) aNil)))) aNil)))))
  (sSeq (sOwn 6 (eC (.dic [])))
  (sFrz 3 (sSeq (sFor (iSeq (eVar 3)) (gdTup 2 (gdCons (gdN 4) (gdCons (gdN 7) gdNil))) (sSeq (sIf (eT (eDInO false 6 (eVar 4))) sNo sSkip)
  (sDPutO 6 (eVar 4) (eC (.bl true)))))
  (sRet (eVar 3))))))))
def F_looked_rows : List D → RF := runF 8 3 b_looked_rows
abbrev N_looked_rows : List Str := ["width", "rows", "most", "kept", "point", "cost", "seen", "_"]
theorem sc_looked_rows : FnScope N_looked_rows ["width", "rows", "most"] (defScope (top 41)) := ⟨rfl, rfl, rfl, by decide +kernel, rfl, by decide +kernel, by decide +kernel⟩
theorem bi_looked_rows : BindsP "looked_rows" "looked_rows" (defArgs (top 41)) (defBody (top 41)) (defScope (top 41)) ["width", "rows", "most"] := fun _ _ _ _ _ _ us hl => match us, hl with | [_, _, _], _ => rfl
theorem tie_looked_rows (h : Hd P K mg cl) : Fk P w K mg base 6 "looked_rows" ["width", "rows", "most"] (spF ⟨K, cl⟩ 3 F_looked_rows) := by
  refine fk_F h.d_looked_rows sc_looked_rows bi_looked_rows rfl rfl fun f cdv A outer s H E hr => ?_
  exact (b_cons (s_expr (x_fn ((tie_look_count h).up (by decide : 3 ≤ 5)) (fun ds => runF_len ds) hr rfl (takes_of rfl rfl rfl rfl) (a_cons (x_callB call_len oLen rfl h.n_len rfl (a_cons (x_var (pv 1)) a_nil)) (a_cons x_int (a_cons (x_var (pv 2)) a_nil)))))
  (b_cons (s_own 3 sc_looked_rows.nd rfl (Or.inl rfl) (by decide) (x_lst a_nil))
  (b_cons (s_for (passes_of rfl) rfl (i_seq (x_var (pv 1))) (g_tup rfl (g_cons (g_name 4 sc_looked_rows.nd rfl (Or.inl rfl) (by decide)) (g_cons (g_name 5 sc_looked_rows.nd rfl (Or.inl rfl) (by decide)) g_nil))) (b_one (s_app (pv 3) (x_tup (a_cons (x_fn ((tie_look_point h).up (by decide : 5 ≤ 5)) (fun ds => runF_len ds) hr rfl (takes_of rfl rfl rfl rfl) (a_cons (x_var (pv 0)) (a_cons (x_var (pv 4)) a_nil))) (a_cons (x_fn ((tie_look_number h).up (by decide : 1 ≤ 5)) (fun ds => runF_len ds) hr rfl (takes_of rfl rfl rfl rfl) (a_cons (x_var (pv 5)) (a_cons (x_neg (x_gint rfl h.g_MOST_COST)) (a_cons (x_gint rfl h.g_MOST_COST) a_nil)))) a_nil))))))
  (b_cons (s_own 6 sc_looked_rows.nd rfl (Or.inl rfl) (by decide) x_dicN)
  (b_frz 3 (b_cons (s_for (passes_of rfl) rfl (i_seq (x_var (pv 3))) (g_tup rfl (g_cons (g_name 4 sc_looked_rows.nd rfl (Or.inl rfl) (by decide)) (g_cons (g_name 7 sc_looked_rows.nd rfl (Or.inl rfl) (by decide)) g_nil))) (b_cons (s_if (t_dinO (hu_of hr) (x_var (pv 4)) (pv 6)) (b_one s_no) b_nil)
  (b_one (s_dputO (hu_of hr) (pv 6) (x_var (pv 4)) x_bl))))
  (b_one (s_ret (x_var (pv 3))))))))))
def b_Table___init__ : MS :=
  (sSeq (sFldO 0 0 "width" (eFn F_look_number (aCons (eVar 1) (aCons (eC (.int 0)) (aCons (eC (.int (6))) aNil)))))
  (sSeq (sSet 3 (eFn F_looked_rows (aCons (eVar 1) (aCons (eVar 2) (aCons (eC (.int 400)) aNil)))))
  (sSeq (sFldO 0 0 "rows" (eCall cTuple (aCons (eCall cSort (aCons (eVar 3) aNil)) aNil)))
  (sSeq (sFldO 0 0 "_costs" (eDc [4, 5] (iSeq (eFldO 0 0 "rows")) (gdTup 2 (gdCons (gdN 4) (gdCons (gdN 5) gdNil))) mYes (eVar 4) (eVar 5)))
  (sSeq (sSet 6 (eLc [4, 7] (iSeq (eFldO 0 0 "rows")) (gdTup 2 (gdCons (gdN 4) (gdCons (gdN 7) gdNil))) mYes (eVar 4)))
  (sSeq (sFldO 0 0 "lows" (eCall cTuple (aCons (eLc [8] (iRg1 (eVar 1)) (gdN 8) mYes (eCall cMinL (aCons (eLc [4] (iSeq (eVar 6)) (gdN 4) mYes (e2 gIx (eVar 4) (eVar 8))) aNil))) aNil)))
  (sFldO 0 0 "highs" (eCall cTuple (aCons (eLc [8] (iRg1 (eVar 1)) (gdN 8) mYes (eCall cMaxL (aCons (eLc [4] (iSeq (eVar 6)) (gdN 4) mYes (e2 gIx (eVar 4) (eVar 8))) aNil))) aNil)))))))))
def F_Table___init__ : D → List D → RO := runO 9 3 b_Table___init__
abbrev N_Table___init__ : List Str := ["self", "width", "rows", "kept", "point", "cost", "points", "_", "letter"]
theorem sc_Table___init__ : FnScope N_Table___init__ ["self", "width", "rows"] (defScope (inClass (top 40) 1)) := ⟨rfl, rfl, rfl, by decide +kernel, rfl, by decide +kernel, by decide +kernel⟩
theorem bi_Table___init__ : BindsP "__init__" "Table.__init__" (defArgs (inClass (top 40) 1)) (defBody (inClass (top 40) 1)) (defScope (inClass (top 40) 1)) ["self", "width", "rows"] := fun _ _ _ _ _ _ us hl => match us, hl with | [_, _, _], _ => rfl
theorem tie_Table___init__ (h : Hd P K mg cl) : Fi P w K mg base 7 "Table" (cl 0) ["self", "width", "rows"] (spO ⟨K, cl⟩ 3 F_Table___init__) := by
  refine fi_O h.d_Table___init__ sc_Table___init__ bi_Table___init__ rfl rfl fun f cdv A outer s H E hr => ?_
  exact (b_cons (s_fldO rfl h.c_Table h.na_Table_width (pv 0) (x_fn ((tie_look_number h).up (by decide : 1 ≤ 6)) (fun ds => runF_len ds) hr rfl (takes_of rfl rfl rfl rfl) (a_cons (x_var (pv 1)) (a_cons x_int (a_cons (x_gint rfl h.g_MOST_LETTERS) a_nil)))))
  (b_cons (s_set 3 sc_Table___init__.nd rfl (Or.inl rfl) (by decide) (x_fn ((tie_looked_rows h).up (by decide : 6 ≤ 6)) (fun ds => runF_len ds) hr rfl (takes_of rfl rfl rfl rfl) (a_cons (x_var (pv 1)) (a_cons (x_var (pv 2)) (a_cons (x_cint rfl h.k_Table_MOST_ROWS) a_nil)))))
  (b_cons (s_fldO rfl h.c_Table h.na_Table_rows (pv 0) (x_callTy call_tuple_of oTuple rfl h.n_tuple rfl (a_cons (RdN.val (x_callBN (cr_sortedD hr.units) oSort rfl h.n_sorted rfl (a_cons (x_var (pv 3)) a_nil))) a_nil)))
  (b_cons (s_fldO rfl h.c_Table h.na_Table__costs (pv 0) (RdN.val (x_dc (own := [("point", 4), ("cost", 5)]) hr.units0 rfl sc_Table___init__.nd (blkOk_by (N := N_Table___init__) (sc := (defScope (inClass (top 40) 1))) (by decide +kernel)) (by decide) (by decide) (i_seq (x_fldO rfl h.c_Table h.na_Table_rows (pv 0))) (fun _ _ _ _ _ => pg_tup rfl (pgs_cons (pg_name (i := 4) sc_Table___init__.nd rfl (by first | exact Or.inl rfl | exact Or.inr rfl) (by first | exact Or.inl rfl | exact Or.inr rfl)) (pgs_cons (pg_name (i := 5) sc_Table___init__.nd rfl (by first | exact Or.inl rfl | exact Or.inr rfl) (by first | exact Or.inl rfl | exact Or.inr rfl)) pgs_nil))) (rw_tup (rw_cons (rw_name (by decide)) (rw_cons (rw_name (by decide)) rw_nil))) (fun _ _ _ _ _ => (x_var (pv 4))) (fun _ _ _ _ _ => (x_var (pv 5))))))
  (b_cons (s_set 6 sc_Table___init__.nd rfl (Or.inr rfl) (by decide) (RdN.val (x_lc (own := [("point", 4), ("_", 7)]) rfl sc_Table___init__.nd (blkOk_by (N := N_Table___init__) (sc := (defScope (inClass (top 40) 1))) (by decide +kernel)) (by decide) (by decide) (i_seq (x_fldO rfl h.c_Table h.na_Table_rows (pv 0))) (fun _ _ _ _ _ => pg_tup rfl (pgs_cons (pg_name (i := 4) sc_Table___init__.nd rfl (by first | exact Or.inl rfl | exact Or.inr rfl) (by first | exact Or.inl rfl | exact Or.inr rfl)) (pgs_cons (pg_name (i := 7) sc_Table___init__.nd rfl (by first | exact Or.inl rfl | exact Or.inr rfl) (by first | exact Or.inl rfl | exact Or.inr rfl)) pgs_nil))) (rw_tup (rw_cons (rw_name (by decide)) (rw_cons (rw_name (by decide)) rw_nil))) (fun _ _ _ _ _ => (x_var (pv 4))))))
  (b_cons (s_fldO rfl h.c_Table h.na_Table_lows (pv 0) (x_callTy call_tuple_of oTuple rfl h.n_tuple rfl (a_cons (RdN.val (x_lc (own := [("letter", 8)]) rfl sc_Table___init__.nd (blkOk_by (N := N_Table___init__) (sc := (defScope (inClass (top 40) 1))) (by decide +kernel)) (by decide) (by decide) (i_rg1 rfl h.n_range (x_var (pv 1))) (fun _ _ _ _ _ => pg_name (i := 8) sc_Table___init__.nd rfl (by first | exact Or.inl rfl | exact Or.inr rfl) (by first | exact Or.inl rfl | exact Or.inr rfl)) (rw_name (by decide)) (fun _ _ _ _ _ => (x_callB (cr_min rfl) oMinL rfl h.n_min rfl (a_cons (RdN.val (x_lc (own := [("point", 4)]) rfl sc_Table___init__.nd (blkOk_by (by rfl)) (by decide) (by decide) (i_seq (x_var (pv 6))) (fun _ _ _ _ _ => pg_name (i := 4) sc_Table___init__.nd rfl (by first | exact Or.inl rfl | exact Or.inr rfl) (by first | exact Or.inl rfl | exact Or.inr rfl)) (rw_name (by decide)) (fun _ _ _ _ _ => (x_ix rfl (x_var (pv 4)) (x_var (pv 8)))))) a_nil))))) a_nil)))
  (b_one (s_fldO rfl h.c_Table h.na_Table_highs (pv 0) (x_callTy call_tuple_of oTuple rfl h.n_tuple rfl (a_cons (RdN.val (x_lc (own := [("letter", 8)]) rfl sc_Table___init__.nd (blkOk_by (N := N_Table___init__) (sc := (defScope (inClass (top 40) 1))) (by decide +kernel)) (by decide) (by decide) (i_rg1 rfl h.n_range (x_var (pv 1))) (fun _ _ _ _ _ => pg_name (i := 8) sc_Table___init__.nd rfl (by first | exact Or.inl rfl | exact Or.inr rfl) (by first | exact Or.inl rfl | exact Or.inr rfl)) (rw_name (by decide)) (fun _ _ _ _ _ => (x_callB (cr_max rfl) oMaxL rfl h.n_max rfl (a_cons (RdN.val (x_lc (own := [("point", 4)]) rfl sc_Table___init__.nd (blkOk_by (by rfl)) (by decide) (by decide) (i_seq (x_var (pv 6))) (fun _ _ _ _ _ => pg_name (i := 4) sc_Table___init__.nd rfl (by first | exact Or.inl rfl | exact Or.inr rfl) (by first | exact Or.inl rfl | exact Or.inr rfl)) (rw_name (by decide)) (fun _ _ _ _ _ => (x_ix rfl (x_var (pv 4)) (x_var (pv 8)))))) a_nil))))) a_nil))))))))))
def b_Table_points : MS :=
  (sRet (eLc [1, 2] (iSeq (eFld 0 "rows" (eVar 0))) (gdTup 2 (gdCons (gdN 1) (gdCons (gdN 2) gdNil))) mYes (eVar 1)))
def F_Table_points : List D → RF := runF 3 1 b_Table_points
abbrev N_Table_points : List Str := ["self", "point", "_"]
theorem sc_Table_points : FnScope N_Table_points ["self"] (defScope (inClass (top 40) 4)) := ⟨rfl, rfl, rfl, by decide +kernel, rfl, by decide +kernel, by decide +kernel⟩
theorem bi_Table_points : BindsP "points" "Table.points" (defArgs (inClass (top 40) 4)) (defBody (inClass (top 40) 4)) (defScope (inClass (top 40) 4)) ["self"] := fun _ _ _ _ _ _ us hl => match us, hl with | [_], _ => rfl
theorem tie_Table_points (h : Hd P K mg cl) : Fm' P w K mg base 1 (cl 0) "points" ["self"] (spF ⟨K, cl⟩ 1 F_Table_points) := by
  refine fm_F h.d_Table_points sc_Table_points bi_Table_points rfl rfl fun f cdv A outer s H E hr => ?_
  exact (b_one (s_ret (RdN.val (x_lc (own := [("point", 1), ("_", 2)]) rfl sc_Table_points.nd (blkOk_by (N := N_Table_points) (sc := (defScope (inClass (top 40) 4))) (by decide +kernel)) (by decide) (by decide) (i_seq (x_fld rfl h.c_Table h.na_Table_rows (x_var (pv 0)))) (fun _ _ _ _ _ => pg_tup rfl (pgs_cons (pg_name (i := 1) sc_Table_points.nd rfl (by first | exact Or.inl rfl | exact Or.inr rfl) (by first | exact Or.inl rfl | exact Or.inr rfl)) (pgs_cons (pg_name (i := 2) sc_Table_points.nd rfl (by first | exact Or.inl rfl | exact Or.inr rfl) (by first | exact Or.inl rfl | exact Or.inr rfl)) pgs_nil))) (rw_tup (rw_cons (rw_name (by decide)) (rw_cons (rw_name (by decide)) rw_nil))) (fun _ _ _ _ _ => (x_var (pv 1)))))))
def b_table_costs : MS :=
  (sRet (eDc [1, 2] (iSeq (eFld 0 "rows" (eVar 0))) (gdTup 2 (gdCons (gdN 1) (gdCons (gdN 2) gdNil))) mYes (eVar 1) (eVar 2)))
def F_table_costs : List D → RF := runF 3 1 b_table_costs
abbrev N_table_costs : List Str := ["table", "point", "cost"]
theorem sc_table_costs : FnScope N_table_costs ["table"] (defScope (top 42)) := ⟨rfl, rfl, rfl, by decide +kernel, rfl, by decide +kernel, by decide +kernel⟩
theorem bi_table_costs : BindsP "table_costs" "table_costs" (defArgs (top 42)) (defBody (top 42)) (defScope (top 42)) ["table"] := fun _ _ _ _ _ _ us hl => match us, hl with | [_], _ => rfl
theorem tie_table_costs (h : Hd P K mg cl) : Fk P w K mg base 1 "table_costs" ["table"] (spF ⟨K, cl⟩ 1 F_table_costs) := by
  refine fk_F h.d_table_costs sc_table_costs bi_table_costs rfl rfl fun f cdv A outer s H E hr => ?_
  exact (b_one (s_ret (RdN.val (x_dc (own := [("point", 1), ("cost", 2)]) hr.units0 rfl sc_table_costs.nd (blkOk_by (N := N_table_costs) (sc := (defScope (top 42))) (by decide +kernel)) (by decide) (by decide) (i_seq (x_fld rfl h.c_Table h.na_Table_rows (x_var (pv 0)))) (fun _ _ _ _ _ => pg_tup rfl (pgs_cons (pg_name (i := 1) sc_table_costs.nd rfl (by first | exact Or.inl rfl | exact Or.inr rfl) (by first | exact Or.inl rfl | exact Or.inr rfl)) (pgs_cons (pg_name (i := 2) sc_table_costs.nd rfl (by first | exact Or.inl rfl | exact Or.inr rfl) (by first | exact Or.inl rfl | exact Or.inr rfl)) pgs_nil))) (rw_tup (rw_cons (rw_name (by decide)) (rw_cons (rw_name (by decide)) rw_nil))) (fun _ _ _ _ _ => (x_var (pv 1))) (fun _ _ _ _ _ => (x_var (pv 2)))))))
def b_table_from : MS :=
  (sSeq (sIf (eT (e2 (gEq false) (eCall cLenD (aCons (eVar 1) aNil)) (eC (.int 0)))) sNo sSkip)
  (sSeq (sIf (eT (e2 (gB fun i j => decide (j < i)) (eCall cLenD (aCons (eVar 1) aNil)) (eC (.int 400)))) sNo sSkip)
  (sRet (eMake 0 F_Table___init__ (aCons (eVar 0) (aCons (eLc [2] (iSeq (eCall cSortK (aCons (eVar 1) aNil))) (gdN 2) mYes (eTup (aCons (eVar 2) (aCons (eDIx (eVar 1) (eVar 2)) aNil)))) aNil))))))
def F_table_from : List D → RF := runF 3 2 b_table_from
abbrev N_table_from : List Str := ["width", "costs", "point"]
theorem sc_table_from : FnScope N_table_from ["width", "costs"] (defScope (top 43)) := ⟨rfl, rfl, rfl, by decide +kernel, rfl, by decide +kernel, by decide +kernel⟩
theorem bi_table_from : BindsP "table_from" "table_from" (defArgs (top 43)) (defBody (top 43)) (defScope (top 43)) ["width", "costs"] := fun _ _ _ _ _ _ us hl => match us, hl with | [_, _], _ => rfl
theorem tie_table_from (h : Hd P K mg cl) : Fk P w K mg base 9 "table_from" ["width", "costs"] (spF ⟨K, cl⟩ 2 F_table_from) := by
  refine fk_F h.d_table_from sc_table_from bi_table_from rfl rfl fun f cdv A outer s H E hr => ?_
  exact (b_cons (s_if (t_cmp (op_eqD hr.units) oEq rfl (x_callB call_len_dT oLenD rfl h.n_len rfl (a_cons (x_var (pv 1)) a_nil)) x_int) (b_one s_no) b_nil)
  (b_cons (s_if (t_cmp op_gt oB rfl (x_callB call_len_dT oLenD rfl h.n_len rfl (a_cons (x_var (pv 1)) a_nil)) (x_cint rfl h.k_Table_MOST_ROWS)) (b_one s_no) b_nil)
  (b_one (s_ret (RdN.val (x_make (tie_Table___init__ h) (fun o ds => runO_len o ds) (hr.mono (by decide : 8 ≤ 8)) rfl (a_cons (x_var (pv 0)) (a_cons (RdN.val (x_lc (own := [("point", 2)]) rfl sc_table_from.nd (blkOk_by (N := N_table_from) (sc := (defScope (top 43))) (by decide +kernel)) (by decide) (by decide) (i_seq (RdN.val (x_callBN (cr_sortedK rfl hr.units) oSortK rfl h.n_sorted rfl (a_cons (x_var (pv 1)) a_nil)))) (fun _ _ _ _ _ => pg_name (i := 2) sc_table_from.nd rfl (by first | exact Or.inl rfl | exact Or.inr rfl) (by first | exact Or.inl rfl | exact Or.inr rfl)) (rw_name (by decide)) (fun _ _ _ _ _ => (x_tup (a_cons (x_var (pv 2)) (a_cons (x_dix (hu_of hr) (x_var (pv 1)) (x_var (pv 2))) a_nil)))))) a_nil))))))))
def b_near_weights : MS :=
  (sSeq (sOwn 3 (eLst aNil))
  (sSeq (sFor (iSeq (eFn F_near_steps (aCons (eVar 0) aNil))) (gdTup 2 (gdCons (gdN 4) (gdCons (gdN 5) gdNil))) (sSeq (sSet 6 (eFn F_moved (aCons (eVar 2) (aCons (eVar 4) (aCons (eVar 5) aNil)))))
  (sIf (eT (eDIn false (eVar 6) (eVar 1))) (sApp 3 (eTup (aCons (eVar 4) (aCons (eVar 5) (aCons (e2 (gI fun i j => i - j) (eDIx (eVar 1) (eVar 6)) (eDIx (eVar 1) (eVar 2))) aNil))))) sSkip)))
  (sFrz 3 (sRet (eVar 3)))))
def F_near_weights : List D → RF := runF 7 3 b_near_weights
abbrev N_near_weights : List Str := ["width", "costs", "point", "found", "out", "into", "near"]
theorem sc_near_weights : FnScope N_near_weights ["width", "costs", "point"] (defScope (top 46)) := ⟨rfl, rfl, rfl, by decide +kernel, rfl, by decide +kernel, by decide +kernel⟩
theorem bi_near_weights : BindsP "near_weights" "near_weights" (defArgs (top 46)) (defBody (top 46)) (defScope (top 46)) ["width", "costs", "point"] := fun _ _ _ _ _ _ us hl => match us, hl with | [_, _, _], _ => rfl
theorem tie_near_weights (h : Hd P K mg cl) : Fk P w K mg base 4 "near_weights" ["width", "costs", "point"] (spF ⟨K, cl⟩ 3 F_near_weights) := by
  refine fk_F h.d_near_weights sc_near_weights bi_near_weights rfl rfl fun f cdv A outer s H E hr => ?_
  exact (b_cons (s_own 3 sc_near_weights.nd rfl (Or.inl rfl) (by decide) (x_lst a_nil))
  (b_cons (s_for (passes_of rfl) rfl (i_seq (x_fn ((tie_near_steps h).up (by decide : 3 ≤ 3)) (fun ds => runF_len ds) hr rfl (takes_of rfl rfl rfl rfl) (a_cons (x_var (pv 0)) a_nil))) (g_tup rfl (g_cons (g_name 4 sc_near_weights.nd rfl (Or.inl rfl) (by decide)) (g_cons (g_name 5 sc_near_weights.nd rfl (Or.inl rfl) (by decide)) g_nil))) (b_cons (s_set 6 sc_near_weights.nd rfl (Or.inl rfl) (by decide) (x_fn ((tie_moved h).up (by decide : 1 ≤ 3)) (fun ds => runF_len ds) hr rfl (takes_of rfl rfl rfl rfl) (a_cons (x_var (pv 2)) (a_cons (x_var (pv 4)) (a_cons (x_var (pv 5)) a_nil)))))
  (b_one (s_if (t_din (hu_of hr) (x_var (pv 6)) (x_var (pv 1))) (b_one (s_app (pv 3) (x_tup (a_cons (x_var (pv 4)) (a_cons (x_var (pv 5)) (a_cons (x_sub (x_dix (hu_of hr) (x_var (pv 1)) (x_var (pv 6))) (x_dix (hu_of hr) (x_var (pv 1)) (x_var (pv 2)))) a_nil)))))) b_nil))))
  (b_frz 3 (b_one (s_ret (x_var (pv 3)))))))
def b_weight_rows : MS :=
  (sSeq (sSet 1 (eFld 0 "width" (eVar 0)))
  (sSeq (sSet 2 (eFn F_table_costs (aCons (eVar 0) aNil)))
  (sSeq (sOwn 3 (eLst aNil))
  (sSeq (sFor (iSeq (eMeth 0 "points" F_Table_points (eVar 0) aNil)) (gdN 4) (sMat 5 (eMat [9] (iRg1 (e2 (gI fun i j => i + j) (eVar 1) (eC (.int 1)))) (gdN 9) (e2 gRep (eLst (aCons (eC (.int (100000000000000000000))) aNil)) (e2 (gI fun i j => i + j) (eVar 1) (eC (.int 1))))) (iSeq (eFn F_near_weights (aCons (eVar 1) (aCons (eVar 2) (aCons (eVar 4) aNil))))) (gdTup 3 (gdCons (gdN 6) (gdCons (gdN 7) (gdCons (gdN 8) gdNil)))) (eFn F_end_place (aCons (eVar 1) (aCons (eVar 6) aNil))) (eFn F_end_place (aCons (eVar 1) (aCons (eVar 7) aNil))) (eVar 8)
  (sApp 3 (eTup (aCons (eVar 4) (aCons (eFn F_end_amounts (aCons (eVar 4) aNil)) (aCons (eVar 5) aNil)))))))
  (sFrz 3 (sRet (eVar 3)))))))
def F_weight_rows : List D → RF := runF 10 1 b_weight_rows
abbrev N_weight_rows : List Str := ["table", "width", "costs", "rows", "point", "weights", "out", "into", "weight", "_"]
theorem sc_weight_rows : FnScope N_weight_rows ["table"] (defScope (top 49)) := ⟨rfl, rfl, rfl, by decide +kernel, rfl, by decide +kernel, by decide +kernel⟩
theorem bi_weight_rows : BindsP "weight_rows" "weight_rows" (defArgs (top 49)) (defBody (top 49)) (defScope (top 49)) ["table"] := fun _ _ _ _ _ _ us hl => match us, hl with | [_], _ => rfl
theorem tie_weight_rows (h : Hd P K mg cl) : Fk P w K mg base 5 "weight_rows" ["table"] (spF ⟨K, cl⟩ 1 F_weight_rows) := by
  refine fk_F h.d_weight_rows sc_weight_rows bi_weight_rows rfl rfl fun f cdv A outer s H E hr => ?_
  exact (b_cons (s_set 1 sc_weight_rows.nd rfl (Or.inr rfl) (by decide) (x_fld rfl h.c_Table h.na_Table_width (x_var (pv 0))))
  (b_cons (s_set 2 sc_weight_rows.nd rfl (Or.inl rfl) (by decide) (x_fn ((tie_table_costs h).up (by decide : 1 ≤ 4)) (fun ds => runF_len ds) hr rfl (takes_of rfl rfl rfl rfl) (a_cons (x_var (pv 0)) a_nil)))
  (b_cons (s_own 3 sc_weight_rows.nd rfl (Or.inl rfl) (by decide) (x_lst a_nil))
  (b_cons (s_for (passes_of rfl) rfl (i_seq (x_meth0 ((tie_Table_points h).up (by decide : 1 ≤ 4)) (fun ds => runF_len ds) h.c_Table hr (takes_of rfl rfl rfl rfl) (x_var (pv 0)))) (g_name 4 sc_weight_rows.nd rfl (Or.inl rfl) (by decide)) (b_mat (own := [("_", 9)]) (i := 5) (by decide) rfl rfl rfl rfl sc_weight_rows.nd (blkOk_by (N := N_weight_rows) (sc := (defScope (top 49))) (by decide +kernel)) (by decide) (by decide) (i_rg1 rfl h.n_range (x_add (x_var (pv 1)) x_int)) (fun _ _ _ _ _ => pg_name (i := 9) sc_weight_rows.nd rfl (by first | exact Or.inl rfl | exact Or.inr rfl) (by first | exact Or.inl rfl | exact Or.inr rfl)) (rw_name (by decide)) (fun _ _ _ _ _ => (x_rep (RdN.val (x_lst (a_cons (x_gint rfl h.g_ENDLESS) a_nil))) (x_add (x_var (pv 1)) x_int))) (passes_of rfl) (i_seq (x_fn ((tie_near_weights h).up (by decide : 4 ≤ 4)) (fun ds => runF_len ds) hr rfl (takes_of rfl rfl rfl rfl) (a_cons (x_var (pv 1)) (a_cons (x_var (pv 2)) (a_cons (x_var (pv 4)) a_nil))))) (pg_tup rfl (pgs_cons (pg_name (i := 6) sc_weight_rows.nd rfl (Or.inl rfl)) (pgs_cons (pg_name (i := 7) sc_weight_rows.nd rfl (Or.inl rfl)) (pgs_cons (pg_name (i := 8) sc_weight_rows.nd rfl (Or.inl rfl)) pgs_nil)))) (rw_tup (rw_cons (rw_name (by decide)) (rw_cons (rw_name (by decide)) (rw_cons (rw_name (by decide)) rw_nil)))) (by decide) (pv 5) (x_fn ((tie_end_place h).up (by decide : 1 ≤ 4)) (fun ds => runF_len ds) hr rfl (takes_of rfl rfl rfl rfl) (a_cons (x_var (pv 1)) (a_cons (x_var (pv 6)) a_nil))) (x_fn ((tie_end_place h).up (by decide : 1 ≤ 4)) (fun ds => runF_len ds) hr rfl (takes_of rfl rfl rfl rfl) (a_cons (x_var (pv 1)) (a_cons (x_var (pv 7)) a_nil))) (x_var (pv 8))
  (b_one (s_app (pv 3) (x_tup (a_cons (x_var (pv 4)) (a_cons (x_fn ((tie_end_amounts h).up (by decide : 1 ≤ 4)) (fun ds => runF_len ds) hr rfl (takes_of rfl rfl rfl rfl) (a_cons (x_var (pv 4)) a_nil)) (a_cons (x_var (pv 5)) a_nil))))))))
  (b_frz 3 (b_one (s_ret (x_var (pv 3)))))))))
def b_place_without_partner : MS :=
  (sSeq (sAsg (gdTup 3 (gdCons (gdN 2) (gdCons (gdN 3) (gdCons (gdN 4) gdNil)))) (eVar 0))
  (sSeq (sAsg (gdTup 3 (gdCons (gdN 2) (gdCons (gdN 5) (gdCons (gdN 6) gdNil)))) (eVar 1))
  (sSeq (sSet 7 (eLc [8, 9] (iEnumD (eVar 3)) (gdTup 2 (gdCons (gdN 8) (gdCons (gdN 9) gdNil))) (eT (e2 (gB fun i j => decide (i < j)) (eVar 9) (e2 gIx (eVar 5) (eVar 8)))) (eVar 8)))
  (sSeq (sFor (iEnumD (eVar 3)) (gdTup 2 (gdCons (gdN 10) (gdCons (gdN 9) gdNil))) (sIf (eAnd (eT (e2 (gB fun i j => decide (j < i)) (eVar 9) (e2 gIx (eVar 5) (eVar 10)))) (eNot (eT (eCall cAny (aCons (eLc [8] (iSeq (eVar 7)) (gdN 8) mYes (e2 (gB fun i j => decide (i ≤ j)) (e2 (gI fun i j => i + j) (e2 gIx (e2 gIx (eVar 4) (eVar 10)) (eVar 8)) (e2 gIx (e2 gIx (eVar 6) (eVar 8)) (eVar 10))) (eC (.int 0)))) aNil))))) (sRet (eVar 10)) sSkip))
  (sRet (eC .non))))))
def F_place_without_partner : List D → RF := runF 11 2 b_place_without_partner
abbrev N_place_without_partner : List Str := ["first", "second", "_", "x_amounts", "x_weights", "y_amounts", "y_weights", "less", "place", "amount", "at"]
theorem sc_place_without_partner : FnScope N_place_without_partner ["first", "second"] (defScope (top 50)) := ⟨rfl, rfl, rfl, by decide +kernel, rfl, by decide +kernel, by decide +kernel⟩
theorem bi_place_without_partner : BindsP "place_without_partner" "place_without_partner" (defArgs (top 50)) (defBody (top 50)) (defScope (top 50)) ["first", "second"] := fun _ _ _ _ _ _ us hl => match us, hl with | [_, _], _ => rfl
theorem tie_place_without_partner (h : Hd P K mg cl) : Fk P w K mg base 1 "place_without_partner" ["first", "second"] (spF ⟨K, cl⟩ 2 F_place_without_partner) := by
  refine fk_F h.d_place_without_partner sc_place_without_partner bi_place_without_partner rfl rfl fun f cdv A outer s H E hr => ?_
  exact (b_cons (s_asg (g_tup rfl (g_cons (g_name 2 sc_place_without_partner.nd rfl (Or.inl rfl) (by decide)) (g_cons (g_name 3 sc_place_without_partner.nd rfl (Or.inl rfl) (by decide)) (g_cons (g_name 4 sc_place_without_partner.nd rfl (Or.inr rfl) (by decide)) g_nil)))) (x_var (pv 0)))
  (b_cons (s_asg (g_tup rfl (g_cons (g_name 2 sc_place_without_partner.nd rfl (Or.inl rfl) (by decide)) (g_cons (g_name 5 sc_place_without_partner.nd rfl (Or.inr rfl) (by decide)) (g_cons (g_name 6 sc_place_without_partner.nd rfl (Or.inr rfl) (by decide)) g_nil)))) (x_var (pv 1)))
  (b_cons (s_lcIf (own := [("place", 8), ("amount", 9)]) (i := 7) (by decide) rfl rfl rfl rfl sc_place_without_partner.nd (blkOk_by (N := N_place_without_partner) (sc := (defScope (top 50))) (by decide +kernel)) (by decide) (by decide) (i_enum rfl h.n_enumerate (x_var (pv 3))) (fun _ _ _ _ _ => pg_tup rfl (pgs_cons (pg_name (i := 8) sc_place_without_partner.nd rfl (by first | exact Or.inl rfl | exact Or.inr rfl) (by first | exact Or.inl rfl | exact Or.inr rfl)) (pgs_cons (pg_name (i := 9) sc_place_without_partner.nd rfl (by first | exact Or.inl rfl | exact Or.inr rfl) (by first | exact Or.inl rfl | exact Or.inr rfl)) pgs_nil))) (rw_tup (rw_cons (rw_name (by decide)) (rw_cons (rw_name (by decide)) rw_nil))) (fun _ _ _ _ _ => (t_cmp op_lt oB rfl (x_var (pv 9)) (x_ix rfl (x_var (pv 5)) (x_var (pv 8))))) (fun _ _ _ _ _ => (x_var (pv 8))))
  (b_cons (s_for (passes_of rfl) rfl (i_enum rfl h.n_enumerate (x_var (pv 3))) (g_tup rfl (g_cons (g_name 10 sc_place_without_partner.nd rfl (Or.inr rfl) (by decide)) (g_cons (g_name 9 sc_place_without_partner.nd rfl (Or.inl rfl) (by decide)) g_nil))) (b_one (s_if (t_and2 (t_cmp op_gt oB rfl (x_var (pv 9)) (x_ix rfl (x_var (pv 5)) (x_var (pv 10)))) (t_not (t_val (x_callB (cr_any rfl) oAny rfl h.n_any rfl (a_cons (RdN.val (x_lc (own := [("place", 8)]) rfl sc_place_without_partner.nd (blkOk_by (N := N_place_without_partner) (sc := (defScope (top 50))) (by decide +kernel)) (by decide) (by decide) (i_seq (x_var (pv 7))) (fun _ _ _ _ _ => pg_name (i := 8) sc_place_without_partner.nd rfl (by first | exact Or.inl rfl | exact Or.inr rfl) (by first | exact Or.inl rfl | exact Or.inr rfl)) (rw_name (by decide)) (fun _ _ _ _ _ => (x_cmp op_le oB rfl (x_add (x_ix rfl (x_ix rfl (x_var (pv 4)) (x_var (pv 10))) (x_var (pv 8))) (x_ix rfl (x_ix rfl (x_var (pv 6)) (x_var (pv 8))) (x_var (pv 10)))) x_int)))) a_nil))))) (b_one (s_ret (x_var (pv 10)))) b_nil)))
  (b_one (s_ret x_non))))))
def b_first_triple : MS :=
  (sSeq (sSet 2 (eFn F_weight_rows (aCons (eVar 0) aNil)))
  (sSeq (sFor (iSeq (eVar 2)) (gdN 3) (sFor (iSeq (eVar 2)) (gdN 4) (sSeq (sIf (eAnd (eT (eVar 1)) (eNot (fun _ => .stuck))) (fun ρ => .ct ρ) sSkip)
  (sSeq (sSet 5 (eFn F_place_without_partner (aCons (eVar 3) (aCons (eVar 4) aNil))))
  (sIf (eT (e2 (gNotN) (eVar 5) (eC .non))) (sRet (eTup (aCons (e2 gIx (eVar 3) (eC (.int 0))) (aCons (e2 gIx (eVar 4) (eC (.int 0))) (aCons (e2 gIx (eFn F_ends (aCons (eFld 0 "width" (eVar 0)) aNil)) (eVar 5)) aNil))))) sSkip)))))
  (sRet (eC .non))))
def F_first_triple : List D → RF := runF 6 2 b_first_triple
abbrev N_first_triple : List Str := ["table", "only_near", "rows", "first", "second", "place"]
theorem sc_first_triple : FnScope N_first_triple ["table", "only_near"] (defScope (top 52)) := ⟨rfl, rfl, rfl, by decide +kernel, rfl, by decide +kernel, by decide +kernel⟩
theorem bi_first_triple : BindsP "first_triple" "first_triple" (defArgs (top 52)) (defBody (top 52)) (defScope (top 52)) ["table", "only_near"] := fun _ _ _ _ _ _ us hl => match us, hl with | [_, _], _ => rfl
theorem tie_first_triple (h : Hd P K mg cl) : Fk P w K mg base 6 "first_triple" ["table", "only_near"] (spF ⟨K, cl⟩ 2 F_first_triple) := by
  refine fk_F h.d_first_triple sc_first_triple bi_first_triple rfl rfl fun f cdv A outer s H E hr => ?_
  exact (b_cons (s_set 2 sc_first_triple.nd rfl (Or.inl rfl) (by decide) (x_fn ((tie_weight_rows h).up (by decide : 5 ≤ 5)) (fun ds => runF_len ds) hr rfl (takes_of rfl rfl rfl rfl) (a_cons (x_var (pv 0)) a_nil)))
  (b_cons (s_for (passes_of rfl) rfl (i_seq (x_var (pv 2))) (g_name 3 sc_first_triple.nd rfl (Or.inl rfl) (by decide)) (b_one (s_for (passes_of rfl) rfl (i_seq (x_var (pv 2))) (g_name 4 sc_first_triple.nd rfl (Or.inl rfl) (by decide)) (b_cons (s_if (t_and2 (t_val (x_var (pv 1))) (t_not t_no)) (b_one s_cont) b_nil)
  (b_cons (s_set 5 sc_first_triple.nd rfl (Or.inl rfl) (by decide) (x_fn ((tie_place_without_partner h).up (by decide : 1 ≤ 5)) (fun ds => runF_len ds) hr rfl (takes_of rfl rfl rfl rfl) (a_cons (x_var (pv 3)) (a_cons (x_var (pv 4)) a_nil))))
  (b_one (s_if (t_cmp op_notN oNotN rfl (x_var (pv 5)) x_non) (b_one (s_ret (x_tup (a_cons (x_ix rfl (x_var (pv 3)) x_int) (a_cons (x_ix rfl (x_var (pv 4)) x_int) (a_cons (x_ix rfl (x_fn ((tie_ends h).up (by decide : 2 ≤ 5)) (fun ds => runF_len ds) hr rfl (takes_of rfl rfl rfl rfl) (a_cons (x_fld rfl h.c_Table h.na_Table_width (x_var (pv 0))) a_nil)) (x_var (pv 5))) a_nil)))))) b_nil)))))))
  (b_one (s_ret x_non))))
def b_bad_triple : MS :=
  (sRet (eFn F_first_triple (aCons (eVar 0) (aCons (eC (.bl false)) aNil))))
def F_bad_triple : List D → RF := runF 1 1 b_bad_triple
abbrev N_bad_triple : List Str := ["table"]
theorem sc_bad_triple : FnScope N_bad_triple ["table"] (defScope (top 53)) := ⟨rfl, rfl, rfl, by decide +kernel, rfl, by decide +kernel, by decide +kernel⟩
theorem bi_bad_triple : BindsP "bad_triple" "bad_triple" (defArgs (top 53)) (defBody (top 53)) (defScope (top 53)) ["table"] := fun _ _ _ _ _ _ us hl => match us, hl with | [_], _ => rfl
theorem tie_bad_triple (h : Hd P K mg cl) : Fk P w K mg base 7 "bad_triple" ["table"] (spF ⟨K, cl⟩ 1 F_bad_triple) := by
  refine fk_F h.d_bad_triple sc_bad_triple bi_bad_triple rfl rfl fun f cdv A outer s H E hr => ?_
  exact (b_one (s_ret (x_fn ((tie_first_triple h).up (by decide : 6 ≤ 6)) (fun ds => runF_len ds) hr rfl (takes_of rfl rfl rfl rfl) (a_cons (x_var (pv 0)) (a_cons x_bl a_nil)))))
def b_near_of : MS :=
  (sRet (eFn F_near_weights (aCons (eFld 1 "width" (eVar 0)) (aCons (eFld 1 "_known" (eVar 0)) (aCons (eVar 1) aNil)))))
def F_near_of : List D → RF := runF 2 2 b_near_of
abbrev N_near_of : List Str := ["source", "point"]
theorem sc_near_of : FnScope N_near_of ["source", "point"] (defScope (top 59)) := ⟨rfl, rfl, rfl, by decide +kernel, rfl, by decide +kernel, by decide +kernel⟩
theorem bi_near_of : BindsP "near_of" "near_of" (defArgs (top 59)) (defBody (top 59)) (defScope (top 59)) ["source", "point"] := fun _ _ _ _ _ _ us hl => match us, hl with | [_, _], _ => rfl
theorem tie_near_of (h : Hd P K mg cl) : Fk P w K mg base 5 "near_of" ["source", "point"] (spF ⟨K, cl⟩ 2 F_near_of) := by
  refine fk_F h.d_near_of sc_near_of bi_near_of rfl rfl fun f cdv A outer s H E hr => ?_
  exact (b_one (s_ret (x_fn ((tie_near_weights h).up (by decide : 4 ≤ 4)) (fun ds => runF_len ds) hr rfl (takes_of rfl rfl rfl rfl) (a_cons (x_fld rfl h.c_Listed h.na_Listed_width (x_var (pv 0))) (a_cons (x_fld rfl h.c_Listed h.na_Listed__known (x_var (pv 0))) (a_cons (x_var (pv 1)) a_nil))))))
def b_Listed_near : MS :=
  (sSeq (sSet 2 (eFn F_look_point (aCons (eFld 1 "width" (eVar 0)) (aCons (eVar 1) aNil))))
  (sSeq (sIf (eT (eDIn true (eVar 2) (eFld 1 "_known" (eVar 0)))) sNo sSkip)
  (sRet (eFn F_near_of (aCons (eVar 0) (aCons (eVar 2) aNil))))))
def F_Listed_near : List D → RF := runF 3 2 b_Listed_near
abbrev N_Listed_near : List Str := ["self", "point", "here"]
theorem sc_Listed_near : FnScope N_Listed_near ["self", "point"] (defScope (inClass (top 61) 6)) := ⟨rfl, rfl, rfl, by decide +kernel, rfl, by decide +kernel, by decide +kernel⟩
theorem bi_Listed_near : BindsP "near" "Source.near" (defArgs (inClass (top 61) 6)) (defBody (inClass (top 61) 6)) (defScope (inClass (top 61) 6)) ["self", "point"] := fun _ _ _ _ _ _ us hl => match us, hl with | [_, _], _ => rfl
theorem tie_Listed_near (h : Hd P K mg cl) : Fm' P w K mg base 6 (cl 1) "near" ["self", "point"] (spF ⟨K, cl⟩ 2 F_Listed_near) := by
  refine fm_F h.d_Listed_near sc_Listed_near bi_Listed_near rfl rfl fun f cdv A outer s H E hr => ?_
  exact (b_cons (s_set 2 sc_Listed_near.nd rfl (Or.inl rfl) (by decide) (x_fn ((tie_look_point h).up (by decide : 5 ≤ 5)) (fun ds => runF_len ds) hr rfl (takes_of rfl rfl rfl rfl) (a_cons (x_fld rfl h.c_Listed h.na_Listed_width (x_var (pv 0))) (a_cons (x_var (pv 1)) a_nil))))
  (b_cons (s_if (t_dnotin (hu_of hr) (x_var (pv 2)) (x_fld rfl h.c_Listed h.na_Listed__known (x_var (pv 0)))) (b_one s_no) b_nil)
  (b_one (s_ret (x_fn ((tie_near_of h).up (by decide : 5 ≤ 5)) (fun ds => runF_len ds) hr rfl (takes_of rfl rfl rfl rfl) (a_cons (x_var (pv 0)) (a_cons (x_var (pv 2)) a_nil)))))))
def b_Source___init__ : MS :=
  (sSeq (sSet 5 (eFn F_table_from (aCons (eVar 1) (aCons (eVar 4) aNil))))
  (sSeq (sFldO 1 0 "width" (eVar 1))
  (sSeq (sFldO 1 0 "nodes" (eVar 2))
  (sSeq (sFldO 1 0 "factors" (eVar 3))
  (sSeq (sFldO 1 0 "lows" (eFld 0 "lows" (eVar 5)))
  (sSeq (sFldO 1 0 "highs" (eFld 0 "highs" (eVar 5)))
  (sFldO 1 0 "_known" (eFn F_table_costs (aCons (eVar 5) aNil)))))))))
def F_Source___init__ : D → List D → RO := runO 6 5 b_Source___init__
abbrev N_Source___init__ : List Str := ["self", "width", "nodes", "factors", "costs", "table"]
theorem sc_Source___init__ : FnScope N_Source___init__ ["self", "width", "nodes", "factors", "costs"] (defScope (inClass (top 61) 1)) := ⟨rfl, rfl, rfl, by decide +kernel, rfl, by decide +kernel, by decide +kernel⟩
theorem bi_Source___init__ : BindsP "__init__" "Source.__init__" (defArgs (inClass (top 61) 1)) (defBody (inClass (top 61) 1)) (defScope (inClass (top 61) 1)) ["self", "width", "nodes", "factors", "costs"] := fun _ _ _ _ _ _ us hl => match us, hl with | [_, _, _, _, _], _ => rfl
theorem tie_Source___init__ (h : Hd P K mg cl) : Fs' P w K mg base 10 (cl 1) (cl 1) "__init__" ["self", "width", "nodes", "factors", "costs"] (spO ⟨K, cl⟩ 5 F_Source___init__) := by
  refine fs_O h.d_Source___init__ sc_Source___init__ bi_Source___init__ rfl rfl fun f cdv A outer s H E hr => ?_
  exact (b_cons (s_set 5 sc_Source___init__.nd rfl (Or.inl rfl) (by decide) (x_fn ((tie_table_from h).up (by decide : 9 ≤ 9)) (fun ds => runF_len ds) hr rfl (takes_of rfl rfl rfl rfl) (a_cons (x_var (pv 1)) (a_cons (x_var (pv 4)) a_nil))))
  (b_cons (s_fldO rfl h.c_Listed h.na_Listed_width (pv 0) (x_var (pv 1)))
  (b_cons (s_fldO rfl h.c_Listed h.na_Listed_nodes (pv 0) (x_var (pv 2)))
  (b_cons (s_fldO rfl h.c_Listed h.na_Listed_factors (pv 0) (x_var (pv 3)))
  (b_cons (s_fldO rfl h.c_Listed h.na_Listed_lows (pv 0) (x_fld rfl h.c_Table h.na_Table_lows (x_var (pv 5))))
  (b_cons (s_fldO rfl h.c_Listed h.na_Listed_highs (pv 0) (x_fld rfl h.c_Table h.na_Table_highs (x_var (pv 5))))
  (b_one (s_fldO rfl h.c_Listed h.na_Listed__known (pv 0) (x_fn ((tie_table_costs h).up (by decide : 1 ≤ 9)) (fun ds => runF_len ds) hr rfl (takes_of rfl rfl rfl rfl) (a_cons (x_var (pv 5)) a_nil))))))))))
def b_Listed___init__ : MS :=
  (sSeq (sFor (iSeq (eFld 0 "rows" (eVar 1))) (gdTup 2 (gdCons (gdN 3) (gdCons (gdN 4) gdNil))) (sExpr (eFn F_look_number (aCons (eVar 4) (aCons (e1 (gU fun i => -i) (eC (.int (1000000)))) (aCons (eC (.int (1000000))) aNil))))))
  (sSeq (sSet 5 (eFn F_bad_triple (aCons (eVar 1) aNil)))
  (sSeq (sIf (eT (e2 (gNotN) (eVar 5) (eC .non))) (sSeq (sAsg (gdTup 3 (gdCons (gdN 6) (gdCons (gdN 7) (gdCons (gdN 8) gdNil)))) (eVar 5))
  sNo) sSkip)
  (sSeq (sSupO 1 F_Source___init__ (aCons (eFld 0 "width" (eVar 1)) (aCons (eC (.int 1)) (aCons (eC (.int 1)) (aCons (eFn F_table_costs (aCons (eVar 1) aNil)) aNil))))) sSkip))))
def F_Listed___init__ : D → List D → RO := runO 9 2 b_Listed___init__
abbrev N_Listed___init__ : List Str := ["self", "table", "__class__", "_", "cost", "triple", "first", "second", "end"]
theorem sc_Listed___init__ : NdefX.NScope N_Listed___init__ ["self", "table"] ["__class__"] (defScope (inClass (top 63) 1)) := NdefX.nscope_by (by decide +kernel)
theorem bi_Listed___init__ : BindsP "__init__" "Listed.__init__" (defArgs (inClass (top 63) 1)) (defBody (inClass (top 63) 1)) (defScope (inClass (top 63) 1)) ["self", "table"] := fun _ _ _ _ _ _ us hl => match us, hl with | [_, _], _ => rfl
theorem bs_Listed___init__ : BindsS "__init__" "Listed.__init__" (inClass (top 63) 1) ["self", "table"] := fun _ _ _ _ _ us hl => match us, hl with | [_, _], _ => rfl
theorem tie_Listed___init__ (h : Hd P K mg cl) : Fi P w K mg base 11 "Listed" (cl 1) ["self", "table"] (spO ⟨K, cl⟩ 2 F_Listed___init__) := by
  refine fi_S h.d_Listed___init__ sc_Listed___init__ bs_Listed___init__ rfl rfl (by decide) fun ce c f fd A outer s H E Fs hr => ?_
  exact (ba_cons (sa_any (s_for (passes_of rfl) rfl (i_seq (x_fld rfl h.c_Table h.na_Table_rows (x_var (pv 1)))) (g_tup rfl (g_cons (g_name 3 sc_Listed___init__.nd rfl (Or.inl rfl) (by decide)) (g_cons (g_name 4 sc_Listed___init__.nd rfl (Or.inl rfl) (by decide)) g_nil))) (b_one (s_expr (x_fn ((tie_look_number h).up (by decide : 1 ≤ 10)) (fun ds => runF_len ds) hr rfl (takes_of rfl rfl rfl rfl) (a_cons (x_var (pv 4)) (a_cons (x_neg (x_gint rfl h.g_MOST_LEAF_COST)) (a_cons (x_gint rfl h.g_MOST_LEAF_COST) a_nil))))))))
  (ba_cons (sa_any (s_set 5 sc_Listed___init__.nd rfl (Or.inl rfl) (by decide) (x_fn ((tie_bad_triple h).up (by decide : 7 ≤ 10)) (fun ds => runF_len ds) hr rfl (takes_of rfl rfl rfl rfl) (a_cons (x_var (pv 1)) a_nil))))
  (ba_cons (sa_any (s_if (t_cmp op_notN oNotN rfl (x_var (pv 5)) x_non) (b_cons (s_asg (g_tup rfl (g_cons (g_name 6 sc_Listed___init__.nd rfl (Or.inl rfl) (by decide)) (g_cons (g_name 7 sc_Listed___init__.nd rfl (Or.inl rfl) (by decide)) (g_cons (g_name 8 sc_Listed___init__.nd rfl (Or.inl rfl) (by decide)) g_nil)))) (x_var (pv 5)))
  (b_one s_no)) b_nil))
  (ba_cons (sa_super Fs ⟨rfl, rfl, rfl, rfl, rfl, rfl, rfl⟩ ((tie_Source___init__ h).up (by decide : 10 ≤ 10)) (fun o ds => runO_len o ds) hr (a_cons (x_fld rfl h.c_Table h.na_Table_width (x_var (pv 1))) (a_cons x_int (a_cons x_int (a_cons (x_fn ((tie_table_costs h).up (by decide : 1 ≤ 10)) (fun ds => runF_len ds) hr rfl (takes_of rfl rfl rfl rfl) (a_cons (x_var (pv 1)) a_nil)) a_nil)))) rfl rfl rfl rfl rfl rfl) (ba_any b_nil)))))
def b_lot_point : MS :=
  (sRet (eCall cTuple (aCons (eLc [2] (iRg1 (eVar 0)) (gdN 2) mYes (eIf (eT (e2 (gIn false) (eVar 2) (eVar 1))) (eC (.int 1)) (eC (.int 0)))) aNil)))
def F_lot_point : List D → RF := runF 3 2 b_lot_point
abbrev N_lot_point : List Str := ["letters", "lot", "letter"]
theorem sc_lot_point : FnScope N_lot_point ["letters", "lot"] (defScope (top 66)) := ⟨rfl, rfl, rfl, by decide +kernel, rfl, by decide +kernel, by decide +kernel⟩
theorem bi_lot_point : BindsP "lot_point" "lot_point" (defArgs (top 66)) (defBody (top 66)) (defScope (top 66)) ["letters", "lot"] := fun _ _ _ _ _ _ us hl => match us, hl with | [_, _], _ => rfl
theorem tie_lot_point (h : Hd P K mg cl) : Fk P w K mg base 1 "lot_point" ["letters", "lot"] (spF ⟨K, cl⟩ 2 F_lot_point) := by
  refine fk_F h.d_lot_point sc_lot_point bi_lot_point rfl rfl fun f cdv A outer s H E hr => ?_
  exact (b_one (s_ret (x_callTy call_tuple_of oTuple rfl h.n_tuple rfl (a_cons (RdN.val (x_lc (own := [("letter", 2)]) rfl sc_lot_point.nd (blkOk_by (N := N_lot_point) (sc := (defScope (top 66))) (by decide +kernel)) (by decide) (by decide) (i_rg1 rfl h.n_range (x_var (pv 0))) (fun _ _ _ _ _ => pg_name (i := 2) sc_lot_point.nd rfl (by first | exact Or.inl rfl | exact Or.inr rfl) (by first | exact Or.inl rfl | exact Or.inr rfl)) (rw_name (by decide)) (fun _ _ _ _ _ => (x_ifE (t_cmp op_in_seq oIn rfl (x_var (pv 2)) (x_var (pv 1))) x_int x_int)))) a_nil))))
def b_lot_table : MS :=
  (sRet (eMake 0 F_Table___init__ (aCons (eVar 0) (aCons (eLc [2, 3] (iSeq (eVar 1)) (gdTup 2 (gdCons (gdN 2) (gdCons (gdN 3) gdNil))) mYes (eTup (aCons (eFn F_lot_point (aCons (eVar 0) (aCons (eVar 2) aNil))) (aCons (eVar 3) aNil)))) aNil))))
def F_lot_table : List D → RF := runF 4 2 b_lot_table
abbrev N_lot_table : List Str := ["letters", "rows", "lot", "cost"]
theorem sc_lot_table : FnScope N_lot_table ["letters", "rows"] (defScope (top 67)) := ⟨rfl, rfl, rfl, by decide +kernel, rfl, by decide +kernel, by decide +kernel⟩
theorem bi_lot_table : BindsP "lot_table" "lot_table" (defArgs (top 67)) (defBody (top 67)) (defScope (top 67)) ["letters", "rows"] := fun _ _ _ _ _ _ us hl => match us, hl with | [_, _], _ => rfl
theorem tie_lot_table (h : Hd P K mg cl) : Fk P w K mg base 9 "lot_table" ["letters", "rows"] (spF ⟨K, cl⟩ 2 F_lot_table) := by
  refine fk_F h.d_lot_table sc_lot_table bi_lot_table rfl rfl fun f cdv A outer s H E hr => ?_
  exact (b_one (s_ret (RdN.val (x_make (tie_Table___init__ h) (fun o ds => runO_len o ds) (hr.mono (by decide : 8 ≤ 8)) rfl (a_cons (x_var (pv 0)) (a_cons (RdN.val (x_lc (own := [("lot", 2), ("cost", 3)]) rfl sc_lot_table.nd (blkOk_by (N := N_lot_table) (sc := (defScope (top 67))) (by decide +kernel)) (by decide) (by decide) (i_seq (x_var (pv 1))) (fun _ _ _ _ _ => pg_tup rfl (pgs_cons (pg_name (i := 2) sc_lot_table.nd rfl (by first | exact Or.inl rfl | exact Or.inr rfl) (by first | exact Or.inl rfl | exact Or.inr rfl)) (pgs_cons (pg_name (i := 3) sc_lot_table.nd rfl (by first | exact Or.inl rfl | exact Or.inr rfl) (by first | exact Or.inl rfl | exact Or.inr rfl)) pgs_nil))) (rw_tup (rw_cons (rw_name (by decide)) (rw_cons (rw_name (by decide)) rw_nil))) (fun _ _ _ _ _ => (x_tup (a_cons (x_fn ((tie_lot_point h).up (by decide : 1 ≤ 8)) (fun ds => runF_len ds) hr rfl takes_no (a_cons (x_var (pv 0)) (a_cons (x_var (pv 2)) a_nil))) (a_cons (x_var (pv 3)) a_nil)))))) a_nil))))))
def b_looked_lots : MS :=
  (sSeq (sExpr (eFn F_look_count (aCons (eCall cLen (aCons (eVar 1) aNil)) (aCons (eC (.int 1)) (aCons (eC (.int (20))) aNil)))))
  (sSeq (sOwn 2 (eLst aNil))
  (sSeq (sFor (iSeq (eVar 1)) (gdTup 2 (gdCons (gdN 3) (gdCons (gdN 4) gdNil))) (sApp 2 (eTup (aCons (eFn F_look_lot (aCons (eVar 0) (aCons (eVar 3) aNil))) (aCons (eFn F_look_number (aCons (eVar 4) (aCons (e1 (gU fun i => -i) (eC (.int (1000000)))) (aCons (eC (.int (1000000))) aNil)))) aNil)))))
  (sSeq (sSet 5 (eCall cLen (aCons (e2 gIx (eIxO 2 (eC (.int 0))) (eC (.int 0))) aNil)))
  (sFrz 2 (sSeq (sFor (iSeq (eVar 2)) (gdTup 2 (gdCons (gdN 3) (gdCons (gdN 6) gdNil))) (sExpr (eFn F_look_count (aCons (eCall cLen (aCons (eVar 3) aNil)) (aCons (eVar 5) (aCons (eVar 5) aNil))))))
  (sSeq (sOwn 7 (eC (.dic [])))
  (sSeq (sFor (iSeq (eVar 2)) (gdTup 2 (gdCons (gdN 3) (gdCons (gdN 6) gdNil))) (sSeq (sIf (eT (eDInO false 7 (eVar 3))) sNo sSkip)
  (sDPutO 7 (eVar 3) (eC (.bl true)))))
  (sRet (eVar 2))))))))))
def F_looked_lots : List D → RF := runF 8 2 b_looked_lots
abbrev N_looked_lots : List Str := ["letters", "rows", "kept", "lot", "cost", "rank", "_", "seen"]
theorem sc_looked_lots : FnScope N_looked_lots ["letters", "rows"] (defScope (top 68)) := ⟨rfl, rfl, rfl, by decide +kernel, rfl, by decide +kernel, by decide +kernel⟩
theorem bi_looked_lots : BindsP "looked_lots" "looked_lots" (defArgs (top 68)) (defBody (top 68)) (defScope (top 68)) ["letters", "rows"] := fun _ _ _ _ _ _ us hl => match us, hl with | [_, _], _ => rfl
theorem tie_looked_lots (h : Hd P K mg cl) : Fk P w K mg base 5 "looked_lots" ["letters", "rows"] (spF ⟨K, cl⟩ 2 F_looked_lots) := by
  refine fk_F h.d_looked_lots sc_looked_lots bi_looked_lots rfl rfl fun f cdv A outer s H E hr => ?_
  exact (b_cons (s_expr (x_fn ((tie_look_count h).up (by decide : 3 ≤ 4)) (fun ds => runF_len ds) hr rfl (takes_of rfl rfl rfl rfl) (a_cons (x_callB call_len oLen rfl h.n_len rfl (a_cons (x_var (pv 1)) a_nil)) (a_cons x_int (a_cons (x_gint rfl h.g_MOST_BASE_LOTS) a_nil)))))
  (b_cons (s_own 2 sc_looked_lots.nd rfl (Or.inl rfl) (by decide) (x_lst a_nil))
  (b_cons (s_for (passes_of rfl) rfl (i_seq (x_var (pv 1))) (g_tup rfl (g_cons (g_name 3 sc_looked_lots.nd rfl (Or.inl rfl) (by decide)) (g_cons (g_name 4 sc_looked_lots.nd rfl (Or.inl rfl) (by decide)) g_nil))) (b_one (s_app (pv 2) (x_tup (a_cons (x_fn ((tie_look_lot h).up (by decide : 4 ≤ 4)) (fun ds => runF_len ds) hr rfl (takes_of rfl rfl rfl rfl) (a_cons (x_var (pv 0)) (a_cons (x_var (pv 3)) a_nil))) (a_cons (x_fn ((tie_look_number h).up (by decide : 1 ≤ 4)) (fun ds => runF_len ds) hr rfl (takes_of rfl rfl rfl rfl) (a_cons (x_var (pv 4)) (a_cons (x_neg (x_gint rfl h.g_MOST_LEAF_COST)) (a_cons (x_gint rfl h.g_MOST_LEAF_COST) a_nil)))) a_nil))))))
  (b_cons (s_set 5 sc_looked_lots.nd rfl (Or.inl rfl) (by decide) (x_callB call_len oLen rfl h.n_len rfl (a_cons (x_ix rfl (x_ixO (pv 2) x_int) x_int) a_nil)))
  (b_frz 2 (b_cons (s_for (passes_of rfl) rfl (i_seq (x_var (pv 2))) (g_tup rfl (g_cons (g_name 3 sc_looked_lots.nd rfl (Or.inl rfl) (by decide)) (g_cons (g_name 6 sc_looked_lots.nd rfl (Or.inl rfl) (by decide)) g_nil))) (b_one (s_expr (x_fn ((tie_look_count h).up (by decide : 3 ≤ 4)) (fun ds => runF_len ds) hr rfl (takes_of rfl rfl rfl rfl) (a_cons (x_callB call_len oLen rfl h.n_len rfl (a_cons (x_var (pv 3)) a_nil)) (a_cons (x_var (pv 5)) (a_cons (x_var (pv 5)) a_nil)))))))
  (b_cons (s_own 7 sc_looked_lots.nd rfl (Or.inl rfl) (by decide) x_dicN)
  (b_cons (s_for (passes_of rfl) rfl (i_seq (x_var (pv 2))) (g_tup rfl (g_cons (g_name 3 sc_looked_lots.nd rfl (Or.inl rfl) (by decide)) (g_cons (g_name 6 sc_looked_lots.nd rfl (Or.inl rfl) (by decide)) g_nil))) (b_cons (s_if (t_dinO (hu_of hr) (x_var (pv 3)) (pv 7)) (b_one s_no) b_nil)
  (b_one (s_dputO (hu_of hr) (pv 7) (x_var (pv 3)) x_bl))))
  (b_one (s_ret (x_var (pv 2))))))))))))
def b_Bases___init__ : MS :=
  (sSeq (sFldO 2 0 "letters" (eFn F_look_number (aCons (eVar 1) (aCons (eC (.int 0)) (aCons (eC (.int (6))) aNil)))))
  (sSeq (sSet 3 (eFn F_looked_lots (aCons (eVar 1) (aCons (eVar 2) aNil))))
  (sSeq (sSet 4 (eFn F_bad_triple (aCons (eFn F_lot_table (aCons (eVar 1) (aCons (eVar 3) aNil))) aNil)))
  (sSeq (sIf (eT (e2 (gNotN) (eVar 4) (eC .non))) sNo sSkip)
  (sSeq (sFldO 2 0 "rank" (eCall cLen (aCons (e2 gIx (e2 gIx (eVar 3) (eC (.int 0))) (eC (.int 0))) aNil)))
  (sSeq (sFldO 2 0 "rows" (eCall cTuple (aCons (eCall cSort (aCons (eVar 3) aNil)) aNil)))
  (sFldO 2 0 "_costs" (eDc [5, 6] (iSeq (eVar 3)) (gdTup 2 (gdCons (gdN 5) (gdCons (gdN 6) gdNil))) mYes (eVar 5) (eVar 6)))))))))
def F_Bases___init__ : D → List D → RO := runO 7 3 b_Bases___init__
abbrev N_Bases___init__ : List Str := ["self", "letters", "rows", "kept", "triple", "lot", "cost"]
theorem sc_Bases___init__ : FnScope N_Bases___init__ ["self", "letters", "rows"] (defScope (inClass (top 69) 0)) := ⟨rfl, rfl, rfl, by decide +kernel, rfl, by decide +kernel, by decide +kernel⟩
theorem bi_Bases___init__ : BindsP "__init__" "Bases.__init__" (defArgs (inClass (top 69) 0)) (defBody (inClass (top 69) 0)) (defScope (inClass (top 69) 0)) ["self", "letters", "rows"] := fun _ _ _ _ _ _ us hl => match us, hl with | [_, _, _], _ => rfl
theorem tie_Bases___init__ (h : Hd P K mg cl) : Fi P w K mg base 10 "Bases" (cl 2) ["self", "letters", "rows"] (spO ⟨K, cl⟩ 3 F_Bases___init__) := by
  refine fi_O h.d_Bases___init__ sc_Bases___init__ bi_Bases___init__ rfl rfl fun f cdv A outer s H E hr => ?_
  exact (b_cons (s_fldO rfl h.c_Bases h.na_Bases_letters (pv 0) (x_fn ((tie_look_number h).up (by decide : 1 ≤ 9)) (fun ds => runF_len ds) hr rfl (takes_of rfl rfl rfl rfl) (a_cons (x_var (pv 1)) (a_cons x_int (a_cons (x_gint rfl h.g_MOST_LETTERS) a_nil)))))
  (b_cons (s_set 3 sc_Bases___init__.nd rfl (Or.inl rfl) (by decide) (x_fn ((tie_looked_lots h).up (by decide : 5 ≤ 9)) (fun ds => runF_len ds) hr rfl (takes_of rfl rfl rfl rfl) (a_cons (x_var (pv 1)) (a_cons (x_var (pv 2)) a_nil))))
  (b_cons (s_set 4 sc_Bases___init__.nd rfl (Or.inl rfl) (by decide) (x_fn ((tie_bad_triple h).up (by decide : 7 ≤ 9)) (fun ds => runF_len ds) hr rfl (takes_of rfl rfl rfl rfl) (a_cons (x_fn ((tie_lot_table h).up (by decide : 9 ≤ 9)) (fun ds => runF_len ds) hr rfl (takes_of rfl rfl rfl rfl) (a_cons (x_var (pv 1)) (a_cons (x_var (pv 3)) a_nil))) a_nil)))
  (b_cons (s_if (t_cmp op_notN oNotN rfl (x_var (pv 4)) x_non) (b_one s_no) b_nil)
  (b_cons (s_fldO rfl h.c_Bases h.na_Bases_rank (pv 0) (x_callB call_len oLen rfl h.n_len rfl (a_cons (x_ix rfl (x_ix rfl (x_var (pv 3)) x_int) x_int) a_nil)))
  (b_cons (s_fldO rfl h.c_Bases h.na_Bases_rows (pv 0) (x_callTy call_tuple_of oTuple rfl h.n_tuple rfl (a_cons (RdN.val (x_callBN (cr_sortedD hr.units) oSort rfl h.n_sorted rfl (a_cons (x_var (pv 3)) a_nil))) a_nil)))
  (b_one (s_fldO rfl h.c_Bases h.na_Bases__costs (pv 0) (RdN.val (x_dc (own := [("lot", 5), ("cost", 6)]) hr.units0 rfl sc_Bases___init__.nd (blkOk_by (N := N_Bases___init__) (sc := (defScope (inClass (top 69) 0))) (by decide +kernel)) (by decide) (by decide) (i_seq (x_var (pv 3))) (fun _ _ _ _ _ => pg_tup rfl (pgs_cons (pg_name (i := 5) sc_Bases___init__.nd rfl (by first | exact Or.inl rfl | exact Or.inr rfl) (by first | exact Or.inl rfl | exact Or.inr rfl)) (pgs_cons (pg_name (i := 6) sc_Bases___init__.nd rfl (by first | exact Or.inl rfl | exact Or.inr rfl) (by first | exact Or.inl rfl | exact Or.inr rfl)) pgs_nil))) (rw_tup (rw_cons (rw_name (by decide)) (rw_cons (rw_name (by decide)) rw_nil))) (fun _ _ _ _ _ => (x_var (pv 5))) (fun _ _ _ _ _ => (x_var (pv 6)))))))))))))
def b_Bases_listed : MS :=
  (sRet (eMake 1 F_Listed___init__ (aCons (eFn F_lot_table (aCons (eFld 2 "letters" (eVar 0)) (aCons (eFld 2 "rows" (eVar 0)) aNil))) aNil)))
def F_Bases_listed : List D → RF := runF 1 1 b_Bases_listed
abbrev N_Bases_listed : List Str := ["self"]
theorem sc_Bases_listed : FnScope N_Bases_listed ["self"] (defScope (inClass (top 69) 3)) := ⟨rfl, rfl, rfl, by decide +kernel, rfl, by decide +kernel, by decide +kernel⟩
theorem bi_Bases_listed : BindsP "listed" "Bases.listed" (defArgs (inClass (top 69) 3)) (defBody (inClass (top 69) 3)) (defScope (inClass (top 69) 3)) ["self"] := fun _ _ _ _ _ _ us hl => match us, hl with | [_], _ => rfl
theorem tie_Bases_listed (h : Hd P K mg cl) : Fm' P w K mg base 13 (cl 2) "listed" ["self"] (spF ⟨K, cl⟩ 1 F_Bases_listed) := by
  refine fm_F h.d_Bases_listed sc_Bases_listed bi_Bases_listed rfl rfl fun f cdv A outer s H E hr => ?_
  exact (b_one (s_ret (RdN.val (x_make (tie_Listed___init__ h) (fun o ds => runO_len o ds) (hr.mono (by decide : 12 ≤ 12)) rfl (a_cons (x_fn ((tie_lot_table h).up (by decide : 9 ≤ 12)) (fun ds => runF_len ds) hr rfl (takes_of rfl rfl rfl rfl) (a_cons (x_fld rfl h.c_Bases h.na_Bases_letters (x_var (pv 0))) (a_cons (x_fld rfl h.c_Bases h.na_Bases_rows (x_var (pv 0))) a_nil))) a_nil)))))
def b_Bases_dual : MS :=
  (sSeq (sOwn 1 (eLst aNil))
  (sSeq (sFor (iSeq (eFld 2 "rows" (eVar 0))) (gdTup 2 (gdCons (gdN 2) (gdCons (gdN 3) gdNil))) (sApp 1 (eTup (aCons (eLc [4] (iRg1 (eFld 2 "letters" (eVar 0))) (gdN 4) (eT (e2 (gIn true) (eVar 4) (eVar 2))) (eVar 4)) (aCons (eVar 3) aNil)))))
  (sFrz 1 (sRet (eMake 2 F_Bases___init__ (aCons (eFld 2 "letters" (eVar 0)) (aCons (eVar 1) aNil)))))))
def F_Bases_dual : List D → RF := runF 5 1 b_Bases_dual
abbrev N_Bases_dual : List Str := ["self", "rows", "lot", "cost", "letter"]
theorem sc_Bases_dual : FnScope N_Bases_dual ["self"] (defScope (inClass (top 69) 4)) := ⟨rfl, rfl, rfl, by decide +kernel, rfl, by decide +kernel, by decide +kernel⟩
theorem bi_Bases_dual : BindsP "dual" "Bases.dual" (defArgs (inClass (top 69) 4)) (defBody (inClass (top 69) 4)) (defScope (inClass (top 69) 4)) ["self"] := fun _ _ _ _ _ _ us hl => match us, hl with | [_], _ => rfl
theorem tie_Bases_dual (h : Hd P K mg cl) : Fm' P w K mg base 12 (cl 2) "dual" ["self"] (spF ⟨K, cl⟩ 1 F_Bases_dual) := by
  refine fm_F h.d_Bases_dual sc_Bases_dual bi_Bases_dual rfl rfl fun f cdv A outer s H E hr => ?_
  exact (b_cons (s_own 1 sc_Bases_dual.nd rfl (Or.inl rfl) (by decide) (x_lst a_nil))
  (b_cons (s_for (passes_of rfl) rfl (i_seq (x_fld rfl h.c_Bases h.na_Bases_rows (x_var (pv 0)))) (g_tup rfl (g_cons (g_name 2 sc_Bases_dual.nd rfl (Or.inr rfl) (by decide)) (g_cons (g_name 3 sc_Bases_dual.nd rfl (Or.inl rfl) (by decide)) g_nil))) (b_one (s_app (pv 1) (x_tup (a_cons (RdN.val (x_lcIf (own := [("letter", 4)]) rfl sc_Bases_dual.nd (blkOk_by (N := N_Bases_dual) (sc := (defScope (inClass (top 69) 4))) (by decide +kernel)) (by decide) (by decide) (i_rg1 rfl h.n_range (x_fld rfl h.c_Bases h.na_Bases_letters (x_var (pv 0)))) (fun _ _ _ _ _ => pg_name (i := 4) sc_Bases_dual.nd rfl (by first | exact Or.inl rfl | exact Or.inr rfl) (by first | exact Or.inl rfl | exact Or.inr rfl)) (rw_name (by decide)) (fun _ _ _ _ _ => (t_cmp op_notIn_seq oIn rfl (x_var (pv 4)) (x_var (pv 2)))) (fun _ _ _ _ _ => (x_var (pv 4))))) (a_cons (x_var (pv 3)) a_nil))))))
  (b_frz 1 (b_one (s_ret (RdN.val (x_make (tie_Bases___init__ h) (fun o ds => runO_len o ds) (hr.mono (by decide : 11 ≤ 11)) rfl (a_cons (x_fld rfl h.c_Bases h.na_Bases_letters (x_var (pv 0))) (a_cons (x_var (pv 1)) a_nil)))))))))
def b__law_pool_of : M D :=
  (e2 gCatL (eLst (aCons (eC (.int 0)) aNil)) (e1 gRev (eLc [1] (iSeq (e1 (gSl none (some 63)) (eVar 0))) (gdN 1) mYes (e2 (gIc cMod fun i j => i % j) (eCall cInt (aCons (eVar 1) aNil)) (e2 (gIc cPow fun i j => i ^ j.toNat) (eC (.int 10)) (eC (.int 36)))))))
def F__law_pool_of : List D → RF := runN 2 1 b__law_pool_of
abbrev N__law_pool_of : List Str := ["script", "cell"]
theorem sc__law_pool_of : FnScope N__law_pool_of ["script"] (defScope (top 71)) := ⟨rfl, rfl, rfl, by decide +kernel, rfl, by decide +kernel, by decide +kernel⟩
theorem bi__law_pool_of : BindsP "_law_pool_of" "_law_pool_of" (defArgs (top 71)) (defBody (top 71)) (defScope (top 71)) ["script"] := fun _ _ _ _ _ _ us hl => match us, hl with | [_], _ => rfl
theorem tie__law_pool_of (h : Hd P K mg cl) : Fk P w K mg base 1 "_law_pool_of" ["script"] (spN ⟨K, cl⟩ 1 F__law_pool_of) := by
  refine fk_N h.d__law_pool_of sc__law_pool_of bi__law_pool_of rfl rfl rfl fun f cdv A outer s H E hr => ?_
  exact (x_catL (RdN.val (x_lst (a_cons x_int a_nil))) (RdN.val (x_revL (RdN.val (x_lc (own := [("cell", 1)]) rfl sc__law_pool_of.nd (blkOk_by (N := N__law_pool_of) (sc := (defScope (top 71))) (by decide +kernel)) (by decide) (by decide) (i_seq (RdN.val (x_slL rfl po_no po_int (x_var (pv 0))))) (fun _ _ _ _ _ => pg_name (i := 1) sc__law_pool_of.nd rfl (by first | exact Or.inl rfl | exact Or.inr rfl) (by first | exact Or.inl rfl | exact Or.inr rfl)) (rw_name (by decide)) (fun _ _ _ _ _ => (x_mod (x_callTy call_int1 oInt rfl h.n_int rfl (a_cons (x_var (pv 1)) a_nil)) (x_pow x_int x_int))))))))
def b__law_draw : MS :=
  (sSeq (sIf (eT (e2 (gB fun i j => decide (i < j)) (eVar 1) (eC (.int 2)))) (sRet (eC (.int 0))) sSkip)
  (sSeq (sIf (eT (e2 (gEq false) (eLenO 0) (eC (.int 1)))) (sSeq (sIxSet 0 (eC (.int 0)) (e2 (gI fun i j => i + j) (eIxO 0 (eC (.int 0))) (eC (.int 1))))
  (sRet (e2 (gIc cMod fun i j => i % j) (eCall cInt (aCons (e2 (gIc cDiv fun i j => i / j) (e2 (gIc cMul fun i j => i * j) (eIxO 0 (eC (.int 0))) (eC (.int 7))) (eC (.int 3))) aNil)) (eVar 1)))) sSkip)
  (sSeq (sSet 2 (ePop 0))
  (sSeq (sIf (eT (e2 (gB fun i j => decide (j ≤ i)) (eVar 2) (eVar 1))) (sApp 0 (e2 (gIc cDiv fun i j => i / j) (eVar 2) (eVar 1))) sSkip)
  (sRet (e2 (gIc cMod fun i j => i % j) (eCall cInt (aCons (eVar 2) aNil)) (eVar 1)))))))
def F__law_draw : D → List D → RO := runO 3 2 b__law_draw
abbrev N__law_draw : List Str := ["pool", "many", "cell"]
theorem sc__law_draw : FnScope N__law_draw ["pool", "many"] (defScope (top 72)) := ⟨rfl, rfl, rfl, by decide +kernel, rfl, by decide +kernel, by decide +kernel⟩
theorem bi__law_draw : BindsP "_law_draw" "_law_draw" (defArgs (top 72)) (defBody (top 72)) (defScope (top 72)) ["pool", "many"] := fun _ _ _ _ _ _ us hl => match us, hl with | [_, _], _ => rfl
theorem tie__law_draw (h : Hd P K mg cl) : Fk P w K mg base 1 "_law_draw" ["pool", "many"] (spO ⟨K, cl⟩ 2 F__law_draw) := by
  refine fk_O h.d__law_draw sc__law_draw bi__law_draw rfl rfl fun f cdv A outer s H E hr => ?_
  exact (b_cons (s_if (t_cmp op_lt oB rfl (x_var (pv 1)) x_int) (b_one (s_ret x_int)) b_nil)
  (b_cons (s_if (t_cmp (op_eqD hr.units) oEq rfl (x_lenO (pv 0) rfl h.n_len) x_int) (b_cons (s_ixset (pv 0) x_int (x_add (x_ixO (pv 0) x_int) x_int))
  (b_one (s_ret (x_mod (x_callTy call_int1 oInt rfl h.n_int rfl (a_cons (x_fdiv (x_mul (x_ixO (pv 0) x_int) x_int) x_int) a_nil)) (x_var (pv 1)))))) b_nil)
  (b_cons (s_set 2 sc__law_draw.nd rfl (Or.inl rfl) (by decide) (x_pop (pv 0)))
  (b_cons (s_if (t_cmp op_ge oB rfl (x_var (pv 2)) (x_var (pv 1))) (b_one (s_app (pv 0) (x_fdiv (x_var (pv 2)) (x_var (pv 1))))) b_nil)
  (b_one (s_ret (x_mod (x_callTy call_int1 oInt rfl h.n_int rfl (a_cons (x_var (pv 2)) a_nil)) (x_var (pv 1)))))))))
def b__law_bends : MS :=
  (sSeq (sOwn 2 (eLst (aCons (e2 (gI fun i j => i - j) (eFnO 0 F__law_draw (aCons (eC (.int 13)) aNil)) (eC (.int 6))) aNil)))
  (sSeq (sSet 3 (e2 (gI fun i j => i - j) (eFnO 0 F__law_draw (aCons (eC (.int 11)) aNil)) (eC (.int 5))))
  (sSeq (sFor (iRg2 (eC (.int 1)) (eVar 1)) (gdN 4) (sSeq (sIf (eT (e2 (gB fun i j => decide (j < i)) (eVar 4) (eC (.int 1)))) (sSet 3 (e2 (gI fun i j => i + j) (eVar 3) (eFnO 0 F__law_draw (aCons (eC (.int 4)) aNil)))) sSkip)
  (sApp 2 (e2 (gI fun i j => i + j) (eIxO 2 (e1 (gU fun i => -i) (eC (.int 1)))) (eVar 3)))))
  (sFrz 2 (sRet (eVar 2))))))
def F__law_bends : D → List D → RO := runO 5 2 b__law_bends
abbrev N__law_bends : List Str := ["pool", "count", "costs", "step", "k"]
theorem sc__law_bends : FnScope N__law_bends ["pool", "count"] (defScope (top 73)) := ⟨rfl, rfl, rfl, by decide +kernel, rfl, by decide +kernel, by decide +kernel⟩
theorem bi__law_bends : BindsP "_law_bends" "_law_bends" (defArgs (top 73)) (defBody (top 73)) (defScope (top 73)) ["pool", "count"] := fun _ _ _ _ _ _ us hl => match us, hl with | [_, _], _ => rfl
theorem tie__law_bends (h : Hd P K mg cl) : Fk P w K mg base 2 "_law_bends" ["pool", "count"] (spO ⟨K, cl⟩ 2 F__law_bends) := by
  refine fk_O h.d__law_bends sc__law_bends bi__law_bends rfl rfl fun f cdv A outer s H E hr => ?_
  exact (b_cons (s_own 2 sc__law_bends.nd rfl (Or.inl rfl) (by decide) (x_lst (a_cons (x_sub (x_fnO ((tie__law_draw h).up (by decide : 1 ≤ 1)) (fun o ds => runO_len o ds) hr rfl (takes_of rfl rfl rfl rfl) (pv 0) (a_cons x_int a_nil)) x_int) a_nil)))
  (b_cons (s_set 3 sc__law_bends.nd rfl (Or.inl rfl) (by decide) (x_sub (x_fnO ((tie__law_draw h).up (by decide : 1 ≤ 1)) (fun o ds => runO_len o ds) hr rfl (takes_of rfl rfl rfl rfl) (pv 0) (a_cons x_int a_nil)) x_int))
  (b_cons (s_for (passes_of rfl) rfl (i_rg2 rfl h.n_range x_int (x_var (pv 1))) (g_name 4 sc__law_bends.nd rfl (Or.inl rfl) (by decide)) (b_cons (s_if (t_cmp op_gt oB rfl (x_var (pv 4)) x_int) (b_one (s_set 3 sc__law_bends.nd rfl (Or.inl rfl) (by decide) (x_add (x_var (pv 3)) (x_fnO ((tie__law_draw h).up (by decide : 1 ≤ 1)) (fun o ds => runO_len o ds) hr rfl (takes_of rfl rfl rfl rfl) (pv 0) (a_cons x_int a_nil))))) b_nil)
  (b_one (s_app (pv 2) (x_add (x_ixO (pv 2) (x_neg x_int)) (x_var (pv 3)))))))
  (b_frz 2 (b_one (s_ret (x_var (pv 2))))))))
def b__law_lots : MS :=
  (sSeq (sSet 1 (eLst (aCons (eTup aNil) aNil)))
  (sSeq (sFor (iSeq (eVar 0)) (gdN 2) (sSet 1 (e2 gCatL (eVar 1) (eLc [3] (iSeq (eVar 1)) (gdN 3) mYes (e2 gCatT (eVar 3) (eTup (aCons (eVar 2) aNil)))))))
  (sRet (eVar 1))))
def F__law_lots : List D → RF := runF 4 1 b__law_lots
abbrev N__law_lots : List Str := ["places", "lots", "place", "lot"]
theorem sc__law_lots : FnScope N__law_lots ["places"] (defScope (top 74)) := ⟨rfl, rfl, rfl, by decide +kernel, rfl, by decide +kernel, by decide +kernel⟩
theorem bi__law_lots : BindsP "_law_lots" "_law_lots" (defArgs (top 74)) (defBody (top 74)) (defScope (top 74)) ["places"] := fun _ _ _ _ _ _ us hl => match us, hl with | [_], _ => rfl
theorem tie__law_lots (h : Hd P K mg cl) : Fk P w K mg base 1 "_law_lots" ["places"] (spF ⟨K, cl⟩ 1 F__law_lots) := by
  refine fk_F h.d__law_lots sc__law_lots bi__law_lots rfl rfl fun f cdv A outer s H E hr => ?_
  exact (b_cons (s_set 1 sc__law_lots.nd rfl (Or.inl rfl) (by decide) (RdN.val (x_lst (a_cons (x_tup a_nil) a_nil))))
  (b_cons (s_for (passes_of rfl) rfl (i_seq (x_var (pv 0))) (g_name 2 sc__law_lots.nd rfl (Or.inr rfl) (by decide)) (b_one (s_set 1 sc__law_lots.nd rfl (Or.inl rfl) (by decide) (RdN.val (x_catL (x_var (pv 1)) (RdN.val (x_lc (own := [("lot", 3)]) rfl sc__law_lots.nd (blkOk_by (N := N__law_lots) (sc := (defScope (top 74))) (by decide +kernel)) (by decide) (by decide) (i_seq (x_var (pv 1))) (fun _ _ _ _ _ => pg_name (i := 3) sc__law_lots.nd rfl (by first | exact Or.inl rfl | exact Or.inr rfl) (by first | exact Or.inl rfl | exact Or.inr rfl)) (rw_name (by decide)) (fun _ _ _ _ _ => (x_catT rfl (x_var (pv 3)) (x_tup (a_cons (x_var (pv 2)) a_nil)))))))))))
  (b_one (s_ret (x_var (pv 1))))))
def b__law_same (G : List D → RF) : MS :=
  (sSeq (sIf (eT (e2 (gIsN) (eVar 1) (eC .non))) (sRet (e2 (gIsN) (eVar 0) (eC .non))) sSkip)
  (sSeq (sIf (eT (eIsi ["str"] (eVar 1))) (sRet (eAndV (eIsi ["str"] (eVar 0)) (e2 (gEq false) (eVar 0) (eVar 1)))) sSkip)
  (sSeq (sIf (eNot (eT (eIsi ["list", "tuple"] (eVar 1)))) (sRet (eAndV (eIsi ["int"] (eVar 0)) (eAndV (eNotV (eIsi ["bool"] (eVar 0))) (e2 (gEq false) (eVar 0) (eVar 1))))) sSkip)
  (sSeq (sIf (eOr (eNot (eT (eIsi ["list", "tuple"] (eVar 0)))) (eT (e2 (gEq true) (eIsi ["list"] (eVar 0)) (eIsi ["list"] (eVar 1))))) (sRet (eC (.bl false))) sSkip)
  (sSeq (sIf (eT (e2 (gEq true) (eCall cLen (aCons (eVar 0) aNil)) (eCall cLen (aCons (eVar 1) aNil)))) (sRet (eC (.bl false))) sSkip)
  (sRet (e2 (gIn true) (eC (.bl false)) (eLc [2] (iRg1 (eCall cLen (aCons (eVar 1) aNil))) (gdN 2) mYes (eFn G (aCons (e2 gIx (eVar 0) (eVar 2)) (aCons (e2 gIx (eVar 1) (eVar 2)) aNil)))))))))))
def F__law_same_n : Nat → List D → RF
  | 0 => fun _ => .stuck
  | n + 1 => runF 3 2 (b__law_same (F__law_same_n n))
def F__law_same : List D → RF := F__law_same_n 6
theorem F__law_same_len : ∀ (n : Nat) (ds : List D), ds.length ≠ 2 → F__law_same_n n ds = .stuck
  | 0, _, _ => rfl
  | _ + 1, ds, h => runF_len ds h
abbrev N__law_same : List Str := ["told", "due", "k"]
theorem sc__law_same : FnScope N__law_same ["told", "due"] (defScope (top 75)) := ⟨rfl, rfl, rfl, by decide +kernel, rfl, by decide +kernel, by decide +kernel⟩
theorem bi__law_same : BindsP "_law_same" "_law_same" (defArgs (top 75)) (defBody (top 75)) (defScope (top 75)) ["told", "due"] := fun _ _ _ _ _ _ us hl => match us, hl with | [_, _], _ => rfl
theorem step__law_same (h : Hd P K mg cl) {k : Nat} {G : List D → RF} (IH : Fk P w K mg base k "_law_same" ["told", "due"] (spF ⟨K, cl⟩ 2 G)) (hG : ∀ ds, ds.length ≠ 2 → G ds = .stuck) : Fk P w K mg base (k + 1) "_law_same" ["told", "due"] (spF ⟨K, cl⟩ 2 (runF 3 2 (b__law_same G))) := by
  refine fk_F h.d__law_same sc__law_same bi__law_same rfl rfl fun f cdv A outer s H E hr => ?_
  exact (b_cons (s_if (t_cmp op_isN oIsN rfl (x_var (pv 1)) x_non) (b_one (s_ret (x_cmp op_isN oIsN rfl (x_var (pv 0)) x_non))) b_nil)
  (b_cons (s_if (t_val (x_isi (by decide) rfl h.n_isinstance rfl h.n_str rfl (x_var (pv 1)))) (b_one (s_ret (x_and2 (x_isi (by decide) rfl h.n_isinstance rfl h.n_str rfl (x_var (pv 0))) (x_cmp (op_eqD hr.units) oEq rfl (x_var (pv 0)) (x_var (pv 1)))))) b_nil)
  (b_cons (s_if (t_not (t_val (x_isi2 (by decide) (by decide) rfl h.n_isinstance rfl h.n_list rfl rfl h.n_tuple rfl (x_var (pv 1))))) (b_one (s_ret (x_and3 (x_isi (by decide) rfl h.n_isinstance rfl h.n_int rfl (x_var (pv 0))) (x_not (x_isi (by decide) rfl h.n_isinstance rfl h.n_bool rfl (x_var (pv 0)))) (x_cmp (op_eqD hr.units) oEq rfl (x_var (pv 0)) (x_var (pv 1)))))) b_nil)
  (b_cons (s_if (t_or2 (t_not (t_val (x_isi2 (by decide) (by decide) rfl h.n_isinstance rfl h.n_list rfl rfl h.n_tuple rfl (x_var (pv 0))))) (t_cmp (op_neD hr.units) oNe rfl (x_isi (by decide) rfl h.n_isinstance rfl h.n_list rfl (x_var (pv 0))) (x_isi (by decide) rfl h.n_isinstance rfl h.n_list rfl (x_var (pv 1))))) (b_one (s_ret x_bl)) b_nil)
  (b_cons (s_if (t_cmp (op_neD hr.units) oNe rfl (x_callB call_len oLen rfl h.n_len rfl (a_cons (x_var (pv 0)) a_nil)) (x_callB call_len oLen rfl h.n_len rfl (a_cons (x_var (pv 1)) a_nil))) (b_one (s_ret x_bl)) b_nil)
  (b_one (s_ret (x_cmp op_notIn_seq oIn rfl x_bl (RdN.val (x_lc (own := [("k", 2)]) rfl sc__law_same.nd (blkOk_by (N := N__law_same) (sc := (defScope (top 75))) (by decide +kernel)) (by decide) (by decide) (i_rg1 rfl h.n_range (x_callB call_len oLen rfl h.n_len rfl (a_cons (x_var (pv 1)) a_nil))) (fun _ _ _ _ _ => pg_name (i := 2) sc__law_same.nd rfl (by first | exact Or.inl rfl | exact Or.inr rfl) (by first | exact Or.inl rfl | exact Or.inr rfl)) (rw_name (by decide)) (fun _ _ _ _ _ => (x_fn IH hG hr rfl takes_no (a_cons (x_ix rfl (x_var (pv 0)) (x_var (pv 2))) (a_cons (x_ix rfl (x_var (pv 1)) (x_var (pv 2))) a_nil))))))))))))))
theorem tie__law_same_n (h : Hd P K mg cl) : ∀ n : Nat, Fk P w K mg base n "_law_same" ["told", "due"] (spF ⟨K, cl⟩ 2 (F__law_same_n n))
  | 0 => fk_stuck h.d__law_same bi__law_same rfl
  | n + 1 => step__law_same h (tie__law_same_n h n) (F__law_same_len n)
theorem tie__law_same (h : Hd P K mg cl) : Fk P w K mg base 6 "_law_same" ["told", "due"] (spF ⟨K, cl⟩ 2 F__law_same) := tie__law_same_n h 6
def b__law_rows : MS :=
  (sSeq (sSet 2 (eFnO 0 F__law_draw (aCons (e2 (gI fun i j => i + j) (eVar 1) (eC (.int 1))) aNil)))
  (sSeq (sSet 3 (eLc [4] (iRg1 (eVar 1)) (gdN 4) mYes (e2 (gI fun i j => i - j) (eFnO 0 F__law_draw (aCons (eC (.int 13)) aNil)) (eC (.int 6)))))
  (sSeq (sSet 5 (eLc [4] (iRg1 (eVar 1)) (gdN 4) mYes (eFnO 0 F__law_draw (aCons (eC (.int 2)) aNil))))
  (sSeq (sSet 6 (eLc [4] (iRg1 (eVar 1)) (gdN 4) (eT (e2 (gEq false) (e2 gIx (eVar 5) (eVar 4)) (eC (.int 1)))) (eVar 4)))
  (sSeq (sSet 7 (eLc [4] (iRg1 (eVar 1)) (gdN 4) (eT (e2 (gEq false) (e2 gIx (eVar 5) (eVar 4)) (eC (.int 0)))) (eVar 4)))
  (sSeq (sSet 8 (eCall cMin2 (aCons (eVar 2) (aCons (eCall cLen (aCons (eVar 6) aNil)) aNil))))
  (sSeq (sSet 9 (eCall cMax2 (aCons (eC (.int 0)) (aCons (e2 (gI fun i j => i - j) (eVar 2) (eCall cLen (aCons (eVar 7) aNil))) aNil))))
  (sSeq (sSet 9 (e2 (gI fun i j => i + j) (eVar 9) (eFnO 0 F__law_draw (aCons (e2 (gI fun i j => i + j) (e2 (gI fun i j => i - j) (eVar 8) (eVar 9)) (eC (.int 1))) aNil))))
  (sSeq (sSet 10 (eFnO 0 F__law_bends (aCons (e2 (gI fun i j => i + j) (eC (.int 1)) (eFnO 0 F__law_draw (aCons (e2 (gI fun i j => i + j) (e2 (gI fun i j => i - j) (eVar 8) (eVar 9)) (eC (.int 1))) aNil))) aNil)))
  (sSeq (sSet 11 (eFnO 0 F__law_bends (aCons (e2 (gI fun i j => i + j) (eCall cLen (aCons (eVar 7) aNil)) (eC (.int 1))) aNil)))
  (sSeq (sOwn 12 (eLst aNil))
  (sSeq (sFor (iSeq (eFn F__law_lots (aCons (e1 cRange (eVar 1)) aNil))) (gdN 13) (sSeq (sSet 14 (e2 (gI fun i j => i - j) (eCall cLen (aCons (eLc [4] (iSeq (eVar 13)) (gdN 4) (eT (e2 (gIn false) (eVar 4) (eVar 6))) (eVar 4)) aNil)) (eVar 9)))
  (sIf (eAnd (eT (e2 (gEq false) (eCall cLen (aCons (eVar 13) aNil)) (eVar 2))) (eT (eCh (gB fun i j => decide (i ≤ j)) (gB fun i j => decide (i < j)) (eC (.int 0)) (eVar 14) (eCall cLen (aCons (eVar 10) aNil))))) (sSeq (sSet 15 (eCall cLen (aCons (eLc [4] (iSeq (eVar 13)) (gdN 4) (eT (e2 (gIn false) (eVar 4) (e1 (gSl (some 1) none) (eVar 7)))) (eVar 4)) aNil)))
  (sSeq (sSet 16 (eCall cSum (aCons (eLc [4] (iSeq (eVar 13)) (gdN 4) mYes (e2 gIx (eVar 3) (eVar 4))) aNil)))
  (sApp 12 (eTup (aCons (eVar 13) (aCons (e2 (gI fun i j => i + j) (e2 (gI fun i j => i + j) (eVar 16) (e2 gIx (eVar 10) (eVar 14))) (e2 gIx (eVar 11) (eVar 15))) aNil)))))) sSkip)))
  (sFrz 12 (sRet (eTup (aCons (eVar 2) (aCons (eCall cSort (aCons (eVar 12) aNil)) aNil)))))))))))))))))
def F__law_rows : D → List D → RO := runO 17 2 b__law_rows
abbrev N__law_rows : List Str := ["pool", "letters", "rank", "prices", "k", "marks", "inner", "outer", "high", "low", "costs", "more", "rows", "lot", "at", "beside", "cost"]
theorem sc__law_rows : FnScope N__law_rows ["pool", "letters"] (defScope (top 76)) := ⟨rfl, rfl, rfl, by decide +kernel, rfl, by decide +kernel, by decide +kernel⟩
theorem bi__law_rows : BindsP "_law_rows" "_law_rows" (defArgs (top 76)) (defBody (top 76)) (defScope (top 76)) ["pool", "letters"] := fun _ _ _ _ _ _ us hl => match us, hl with | [_, _], _ => rfl
theorem tie__law_rows (h : Hd P K mg cl) : Fk P w K mg base 3 "_law_rows" ["pool", "letters"] (spO ⟨K, cl⟩ 2 F__law_rows) := by
  refine fk_O h.d__law_rows sc__law_rows bi__law_rows rfl rfl fun f cdv A outer s H E hr => ?_
  exact (b_cons (s_set 2 sc__law_rows.nd rfl (Or.inl rfl) (by decide) (x_fnO ((tie__law_draw h).up (by decide : 1 ≤ 2)) (fun o ds => runO_len o ds) hr rfl (takes_of rfl rfl rfl rfl) (pv 0) (a_cons (x_add (x_var (pv 1)) x_int) a_nil)))
  (b_cons (s_set 3 sc__law_rows.nd rfl (Or.inr rfl) (by decide) (RdN.val (x_lc (own := [("k", 4)]) rfl sc__law_rows.nd (blkOk_by (N := N__law_rows) (sc := (defScope (top 76))) (by decide +kernel)) (by decide) (by decide) (i_rg1 rfl h.n_range (x_var (pv 1))) (fun _ _ _ _ _ => pg_name (i := 4) sc__law_rows.nd rfl (by first | exact Or.inl rfl | exact Or.inr rfl) (by first | exact Or.inl rfl | exact Or.inr rfl)) (rw_name (by decide)) (fun _ _ _ _ _ => (x_sub (x_fnO ((tie__law_draw h).up (by decide : 1 ≤ 2)) (fun o ds => runO_len o ds) hr rfl takes_no (pv 0) (a_cons x_int a_nil)) x_int)))))
  (b_cons (s_set 5 sc__law_rows.nd rfl (Or.inr rfl) (by decide) (RdN.val (x_lc (own := [("k", 4)]) rfl sc__law_rows.nd (blkOk_by (N := N__law_rows) (sc := (defScope (top 76))) (by decide +kernel)) (by decide) (by decide) (i_rg1 rfl h.n_range (x_var (pv 1))) (fun _ _ _ _ _ => pg_name (i := 4) sc__law_rows.nd rfl (by first | exact Or.inl rfl | exact Or.inr rfl) (by first | exact Or.inl rfl | exact Or.inr rfl)) (rw_name (by decide)) (fun _ _ _ _ _ => (x_fnO ((tie__law_draw h).up (by decide : 1 ≤ 2)) (fun o ds => runO_len o ds) hr rfl takes_no (pv 0) (a_cons x_int a_nil))))))
  (b_cons (s_set 6 sc__law_rows.nd rfl (Or.inr rfl) (by decide) (RdN.val (x_lcIf (own := [("k", 4)]) rfl sc__law_rows.nd (blkOk_by (N := N__law_rows) (sc := (defScope (top 76))) (by decide +kernel)) (by decide) (by decide) (i_rg1 rfl h.n_range (x_var (pv 1))) (fun _ _ _ _ _ => pg_name (i := 4) sc__law_rows.nd rfl (by first | exact Or.inl rfl | exact Or.inr rfl) (by first | exact Or.inl rfl | exact Or.inr rfl)) (rw_name (by decide)) (fun _ _ _ _ _ => (t_cmp (op_eqD hr.units) oEq rfl (x_ix rfl (x_var (pv 5)) (x_var (pv 4))) x_int)) (fun _ _ _ _ _ => (x_var (pv 4))))))
  (b_cons (s_set 7 sc__law_rows.nd rfl (Or.inr rfl) (by decide) (RdN.val (x_lcIf (own := [("k", 4)]) rfl sc__law_rows.nd (blkOk_by (N := N__law_rows) (sc := (defScope (top 76))) (by decide +kernel)) (by decide) (by decide) (i_rg1 rfl h.n_range (x_var (pv 1))) (fun _ _ _ _ _ => pg_name (i := 4) sc__law_rows.nd rfl (by first | exact Or.inl rfl | exact Or.inr rfl) (by first | exact Or.inl rfl | exact Or.inr rfl)) (rw_name (by decide)) (fun _ _ _ _ _ => (t_cmp (op_eqD hr.units) oEq rfl (x_ix rfl (x_var (pv 5)) (x_var (pv 4))) x_int)) (fun _ _ _ _ _ => (x_var (pv 4))))))
  (b_cons (s_set 8 sc__law_rows.nd rfl (Or.inl rfl) (by decide) (x_callB (call_min2 rfl) oMin2 rfl h.n_min rfl (a_cons (x_var (pv 2)) (a_cons (x_callB call_len oLen rfl h.n_len rfl (a_cons (x_var (pv 6)) a_nil)) a_nil))))
  (b_cons (s_set 9 sc__law_rows.nd rfl (Or.inl rfl) (by decide) (x_callB (call_max2 rfl) oMax2 rfl h.n_max rfl (a_cons x_int (a_cons (x_sub (x_var (pv 2)) (x_callB call_len oLen rfl h.n_len rfl (a_cons (x_var (pv 7)) a_nil))) a_nil))))
  (b_cons (s_set 9 sc__law_rows.nd rfl (Or.inl rfl) (by decide) (x_add (x_var (pv 9)) (x_fnO ((tie__law_draw h).up (by decide : 1 ≤ 2)) (fun o ds => runO_len o ds) hr rfl (takes_of rfl rfl rfl rfl) (pv 0) (a_cons (x_add (x_sub (x_var (pv 8)) (x_var (pv 9))) x_int) a_nil))))
  (b_cons (s_set 10 sc__law_rows.nd rfl (Or.inl rfl) (by decide) (x_fnO ((tie__law_bends h).up (by decide : 2 ≤ 2)) (fun o ds => runO_len o ds) hr rfl (takes_of rfl rfl rfl rfl) (pv 0) (a_cons (x_add x_int (x_fnO ((tie__law_draw h).up (by decide : 1 ≤ 2)) (fun o ds => runO_len o ds) hr rfl (takes_of rfl rfl rfl rfl) (pv 0) (a_cons (x_add (x_sub (x_var (pv 8)) (x_var (pv 9))) x_int) a_nil))) a_nil)))
  (b_cons (s_set 11 sc__law_rows.nd rfl (Or.inl rfl) (by decide) (x_fnO ((tie__law_bends h).up (by decide : 2 ≤ 2)) (fun o ds => runO_len o ds) hr rfl (takes_of rfl rfl rfl rfl) (pv 0) (a_cons (x_add (x_callB call_len oLen rfl h.n_len rfl (a_cons (x_var (pv 7)) a_nil)) x_int) a_nil)))
  (b_cons (s_own 12 sc__law_rows.nd rfl (Or.inl rfl) (by decide) (x_lst a_nil))
  (b_cons (s_for (passes_of rfl) rfl (i_seq (x_fn ((tie__law_lots h).up (by decide : 1 ≤ 2)) (fun ds => runF_len ds) hr rfl (takes_of rfl rfl rfl rfl) (a_cons (RdN.val (x_listRg rfl rfl h.n_list rfl h.n_range (x_var (pv 1)))) a_nil))) (g_name 13 sc__law_rows.nd rfl (Or.inl rfl) (by decide)) (b_cons (s_set 14 sc__law_rows.nd rfl (Or.inl rfl) (by decide) (x_sub (x_callB call_len oLen rfl h.n_len rfl (a_cons (RdN.val (x_lcIf (own := [("k", 4)]) rfl sc__law_rows.nd (blkOk_by (N := N__law_rows) (sc := (defScope (top 76))) (by decide +kernel)) (by decide) (by decide) (i_seq (x_var (pv 13))) (fun _ _ _ _ _ => pg_name (i := 4) sc__law_rows.nd rfl (by first | exact Or.inl rfl | exact Or.inr rfl) (by first | exact Or.inl rfl | exact Or.inr rfl)) (rw_name (by decide)) (fun _ _ _ _ _ => (t_cmp op_in_seq oIn rfl (x_var (pv 4)) (x_var (pv 6)))) (fun _ _ _ _ _ => (x_var (pv 4))))) a_nil)) (x_var (pv 9))))
  (b_one (s_if (t_and2 (t_cmp (op_eqD hr.units) oEq rfl (x_callB call_len oLen rfl h.n_len rfl (a_cons (x_var (pv 13)) a_nil)) (x_var (pv 2))) (t_chain op_le op_lt oB oB x_int (x_var (pv 14)) (x_callB call_len oLen rfl h.n_len rfl (a_cons (x_var (pv 10)) a_nil)))) (b_cons (s_set 15 sc__law_rows.nd rfl (Or.inl rfl) (by decide) (x_callB call_len oLen rfl h.n_len rfl (a_cons (RdN.val (x_lcIf (own := [("k", 4)]) rfl sc__law_rows.nd (blkOk_by (N := N__law_rows) (sc := (defScope (top 76))) (by decide +kernel)) (by decide) (by decide) (i_seq (x_var (pv 13))) (fun _ _ _ _ _ => pg_name (i := 4) sc__law_rows.nd rfl (by first | exact Or.inl rfl | exact Or.inr rfl) (by first | exact Or.inl rfl | exact Or.inr rfl)) (rw_name (by decide)) (fun _ _ _ _ _ => (t_cmp op_in_seq oIn rfl (x_var (pv 4)) (RdN.val (x_slL rfl po_int po_no (x_var (pv 7)))))) (fun _ _ _ _ _ => (x_var (pv 4))))) a_nil)))
  (b_cons (s_set 16 sc__law_rows.nd rfl (Or.inl rfl) (by decide) (x_callB (cr_sum rfl) oSum rfl h.n_sum rfl (a_cons (RdN.val (x_lc (own := [("k", 4)]) rfl sc__law_rows.nd (blkOk_by (N := N__law_rows) (sc := (defScope (top 76))) (by decide +kernel)) (by decide) (by decide) (i_seq (x_var (pv 13))) (fun _ _ _ _ _ => pg_name (i := 4) sc__law_rows.nd rfl (by first | exact Or.inl rfl | exact Or.inr rfl) (by first | exact Or.inl rfl | exact Or.inr rfl)) (rw_name (by decide)) (fun _ _ _ _ _ => (x_ix rfl (x_var (pv 3)) (x_var (pv 4)))))) a_nil)))
  (b_one (s_app (pv 12) (x_tup (a_cons (x_var (pv 13)) (a_cons (x_add (x_add (x_var (pv 16)) (x_ix rfl (x_var (pv 10)) (x_var (pv 14)))) (x_ix rfl (x_var (pv 11)) (x_var (pv 15)))) a_nil))))))) b_nil))))
  (b_frz 12 (b_one (s_ret (x_tup (a_cons (x_var (pv 2)) (a_cons (RdN.val (x_callBN (cr_sortedD hr.units) oSort rfl h.n_sorted rfl (a_cons (x_var (pv 12)) a_nil))) a_nil))))))))))))))))))
def b__law_entries : MS :=
  (sSeq (sOwn 3 (e2 gRep (eLst (aCons (eC .non) aNil)) (eVar 0)))
  (sSeq (sFor (iSeq (eVar 2)) (gdN 4) (sSeq (sSet 5 (eLc [6] (iSeq (eVar 2)) (gdN 6) (eT (e2 (gEq true) (eVar 6) (eVar 4))) (eVar 6)))
  (sIxSet 3 (eVar 4) (eDGet (eVar 1) (eCall cTuple (aCons (eVar 5) aNil))))))
  (sFrz 3 (sRet (eVar 3)))))
def F__law_entries : List D → RF := runF 7 3 b__law_entries
abbrev N__law_entries : List Str := ["letters", "known", "lot", "entries", "letter", "rest", "k"]
theorem sc__law_entries : FnScope N__law_entries ["letters", "known", "lot"] (defScope (top 77)) := ⟨rfl, rfl, rfl, by decide +kernel, rfl, by decide +kernel, by decide +kernel⟩
theorem bi__law_entries : BindsP "_law_entries" "_law_entries" (defArgs (top 77)) (defBody (top 77)) (defScope (top 77)) ["letters", "known", "lot"] := fun _ _ _ _ _ _ us hl => match us, hl with | [_, _, _], _ => rfl
theorem tie__law_entries (h : Hd P K mg cl) : Fk P w K mg base 1 "_law_entries" ["letters", "known", "lot"] (spF ⟨K, cl⟩ 3 F__law_entries) := by
  refine fk_F h.d__law_entries sc__law_entries bi__law_entries rfl rfl fun f cdv A outer s H E hr => ?_
  exact (b_cons (s_own 3 sc__law_entries.nd rfl (Or.inl rfl) (by decide) (x_rep (RdN.val (x_lst (a_cons x_non a_nil))) (x_var (pv 0))))
  (b_cons (s_for (passes_of rfl) rfl (i_seq (x_var (pv 2))) (g_name 4 sc__law_entries.nd rfl (Or.inr rfl) (by decide)) (b_cons (s_lcIf (own := [("k", 6)]) (i := 5) (by decide) rfl rfl rfl rfl sc__law_entries.nd (blkOk_by (N := N__law_entries) (sc := (defScope (top 77))) (by decide +kernel)) (by decide) (by decide) (i_seq (x_var (pv 2))) (fun _ _ _ _ _ => pg_name (i := 6) sc__law_entries.nd rfl (by first | exact Or.inl rfl | exact Or.inr rfl) (by first | exact Or.inl rfl | exact Or.inr rfl)) (rw_name (by decide)) (fun _ _ _ _ _ => (t_cmp (op_neD hr.units) oNe rfl (x_var (pv 6)) (x_var (pv 4)))) (fun _ _ _ _ _ => (x_var (pv 6))))
  (b_one (s_ixset (pv 3) (x_var (pv 4)) (x_dget1 (hu_of hr) (x_var (pv 1)) (x_callTy call_tuple_of oTuple rfl h.n_tuple rfl (a_cons (x_var (pv 5)) a_nil)))))))
  (b_frz 3 (b_one (s_ret (x_var (pv 3)))))))
def b__law_refusal : MS :=
  (sSeq (sTry 3 (sExpr (eFn F_circuit (aCons (eVar 0) (aCons (eVar 1) aNil)))) [10, 11, 12] (⟨12, none, fun _ => (sRet (eTup (aCons (eC (.str "nothing")) aNil)))⟩ :: (⟨11, some 2, gXf "end" "end"⟩ :: (⟨10, some 2, gXf "size" "count"⟩ :: []))))
  (sRet (eC .non)))
def F__law_refusal : List D → RF := runF 3 2 b__law_refusal
abbrev N__law_refusal : List Str := ["bases", "lot", "e"]
theorem sc__law_refusal : FnScope N__law_refusal ["bases", "lot"] (defScope (top 78)) := ⟨rfl, rfl, rfl, by decide +kernel, rfl, by decide +kernel, by decide +kernel⟩
theorem bi__law_refusal : BindsP "_law_refusal" "_law_refusal" (defArgs (top 78)) (defBody (top 78)) (defScope (top 78)) ["bases", "lot"] := fun _ _ _ _ _ _ us hl => match us, hl with | [_, _], _ => rfl
theorem tie__law_refusal (h : Hd P K mg cl) : Fk P w K mg base 8 "_law_refusal" ["bases", "lot"] (spF ⟨K, cl⟩ 2 F__law_refusal) := by
  refine fk_F h.d__law_refusal sc__law_refusal bi__law_refusal rfl rfl fun f cdv A outer s H E hr => ?_
  exact (b_cons (s_try rfl rfl sc__law_refusal.nd (takes_of rfl rfl rfl rfl) (fun _ _ _ tk _ => (b_one (s_expr (x_fn ((tie_circuit h).up (by decide : 7 ≤ 7)) (fun ds => runF_len ds) hr rfl tk (a_cons (x_var (pv 0)) (a_cons (x_var (pv 1)) a_nil)))))) (.cons ⟨rfl, by decide, .inl h.m_NothingError⟩ h.x_NothingError (suite_of fun _ _ => (b_one (s_ret (x_tup (a_cons x_str a_nil))))) (.as (by decide) ⟨rfl, by decide, .inl h.m_EndError⟩ rfl rfl h.x_EndError (suite_xf h.f_EndError h.na_EndError_end fun _ _ => pv 2) (.as (by decide) ⟨rfl, by decide, .inl h.m_SizeError⟩ rfl rfl h.x_SizeError (suite_xf h.f_SizeError h.na_SizeError_count fun _ _ => pv 2) .nil))) rfl)
  (b_one (s_ret x_non)))
def b__law_right_circuits : MS :=
  (sSeq (sOwn 4 (eC (.dic [])))
  (sSeq (sFor (iSeq (eVar 3)) (gdTup 2 (gdCons (gdN 5) (gdCons (gdN 6) gdNil))) (sDPutO 4 (eVar 5) (eVar 6)))
  (sSeq (sOwn 7 (eLst aNil))
  (sFrz 4 (sSeq (sFor (iSeq (eCall cSort (aCons (eFn F__law_lots (aCons (e1 cRange (eVar 1)) aNil)) aNil))) (gdN 5) (sSeq (sSet 8 (e2 gCatL (e1 gRev (eCall cList (aCons (eVar 5) aNil))) (e1 (gSl none (some 2)) (eCall cList (aCons (eVar 5) aNil)))))
  (sSeq (sSet 9 (eFn F__law_entries (aCons (eVar 1) (aCons (eVar 4) (aCons (eVar 5) aNil)))))
  (sIf (eT (e2 (gEq true) (eCall cLen (aCons (eVar 5) aNil)) (e2 (gI fun i j => i + j) (eVar 2) (eC (.int 1))))) (sIf (eT (e2 (gEq true) (eFn F__law_refusal (aCons (eVar 0) (aCons (eVar 8) aNil))) (eTup (aCons (eC (.str "size")) (aCons (eCall cLen (aCons (eVar 5) aNil)) aNil))))) (sRet (eC (.bl false))) sSkip) (sIf (eT (e2 (gEq false) (eVar 9) (e2 gRep (eLst (aCons (eC .non) aNil)) (eVar 1)))) (sIf (eT (e2 (gEq true) (eFn F__law_refusal (aCons (eVar 0) (aCons (eVar 8) aNil))) (eTup (aCons (eC (.str "nothing")) aNil)))) (sRet (eC (.bl false))) sSkip) (sSeq (sApp 7 (eTup (aCons (eVar 5) (aCons (eVar 9) aNil))))
  (sIf (eNot (eT (eFn F__law_same (aCons (eFn F_circuit (aCons (eVar 0) (aCons (eVar 8) aNil))) (aCons (eVar 9) aNil))))) (sRet (eC (.bl false))) sSkip)))))))
  (sFrz 7 (sTold 10 5 9 (aCons (eVar 0) aNil) F_circuits (eNot (eT (eFn F__law_same (aCons (eVar 10) (aCons (eVar 7) aNil))))) (sRet (eC (.bl false)))
  (sSeq (sIf (eNot (eT (eFn F__law_same (aCons (eFn F_circuits (aCons (eVar 0) aNil)) (aCons (eVar 7) aNil))))) (sRet (eC (.bl false))) sSkip)
  (sSeq (sFor (iSeq (eLst (aCons (eVar 1) (aCons (e1 (gU fun i => -i) (eC (.int 1))) (aCons (e2 (gI fun i j => i + j) (eVar 1) (eC (.int 60))) aNil))))) (gdN 11) (sIf (eT (e2 (gEq true) (eFn F__law_refusal (aCons (eVar 0) (aCons (e2 gCatL (e1 cRange (eVar 1)) (eLst (aCons (eVar 11) aNil))) aNil))) (eTup (aCons (eC (.str "end")) (aCons (eVar 11) aNil))))) (sRet (eC (.bl false))) sSkip))
  (sRet (e2 (gEq false) (eFn F__law_refusal (aCons (eVar 0) (aCons (e2 gRep (eLst (aCons (eVar 1) aNil)) (eC (.int 61))) aNil))) (eTup (aCons (eC (.str "size")) (aCons (eC (.int 61)) aNil))))))))))))))
def F__law_right_circuits : List D → RF := runF 12 4 b__law_right_circuits
abbrev N__law_right_circuits : List Str := ["bases", "letters", "rank", "rows", "known", "lot", "cost", "found", "handed", "entries", "told", "wrong"]
theorem sc__law_right_circuits : FnScope N__law_right_circuits ["bases", "letters", "rank", "rows"] (defScope (top 79)) := ⟨rfl, rfl, rfl, by decide +kernel, rfl, by decide +kernel, by decide +kernel⟩
theorem bi__law_right_circuits : BindsP "_law_right_circuits" "_law_right_circuits" (defArgs (top 79)) (defBody (top 79)) (defScope (top 79)) ["bases", "letters", "rank", "rows"] := fun _ _ _ _ _ _ us hl => match us, hl with | [_, _, _, _], _ => rfl
theorem tie__law_right_circuits (h : Hd P K mg cl) : Fk P w K mg base 9 "_law_right_circuits" ["bases", "letters", "rank", "rows"] (spF ⟨K, cl⟩ 4 F__law_right_circuits) := by
  refine fk_F h.d__law_right_circuits sc__law_right_circuits bi__law_right_circuits rfl rfl fun f cdv A outer s H E hr => ?_
  exact (b_cons (s_own 4 sc__law_right_circuits.nd rfl (Or.inl rfl) (by decide) x_dicN)
  (b_cons (s_for (passes_of rfl) rfl (i_seq (x_var (pv 3))) (g_tup rfl (g_cons (g_name 5 sc__law_right_circuits.nd rfl (Or.inl rfl) (by decide)) (g_cons (g_name 6 sc__law_right_circuits.nd rfl (Or.inl rfl) (by decide)) g_nil))) (b_one (s_dputO (hu_of hr) (pv 4) (x_var (pv 5)) (x_var (pv 6)))))
  (b_cons (s_own 7 sc__law_right_circuits.nd rfl (Or.inl rfl) (by decide) (x_lst a_nil))
  (b_frz 4 (b_cons (s_for (passes_of rfl) rfl (i_seq (RdN.val (x_callBN (cr_sortedD hr.units) oSort rfl h.n_sorted rfl (a_cons (x_fn ((tie__law_lots h).up (by decide : 1 ≤ 8)) (fun ds => runF_len ds) hr rfl (takes_of rfl rfl rfl rfl) (a_cons (RdN.val (x_listRg rfl rfl h.n_list rfl h.n_range (x_var (pv 1)))) a_nil)) a_nil)))) (g_name 5 sc__law_right_circuits.nd rfl (Or.inl rfl) (by decide)) (b_cons (s_set 8 sc__law_right_circuits.nd rfl (Or.inl rfl) (by decide) (RdN.val (x_catL (RdN.val (x_revL (RdN.val (x_callTyN call_list_of oList rfl h.n_list rfl (a_cons (x_var (pv 5)) a_nil))))) (RdN.val (x_slL rfl po_no po_int (RdN.val (x_callTyN call_list_of oList rfl h.n_list rfl (a_cons (x_var (pv 5)) a_nil))))))))
  (b_cons (s_set 9 sc__law_right_circuits.nd rfl (Or.inl rfl) (by decide) (x_fn ((tie__law_entries h).up (by decide : 1 ≤ 8)) (fun ds => runF_len ds) hr rfl (takes_of rfl rfl rfl rfl) (a_cons (x_var (pv 1)) (a_cons (x_var (pv 4)) (a_cons (x_var (pv 5)) a_nil)))))
  (b_one (s_if (t_cmp (op_neD hr.units) oNe rfl (x_callB call_len oLen rfl h.n_len rfl (a_cons (x_var (pv 5)) a_nil)) (x_add (x_var (pv 2)) x_int)) (b_one (s_if (t_cmp (op_neD hr.units) oNe rfl (x_fn ((tie__law_refusal h).up (by decide : 8 ≤ 8)) (fun ds => runF_len ds) hr rfl (takes_of rfl rfl rfl rfl) (a_cons (x_var (pv 0)) (a_cons (x_var (pv 8)) a_nil))) (x_tup (a_cons x_str (a_cons (x_callB call_len oLen rfl h.n_len rfl (a_cons (x_var (pv 5)) a_nil)) a_nil)))) (b_one (s_ret x_bl)) b_nil)) (b_one (s_if (t_cmp (op_eqD hr.units) oEq rfl (x_var (pv 9)) (RdN.val (x_rep (RdN.val (x_lst (a_cons x_non a_nil))) (x_var (pv 1))))) (b_one (s_if (t_cmp (op_neD hr.units) oNe rfl (x_fn ((tie__law_refusal h).up (by decide : 8 ≤ 8)) (fun ds => runF_len ds) hr rfl (takes_of rfl rfl rfl rfl) (a_cons (x_var (pv 0)) (a_cons (x_var (pv 8)) a_nil))) (x_tup (a_cons x_str a_nil))) (b_one (s_ret x_bl)) b_nil)) (b_cons (s_app (pv 7) (x_tup (a_cons (x_var (pv 5)) (a_cons (x_var (pv 9)) a_nil))))
  (b_one (s_if (t_not (t_val (x_fn ((tie__law_same h).up (by decide : 6 ≤ 8)) (fun ds => F__law_same_len _ ds) hr rfl (takes_of rfl rfl rfl rfl) (a_cons (x_fn ((tie_circuit h).up (by decide : 7 ≤ 8)) (fun ds => runF_len ds) hr rfl (takes_of rfl rfl rfl rfl) (a_cons (x_var (pv 0)) (a_cons (x_var (pv 8)) a_nil))) (a_cons (x_var (pv 9)) a_nil))))) (b_one (s_ret x_bl)) b_nil))))))))))
  (b_frz 7 (b_told (by decide) (by decide) (by decide) (by decide) (by decide) (by decide) ((tie_circuits h).up (by decide : 7 ≤ 8)) (fun ds => runF_len ds) hr rfl (takes_of rfl rfl rfl rfl) (a_cons (x_var (pv 0)) a_nil) sc__law_right_circuits.nd rfl (Or.inl rfl) (pv 10) (pv 9) (t_not (t_val (x_fn ((tie__law_same h).up (by decide : 6 ≤ 8)) (fun ds => F__law_same_len _ ds) hr rfl (takes_of rfl rfl rfl rfl) (a_cons (x_var (pv 10)) (a_cons (x_var (pv 7)) a_nil))))) (kp_not (kp_T (kp_fn (kp_cons kp_var (kp_cons kp_var kp_nil))))) (b_one (s_ret x_bl))
  (b_cons (s_if (t_not (t_val (x_fn ((tie__law_same h).up (by decide : 6 ≤ 8)) (fun ds => F__law_same_len _ ds) hr rfl (takes_of rfl rfl rfl rfl) (a_cons (x_fn ((tie_circuits h).up (by decide : 7 ≤ 8)) (fun ds => runF_len ds) hr rfl (takes_of rfl rfl rfl rfl) (a_cons (x_var (pv 0)) a_nil)) (a_cons (x_var (pv 7)) a_nil))))) (b_one (s_ret x_bl)) b_nil)
  (b_cons (s_for (passes_of rfl) rfl (i_seq (RdN.val (x_lst (a_cons (x_var (pv 1)) (a_cons (x_neg x_int) (a_cons (x_add (x_var (pv 1)) x_int) a_nil)))))) (g_name 11 sc__law_right_circuits.nd rfl (Or.inl rfl) (by decide)) (b_one (s_if (t_cmp (op_neD hr.units) oNe rfl (x_fn ((tie__law_refusal h).up (by decide : 8 ≤ 8)) (fun ds => runF_len ds) hr rfl (takes_of rfl rfl rfl rfl) (a_cons (x_var (pv 0)) (a_cons (RdN.val (x_catL (RdN.val (x_listRg rfl rfl h.n_list rfl h.n_range (x_var (pv 1)))) (RdN.val (x_lst (a_cons (x_var (pv 11)) a_nil))))) a_nil))) (x_tup (a_cons x_str (a_cons (x_var (pv 11)) a_nil)))) (b_one (s_ret x_bl)) b_nil)))
  (b_one (s_ret (x_cmp (op_eqD hr.units) oEq rfl (x_fn ((tie__law_refusal h).up (by decide : 8 ≤ 8)) (fun ds => runF_len ds) hr rfl (takes_of rfl rfl rfl rfl) (a_cons (x_var (pv 0)) (a_cons (RdN.val (x_rep (RdN.val (x_lst (a_cons (x_var (pv 1)) a_nil))) x_int)) a_nil))) (x_tup (a_cons x_str (a_cons x_int a_nil)))))))) (passes_of rfl) rfl (pg_tup rfl (pgs_cons (pg_name (i := 5) sc__law_right_circuits.nd rfl (Or.inl rfl)) (pgs_cons (pg_name (i := 9) sc__law_right_circuits.nd rfl (Or.inl rfl)) pgs_nil))))))))))
def b__law_near : MS :=
  (sSeq (sOwn 3 (eLst aNil))
  (sSeq (sFor (iRg1 (eVar 0)) (gdN 4) (sFor (iRg1 (eVar 0)) (gdN 5) (sIf (eAnd (eT (e2 (gIn false) (eVar 4) (eVar 2))) (eT (e2 (gIn true) (eVar 5) (eVar 2)))) (sSeq (sSet 6 (eCall cSort (aCons (e2 gCatL (eLc [7] (iSeq (eVar 2)) (gdN 7) (eT (e2 (gEq true) (eVar 7) (eVar 4))) (eVar 7)) (eLst (aCons (eVar 5) aNil))) aNil)))
  (sIf (eT (eDIn false (eCall cTuple (aCons (eVar 6) aNil)) (eVar 1))) (sApp 3 (eTup (aCons (eVar 4) (aCons (eVar 5) (aCons (e2 (gI fun i j => i - j) (eDIx (eVar 1) (eCall cTuple (aCons (eVar 6) aNil))) (eDIx (eVar 1) (eVar 2))) aNil))))) sSkip)) sSkip)))
  (sFrz 3 (sRet (eVar 3)))))
def F__law_near : List D → RF := runF 8 3 b__law_near
abbrev N__law_near : List Str := ["letters", "known", "lot", "found", "out", "into", "new", "k"]
theorem sc__law_near : FnScope N__law_near ["letters", "known", "lot"] (defScope (top 80)) := ⟨rfl, rfl, rfl, by decide +kernel, rfl, by decide +kernel, by decide +kernel⟩
theorem bi__law_near : BindsP "_law_near" "_law_near" (defArgs (top 80)) (defBody (top 80)) (defScope (top 80)) ["letters", "known", "lot"] := fun _ _ _ _ _ _ us hl => match us, hl with | [_, _, _], _ => rfl
theorem tie__law_near (h : Hd P K mg cl) : Fk P w K mg base 1 "_law_near" ["letters", "known", "lot"] (spF ⟨K, cl⟩ 3 F__law_near) := by
  refine fk_F h.d__law_near sc__law_near bi__law_near rfl rfl fun f cdv A outer s H E hr => ?_
  exact (b_cons (s_own 3 sc__law_near.nd rfl (Or.inl rfl) (by decide) (x_lst a_nil))
  (b_cons (s_for (passes_of rfl) rfl (i_rg1 rfl h.n_range (x_var (pv 0))) (g_name 4 sc__law_near.nd rfl (Or.inr rfl) (by decide)) (b_one (s_for (passes_of rfl) rfl (i_rg1 rfl h.n_range (x_var (pv 0))) (g_name 5 sc__law_near.nd rfl (Or.inl rfl) (by decide)) (b_one (s_if (t_and2 (t_cmp op_in_seq oIn rfl (x_var (pv 4)) (x_var (pv 2))) (t_cmp op_notIn_seq oIn rfl (x_var (pv 5)) (x_var (pv 2)))) (b_cons (s_set 6 sc__law_near.nd rfl (Or.inl rfl) (by decide) (RdN.val (x_callBN (cr_sortedD hr.units) oSort rfl h.n_sorted rfl (a_cons (RdN.val (x_catL (RdN.val (x_lcIf (own := [("k", 7)]) rfl sc__law_near.nd (blkOk_by (N := N__law_near) (sc := (defScope (top 80))) (by decide +kernel)) (by decide) (by decide) (i_seq (x_var (pv 2))) (fun _ _ _ _ _ => pg_name (i := 7) sc__law_near.nd rfl (by first | exact Or.inl rfl | exact Or.inr rfl) (by first | exact Or.inl rfl | exact Or.inr rfl)) (rw_name (by decide)) (fun _ _ _ _ _ => (t_cmp (op_neD hr.units) oNe rfl (x_var (pv 7)) (x_var (pv 4)))) (fun _ _ _ _ _ => (x_var (pv 7))))) (RdN.val (x_lst (a_cons (x_var (pv 5)) a_nil))))) a_nil))))
  (b_one (s_if (t_din (hu_of hr) (x_callTy call_tuple_of oTuple rfl h.n_tuple rfl (a_cons (x_var (pv 6)) a_nil)) (x_var (pv 1))) (b_one (s_app (pv 3) (x_tup (a_cons (x_var (pv 4)) (a_cons (x_var (pv 5)) (a_cons (x_sub (x_dix (hu_of hr) (x_var (pv 1)) (x_callTy call_tuple_of oTuple rfl h.n_tuple rfl (a_cons (x_var (pv 6)) a_nil))) (x_dix (hu_of hr) (x_var (pv 1)) (x_var (pv 2)))) a_nil)))))) b_nil))) b_nil)))))
  (b_frz 3 (b_one (s_ret (x_var (pv 3)))))))
def b__law_right_near : MS :=
  (sSeq (sOwn 3 (eC (.dic [])))
  (sSeq (sFor (iSeq (eVar 2)) (gdTup 2 (gdCons (gdN 4) (gdCons (gdN 5) gdNil))) (sDPutO 3 (eVar 4) (eVar 5)))
  (sSeq (sSet 6 (eMeth 2 "listed" F_Bases_listed (eVar 0) aNil))
  (sFrz 3 (sSeq (sFor (iSeq (eVar 2)) (gdTup 2 (gdCons (gdN 4) (gdCons (gdN 5) gdNil))) (sSeq (sSet 7 (eLc [10] (iRg1 (eVar 1)) (gdN 10) mYes (eCall cInt (aCons (e2 (gIn false) (eVar 10) (eVar 4)) aNil))))
  (sSeq (sSet 8 (eMeth 1 "near" F_Listed_near (eVar 6) (aCons (eVar 7) aNil)))
  (sSeq (sIf (eNot (eT (eFn F__law_same (aCons (eVar 8) (aCons (eFn F__law_near (aCons (eVar 1) (aCons (eVar 3) (aCons (eVar 4) aNil)))) aNil))))) (sRet (eC (.bl false))) sSkip)
  (sFor (iRg1 (eVar 1)) (gdN 9) (sIf (eT (e2 (gIn true) (eVar 9) (eVar 4))) (sSeq (sOwn 11 (e2 gRep (eLst (aCons (eC .non) aNil)) (eVar 1)))
  (sSeq (sIxSet 11 (eVar 9) (eVar 5))
  (sSeq (sFor (iSeq (eVar 8)) (gdTup 3 (gdCons (gdN 12) (gdCons (gdN 13) (gdCons (gdN 14) gdNil)))) (sIf (eT (e2 (gEq false) (eVar 13) (eVar 9))) (sIxSet 11 (eVar 12) (e2 (gI fun i j => i + j) (eVar 5) (eVar 14))) sSkip))
  (sFrz 11 (sIf (eNot (eT (eFn F__law_same (aCons (eFn F_circuit (aCons (eVar 0) (aCons (e2 gCatL (eCall cList (aCons (eVar 4) aNil)) (eLst (aCons (eVar 9) aNil))) aNil))) (aCons (eVar 11) aNil))))) (sRet (eC (.bl false))) sSkip))))) sSkip))))))
  (sRet (eC (.bl true))))))))
def F__law_right_near : List D → RF := runF 15 3 b__law_right_near
abbrev N__law_right_near : List Str := ["bases", "letters", "rows", "known", "lot", "cost", "source", "point", "told", "letter", "k", "due", "out", "into", "weight"]
theorem sc__law_right_near : FnScope N__law_right_near ["bases", "letters", "rows"] (defScope (top 81)) := ⟨rfl, rfl, rfl, by decide +kernel, rfl, by decide +kernel, by decide +kernel⟩
theorem bi__law_right_near : BindsP "_law_right_near" "_law_right_near" (defArgs (top 81)) (defBody (top 81)) (defScope (top 81)) ["bases", "letters", "rows"] := fun _ _ _ _ _ _ us hl => match us, hl with | [_, _, _], _ => rfl
theorem tie__law_right_near (h : Hd P K mg cl) : Fk P w K mg base 14 "_law_right_near" ["bases", "letters", "rows"] (spF ⟨K, cl⟩ 3 F__law_right_near) := by
  refine fk_F h.d__law_right_near sc__law_right_near bi__law_right_near rfl rfl fun f cdv A outer s H E hr => ?_
  exact (b_cons (s_own 3 sc__law_right_near.nd rfl (Or.inl rfl) (by decide) x_dicN)
  (b_cons (s_for (passes_of rfl) rfl (i_seq (x_var (pv 2))) (g_tup rfl (g_cons (g_name 4 sc__law_right_near.nd rfl (Or.inr rfl) (by decide)) (g_cons (g_name 5 sc__law_right_near.nd rfl (Or.inl rfl) (by decide)) g_nil))) (b_one (s_dputO (hu_of hr) (pv 3) (x_var (pv 4)) (x_var (pv 5)))))
  (b_cons (s_set 6 sc__law_right_near.nd rfl (Or.inl rfl) (by decide) (x_meth0 ((tie_Bases_listed h).up (by decide : 13 ≤ 13)) (fun ds => runF_len ds) h.c_Bases hr (takes_of rfl rfl rfl rfl) (x_var (pv 0))))
  (b_frz 3 (b_cons (s_for (passes_of rfl) rfl (i_seq (x_var (pv 2))) (g_tup rfl (g_cons (g_name 4 sc__law_right_near.nd rfl (Or.inr rfl) (by decide)) (g_cons (g_name 5 sc__law_right_near.nd rfl (Or.inl rfl) (by decide)) g_nil))) (b_cons (s_lc (own := [("k", 10)]) (i := 7) (by decide) rfl rfl rfl rfl sc__law_right_near.nd (blkOk_by (N := N__law_right_near) (sc := (defScope (top 81))) (by decide +kernel)) (by decide) (by decide) (i_rg1 rfl h.n_range (x_var (pv 1))) (fun _ _ _ _ _ => pg_name (i := 10) sc__law_right_near.nd rfl (by first | exact Or.inl rfl | exact Or.inr rfl) (by first | exact Or.inl rfl | exact Or.inr rfl)) (rw_name (by decide)) (fun _ _ _ _ _ => (x_callTy call_int1 oInt rfl h.n_int rfl (a_cons (x_cmp op_in_seq oIn rfl (x_var (pv 10)) (x_var (pv 4))) a_nil))))
  (b_cons (s_set 8 sc__law_right_near.nd rfl (Or.inl rfl) (by decide) (x_meth ((tie_Listed_near h).up (by decide : 6 ≤ 13)) (fun ds => runF_len ds) h.c_Listed hr (takes_of rfl rfl rfl rfl) (x_var (pv 6)) (a_cons (x_var (pv 7)) a_nil)))
  (b_cons (s_if (t_not (t_val (x_fn ((tie__law_same h).up (by decide : 6 ≤ 13)) (fun ds => F__law_same_len _ ds) hr rfl (takes_of rfl rfl rfl rfl) (a_cons (x_var (pv 8)) (a_cons (x_fn ((tie__law_near h).up (by decide : 1 ≤ 13)) (fun ds => runF_len ds) hr rfl (takes_of rfl rfl rfl rfl) (a_cons (x_var (pv 1)) (a_cons (x_var (pv 3)) (a_cons (x_var (pv 4)) a_nil)))) a_nil))))) (b_one (s_ret x_bl)) b_nil)
  (b_one (s_for (passes_of rfl) rfl (i_rg1 rfl h.n_range (x_var (pv 1))) (g_name 9 sc__law_right_near.nd rfl (Or.inl rfl) (by decide)) (b_one (s_if (t_cmp op_notIn_seq oIn rfl (x_var (pv 9)) (x_var (pv 4))) (b_cons (s_own 11 sc__law_right_near.nd rfl (Or.inl rfl) (by decide) (x_rep (RdN.val (x_lst (a_cons x_non a_nil))) (x_var (pv 1))))
  (b_cons (s_ixset (pv 11) (x_var (pv 9)) (x_var (pv 5)))
  (b_cons (s_for (passes_of rfl) rfl (i_seq (x_var (pv 8))) (g_tup rfl (g_cons (g_name 12 sc__law_right_near.nd rfl (Or.inl rfl) (by decide)) (g_cons (g_name 13 sc__law_right_near.nd rfl (Or.inl rfl) (by decide)) (g_cons (g_name 14 sc__law_right_near.nd rfl (Or.inl rfl) (by decide)) g_nil)))) (b_one (s_if (t_cmp (op_eqD hr.units) oEq rfl (x_var (pv 13)) (x_var (pv 9))) (b_one (s_ixset (pv 11) (x_var (pv 12)) (x_add (x_var (pv 5)) (x_var (pv 14))))) b_nil)))
  (b_frz 11 (b_one (s_if (t_not (t_val (x_fn ((tie__law_same h).up (by decide : 6 ≤ 13)) (fun ds => F__law_same_len _ ds) hr rfl (takes_of rfl rfl rfl rfl) (a_cons (x_fn ((tie_circuit h).up (by decide : 7 ≤ 13)) (fun ds => runF_len ds) hr rfl (takes_of rfl rfl rfl rfl) (a_cons (x_var (pv 0)) (a_cons (RdN.val (x_catL (RdN.val (x_callTyN call_list_of oList rfl h.n_list rfl (a_cons (x_var (pv 4)) a_nil))) (RdN.val (x_lst (a_cons (x_var (pv 9)) a_nil))))) a_nil))) (a_cons (x_var (pv 11)) a_nil))))) (b_one (s_ret x_bl)) b_nil)))))) b_nil))))))))
  (b_one (s_ret x_bl)))))))
def b_law : MS :=
  (sSeq (sOwn 1 (eFn F__law_pool_of (aCons (eVar 0) aNil)))
  (sSeq (sSet 2 (e2 gIx (eLst (aCons (eC (.int 4)) (aCons (eC (.int 3)) (aCons (eC (.int 5)) (aCons (eC (.int 2)) (aCons (eC (.int 4)) (aCons (eC (.int 3)) (aCons (eC (.int 6)) (aCons (eC (.int 1)) aNil))))))))) (eFnO 1 F__law_draw (aCons (eC (.int 8)) aNil))))
  (sSeq (sIf (eT (e2 (gEq false) (eVar 2) (eC (.int 1)))) (sSet 2 (eFnO 1 F__law_draw (aCons (eC (.int 2)) aNil))) sSkip)
  (sSeq (sAsg (gdTup 2 (gdCons (gdN 3) (gdCons (gdN 4) gdNil))) (eFnO 1 F__law_rows (aCons (eVar 2) aNil)))
  (sSeq (sSet 5 (eMake 2 F_Bases___init__ (aCons (eVar 2) (aCons (e1 gRev (eVar 4)) aNil))))
  (sSeq (sIf (eNot (eT (eFn F__law_right_circuits (aCons (eVar 5) (aCons (eVar 2) (aCons (eVar 3) (aCons (eVar 4) aNil))))))) (sRet (eC (.bl false))) sSkip)
  (sSeq (sIf (eNot (eT (eFn F__law_right_near (aCons (eVar 5) (aCons (eVar 2) (aCons (eVar 4) aNil)))))) (sRet (eC (.bl false))) sSkip)
  (sSeq (sOwn 6 (eLst aNil))
  (sSeq (sFor (iSeq (eVar 4)) (gdTup 2 (gdCons (gdN 7) (gdCons (gdN 8) gdNil))) (sSeq (sSet 9 (eLc [10] (iRg1 (eVar 2)) (gdN 10) (eT (e2 (gIn true) (eVar 10) (eVar 7))) (eVar 10)))
  (sApp 6 (eTup (aCons (eCall cTuple (aCons (eVar 9) aNil)) (aCons (eVar 8) aNil))))))
  (sFrz 6 (sSeq (sOwn 6 (eCall cSort (aCons (eVar 6) aNil)))
  (sSeq (sSet 11 (eMeth 2 "dual" F_Bases_dual (eVar 5) aNil))
  (sFrz 6 (sSeq (sIf (eNot (eT (eFn F__law_right_circuits (aCons (eVar 11) (aCons (eVar 2) (aCons (e2 (gI fun i j => i - j) (eVar 2) (eVar 3)) (aCons (eVar 6) aNil))))))) (sRet (eC (.bl false))) sSkip)
  (sRet (eFn F__law_right_near (aCons (eVar 11) (aCons (eVar 2) (aCons (eVar 6) aNil)))))))))))))))))))
def F_law : List D → RF := runF 12 1 b_law
abbrev N_law : List Str := ["script", "pool", "letters", "rank", "rows", "bases", "turned", "lot", "cost", "rest", "k", "dual"]
theorem sc_law : FnScope N_law ["script"] (defScope (top 82)) := ⟨rfl, rfl, rfl, by decide +kernel, rfl, by decide +kernel, by decide +kernel⟩
theorem bi_law : BindsP "law" "law" (defArgs (top 82)) (defBody (top 82)) (defScope (top 82)) ["script"] := fun _ _ _ _ _ _ us hl => match us, hl with | [_], _ => rfl
theorem tie_law (h : Hd P K mg cl) : Fk P w K mg base 15 "law" ["script"] (spF ⟨K, cl⟩ 1 F_law) := by
  refine fk_F h.d_law sc_law bi_law rfl rfl fun f cdv A outer s H E hr => ?_
  exact (b_cons (s_own 1 sc_law.nd rfl (Or.inl rfl) (by decide) (x_fnN ((tie__law_pool_of h).up (by decide : 1 ≤ 14)) (fun ds => runN_len ds) hr rfl (takes_of rfl rfl rfl rfl) (a_cons (x_var (pv 0)) a_nil)))
  (b_cons (s_set 2 sc_law.nd rfl (Or.inl rfl) (by decide) (x_ix rfl (RdN.val (x_lst (a_cons x_int (a_cons x_int (a_cons x_int (a_cons x_int (a_cons x_int (a_cons x_int (a_cons x_int (a_cons x_int a_nil)))))))))) (x_fnO ((tie__law_draw h).up (by decide : 1 ≤ 14)) (fun o ds => runO_len o ds) hr rfl (takes_of rfl rfl rfl rfl) (pv 1) (a_cons x_int a_nil))))
  (b_cons (s_if (t_cmp (op_eqD hr.units) oEq rfl (x_var (pv 2)) x_int) (b_one (s_set 2 sc_law.nd rfl (Or.inl rfl) (by decide) (x_fnO ((tie__law_draw h).up (by decide : 1 ≤ 14)) (fun o ds => runO_len o ds) hr rfl (takes_of rfl rfl rfl rfl) (pv 1) (a_cons x_int a_nil)))) b_nil)
  (b_cons (s_asg (g_tup rfl (g_cons (g_name 3 sc_law.nd rfl (Or.inl rfl) (by decide)) (g_cons (g_name 4 sc_law.nd rfl (Or.inl rfl) (by decide)) g_nil))) (x_fnO ((tie__law_rows h).up (by decide : 3 ≤ 14)) (fun o ds => runO_len o ds) hr rfl (takes_of rfl rfl rfl rfl) (pv 1) (a_cons (x_var (pv 2)) a_nil)))
  (b_cons (s_set 5 sc_law.nd rfl (Or.inl rfl) (by decide) (RdN.val (x_make (tie_Bases___init__ h) (fun o ds => runO_len o ds) (hr.mono (by decide : 11 ≤ 14)) rfl (a_cons (x_var (pv 2)) (a_cons (RdN.val (x_revL (x_var (pv 4)))) a_nil)))))
  (b_cons (s_if (t_not (t_val (x_fn ((tie__law_right_circuits h).up (by decide : 9 ≤ 14)) (fun ds => runF_len ds) hr rfl (takes_of rfl rfl rfl rfl) (a_cons (x_var (pv 5)) (a_cons (x_var (pv 2)) (a_cons (x_var (pv 3)) (a_cons (x_var (pv 4)) a_nil))))))) (b_one (s_ret x_bl)) b_nil)
  (b_cons (s_if (t_not (t_val (x_fn ((tie__law_right_near h).up (by decide : 14 ≤ 14)) (fun ds => runF_len ds) hr rfl (takes_of rfl rfl rfl rfl) (a_cons (x_var (pv 5)) (a_cons (x_var (pv 2)) (a_cons (x_var (pv 4)) a_nil)))))) (b_one (s_ret x_bl)) b_nil)
  (b_cons (s_own 6 sc_law.nd rfl (Or.inl rfl) (by decide) (x_lst a_nil))
  (b_cons (s_for (passes_of rfl) rfl (i_seq (x_var (pv 4))) (g_tup rfl (g_cons (g_name 7 sc_law.nd rfl (Or.inr rfl) (by decide)) (g_cons (g_name 8 sc_law.nd rfl (Or.inl rfl) (by decide)) g_nil))) (b_cons (s_lcIf (own := [("k", 10)]) (i := 9) (by decide) rfl rfl rfl rfl sc_law.nd (blkOk_by (N := N_law) (sc := (defScope (top 82))) (by decide +kernel)) (by decide) (by decide) (i_rg1 rfl h.n_range (x_var (pv 2))) (fun _ _ _ _ _ => pg_name (i := 10) sc_law.nd rfl (by first | exact Or.inl rfl | exact Or.inr rfl) (by first | exact Or.inl rfl | exact Or.inr rfl)) (rw_name (by decide)) (fun _ _ _ _ _ => (t_cmp op_notIn_seq oIn rfl (x_var (pv 10)) (x_var (pv 7)))) (fun _ _ _ _ _ => (x_var (pv 10))))
  (b_one (s_app (pv 6) (x_tup (a_cons (x_callTy call_tuple_of oTuple rfl h.n_tuple rfl (a_cons (x_var (pv 9)) a_nil)) (a_cons (x_var (pv 8)) a_nil)))))))
  (b_frz 6 (b_cons (s_own 6 sc_law.nd rfl (Or.inl rfl) (by decide) (x_callBN (cr_sortedD hr.units) oSort rfl h.n_sorted rfl (a_cons (x_var (pv 6)) a_nil)))
  (b_cons (s_set 11 sc_law.nd rfl (Or.inl rfl) (by decide) (x_meth0 ((tie_Bases_dual h).up (by decide : 12 ≤ 14)) (fun ds => runF_len ds) h.c_Bases hr (takes_of rfl rfl rfl rfl) (x_var (pv 5))))
  (b_frz 6 (b_cons (s_if (t_not (t_val (x_fn ((tie__law_right_circuits h).up (by decide : 9 ≤ 14)) (fun ds => runF_len ds) hr rfl (takes_of rfl rfl rfl rfl) (a_cons (x_var (pv 11)) (a_cons (x_var (pv 2)) (a_cons (x_sub (x_var (pv 2)) (x_var (pv 3))) (a_cons (x_var (pv 6)) a_nil))))))) (b_one (s_ret x_bl)) b_nil)
  (b_one (s_ret (x_fn ((tie__law_right_near h).up (by decide : 14 ≤ 14)) (fun ds => runF_len ds) hr rfl (takes_of rfl rfl rfl rfl) (a_cons (x_var (pv 11)) (a_cons (x_var (pv 2)) (a_cons (x_var (pv 6)) a_nil))))))))))))))))))))
theorem tie_law_all (h : Hd P K mg cl) : ∃ f fd, mg "law" = some (.ref f) ∧ (∀ (s : Shared) (u : Value), BindsTo s fd ⟨[u], []⟩ [("script", u)]) ∧ ∀ base : Heap, FnOk P w K mg base (L2.CX P w) 15 f fd ["script"] (spF ⟨K, cl⟩ 1 F_law) := by
  obtain ⟨f, fd, F, g⟩ := h.d_law.ex
  refine ⟨f, fd, g, fun s u => F.bindsA (ps := ["script"]) bi_law s [u] rfl, fun base => fn_F F sc_law rfl rfl fun cdv A outer s H E hr => ?_⟩
  exact (b_cons (s_own 1 sc_law.nd rfl (Or.inl rfl) (by decide) (x_fnN ((tie__law_pool_of h).up (by decide : 1 ≤ 14)) (fun ds => runN_len ds) hr rfl (takes_of rfl rfl rfl rfl) (a_cons (x_var (pv 0)) a_nil)))
  (b_cons (s_set 2 sc_law.nd rfl (Or.inl rfl) (by decide) (x_ix rfl (RdN.val (x_lst (a_cons x_int (a_cons x_int (a_cons x_int (a_cons x_int (a_cons x_int (a_cons x_int (a_cons x_int (a_cons x_int a_nil)))))))))) (x_fnO ((tie__law_draw h).up (by decide : 1 ≤ 14)) (fun o ds => runO_len o ds) hr rfl (takes_of rfl rfl rfl rfl) (pv 1) (a_cons x_int a_nil))))
  (b_cons (s_if (t_cmp (op_eqD hr.units) oEq rfl (x_var (pv 2)) x_int) (b_one (s_set 2 sc_law.nd rfl (Or.inl rfl) (by decide) (x_fnO ((tie__law_draw h).up (by decide : 1 ≤ 14)) (fun o ds => runO_len o ds) hr rfl (takes_of rfl rfl rfl rfl) (pv 1) (a_cons x_int a_nil)))) b_nil)
  (b_cons (s_asg (g_tup rfl (g_cons (g_name 3 sc_law.nd rfl (Or.inl rfl) (by decide)) (g_cons (g_name 4 sc_law.nd rfl (Or.inl rfl) (by decide)) g_nil))) (x_fnO ((tie__law_rows h).up (by decide : 3 ≤ 14)) (fun o ds => runO_len o ds) hr rfl (takes_of rfl rfl rfl rfl) (pv 1) (a_cons (x_var (pv 2)) a_nil)))
  (b_cons (s_set 5 sc_law.nd rfl (Or.inl rfl) (by decide) (RdN.val (x_make (tie_Bases___init__ h) (fun o ds => runO_len o ds) (hr.mono (by decide : 11 ≤ 14)) rfl (a_cons (x_var (pv 2)) (a_cons (RdN.val (x_revL (x_var (pv 4)))) a_nil)))))
  (b_cons (s_if (t_not (t_val (x_fn ((tie__law_right_circuits h).up (by decide : 9 ≤ 14)) (fun ds => runF_len ds) hr rfl (takes_of rfl rfl rfl rfl) (a_cons (x_var (pv 5)) (a_cons (x_var (pv 2)) (a_cons (x_var (pv 3)) (a_cons (x_var (pv 4)) a_nil))))))) (b_one (s_ret x_bl)) b_nil)
  (b_cons (s_if (t_not (t_val (x_fn ((tie__law_right_near h).up (by decide : 14 ≤ 14)) (fun ds => runF_len ds) hr rfl (takes_of rfl rfl rfl rfl) (a_cons (x_var (pv 5)) (a_cons (x_var (pv 2)) (a_cons (x_var (pv 4)) a_nil)))))) (b_one (s_ret x_bl)) b_nil)
  (b_cons (s_own 6 sc_law.nd rfl (Or.inl rfl) (by decide) (x_lst a_nil))
  (b_cons (s_for (passes_of rfl) rfl (i_seq (x_var (pv 4))) (g_tup rfl (g_cons (g_name 7 sc_law.nd rfl (Or.inr rfl) (by decide)) (g_cons (g_name 8 sc_law.nd rfl (Or.inl rfl) (by decide)) g_nil))) (b_cons (s_lcIf (own := [("k", 10)]) (i := 9) (by decide) rfl rfl rfl rfl sc_law.nd (blkOk_by (N := N_law) (sc := (defScope (top 82))) (by decide +kernel)) (by decide) (by decide) (i_rg1 rfl h.n_range (x_var (pv 2))) (fun _ _ _ _ _ => pg_name (i := 10) sc_law.nd rfl (by first | exact Or.inl rfl | exact Or.inr rfl) (by first | exact Or.inl rfl | exact Or.inr rfl)) (rw_name (by decide)) (fun _ _ _ _ _ => (t_cmp op_notIn_seq oIn rfl (x_var (pv 10)) (x_var (pv 7)))) (fun _ _ _ _ _ => (x_var (pv 10))))
  (b_one (s_app (pv 6) (x_tup (a_cons (x_callTy call_tuple_of oTuple rfl h.n_tuple rfl (a_cons (x_var (pv 9)) a_nil)) (a_cons (x_var (pv 8)) a_nil)))))))
  (b_frz 6 (b_cons (s_own 6 sc_law.nd rfl (Or.inl rfl) (by decide) (x_callBN (cr_sortedD hr.units) oSort rfl h.n_sorted rfl (a_cons (x_var (pv 6)) a_nil)))
  (b_cons (s_set 11 sc_law.nd rfl (Or.inl rfl) (by decide) (x_meth0 ((tie_Bases_dual h).up (by decide : 12 ≤ 14)) (fun ds => runF_len ds) h.c_Bases hr (takes_of rfl rfl rfl rfl) (x_var (pv 5))))
  (b_frz 6 (b_cons (s_if (t_not (t_val (x_fn ((tie__law_right_circuits h).up (by decide : 9 ≤ 14)) (fun ds => runF_len ds) hr rfl (takes_of rfl rfl rfl rfl) (a_cons (x_var (pv 11)) (a_cons (x_var (pv 2)) (a_cons (x_sub (x_var (pv 2)) (x_var (pv 3))) (a_cons (x_var (pv 6)) a_nil))))))) (b_one (s_ret x_bl)) b_nil)
  (b_one (s_ret (x_fn ((tie__law_right_near h).up (by decide : 14 ≤ 14)) (fun ds => runF_len ds) hr rfl (takes_of rfl rfl rfl rfl) (a_cons (x_var (pv 11)) (a_cons (x_var (pv 2)) (a_cons (x_var (pv 6)) a_nil))))))))))))))))))))
abbrev lawLevel : Nat := 15
end
end PD
set_option maxRecDepth 100000
set_option maxHeartbeats 0
namespace PD
open PySem PySem.Spec PyProof.Rows L2
abbrev dd0 : He.DefD := ⟨("Bases", some "__init__"), "__init__", "Bases.__init__", defArgs (inClass (top 69) 0), defBody (inClass (top 69) 0), defScope (inClass (top 69) 0), [], []⟩
abbrev dd1 : He.DefD := ⟨("Bases", some "cost"), "cost", "Bases.cost", defArgs (inClass (top 69) 1), defBody (inClass (top 69) 1), defScope (inClass (top 69) 1), [], []⟩
abbrev dd2 : He.DefD := ⟨("Bases", some "dual"), "dual", "Bases.dual", defArgs (inClass (top 69) 4), defBody (inClass (top 69) 4), defScope (inClass (top 69) 4), [], []⟩
abbrev dd3 : He.DefD := ⟨("Bases", some "listed"), "listed", "Bases.listed", defArgs (inClass (top 69) 3), defBody (inClass (top 69) 3), defScope (inClass (top 69) 3), [], []⟩
abbrev dd4 : He.DefD := ⟨("Listed", some "near"), "near", "Source.near", defArgs (inClass (top 61) 6), defBody (inClass (top 61) 6), defScope (inClass (top 61) 6), [], []⟩
abbrev dd5 : He.DefD := ⟨("Source", some "__init__"), "__init__", "Source.__init__", defArgs (inClass (top 61) 1), defBody (inClass (top 61) 1), defScope (inClass (top 61) 1), [], []⟩
abbrev dd6 : He.DefD := ⟨("Table", some "__init__"), "__init__", "Table.__init__", defArgs (inClass (top 40) 1), defBody (inClass (top 40) 1), defScope (inClass (top 40) 1), [], []⟩
abbrev dd7 : He.DefD := ⟨("Table", some "points"), "points", "Table.points", defArgs (inClass (top 40) 4), defBody (inClass (top 40) 4), defScope (inClass (top 40) 4), [], []⟩
abbrev dd8 : He.DefD := ⟨("_law_bends", none), "_law_bends", "_law_bends", defArgs (top 73), defBody (top 73), defScope (top 73), [], []⟩
abbrev dd9 : He.DefD := ⟨("_law_draw", none), "_law_draw", "_law_draw", defArgs (top 72), defBody (top 72), defScope (top 72), [], []⟩
abbrev dd10 : He.DefD := ⟨("_law_entries", none), "_law_entries", "_law_entries", defArgs (top 77), defBody (top 77), defScope (top 77), [], []⟩
abbrev dd11 : He.DefD := ⟨("_law_lots", none), "_law_lots", "_law_lots", defArgs (top 74), defBody (top 74), defScope (top 74), [], []⟩
abbrev dd12 : He.DefD := ⟨("_law_near", none), "_law_near", "_law_near", defArgs (top 80), defBody (top 80), defScope (top 80), [], []⟩
abbrev dd13 : He.DefD := ⟨("_law_pool_of", none), "_law_pool_of", "_law_pool_of", defArgs (top 71), defBody (top 71), defScope (top 71), [], []⟩
abbrev dd14 : He.DefD := ⟨("_law_refusal", none), "_law_refusal", "_law_refusal", defArgs (top 78), defBody (top 78), defScope (top 78), [], []⟩
abbrev dd15 : He.DefD := ⟨("_law_right_circuits", none), "_law_right_circuits", "_law_right_circuits", defArgs (top 79), defBody (top 79), defScope (top 79), [], []⟩
abbrev dd16 : He.DefD := ⟨("_law_right_near", none), "_law_right_near", "_law_right_near", defArgs (top 81), defBody (top 81), defScope (top 81), [], []⟩
abbrev dd17 : He.DefD := ⟨("_law_rows", none), "_law_rows", "_law_rows", defArgs (top 76), defBody (top 76), defScope (top 76), [], []⟩
abbrev dd18 : He.DefD := ⟨("_law_same", none), "_law_same", "_law_same", defArgs (top 75), defBody (top 75), defScope (top 75), [], []⟩
abbrev dd19 : He.DefD := ⟨("bad_triple", none), "bad_triple", "bad_triple", defArgs (top 53), defBody (top 53), defScope (top 53), [], []⟩
abbrev dd20 : He.DefD := ⟨("circuit", none), "circuit", "circuit", defArgs (top 36), defBody (top 36), defScope (top 36), [], []⟩
abbrev dd21 : He.DefD := ⟨("circuits", none), "circuits", "circuits", defArgs (top 37), defBody (top 37), defScope (top 37), [], []⟩
abbrev dd22 : He.DefD := ⟨("end_amounts", none), "end_amounts", "end_amounts", defArgs (top 28), defBody (top 28), defScope (top 28), [], []⟩
abbrev dd23 : He.DefD := ⟨("end_place", none), "end_place", "end_place", defArgs (top 27), defBody (top 27), defScope (top 27), [], []⟩
abbrev dd24 : He.DefD := ⟨("ends", none), "ends", "ends", defArgs (top 26), defBody (top 26), defScope (top 26), [], []⟩
abbrev dd25 : He.DefD := ⟨("first_triple", none), "first_triple", "first_triple", defArgs (top 52), defBody (top 52), defScope (top 52), [], []⟩
abbrev dd26 : He.DefD := ⟨("has_number", none), "has_number", "has_number", defArgs (top 35), defBody (top 35), defScope (top 35), [], []⟩
abbrev dd27 : He.DefD := ⟨("law", none), "law", "law", defArgs (top 82), defBody (top 82), defScope (top 82), [], []⟩
abbrev dd28 : He.DefD := ⟨("lessened_costs", none), "lessened_costs", "lessened_costs", defArgs (top 34), defBody (top 34), defScope (top 34), [], []⟩
abbrev dd29 : He.DefD := ⟨("look_count", none), "look_count", "look_count", defArgs (top 17), defBody (top 17), defScope (top 17), [], []⟩
abbrev dd30 : He.DefD := ⟨("look_index", none), "look_index", "look_index", defArgs (top 21), defBody (top 21), defScope (top 21), [], []⟩
abbrev dd31 : He.DefD := ⟨("look_lot", none), "look_lot", "look_lot", defArgs (top 22), defBody (top 22), defScope (top 22), [], []⟩
abbrev dd32 : He.DefD := ⟨("look_number", none), "look_number", "look_number", defArgs (top 16), defBody (top 16), defScope (top 16), [], []⟩
abbrev dd33 : He.DefD := ⟨("look_numbers", none), "look_numbers", "look_numbers", defArgs (top 18), defBody (top 18), defScope (top 18), [], []⟩
abbrev dd34 : He.DefD := ⟨("look_point", none), "look_point", "look_point", defArgs (top 19), defBody (top 19), defScope (top 19), [], []⟩
abbrev dd35 : He.DefD := ⟨("looked_lots", none), "looked_lots", "looked_lots", defArgs (top 68), defBody (top 68), defScope (top 68), [], []⟩
abbrev dd36 : He.DefD := ⟨("looked_rows", none), "looked_rows", "looked_rows", defArgs (top 41), defBody (top 41), defScope (top 41), [], []⟩
abbrev dd37 : He.DefD := ⟨("lot_point", none), "lot_point", "lot_point", defArgs (top 66), defBody (top 66), defScope (top 66), [], []⟩
abbrev dd38 : He.DefD := ⟨("lot_table", none), "lot_table", "lot_table", defArgs (top 67), defBody (top 67), defScope (top 67), [], []⟩
abbrev dd39 : He.DefD := ⟨("lots_below", none), "lots_below", "lots_below", defArgs (top 32), defBody (top 32), defScope (top 32), [], []⟩
abbrev dd40 : He.DefD := ⟨("moved", none), "moved", "moved", defArgs (top 30), defBody (top 30), defScope (top 30), [], []⟩
abbrev dd41 : He.DefD := ⟨("near_of", none), "near_of", "near_of", defArgs (top 59), defBody (top 59), defScope (top 59), [], []⟩
abbrev dd42 : He.DefD := ⟨("near_steps", none), "near_steps", "near_steps", defArgs (top 29), defBody (top 29), defScope (top 29), [], []⟩
abbrev dd43 : He.DefD := ⟨("near_weights", none), "near_weights", "near_weights", defArgs (top 46), defBody (top 46), defScope (top 46), [], []⟩
abbrev dd44 : He.DefD := ⟨("place_without_partner", none), "place_without_partner", "place_without_partner", defArgs (top 50), defBody (top 50), defScope (top 50), [], []⟩
abbrev dd45 : He.DefD := ⟨("table_costs", none), "table_costs", "table_costs", defArgs (top 42), defBody (top 42), defScope (top 42), [], []⟩
abbrev dd46 : He.DefD := ⟨("table_from", none), "table_from", "table_from", defArgs (top 43), defBody (top 43), defScope (top 43), [], []⟩
abbrev dd47 : He.DefD := ⟨("weight_rows", none), "weight_rows", "weight_rows", defArgs (top 49), defBody (top 49), defScope (top 49), [], []⟩
abbrev ss0 : SupD := ⟨"Listed", "__init__", "Listed.__init__", (inClass (top 63) 1)⟩
abbrev ss1 : SupD := ⟨"EndError", "__init__", "EndError.__init__", (inClass (top 5) 0)⟩
abbrev ss2 : SupD := ⟨"NothingError", "__init__", "NothingError.__init__", (inClass (top 10) 0)⟩
abbrev ss3 : SupD := ⟨"SizeError", "__init__", "SizeError.__init__", (inClass (top 3) 0)⟩
def LH : HdL := ⟨[.cls "Bases",
   .cls "Listed",
   .cls "Table",
   .mkr "Bases",
   .glo "Bases",
   .meth "Bases" "cost",
   .meth "Bases" "dual",
   .meth "Bases" "listed",
   .mkr "Listed",
   .glo "Listed",
   .meth "Listed" "near",
   .mkr "Table",
   .glo "Table",
   .meth "Table" "points",
   .glo "_law_bends",
   .glo "_law_draw",
   .glo "_law_entries",
   .glo "_law_lots",
   .glo "_law_near",
   .glo "_law_pool_of",
   .glo "_law_refusal",
   .glo "_law_right_circuits",
   .glo "_law_right_near",
   .glo "_law_rows",
   .glo "_law_same",
   .glo "bad_triple",
   .glo "circuit",
   .glo "circuits",
   .glo "end_amounts",
   .glo "end_place",
   .glo "ends",
   .glo "first_triple",
   .glo "has_number",
   .glo "law",
   .glo "lessened_costs",
   .glo "look_count",
   .glo "look_index",
   .glo "look_lot",
   .glo "look_number",
   .glo "look_numbers",
   .glo "look_point",
   .glo "looked_lots",
   .glo "looked_rows",
   .glo "lot_point",
   .glo "lot_table",
   .glo "lots_below",
   .glo "moved",
   .glo "near_of",
   .glo "near_steps",
   .glo "near_weights",
   .glo "place_without_partner",
   .glo "table_costs",
   .glo "table_from",
   .glo "weight_rows",
   .glo "EndError",
   .glo "NothingError",
   .glo "SizeError",
   .int "ENDLESS" (100000000000000000000),
   .int "MOST_AMOUNT" (1000),
   .int "MOST_BASE_LOTS" (20),
   .int "MOST_COST" (1000000000000000),
   .int "MOST_LEAF_COST" (1000000),
   .int "MOST_LETTERS" (6),
   .int "MOST_LOT_ENTRIES" (60),
   .free "any",
   .free "bool",
   .free "enumerate",
   .free "int",
   .free "isinstance",
   .free "len",
   .free "list",
   .free "max",
   .free "min",
   .free "range",
   .free "set",
   .free "sorted",
   .free "str",
   .free "sum",
   .free "tuple",
   .noat "Bases" "_costs",
   .noat "Bases" "letters",
   .noat "Bases" "rank",
   .noat "Bases" "rows",
   .noat "EndError" "end",
   .noat "Listed" "_known",
   .noat "Listed" "factors",
   .noat "Listed" "highs",
   .noat "Listed" "lows",
   .noat "Listed" "nodes",
   .noat "Listed" "width",
   .noat "SizeError" "count",
   .noat "Table" "_costs",
   .noat "Table" "highs",
   .noat "Table" "lows",
   .noat "Table" "rows",
   .noat "Table" "width",
   .exm "SizeError" "EndError" false,
   .exm "EndError" "EndError" true,
   .exm "NothingError" "EndError" false,
   .exm "SizeError" "NothingError" false,
   .exm "EndError" "NothingError" false,
   .exm "NothingError" "NothingError" true,
   .exm "SizeError" "SizeError" true,
   .exm "EndError" "SizeError" false,
   .exm "NothingError" "SizeError" false],
  [dd0, dd1, dd2, dd3, dd4, dd5, dd6, dd7, dd8, dd9, dd10, dd11, dd12, dd13, dd14, dd15, dd16, dd17, dd18, dd19, dd20, dd21, dd22, dd23, dd24, dd25, dd26, dd27, dd28, dd29, dd30, dd31, dd32, dd33, dd34, dd35, dd36, dd37, dd38, dd39, dd40, dd41, dd42, dd43, dd44, dd45, dd46, dd47],
  [ss0, ss1, ss2, ss3],
  [(fun K => supMB K (He.ga K "Listed") (He.ga K "Listed") "__init__" (He.ma K (He.ga K "Source") "__init__")),
   (fun K => supEB K (He.ga K "EndError") (He.ga K "EndError")),
   (fun K => initB K (He.ga K "EndError") (He.ma K (He.ga K "EndError") "__init__")),
   (fun K => supEB K (He.ga K "NothingError") (He.ga K "NothingError")),
   (fun K => initB K (He.ga K "NothingError") (He.ma K (He.ga K "NothingError") "__init__")),
   (fun K => supEB K (He.ga K "SizeError") (He.ga K "SizeError")),
   (fun K => initB K (He.ga K "SizeError") (He.ma K (He.ga K "SizeError") "__init__")),
   (fun K => L2.xfB K (He.ga K "EndError")),
   (fun K => L2.xfB K (He.ga K "SizeError")),
   (fun K => ciB K "Table" "MOST_ROWS" (400))],
  PySem.Challenge.pw_nearbydown_k75_circuits_by_near_steps.main.file⟩
def names : List PySem.Str := (["_wall", "NearbyError", "SizeError", "NumberError", "EndError", "LargeError", "TwiceError", "BarredError", "TripleError", "NothingError", "MOST_AMOUNT", "MOST_HEIGHT", "MOST_LEAF_COST", "MOST_LOT_ENTRIES", "look_number", "look_count", "look_numbers", "look_point", "look_heights", "look_index", "look_lot", "look_widths", "MOST_LETTERS", "ends", "end_place", "end_amounts", "near_steps", "moved", "lots_below", "lessened_costs"] : List PySem.Str) ++ (["has_number", "circuit", "circuits", "MOST_COST", "Table", "looked_rows", "table_costs", "table_from", "turned_costs", "joined_costs", "near_weights", "ENDLESS", "weight_rows", "place_without_partner", "at_distance_two", "first_triple", "bad_triple", "dot", "greatest_worth", "cost_of", "near_of", "best_of", "Source", "Listed", "MOST_BASE_LOTS", "lot_point", "lot_table", "looked_lots", "Bases", "_law_pool_of"] : List PySem.Str) ++ (["_law_draw", "_law_bends", "_law_lots", "_law_same", "_law_rows", "_law_entries", "_law_refusal", "_law_right_circuits", "_law_near", "_law_right_near"] : List PySem.Str)
abbrev R : PySem.W.OpenRow := PySem.W.OpenLaw.row PySem.Challenge.rw_nearbydown_k75_circuits_by_near_steps
def as : List Addr := List.range 1100
theorem run (w : World) : HandSHeadRun.RunEq R (PySem.W.view R.prog [82]) (LH.hook as) (LH.ob as) 8000 names w := by
  intro os
  kernel_rfl
def clOf (K : PySem.W.Frag) : Nat → Addr
  | 0 => He.ga K "Table"
  | 1 => He.ga K "Listed"
  | 2 => He.ga K "Bases"
  | 10 => He.ga K "SizeError"
  | 11 => He.ga K "EndError"
  | 12 => He.ga K "NothingError"
  | _ => 0
theorem hd {P : Program} {K : PySem.W.Frag} {h : Heap} {mg : Str → Option Value} (X : K.In h) (G : h.Ns mainGlobals mg) (c : LH.says K) (hf : LH.file = P.main.file) (ht : (P.main.scope.names.lookup ("super" : Str)).isSome = false) : Hd P K mg (clOf K) where
  c_Bases := (He.cls_ok (c.he.fact 0 (f := .cls "Bases") rfl))
  c_Listed := (He.cls_ok (c.he.fact 1 (f := .cls "Listed") rfl))
  c_Table := (He.cls_ok (c.he.fact 2 (f := .cls "Table") rfl))
  d_Bases___init__ := (let ⟨fd, F⟩ := c.he.def_ 0 (d := dd0) rfl; ⟨⟨_, fd, F, He.mkr_ok (c.he.fact 3 (f := .mkr "Bases") rfl), (He.glo_ok X G (c.he.fact 4 (f := .glo "Bases") rfl))⟩⟩)
  d_Bases_cost := (let ⟨fd, F⟩ := c.he.def_ 1 (d := dd1) rfl; ⟨⟨_, fd, F, He.meth_ok (c.he.fact 5 (f := .meth "Bases" "cost") rfl)⟩⟩)
  d_Bases_dual := (let ⟨fd, F⟩ := c.he.def_ 2 (d := dd2) rfl; ⟨⟨_, fd, F, He.meth_ok (c.he.fact 6 (f := .meth "Bases" "dual") rfl)⟩⟩)
  d_Bases_listed := (let ⟨fd, F⟩ := c.he.def_ 3 (d := dd3) rfl; ⟨⟨_, fd, F, He.meth_ok (c.he.fact 7 (f := .meth "Bases" "listed") rfl)⟩⟩)
  d_Listed___init__ := (let ⟨F, fd, Fs, e1, e2, e3, e4, e5⟩ := c.sup 0 (d := ss0) rfl hf ht; ⟨⟨_, F, fd, Fs, e1, e2, e3, e4, e5, He.mkr_ok (c.he.fact 8 (f := .mkr "Listed") rfl), (He.glo_ok X G (c.he.fact 9 (f := .glo "Listed") rfl))⟩⟩)
  d_Listed_near := (let ⟨fd, F⟩ := c.he.def_ 4 (d := dd4) rfl; ⟨⟨_, fd, F, He.meth_ok (c.he.fact 10 (f := .meth "Listed" "near") rfl)⟩⟩)
  d_Source___init__ := (let ⟨fd, F⟩ := c.he.def_ 5 (d := dd5) rfl; ⟨⟨_, fd, F, supMB_ok (c.x 0 (f := (fun K => supMB K (He.ga K "Listed") (He.ga K "Listed") "__init__" (He.ma K (He.ga K "Source") "__init__"))) rfl)⟩⟩)
  d_Table___init__ := (let ⟨fd, F⟩ := c.he.def_ 6 (d := dd6) rfl; ⟨⟨_, fd, F, He.mkr_ok (c.he.fact 11 (f := .mkr "Table") rfl), (He.glo_ok X G (c.he.fact 12 (f := .glo "Table") rfl))⟩⟩)
  d_Table_points := (let ⟨fd, F⟩ := c.he.def_ 7 (d := dd7) rfl; ⟨⟨_, fd, F, He.meth_ok (c.he.fact 13 (f := .meth "Table" "points") rfl)⟩⟩)
  d__law_bends := (let ⟨fd, F⟩ := c.he.def_ 8 (d := dd8) rfl; ⟨⟨_, fd, F, (He.glo_ok X G (c.he.fact 14 (f := .glo "_law_bends") rfl))⟩⟩)
  d__law_draw := (let ⟨fd, F⟩ := c.he.def_ 9 (d := dd9) rfl; ⟨⟨_, fd, F, (He.glo_ok X G (c.he.fact 15 (f := .glo "_law_draw") rfl))⟩⟩)
  d__law_entries := (let ⟨fd, F⟩ := c.he.def_ 10 (d := dd10) rfl; ⟨⟨_, fd, F, (He.glo_ok X G (c.he.fact 16 (f := .glo "_law_entries") rfl))⟩⟩)
  d__law_lots := (let ⟨fd, F⟩ := c.he.def_ 11 (d := dd11) rfl; ⟨⟨_, fd, F, (He.glo_ok X G (c.he.fact 17 (f := .glo "_law_lots") rfl))⟩⟩)
  d__law_near := (let ⟨fd, F⟩ := c.he.def_ 12 (d := dd12) rfl; ⟨⟨_, fd, F, (He.glo_ok X G (c.he.fact 18 (f := .glo "_law_near") rfl))⟩⟩)
  d__law_pool_of := (let ⟨fd, F⟩ := c.he.def_ 13 (d := dd13) rfl; ⟨⟨_, fd, F, (He.glo_ok X G (c.he.fact 19 (f := .glo "_law_pool_of") rfl))⟩⟩)
  d__law_refusal := (let ⟨fd, F⟩ := c.he.def_ 14 (d := dd14) rfl; ⟨⟨_, fd, F, (He.glo_ok X G (c.he.fact 20 (f := .glo "_law_refusal") rfl))⟩⟩)
  d__law_right_circuits := (let ⟨fd, F⟩ := c.he.def_ 15 (d := dd15) rfl; ⟨⟨_, fd, F, (He.glo_ok X G (c.he.fact 21 (f := .glo "_law_right_circuits") rfl))⟩⟩)
  d__law_right_near := (let ⟨fd, F⟩ := c.he.def_ 16 (d := dd16) rfl; ⟨⟨_, fd, F, (He.glo_ok X G (c.he.fact 22 (f := .glo "_law_right_near") rfl))⟩⟩)
  d__law_rows := (let ⟨fd, F⟩ := c.he.def_ 17 (d := dd17) rfl; ⟨⟨_, fd, F, (He.glo_ok X G (c.he.fact 23 (f := .glo "_law_rows") rfl))⟩⟩)
  d__law_same := (let ⟨fd, F⟩ := c.he.def_ 18 (d := dd18) rfl; ⟨⟨_, fd, F, (He.glo_ok X G (c.he.fact 24 (f := .glo "_law_same") rfl))⟩⟩)
  d_bad_triple := (let ⟨fd, F⟩ := c.he.def_ 19 (d := dd19) rfl; ⟨⟨_, fd, F, (He.glo_ok X G (c.he.fact 25 (f := .glo "bad_triple") rfl))⟩⟩)
  d_circuit := (let ⟨fd, F⟩ := c.he.def_ 20 (d := dd20) rfl; ⟨⟨_, fd, F, (He.glo_ok X G (c.he.fact 26 (f := .glo "circuit") rfl))⟩⟩)
  d_circuits := (let ⟨fd, F⟩ := c.he.def_ 21 (d := dd21) rfl; ⟨⟨_, fd, F, (He.glo_ok X G (c.he.fact 27 (f := .glo "circuits") rfl))⟩⟩)
  d_end_amounts := (let ⟨fd, F⟩ := c.he.def_ 22 (d := dd22) rfl; ⟨⟨_, fd, F, (He.glo_ok X G (c.he.fact 28 (f := .glo "end_amounts") rfl))⟩⟩)
  d_end_place := (let ⟨fd, F⟩ := c.he.def_ 23 (d := dd23) rfl; ⟨⟨_, fd, F, (He.glo_ok X G (c.he.fact 29 (f := .glo "end_place") rfl))⟩⟩)
  d_ends := (let ⟨fd, F⟩ := c.he.def_ 24 (d := dd24) rfl; ⟨⟨_, fd, F, (He.glo_ok X G (c.he.fact 30 (f := .glo "ends") rfl))⟩⟩)
  d_first_triple := (let ⟨fd, F⟩ := c.he.def_ 25 (d := dd25) rfl; ⟨⟨_, fd, F, (He.glo_ok X G (c.he.fact 31 (f := .glo "first_triple") rfl))⟩⟩)
  d_has_number := (let ⟨fd, F⟩ := c.he.def_ 26 (d := dd26) rfl; ⟨⟨_, fd, F, (He.glo_ok X G (c.he.fact 32 (f := .glo "has_number") rfl))⟩⟩)
  d_law := (let ⟨fd, F⟩ := c.he.def_ 27 (d := dd27) rfl; ⟨⟨_, fd, F, (He.glo_ok X G (c.he.fact 33 (f := .glo "law") rfl))⟩⟩)
  d_lessened_costs := (let ⟨fd, F⟩ := c.he.def_ 28 (d := dd28) rfl; ⟨⟨_, fd, F, (He.glo_ok X G (c.he.fact 34 (f := .glo "lessened_costs") rfl))⟩⟩)
  d_look_count := (let ⟨fd, F⟩ := c.he.def_ 29 (d := dd29) rfl; ⟨⟨_, fd, F, (He.glo_ok X G (c.he.fact 35 (f := .glo "look_count") rfl))⟩⟩)
  d_look_index := (let ⟨fd, F⟩ := c.he.def_ 30 (d := dd30) rfl; ⟨⟨_, fd, F, (He.glo_ok X G (c.he.fact 36 (f := .glo "look_index") rfl))⟩⟩)
  d_look_lot := (let ⟨fd, F⟩ := c.he.def_ 31 (d := dd31) rfl; ⟨⟨_, fd, F, (He.glo_ok X G (c.he.fact 37 (f := .glo "look_lot") rfl))⟩⟩)
  d_look_number := (let ⟨fd, F⟩ := c.he.def_ 32 (d := dd32) rfl; ⟨⟨_, fd, F, (He.glo_ok X G (c.he.fact 38 (f := .glo "look_number") rfl))⟩⟩)
  d_look_numbers := (let ⟨fd, F⟩ := c.he.def_ 33 (d := dd33) rfl; ⟨⟨_, fd, F, (He.glo_ok X G (c.he.fact 39 (f := .glo "look_numbers") rfl))⟩⟩)
  d_look_point := (let ⟨fd, F⟩ := c.he.def_ 34 (d := dd34) rfl; ⟨⟨_, fd, F, (He.glo_ok X G (c.he.fact 40 (f := .glo "look_point") rfl))⟩⟩)
  d_looked_lots := (let ⟨fd, F⟩ := c.he.def_ 35 (d := dd35) rfl; ⟨⟨_, fd, F, (He.glo_ok X G (c.he.fact 41 (f := .glo "looked_lots") rfl))⟩⟩)
  d_looked_rows := (let ⟨fd, F⟩ := c.he.def_ 36 (d := dd36) rfl; ⟨⟨_, fd, F, (He.glo_ok X G (c.he.fact 42 (f := .glo "looked_rows") rfl))⟩⟩)
  d_lot_point := (let ⟨fd, F⟩ := c.he.def_ 37 (d := dd37) rfl; ⟨⟨_, fd, F, (He.glo_ok X G (c.he.fact 43 (f := .glo "lot_point") rfl))⟩⟩)
  d_lot_table := (let ⟨fd, F⟩ := c.he.def_ 38 (d := dd38) rfl; ⟨⟨_, fd, F, (He.glo_ok X G (c.he.fact 44 (f := .glo "lot_table") rfl))⟩⟩)
  d_lots_below := (let ⟨fd, F⟩ := c.he.def_ 39 (d := dd39) rfl; ⟨⟨_, fd, F, (He.glo_ok X G (c.he.fact 45 (f := .glo "lots_below") rfl))⟩⟩)
  d_moved := (let ⟨fd, F⟩ := c.he.def_ 40 (d := dd40) rfl; ⟨⟨_, fd, F, (He.glo_ok X G (c.he.fact 46 (f := .glo "moved") rfl))⟩⟩)
  d_near_of := (let ⟨fd, F⟩ := c.he.def_ 41 (d := dd41) rfl; ⟨⟨_, fd, F, (He.glo_ok X G (c.he.fact 47 (f := .glo "near_of") rfl))⟩⟩)
  d_near_steps := (let ⟨fd, F⟩ := c.he.def_ 42 (d := dd42) rfl; ⟨⟨_, fd, F, (He.glo_ok X G (c.he.fact 48 (f := .glo "near_steps") rfl))⟩⟩)
  d_near_weights := (let ⟨fd, F⟩ := c.he.def_ 43 (d := dd43) rfl; ⟨⟨_, fd, F, (He.glo_ok X G (c.he.fact 49 (f := .glo "near_weights") rfl))⟩⟩)
  d_place_without_partner := (let ⟨fd, F⟩ := c.he.def_ 44 (d := dd44) rfl; ⟨⟨_, fd, F, (He.glo_ok X G (c.he.fact 50 (f := .glo "place_without_partner") rfl))⟩⟩)
  d_table_costs := (let ⟨fd, F⟩ := c.he.def_ 45 (d := dd45) rfl; ⟨⟨_, fd, F, (He.glo_ok X G (c.he.fact 51 (f := .glo "table_costs") rfl))⟩⟩)
  d_table_from := (let ⟨fd, F⟩ := c.he.def_ 46 (d := dd46) rfl; ⟨⟨_, fd, F, (He.glo_ok X G (c.he.fact 52 (f := .glo "table_from") rfl))⟩⟩)
  d_weight_rows := (let ⟨fd, F⟩ := c.he.def_ 47 (d := dd47) rfl; ⟨⟨_, fd, F, (He.glo_ok X G (c.he.fact 53 (f := .glo "weight_rows") rfl))⟩⟩)
  e_EndError := (let ⟨F, fd, Fs, e1, e2, e3, e4, e5⟩ := c.sup 1 (d := ss1) rfl hf ht; ⟨⟨_, F, fd, Fs, e1, e2, e3, e4, e5, supEB_ok (c.x 1 (f := (fun K => supEB K (He.ga K "EndError") (He.ga K "EndError"))) rfl), He.eqO_ok (Bool.and_eq_true_iff.mp (c.x 2 (f := (fun K => initB K (He.ga K "EndError") (He.ma K (He.ga K "EndError") "__init__"))) rfl)).1, of_decide_eq_true (Bool.and_eq_true_iff.mp (c.x 2 (f := (fun K => initB K (He.ga K "EndError") (He.ma K (He.ga K "EndError") "__init__"))) rfl)).2, (He.glo_ok X G (c.he.fact 54 (f := .glo "EndError") rfl))⟩⟩)
  e_NothingError := (let ⟨F, fd, Fs, e1, e2, e3, e4, e5⟩ := c.sup 2 (d := ss2) rfl hf ht; ⟨⟨_, F, fd, Fs, e1, e2, e3, e4, e5, supEB_ok (c.x 3 (f := (fun K => supEB K (He.ga K "NothingError") (He.ga K "NothingError"))) rfl), He.eqO_ok (Bool.and_eq_true_iff.mp (c.x 4 (f := (fun K => initB K (He.ga K "NothingError") (He.ma K (He.ga K "NothingError") "__init__"))) rfl)).1, of_decide_eq_true (Bool.and_eq_true_iff.mp (c.x 4 (f := (fun K => initB K (He.ga K "NothingError") (He.ma K (He.ga K "NothingError") "__init__"))) rfl)).2, (He.glo_ok X G (c.he.fact 55 (f := .glo "NothingError") rfl))⟩⟩)
  e_SizeError := (let ⟨F, fd, Fs, e1, e2, e3, e4, e5⟩ := c.sup 3 (d := ss3) rfl hf ht; ⟨⟨_, F, fd, Fs, e1, e2, e3, e4, e5, supEB_ok (c.x 5 (f := (fun K => supEB K (He.ga K "SizeError") (He.ga K "SizeError"))) rfl), He.eqO_ok (Bool.and_eq_true_iff.mp (c.x 6 (f := (fun K => initB K (He.ga K "SizeError") (He.ma K (He.ga K "SizeError") "__init__"))) rfl)).1, of_decide_eq_true (Bool.and_eq_true_iff.mp (c.x 6 (f := (fun K => initB K (He.ga K "SizeError") (He.ma K (He.ga K "SizeError") "__init__"))) rfl)).2, (He.glo_ok X G (c.he.fact 56 (f := .glo "SizeError") rfl))⟩⟩)
  f_EndError := (L2.xfB_ok (c.x 7 (f := (fun K => L2.xfB K (He.ga K "EndError"))) rfl))
  f_SizeError := (L2.xfB_ok (c.x 8 (f := (fun K => L2.xfB K (He.ga K "SizeError"))) rfl))
  g_ENDLESS := (He.int_ok X G (c.he.fact 57 (f := .int "ENDLESS" (100000000000000000000)) rfl))
  g_MOST_AMOUNT := (He.int_ok X G (c.he.fact 58 (f := .int "MOST_AMOUNT" (1000)) rfl))
  g_MOST_BASE_LOTS := (He.int_ok X G (c.he.fact 59 (f := .int "MOST_BASE_LOTS" (20)) rfl))
  g_MOST_COST := (He.int_ok X G (c.he.fact 60 (f := .int "MOST_COST" (1000000000000000)) rfl))
  g_MOST_LEAF_COST := (He.int_ok X G (c.he.fact 61 (f := .int "MOST_LEAF_COST" (1000000)) rfl))
  g_MOST_LETTERS := (He.int_ok X G (c.he.fact 62 (f := .int "MOST_LETTERS" (6)) rfl))
  g_MOST_LOT_ENTRIES := (He.int_ok X G (c.he.fact 63 (f := .int "MOST_LOT_ENTRIES" (60)) rfl))
  k_Table_MOST_ROWS := (ciB_ok (c.x 9 (f := (fun K => ciB K "Table" "MOST_ROWS" (400))) rfl) (He.glo_ok X G (c.he.fact 12 (f := .glo "Table") rfl)))
  m_EndError := (He.glo_ok X G (c.he.fact 54 (f := .glo "EndError") rfl))
  m_NothingError := (He.glo_ok X G (c.he.fact 55 (f := .glo "NothingError") rfl))
  m_SizeError := (He.glo_ok X G (c.he.fact 56 (f := .glo "SizeError") rfl))
  n_any := (He.free_ok X G (c.he.fact 64 (f := .free "any") rfl))
  n_bool := (He.free_ok X G (c.he.fact 65 (f := .free "bool") rfl))
  n_enumerate := (He.free_ok X G (c.he.fact 66 (f := .free "enumerate") rfl))
  n_int := (He.free_ok X G (c.he.fact 67 (f := .free "int") rfl))
  n_isinstance := (He.free_ok X G (c.he.fact 68 (f := .free "isinstance") rfl))
  n_len := (He.free_ok X G (c.he.fact 69 (f := .free "len") rfl))
  n_list := (He.free_ok X G (c.he.fact 70 (f := .free "list") rfl))
  n_max := (He.free_ok X G (c.he.fact 71 (f := .free "max") rfl))
  n_min := (He.free_ok X G (c.he.fact 72 (f := .free "min") rfl))
  n_range := (He.free_ok X G (c.he.fact 73 (f := .free "range") rfl))
  n_set := (He.free_ok X G (c.he.fact 74 (f := .free "set") rfl))
  n_sorted := (He.free_ok X G (c.he.fact 75 (f := .free "sorted") rfl))
  n_str := (He.free_ok X G (c.he.fact 76 (f := .free "str") rfl))
  n_sum := (He.free_ok X G (c.he.fact 77 (f := .free "sum") rfl))
  n_tuple := (He.free_ok X G (c.he.fact 78 (f := .free "tuple") rfl))
  na_Bases__costs := (He.noat_ok (c.he.fact 79 (f := .noat "Bases" "_costs") rfl))
  na_Bases_letters := (He.noat_ok (c.he.fact 80 (f := .noat "Bases" "letters") rfl))
  na_Bases_rank := (He.noat_ok (c.he.fact 81 (f := .noat "Bases" "rank") rfl))
  na_Bases_rows := (He.noat_ok (c.he.fact 82 (f := .noat "Bases" "rows") rfl))
  na_EndError_end := (He.noat_ok (c.he.fact 83 (f := .noat "EndError" "end") rfl))
  na_Listed__known := (He.noat_ok (c.he.fact 84 (f := .noat "Listed" "_known") rfl))
  na_Listed_factors := (He.noat_ok (c.he.fact 85 (f := .noat "Listed" "factors") rfl))
  na_Listed_highs := (He.noat_ok (c.he.fact 86 (f := .noat "Listed" "highs") rfl))
  na_Listed_lows := (He.noat_ok (c.he.fact 87 (f := .noat "Listed" "lows") rfl))
  na_Listed_nodes := (He.noat_ok (c.he.fact 88 (f := .noat "Listed" "nodes") rfl))
  na_Listed_width := (He.noat_ok (c.he.fact 89 (f := .noat "Listed" "width") rfl))
  na_SizeError_count := (He.noat_ok (c.he.fact 90 (f := .noat "SizeError" "count") rfl))
  na_Table__costs := (He.noat_ok (c.he.fact 91 (f := .noat "Table" "_costs") rfl))
  na_Table_highs := (He.noat_ok (c.he.fact 92 (f := .noat "Table" "highs") rfl))
  na_Table_lows := (He.noat_ok (c.he.fact 93 (f := .noat "Table" "lows") rfl))
  na_Table_rows := (He.noat_ok (c.he.fact 94 (f := .noat "Table" "rows") rfl))
  na_Table_width := (He.noat_ok (c.he.fact 95 (f := .noat "Table" "width") rfl))
  x_EndError := ⟨by
    intro c' hc
    simp only [List.mem_cons, List.mem_nil_iff, or_false] at hc
    rcases hc with e | e | e
    · subst e; exact He.exm_ok (c.he.fact 96 (f := .exm "SizeError" "EndError" false) rfl)
    · subst e; exact He.exm_ok (c.he.fact 97 (f := .exm "EndError" "EndError" true) rfl)
    · subst e; exact He.exm_ok (c.he.fact 98 (f := .exm "NothingError" "EndError" false) rfl)⟩
  x_NothingError := ⟨by
    intro c' hc
    simp only [List.mem_cons, List.mem_nil_iff, or_false] at hc
    rcases hc with e | e | e
    · subst e; exact He.exm_ok (c.he.fact 99 (f := .exm "SizeError" "NothingError" false) rfl)
    · subst e; exact He.exm_ok (c.he.fact 100 (f := .exm "EndError" "NothingError" false) rfl)
    · subst e; exact He.exm_ok (c.he.fact 101 (f := .exm "NothingError" "NothingError" true) rfl)⟩
  x_SizeError := ⟨by
    intro c' hc
    simp only [List.mem_cons, List.mem_nil_iff, or_false] at hc
    rcases hc with e | e | e
    · subst e; exact He.exm_ok (c.he.fact 102 (f := .exm "SizeError" "SizeError" true) rfl)
    · subst e; exact He.exm_ok (c.he.fact 103 (f := .exm "EndError" "SizeError" false) rfl)
    · subst e; exact He.exm_ok (c.he.fact 104 (f := .exm "NothingError" "SizeError" false) rfl)⟩
end PD
set_option maxRecDepth 100000
set_option maxHeartbeats 0
namespace PD
open PySem PySem.Spec PyProof.Rows L2
open PySem.W PySem.Calls
theorem join (pl : ∀ ns : List Int, ns.length ≤ 63 → F_law [.scr ns] = .ok (.bl true)) : PySem.Challenge.rw_nearbydown_k75_circuits_by_near_steps.Holds := by
  w_on; o_law
  refine HandSHeadRun.head_any (r := OpenLaw.row PySem.Challenge.rw_nearbydown_k75_circuits_by_near_steps) (q := view (OpenLaw.row PySem.Challenge.rw_nearbydown_k75_circuits_by_near_steps).prog [82]) (H := LH.hook as) (ob := LH.ob as) (M := 8000) (loose := names) (d := HandSHeadRun.topDef (OpenLaw.row PySem.Challenge.rw_nearbydown_k75_circuits_by_near_steps).prog 82) (kwd := []) HdL.ob_eq
    (by kernel_rfl) (fun s => by kernel_rfl) run (by kernel_rfl) (by kernel_rfl) (by kernel_rfl) (by rfl) (by first | assumption | decide +kernel) (by decide +kernel) ⟨rfl, rfl, rfl, rfl, rfl, by decide +kernel⟩ ?hw ?hc
  case hw => w_witness2
  case hc =>
    refine Att.attach_call (l := PySem.Challenge.rw_nearbydown_k75_circuits_by_near_steps) (n := 63) rfl (by kernel_rfl) fun w s₀ s₁ mg mb fa o pm cd doc a vs ns G Y ho hd' hcd hmg hobj hints hlen hg => ?_
    obtain ⟨K, KX, c⟩ := Y
    have hmg' : mg ("law" : PySem.Str) = some (.ref fa) := by
      have e : (HandSHeadRun.topDef (OpenLaw.row PySem.Challenge.rw_nearbydown_k75_circuits_by_near_steps).prog 82).name = ("law" : PySem.Str) := by kernel_rfl
      rw [← e]
      exact hmg
    have h : Hd PySem.Challenge.rw_nearbydown_k75_circuits_by_near_steps.prog K mg (clOf K) := hd KX G.T.g c rfl (by decide +kernel)
    obtain ⟨f, fd, gm, hb, hF⟩ := tie_law_all (w := w) h
    rw [hmg'] at gm
    cases gm
    refine law_call KX G.T.g G.T.b G.T.builtins G.T.nolimit hg hobj hints (Nat.le_trans hlen (by decide)) (k := lawLevel) ⟨rfl, by decide, by decide⟩ (fun base _ _ => hF base) hb (fun H hO hS => ?_) fun H e s' z => ?_
    · refine ⟨H, [.scr ns], rfl, Same.refl _, .cons (.scr hS) .nil, ?_⟩
      rw [pl ns hlen]
      intro v Hc' H' _ r
      cases r
      rfl
    · obtain ⟨_, _, _, _, _, _, _, _, _, _, _, _, z⟩ := z
      exact z
end PD
/-! M1: lots of letters, sums over lots, swaps. -/
namespace PD
abbrev Lot := List Int
def rg (n : Nat) : List Int := (List.range n).map fun (k : Nat) => (k : Int)
theorem mem_rg {n : Nat} {k : Int} : k ∈ rg n ↔ 0 ≤ k ∧ k < n := by
  unfold rg
  rw [List.mem_map]
  constructor
  · rintro ⟨a, h, rfl⟩
    rw [List.mem_range] at h
    omega
  · rintro ⟨h1, h2⟩
    exact ⟨k.toNat, List.mem_range.mpr (by omega), by omega⟩
theorem rg_nodup (n : Nat) : (rg n).Nodup := by
  unfold rg
  rw [List.Nodup, List.pairwise_map]
  exact List.nodup_range.imp fun h e => h (by omega)
/-- the sum of w over the letters of p -/
def wS (w : Int → Int) (p : Int → Bool) : List Int → Int
  | [] => 0
  | k :: r => (if p k = true then w k else 0) + wS w p r
theorem wS_cons (w : Int → Int) (p : Int → Bool) (k : Int) (r : List Int) : wS w p (k :: r) = (if p k = true then w k else 0) + wS w p r := rfl
theorem wS_congr {w : Int → Int} {p q : Int → Bool} : ∀ {L : List Int}, (∀ k ∈ L, p k = q k) → wS w p L = wS w q L
  | [], _ => rfl
  | k :: r, h => by
    unfold wS
    rw [h k (List.mem_cons_self ..), wS_congr fun x hx => h x (List.mem_cons_of_mem _ hx)]
theorem wS_filter (w : Int → Int) (p : Int → Bool) : ∀ L : List Int, wS w p L = ((L.filter p).map w).sum
  | [] => rfl
  | k :: r => by
    unfold wS
    rw [wS_filter w p r, List.filter_cons]
    by_cases h : p k = true
    · rw [if_pos h, if_pos h, List.map_cons, List.sum_cons]
    · rw [if_neg h, if_neg h]
      omega
theorem wS_add (u v : Int → Int) (p : Int → Bool) : ∀ L : List Int, wS (fun k => u k + v k) p L = wS u p L + wS v p L
  | [] => rfl
  | k :: r => by
    unfold wS
    rw [wS_add u v p r]
    by_cases h : p k = true
    · rw [if_pos h, if_pos h, if_pos h]; omega
    · rw [if_neg h, if_neg h, if_neg h]; omega
/-- one place changed -/
def up (p : Int → Bool) (i : Int) (b : Bool) : Int → Bool := fun k => if k = i then b else p k
theorem wS_up (w : Int → Int) (p : Int → Bool) (i : Int) (b : Bool) : ∀ L : List Int, L.Nodup → i ∈ L → wS w (up p i b) L + (if p i = true then w i else 0) = wS w p L + (if b = true then w i else 0)
  | [], _, h => by cases h
  | k :: r, hn, h => by
    rw [List.nodup_cons] at hn
    unfold wS
    by_cases e : k = i
    · subst e
      have q : wS w (up p k b) r = wS w p r := wS_congr fun x hx => if_neg fun (z : x = k) => hn.1 (z ▸ hx)
      have q2 : up p k b k = b := if_pos rfl
      rw [q, q2]
      omega
    · have IH := wS_up w p i b r hn.2 ((List.mem_cons.mp h).resolve_left (Ne.symm e))
      have q2 : up p i b k = p k := if_neg e
      rw [q2]
      omega
/-- i out, j in -/
def sw (p : Int → Bool) (i j : Int) : Int → Bool := up (up p i false) j true
theorem wS_sw {w : Int → Int} {p : Int → Bool} {i j : Int} {L : List Int} (hn : L.Nodup) (hi : i ∈ L) (hj : j ∈ L) (pi : p i = true) (pj : p j = false) : wS w (sw p i j) L = wS w p L - w i + w j := by
  have h1 := wS_up w p i false L hn hi
  have h2 := wS_up w (up p i false) j true L hn hj
  have e : up p i false j = false := by
    unfold up
    by_cases z : j = i
    · rw [if_pos z]
    · rw [if_neg z, pj]
  rw [e] at h2
  rw [pi] at h1
  simp at h1 h2
  show wS w (up (up p i false) j true) L = _
  omega
theorem sw_i {p : Int → Bool} {i j : Int} (h : i ≠ j) : sw p i j i = false := by
  unfold sw up
  rw [if_neg h, if_pos rfl]
theorem sw_j {p : Int → Bool} {i j : Int} : sw p i j j = true := if_pos rfl
theorem sw_o {p : Int → Bool} {i j k : Int} (h1 : k ≠ i) (h2 : k ≠ j) : sw p i j k = p k := by
  unfold sw up
  rw [if_neg h2, if_neg h1]
/-- indicators -/
def ind (s : Int → Bool) : Int → Int := fun k => if s k = true then 1 else 0
theorem wS_le {s p q : Int → Bool} : ∀ {L : List Int}, (∀ k ∈ L, s k = true → q k = true → p k = true) → wS (ind s) q L ≤ wS (ind s) p L
  | [], _ => Int.le_refl _
  | k :: r, h => by
    have IH := wS_le (s := s) (p := p) (q := q) (L := r) fun x hx => h x (List.mem_cons_of_mem _ hx)
    have h0 := h k (List.mem_cons_self ..)
    rw [wS_cons, wS_cons]
    have e : ind s k = if s k = true then 1 else 0 := rfl
    rw [e]
    revert h0
    cases s k <;> cases p k <;> cases q k <;> simp <;> omega
theorem wS_lt {s p q : Int → Bool} {i : Int} (si : s i = true) (pi : p i = true) (qi : q i = false) : ∀ {L : List Int}, i ∈ L → (∀ k ∈ L, s k = true → q k = true → p k = true) → wS (ind s) q L < wS (ind s) p L
  | [], h, _ => by cases h
  | k :: r, hm, h => by
    have h0 := h k (List.mem_cons_self ..)
    rcases List.mem_cons.mp hm with e | hm
    · subst e
      have IH := wS_le (s := s) (p := p) (q := q) (L := r) fun x hx => h x (List.mem_cons_of_mem _ hx)
      rw [wS_cons, wS_cons]
      have e : ind s i = 1 := if_pos si
      rw [e, pi, qi]
      simp
      omega
    · have IH := wS_lt si pi qi hm fun x hx => h x (List.mem_cons_of_mem _ hx)
      rw [wS_cons, wS_cons]
      have e : ind s k = if s k = true then 1 else 0 := rfl
      rw [e]
      revert h0
      cases s k <;> cases p k <;> cases q k <;> simp <;> omega
theorem wS_find {s p q : Int → Bool} {L : List Int} (h : wS (ind s) p L < wS (ind s) q L) : ∃ j ∈ L, s j = true ∧ q j = true ∧ p j = false := by
  refine Classical.byContradiction fun no => ?_
  have : wS (ind s) q L ≤ wS (ind s) p L := wS_le fun k hk h1 h2 => by
    cases e : p k with
    | true => rfl
    | false => exact (no ⟨k, hk, h1, h2, e⟩).elim
  omega
/-! ### convex lists -/
def Cvx (f : Int → Int) (m : Int) : Prop := ∀ k, 0 ≤ k → k + 2 < m → f (k + 1) + f (k + 1) ≤ f k + f (k + 2)
theorem cvx_diff {f : Int → Int} {m : Int} (h : Cvx f m) : ∀ (d : Nat) (y : Int), 0 ≤ y → y + d + 1 < m → f (y + 1) - f y ≤ f (y + d + 1) - f (y + d)
  | 0, y, _, _ => by simp
  | d + 1, y, h0, h1 => by
    have IH := cvx_diff h d y h0 (by omega)
    have q := h (y + d) (by omega) (by omega)
    have e1 : y + ((d + 1 : Nat) : Int) = y + d + 1 := by omega
    have e2 : y + (d : Int) + 2 = y + d + 1 + 1 := by omega
    rw [e1]
    rw [e2] at q
    omega
/-- two places brought nearer -/
theorem cvx_near {f : Int → Int} {m x y : Int} (h : Cvx f m) (h0 : 0 ≤ y) (h1 : y < x) (h2 : x < m) : f (x - 1) + f (y + 1) ≤ f x + f y := by
  have q := cvx_diff h (x - 1 - y).toNat y h0 (by omega)
  have e : y + ((x - 1 - y).toNat : Int) = x - 1 := by omega
  rw [e] at q
  have e2 : x - 1 + 1 = x := by omega
  rw [e2] at q
  omega
/-- the cost of a lot: prices, a bend in one class, a bend in another class -/
structure Cst where
  L : List Int
  pr : Int → Int
  a : Int → Bool
  b : Int → Bool
  f : Int → Int
  g : Int → Int
  m : Int
  mg : Int
structure Cst.Ok (C : Cst) : Prop where
  nd : C.L.Nodup
  dj : ∀ k ∈ C.L, ¬ (C.a k = true ∧ C.b k = true)
  f : Cvx C.f C.m
  g : Cvx C.g C.mg
def Cst.cls (C : Cst) (k : Int) : Bool := !C.a k && !C.b k
def Cst.na (C : Cst) (p : Int → Bool) : Int := wS (ind C.a) p C.L
def Cst.nb (C : Cst) (p : Int → Bool) : Int := wS (ind C.b) p C.L
def Cst.nc (C : Cst) (p : Int → Bool) : Int := wS (ind C.cls) p C.L
def Cst.cost (C : Cst) (p : Int → Bool) : Int := wS C.pr p C.L + C.f (C.na p) + C.g (C.nb p)
theorem Cst.total {C : Cst} (h : C.Ok) (p : Int → Bool) : wS (fun _ => 1) p C.L = C.na p + C.nb p + C.nc p := by
  unfold Cst.na Cst.nb Cst.nc
  rw [← wS_add, ← wS_add]
  have := h.dj
  revert this
  generalize C.L = L
  induction L with
  | nil => intro _; rfl
  | cons k r ih =>
    intro hd
    unfold wS
    rw [ih fun x hx => hd x (List.mem_cons_of_mem _ hx)]
    have h0 := hd k (List.mem_cons_self ..)
    have : (1 : Int) = ind C.a k + ind C.b k + ind C.cls k := by
      unfold ind Cst.cls
      revert h0
      cases C.a k <;> cases C.b k <;> simp
    rw [← this]
/-- f of an amount moved by d towards the other one -/
theorem cvx_pair {f : Int → Int} {m x y dx : Int} (h : Cvx f m) (hx : 0 ≤ x ∧ x < m) (hy : 0 ≤ y ∧ y < m) (hd : dx = 0 ∨ (dx = -1 ∧ y < x) ∨ (dx = 1 ∧ x < y)) :
    (0 ≤ x + dx ∧ x + dx < m) ∧ (0 ≤ y - dx ∧ y - dx < m) ∧ f (x + dx) + f (y - dx) ≤ f x + f y := by
  rcases hd with rfl | ⟨rfl, hl⟩ | ⟨rfl, hl⟩
  · exact ⟨by omega, by omega, by simp⟩
  · refine ⟨by omega, by omega, ?_⟩
    have := cvx_near h hy.1 hl hx.2
    have e : y - -1 = y + 1 := by omega
    have e2 : x + -1 = x - 1 := by omega
    rw [e, e2]
    exact this
  · refine ⟨by omega, by omega, ?_⟩
    have := cvx_near h hx.1 hl hy.2
    omega
/-- the exchange -/
theorem Cst.exch {C : Cst} (h : C.Ok) {p q : Int → Bool} {lo : Int} (hp : 0 ≤ C.na p - lo ∧ C.na p - lo < C.m) (hq : 0 ≤ C.na q - lo ∧ C.na q - lo < C.m) (bp : 0 ≤ C.nb p ∧ C.nb p < C.mg) (bq : 0 ≤ C.nb q ∧ C.nb q < C.mg)
    (ht : wS (fun _ => 1) p C.L = wS (fun _ => 1) q C.L) {i : Int} (hi : i ∈ C.L) (pi : p i = true) (qi : q i = false) :
    ∃ j ∈ C.L, q j = true ∧ p j = false ∧ (0 ≤ C.na (sw p i j) - lo ∧ C.na (sw p i j) - lo < C.m) ∧ (0 ≤ C.na (sw q j i) - lo ∧ C.na (sw q j i) - lo < C.m) ∧ (0 ≤ C.nb (sw p i j) ∧ C.nb (sw p i j) < C.mg) ∧ (0 ≤ C.nb (sw q j i) ∧ C.nb (sw q j i) < C.mg) ∧
      (wS C.pr (sw p i j) C.L + C.f (C.na (sw p i j) - lo) + C.g (C.nb (sw p i j))) + (wS C.pr (sw q j i) C.L + C.f (C.na (sw q j i) - lo) + C.g (C.nb (sw q j i))) ≤ (wS C.pr p C.L + C.f (C.na p - lo) + C.g (C.nb p)) + (wS C.pr q C.L + C.f (C.na q - lo) + C.g (C.nb q)) := by
  rw [C.total h, C.total h] at ht
  -- it is enough to find j such that the classes' amounts come nearer
  have key : ∀ j ∈ C.L, q j = true → p j = false → (ind C.a j - ind C.a i = 0 ∨ (ind C.a j - ind C.a i = -1 ∧ C.na q < C.na p) ∨ (ind C.a j - ind C.a i = 1 ∧ C.na p < C.na q)) →
      (ind C.b j - ind C.b i = 0 ∨ (ind C.b j - ind C.b i = -1 ∧ C.nb q < C.nb p) ∨ (ind C.b j - ind C.b i = 1 ∧ C.nb p < C.nb q)) → _ := fun j hj qj pj ha hb => by
    have a1 : C.na (sw p i j) = C.na p - ind C.a i + ind C.a j := wS_sw h.nd hi hj pi pj
    have a2 : C.na (sw q j i) = C.na q - ind C.a j + ind C.a i := wS_sw h.nd hj hi qj qi
    have b1 : C.nb (sw p i j) = C.nb p - ind C.b i + ind C.b j := wS_sw h.nd hi hj pi pj
    have b2 : C.nb (sw q j i) = C.nb q - ind C.b j + ind C.b i := wS_sw h.nd hj hi qj qi
    have w1 : wS C.pr (sw p i j) C.L = wS C.pr p C.L - C.pr i + C.pr j := wS_sw h.nd hi hj pi pj
    have w2 : wS C.pr (sw q j i) C.L = wS C.pr q C.L - C.pr j + C.pr i := wS_sw h.nd hj hi qj qi
    obtain ⟨r1, r2, r3⟩ := cvx_pair h.f hp hq (dx := ind C.a j - ind C.a i) (by omega)
    obtain ⟨s1, s2, s3⟩ := cvx_pair h.g bp bq (dx := ind C.b j - ind C.b i) hb
    have e1 : C.na p - ind C.a i + ind C.a j - lo = C.na p - lo + (ind C.a j - ind C.a i) := by omega
    have e2 : C.na q - ind C.a j + ind C.a i - lo = C.na q - lo - (ind C.a j - ind C.a i) := by omega
    have e3 : C.nb p - ind C.b i + ind C.b j = C.nb p + (ind C.b j - ind C.b i) := by omega
    have e4 : C.nb q - ind C.b j + ind C.b i = C.nb q - (ind C.b j - ind C.b i) := by omega
    refine (⟨j, hj, qj, pj, ?_⟩ : ∃ j ∈ C.L, q j = true ∧ p j = false ∧ (0 ≤ C.na (sw p i j) - lo ∧ C.na (sw p i j) - lo < C.m) ∧ (0 ≤ C.na (sw q j i) - lo ∧ C.na (sw q j i) - lo < C.m) ∧ (0 ≤ C.nb (sw p i j) ∧ C.nb (sw p i j) < C.mg) ∧ (0 ≤ C.nb (sw q j i) ∧ C.nb (sw q j i) < C.mg) ∧
      (wS C.pr (sw p i j) C.L + C.f (C.na (sw p i j) - lo) + C.g (C.nb (sw p i j))) + (wS C.pr (sw q j i) C.L + C.f (C.na (sw q j i) - lo) + C.g (C.nb (sw q j i))) ≤ (wS C.pr p C.L + C.f (C.na p - lo) + C.g (C.nb p)) + (wS C.pr q C.L + C.f (C.na q - lo) + C.g (C.nb q)))
    rw [a1, a2, b1, b2, w1, w2, e1, e2, e3, e4]
    exact ⟨r1, r2, s1, s2, by omega⟩
  -- a class with less in p than in q
  have dj := h.dj
  have iv : ∀ (s : Int → Bool) (k : Int), ind s k = if s k = true then 1 else 0 := fun s k => rfl
  have lt : ∀ s : Int → Bool, s i = true → (¬ ∃ j ∈ C.L, s j = true ∧ q j = true ∧ p j = false) → wS (ind s) q C.L < wS (ind s) p C.L := fun s si no => wS_lt si pi qi hi fun k hk h1 h2 => by
    cases e : p k with
    | true => rfl
    | false => exact (no ⟨k, hk, h1, h2, e⟩).elim
  have clsE : ∀ k, C.cls k = (!C.a k && !C.b k) := fun _ => rfl
  have di := dj i hi
  by_cases ex : ∃ j ∈ C.L, q j = true ∧ p j = false ∧ C.a j = C.a i ∧ C.b j = C.b i
  · obtain ⟨j, hj, qj, pj, ea, eb⟩ := ex
    refine key j hj qj pj (.inl ?_) (.inl ?_)
    · rw [iv, iv, ea]; omega
    · rw [iv, iv, eb]; omega
  · cases ai : C.a i with
    | true =>
      have bi : C.b i = false := by cases e : C.b i with | false => rfl | true => exact (di ⟨ai, e⟩).elim
      have l1 := lt C.a ai fun ⟨j, hj, aj, qj, pj⟩ => ex ⟨j, hj, qj, pj, aj.trans ai.symm, by
        rw [bi]; cases e : C.b j with | false => rfl | true => exact (dj j hj ⟨aj, e⟩).elim⟩
      have l1' : C.na q < C.na p := l1
      by_cases l2 : C.nb p < C.nb q
      · obtain ⟨j, hj, bj, qj, pj⟩ := wS_find l2
        have aj : C.a j = false := by cases e : C.a j with | false => rfl | true => exact (dj j hj ⟨e, bj⟩).elim
        exact key j hj qj pj (.inr (.inl ⟨by rw [iv, iv, ai, aj]; rfl, l1'⟩)) (.inr (.inr ⟨by rw [iv, iv, bi, bj]; rfl, l2⟩))
      · have l3 : C.nc p < C.nc q := by omega
        obtain ⟨j, hj, cj, qj, pj⟩ := wS_find l3
        rw [clsE] at cj
        have cj2 : C.a j = false ∧ C.b j = false := by revert cj; cases C.a j <;> cases C.b j <;> simp
        exact key j hj qj pj (.inr (.inl ⟨by rw [iv, iv, ai, cj2.1]; rfl, l1'⟩)) (.inl (by rw [iv, iv, bi, cj2.2]; rfl))
    | false =>
      cases bi : C.b i with
      | true =>
        have l1 := lt C.b bi fun ⟨j, hj, bj, qj, pj⟩ => ex ⟨j, hj, qj, pj, by
          rw [ai]; cases e : C.a j with | false => rfl | true => exact (dj j hj ⟨e, bj⟩).elim, bj.trans bi.symm⟩
        have l1' : C.nb q < C.nb p := l1
        by_cases l2 : C.na p < C.na q
        · obtain ⟨j, hj, aj, qj, pj⟩ := wS_find l2
          have bj : C.b j = false := by cases e : C.b j with | false => rfl | true => exact (dj j hj ⟨aj, e⟩).elim
          exact key j hj qj pj (.inr (.inr ⟨by rw [iv, iv, ai, aj]; rfl, l2⟩)) (.inr (.inl ⟨by rw [iv, iv, bi, bj]; rfl, l1'⟩))
        · have l3 : C.nc p < C.nc q := by omega
          obtain ⟨j, hj, cj, qj, pj⟩ := wS_find l3
          rw [clsE] at cj
          have cj2 : C.a j = false ∧ C.b j = false := by revert cj; cases C.a j <;> cases C.b j <;> simp
          exact key j hj qj pj (.inl (by rw [iv, iv, ai, cj2.1]; rfl)) (.inr (.inl ⟨by rw [iv, iv, bi, cj2.2]; rfl, l1'⟩))
      | false =>
        have l1 := lt C.cls (by rw [clsE, ai, bi]; rfl) fun ⟨j, hj, cj, qj, pj⟩ => ex ⟨j, hj, qj, pj, by
          rw [ai]; rw [clsE] at cj; revert cj; cases C.a j <;> simp, by rw [bi]; rw [clsE] at cj; revert cj; cases C.b j <;> simp⟩
        have l1' : C.nc q < C.nc p := l1
        by_cases l2 : C.na p < C.na q
        · obtain ⟨j, hj, aj, qj, pj⟩ := wS_find l2
          have bj : C.b j = false := by cases e : C.b j with | false => rfl | true => exact (dj j hj ⟨aj, e⟩).elim
          exact key j hj qj pj (.inr (.inr ⟨by rw [iv, iv, ai, aj]; rfl, l2⟩)) (.inl (by rw [iv, iv, bi, bj]; rfl))
        · have l3 : C.nb p < C.nb q := by omega
          obtain ⟨j, hj, bj, qj, pj⟩ := wS_find l3
          have aj : C.a j = false := by cases e : C.a j with | false => rfl | true => exact (dj j hj ⟨e, bj⟩).elim
          exact key j hj qj pj (.inl (by rw [iv, iv, ai, aj]; rfl)) (.inr (.inr ⟨by rw [iv, iv, bi, bj]; rfl, l3⟩))
end PD
set_option maxRecDepth 100000
/-! P2: the pool's draws. -/
namespace PD
open PySem PySem.Spec PyProof.Rows L2
abbrev DI (ns : List Int) : List D := ns.map D.int
theorem gEq_int (i j : Int) : gEq false (.int i) (.int j) = some (.bl (decide (i = j))) := by
  unfold gEq
  simp [pyD, PyData.eqv, SeqAt.shaped]
  exact ⟨⟨⟨rfl, Nat.le_of_ble_eq_true rfl⟩, rfl, Nat.le_of_ble_eq_true rfl⟩, by by_cases h : i = j <;> simp [h]⟩
theorem draw_few (pool : List Int) (many : Int) (h : many < 2) : F__law_draw (.lst (DI pool)) [.int many] = .ok (.int 0) (.lst (DI pool)) := by
  simp [F__law_draw, runO, b__law_draw, sSeq, sIf, eT, e2, gB, eVar, eC, lift, RM.bind, RS.ofT, RS.seq, sRet, h]
theorem draw_last (x : Int) (many : Int) (h : ¬ many < 2) : ∃ r, F__law_draw (.lst (DI [x])) [.int many] = .ok (.int r) (.lst (DI [x + 1])) ∧ 0 ≤ r ∧ r < many := by
  refine ⟨(x + 1) * 7 / 3 % many, ?_, Int.emod_nonneg _ (by omega), Int.emod_lt_of_pos _ (by omega)⟩
  have c1 : cMod ((x + 1) * 7 / 3) many = true := decide_eq_true (by omega)
  have c2 : cMul (x + 1) 7 = true := decide_eq_true (.inr (by decide))
  have c3 : cDiv ((x + 1) * 7) 3 = true := decide_eq_true (by decide)
  simp [F__law_draw, runO, b__law_draw, sSeq, sIf, eT, e2, gB, eVar, eC, lift, RM.bind, RS.ofT, RS.seq, sRet, h, sSkip, eLenO, gEq_int, ixN, atI, sIxSet, eIxO, gI, gIc, eCall, cInt, aCons, aNil, c1, c2, c3]
theorem draw_pop (ys : List Int) (c : Int) (hy : ys ≠ []) (hl : ys.length ≤ 64) (many : Int) (h : ¬ many < 2) (hm : many < 1073741824) :
    ∃ r pool', F__law_draw (.lst (DI (ys ++ [c]))) [.int many] = .ok (.int r) (.lst (DI pool')) ∧ pool' ≠ [] ∧ pool'.length ≤ ys.length + 1 ∧ 0 ≤ r ∧ r < many := by
  have l1 : ¬ ((ys.length : Int) + 1 = 1) := by
    intro e
    have : ys.length = 0 := by omega
    exact hy (List.length_eq_zero_iff.mp this)
  have c1 : cMod c many = true := decide_eq_true (by omega)
  have c3 : cDiv c many = true := decide_eq_true (by omega)
  have l2 : ys.length < 100000 := by omega
  by_cases q : many ≤ c
  · refine ⟨c % many, ys ++ [c / many], ?_, by simp, by simp, Int.emod_nonneg _ (by omega), Int.emod_lt_of_pos _ (by omega)⟩
    simp [F__law_draw, runO, b__law_draw, sSeq, sIf, eT, e2, gB, eVar, eC, lift, RM.bind, RS.ofT, RS.seq, sRet, h, sSkip, eLenO, gEq_int, eCall, cInt, aCons, aNil, gIc, c1, c3, ePop, sSet, sApp, q, l1, l2, DI]
  · refine ⟨c % many, ys, ?_, hy, by omega, Int.emod_nonneg _ (by omega), Int.emod_lt_of_pos _ (by omega)⟩
    simp [F__law_draw, runO, b__law_draw, sSeq, sIf, eT, e2, gB, eVar, eC, lift, RM.bind, RS.ofT, RS.seq, sRet, h, sSkip, eLenO, gEq_int, eCall, cInt, aCons, aNil, gIc, c1, c3, ePop, sSet, sApp, q, l1, l2, DI]
def PO (pool : List Int) : Prop := pool ≠ [] ∧ pool.length ≤ 64
theorem draw_ok (pool : List Int) (hp : PO pool) (many : Int) (hm : many < 1073741824) : ∃ r pool', F__law_draw (.lst (DI pool)) [.int many] = .ok (.int r) (.lst (DI pool')) ∧ PO pool' ∧ 0 ≤ r ∧ (r = 0 ∨ r < many) ∧ (0 < many → r < many) := by
  by_cases h : many < 2
  · exact ⟨0, pool, draw_few pool many h, hp, by omega, .inl rfl, id⟩
  · obtain ⟨ys, c, e⟩ : ∃ ys c, pool = ys ++ [c] := ⟨pool.dropLast, pool.getLast hp.1, (List.dropLast_concat_getLast hp.1).symm⟩
    subst e
    have hl := hp.2
    rw [List.length_append, List.length_singleton] at hl
    by_cases hy : ys = []
    · subst hy
      obtain ⟨r, e, h1, h2⟩ := draw_last c many h
      exact ⟨r, [c + 1], e, ⟨by simp, by simp⟩, h1, .inr h2, fun _ => h2⟩
    · obtain ⟨r, p, e, h1, h2, h3, h4⟩ := draw_pop ys c hy (by omega) many h hm
      exact ⟨r, p, e, ⟨h1, by omega⟩, h3, .inr h4, fun _ => h4⟩
/-- the pool -/
def poolOf (ns : List Int) : List Int := 0 :: ((ns.take 63).map fun n => n % 10 ^ 36).reverse
theorem poolOf_ok (ns : List Int) : PO (poolOf ns) := ⟨by simp [poolOf], by simp [poolOf]; omega⟩
def modD : D → D
  | .int n => .int (n % 10 ^ 36)
  | d => d
theorem filter_yes {α : Type} (l : List α) : l.filter (fun _ => true) = l := List.filter_eq_self.mpr fun _ _ => rfl
theorem pool_of (ns : List Int) (hl : ns.length ≤ 63) : F__law_pool_of [.scr ns] = .ok (.lst (DI (poolOf ns))) := by
  have hc : cutD (ns.map D.int) none (some 63) = DI (ns.take 63) := by
    simp [cutD, HT.sIx, DI]
    try omega
  have c1 : ∀ x : Int, cMod x 1000000000000000000000000000000000000 = true := fun x => decide_eq_true (by decide)
  have c2 : cPow 10 36 = true := by decide
  have e2' : lcLoop [1] (gdN 1) mYes (e2 (gIc cMod fun i j => i % j) (eCall cInt (aCons (eVar 1) aNil)) (e2 (gIc cPow fun i j => i ^ j.toNat) (eC (.int 10)) (eC (.int 36)))) (DI (ns.take 63)) [.val (.scr ns), .un] [] = .ok (.lst ([] ++ ((DI (ns.take 63)).filter fun _ => true).map modD)) [.val (.scr ns), .un] := by
    refine lcLoop_ok _ _ (by simp; omega) fun d hd => ?_
    obtain ⟨n, _, rfl⟩ := List.mem_map.mp hd
    refine ⟨[.val (.scr ns), .val (.int n)], rfl, rfl, fun _ => ?_, rfl⟩
    simp [e2, eCall, cInt, aCons, aNil, eVar, eC, gIc, lift, RM.bind, c1, c2, modD]
  have e3 : ([] : List D) ++ ((DI (ns.take 63)).filter fun _ => true).map modD = DI ((ns.take 63).map fun n => n % 10 ^ 36) := by
    rw [filter_yes, List.nil_append, DI, List.map_map, DI, List.map_map]
    rfl
  rw [e3] at e2'
  have l2 : ((DI ((ns.take 63).map fun n => n % 10 ^ 36)).reverse).length + 1 ≤ 100000 := by simp; omega
  unfold F__law_pool_of runN b__law_pool_of
  rw [if_pos (by rfl)]
  have s0 : stD 2 [D.scr ns] = [.val (.scr ns), .un] := rfl
  rw [s0]
  have e4 : (e1 gRev (eLc [1] (iSeq (e1 (gSl none (some 63)) (eVar 0))) (gdN 1) mYes (e2 (gIc cMod fun i j => i % j) (eCall cInt (aCons (eVar 1) aNil)) (e2 (gIc cPow fun i j => i ^ j.toNat) (eC (.int 10)) (eC (.int 36)))))) [.val (.scr ns), .un] = .ok (.lst (DI ((ns.take 63).map fun n => n % 10 ^ 36)).reverse) [.val (.scr ns), .un] := by
    have i1 : iSeq (e1 (gSl none (some 63)) (eVar 0)) [.val (.scr ns), .un] = .ok (DI (ns.take 63)) [.val (.scr ns), .un] := by
      simp [iSeq, PD.e1, gSl, eVar, RM.bind, lift, hc]
    show (RM.bind (RM.bind (iSeq (PD.e1 (gSl none (some 63)) (eVar 0)) [.val (.scr ns), .un]) _) _) = _
    rw [i1]
    show (RM.bind (lcLoop [1] _ _ _ _ [.val (.scr ns), .un] []) _) = _
    rw [e2']
    rfl
  have e5 : e2 gCatL (eLst (aCons (eC (D.int 0)) aNil)) (PD.e1 gRev (eLc [1] (iSeq (PD.e1 (gSl none (some 63)) (eVar 0))) (gdN 1) mYes (e2 (gIc cMod fun i j => i % j) (eCall cInt (aCons (eVar 1) aNil)) (e2 (gIc cPow fun i j => i ^ j.toNat) (eC (.int 10)) (eC (.int 36)))))) [.val (.scr ns), .un] = .ok (.lst (DI (poolOf ns))) [.val (.scr ns), .un] := by
    show (RM.bind (PD.e1 gRev _ [.val (.scr ns), .un]) fun y ρ2 => lift (gCatL (.lst [.int 0]) y) ρ2) = _
    rw [e4]
    show lift (if [D.int 0].length + _ ≤ 100000 then _ else none) _ = _
    rw [if_pos (by rw [List.length_singleton]; omega)]
    simp [lift, poolOf, DI]
  rw [e5]
end PD
set_option maxRecDepth 100000
/-! P3: plain runs by the kernel; lots. -/
namespace PD
open PySem PySem.Spec PyProof.Rows L2
mutual
def deq : D → D → Bool
  | .non, .non => true
  | .bl a, .bl b => decide (a = b)
  | .int a, .int b => decide (a = b)
  | .str a, .str b => decide (a = b)
  | .tup a, .tup b => deqs a b
  | .lst a, .lst b => deqs a b
  | _, _ => false
def deqs : List D → List D → Bool
  | [], [] => true
  | x :: r, y :: s => deq x y && deqs r s
  | _, _ => false
end
mutual
theorem deq_ok : ∀ {x y : D}, deq x y = true → x = y
  | .non, y, h => by cases y <;> first | rfl | (unfold deq at h; cases h)
  | .bl a, y, h => by
    cases y with
    | bl b => unfold deq at h; rw [of_decide_eq_true h]
    | _ => unfold deq at h; cases h
  | .int a, y, h => by
    cases y with
    | int b => unfold deq at h; rw [of_decide_eq_true h]
    | _ => unfold deq at h; cases h
  | .str a, y, h => by
    cases y with
    | str b => unfold deq at h; rw [of_decide_eq_true h]
    | _ => unfold deq at h; cases h
  | .tup a, y, h => by
    cases y with
    | tup b => unfold deq at h; rw [deqs_ok h]
    | _ => unfold deq at h; cases h
  | .lst a, y, h => by
    cases y with
    | lst b => unfold deq at h; rw [deqs_ok h]
    | _ => unfold deq at h; cases h
  | .dic a, y, h => by unfold deq at h; cases h
  | .ins c a, y, h => by unfold deq at h; cases h
  | .scr a, y, h => by unfold deq at h; cases h
theorem deqs_ok : ∀ {x y : List D}, deqs x y = true → x = y
  | [], y, h => by cases y <;> first | rfl | (unfold deqs at h; cases h)
  | a :: r, y, h => by
    cases y with
    | nil => unfold deqs at h; cases h
    | cons b s =>
      unfold deqs at h
      rw [Bool.and_eq_true] at h
      rw [deq_ok h.1, deqs_ok h.2]
end
/-- the plain run hands back d -/
def okq (r : RF) (d : D) : Bool := match r with
  | .ok e => deq e d
  | _ => false
theorem okq_ok {r : RF} {d : D} (h : okq r d = true) : r = .ok d := by
  cases r with
  | ok e => rw [deq_ok h]
  | _ => cases h
abbrev dT (l : List Int) : D := .tup (DI l)
abbrev dL (l : List Int) : D := .lst (DI l)
/-- all lots below n, in the law's order -/
def lots (n : Nat) : List Lot := (rg n).foldl (fun ls p => ls ++ ls.map fun l => l ++ [p]) [[]]
theorem all_le {p : Nat → Bool} {k : Nat} (h : (List.range (k + 1)).all p = true) {n : Nat} (hn : n ≤ k) : p n = true := List.all_eq_true.mp h n (List.mem_range.mpr (by omega))
theorem all_lot {p : Nat → Lot → Bool} (h : ((List.range 7).all fun n => (lots n).all (p n)) = true) {n : Nat} (hn : n ≤ 6) {l : Lot} (hl : l ∈ lots n) : p n l = true := List.all_eq_true.mp (all_le (p := fun n => (lots n).all (p n)) h hn) l hl
theorem law_lots_ok {n : Nat} (h : n ≤ 6) : F__law_lots [.lst (DI (rg n))] = .ok (.lst ((lots n).map dT)) :=
  okq_ok (all_le (p := fun n => okq (F__law_lots [.lst (DI (rg n))]) (.lst ((lots n).map dT))) (k := 6) (by decide +kernel) h)
theorem look_lot_T {n : Nat} (h : n ≤ 6) {l : Lot} (hl : l ∈ lots n) : F_look_lot [.int n, dT l] = .ok (dT l) :=
  okq_ok (all_lot (p := fun n l => okq (F_look_lot [.int n, dT l]) (dT l)) (by decide +kernel) h hl)
theorem look_lot_H {n : Nat} (h : n ≤ 6) {l : Lot} (hl : l ∈ lots n) : F_look_lot [.int n, .lst (DI (l.reverse ++ l.take 2))] = .ok (dT l) :=
  okq_ok (all_lot (p := fun n l => okq (F_look_lot [.int n, .lst (DI (l.reverse ++ l.take 2))]) (dT l)) (by decide +kernel) h hl)
end PD
set_option maxRecDepth 100000
/-! PS: the combinators as simp rules. -/
namespace PD
open PySem PySem.Spec PyProof.Rows L2
section
variable (ρ : DEnv)
@[simp] theorem p_eVar (i : Nat) : eVar i ρ = match ρ[i]? with | some (.val d) => .ok d ρ | _ => .stuck := rfl
@[simp] theorem p_eC (d : D) : eC d ρ = .ok d ρ := rfl
@[simp] theorem p_e1 (g : D → Option D) (a : M D) : e1 g a ρ = (a ρ).bind fun x ρ1 => lift (g x) ρ1 := rfl
@[simp] theorem p_e2 (g : D → D → Option D) (a b : M D) : e2 g a b ρ = (a ρ).bind fun x ρ1 => (b ρ1).bind fun y ρ2 => lift (g x y) ρ2 := rfl
@[simp] theorem p_eT (a : M D) : eT a ρ = (a ρ).bind fun x ρ1 => match x with | .bl b => .ok b ρ1 | _ => .stuck := rfl
@[simp] theorem p_eNot (a : M Bool) : eNot a ρ = (a ρ).bind fun x ρ1 => .ok (!x) ρ1 := rfl
@[simp] theorem p_eAnd (a b : M Bool) : eAnd a b ρ = (a ρ).bind fun x ρ1 => if x = true then b ρ1 else .ok false ρ1 := rfl
@[simp] theorem p_eOr (a b : M Bool) : eOr a b ρ = (a ρ).bind fun x ρ1 => if x = true then .ok true ρ1 else b ρ1 := rfl
@[simp] theorem p_eIf (c : M Bool) (a b : M D) : eIf c a b ρ = (c ρ).bind fun x ρ1 => if x = true then a ρ1 else b ρ1 := rfl
@[simp] theorem p_eAndV (a b : M D) : eAndV a b ρ = (a ρ).bind fun x ρ1 => match x with | .bl true => b ρ1 | .bl false => .ok (.bl false) ρ1 | _ => .stuck := rfl
@[simp] theorem p_eOrV (a b : M D) : eOrV a b ρ = (a ρ).bind fun x ρ1 => match x with | .bl false => b ρ1 | .bl true => .ok (.bl true) ρ1 | _ => .stuck := rfl
@[simp] theorem p_eNotV (a : M D) : eNotV a ρ = (a ρ).bind fun x ρ1 => match x with | .bl b => .ok (.bl !b) ρ1 | _ => .stuck := rfl
@[simp] theorem p_eCh (g g' : D → D → Option D) (a b c : M D) : eCh g g' a b c ρ = (a ρ).bind fun x ρ1 => (b ρ1).bind fun y ρ2 => (lift (g x y) ρ2).bind fun z ρ3 => match z with
  | .bl true => (c ρ3).bind fun w ρ4 => lift (g' y w) ρ4
  | .bl false => .ok (.bl false) ρ3
  | _ => .stuck := rfl
@[simp] theorem p_aNil : aNil ρ = .ok [] ρ := rfl
@[simp] theorem p_aCons (a : M D) (r : M (List D)) : aCons a r ρ = (a ρ).bind fun x ρ1 => (r ρ1).bind fun xs ρ2 => .ok (x :: xs) ρ2 := rfl
@[simp] theorem p_eTup (a : M (List D)) : eTup a ρ = (a ρ).bind fun xs ρ1 => if xs.length ≤ 100000 then .ok (.tup xs) ρ1 else .stuck := rfl
@[simp] theorem p_eLst (a : M (List D)) : eLst a ρ = (a ρ).bind fun xs ρ1 => if xs.length ≤ 100000 then .ok (.lst xs) ρ1 else .stuck := rfl
@[simp] theorem p_eCall (g : List D → Option D) (a : M (List D)) : eCall g a ρ = (a ρ).bind fun xs ρ1 => lift (g xs) ρ1 := rfl
@[simp] theorem p_ofE (r : RM D) (k : D → DEnv → RS) : RS.ofE r k = match r with | .ok a ρ => k a ρ | .exc x ρ => .exc x ρ | .stuck => .stuck := rfl
@[simp] theorem p_ofT_ok {α : Type} (a : α) (k : α → DEnv → RS) : RS.ofT (.ok a ρ) k = k a ρ := rfl
@[simp] theorem p_ofT_exc {α : Type} (x : Exn) (k : α → DEnv → RS) : RS.ofT (.exc x ρ) k = .exc x ρ := rfl
@[simp] theorem p_ofT_stuck {α : Type} (k : α → DEnv → RS) : RS.ofT .stuck k = .stuck := rfl
@[simp] theorem p_seq_nx (k : MS) : RS.seq (.nx ρ) k = k ρ := rfl
@[simp] theorem p_seq_rt (d : D) (k : MS) : RS.seq (.rt d ρ) k = .rt d ρ := rfl
@[simp] theorem p_seq_bk (k : MS) : RS.seq (.bk ρ) k = .bk ρ := rfl
@[simp] theorem p_seq_ct (k : MS) : RS.seq (.ct ρ) k = .ct ρ := rfl
@[simp] theorem p_seq_exc (x : Exn) (k : MS) : RS.seq (.exc x ρ) k = .exc x ρ := rfl
@[simp] theorem p_sSkip : sSkip ρ = .nx ρ := rfl
@[simp] theorem p_sSeq (a b : MS) : sSeq a b ρ = (a ρ).seq b := rfl
@[simp] theorem p_sSet (i : Nat) (a : M D) : sSet i a ρ = RS.ofT (a ρ) fun d ρ1 => .nx (ρ1.set i (.val d)) := rfl
@[simp] theorem p_sOwn (i : Nat) (a : M D) : sOwn i a ρ = RS.ofT (a ρ) fun d ρ1 => .nx (ρ1.set i (.own d)) := rfl
@[simp] theorem p_sFrz (i : Nat) (b : MS) : sFrz i b ρ = b (freeze ρ i) := rfl
@[simp] theorem p_sExpr (a : M D) : sExpr a ρ = RS.ofT (a ρ) fun _ ρ1 => .nx ρ1 := rfl
@[simp] theorem p_sRet (a : M D) : sRet a ρ = RS.ofT (a ρ) fun d ρ1 => .rt d ρ1 := rfl
@[simp] theorem p_sIf (c : M Bool) (a b : MS) : sIf c a b ρ = RS.ofT (c ρ) fun x ρ1 => if x = true then a ρ1 else b ρ1 := rfl
@[simp] theorem p_eFn (G : List D → RF) (a : M (List D)) : eFn G a ρ = (a ρ).bind fun ds ρ1 => match G ds with | .ok d => .ok d ρ1 | .exc x => .exc x ρ1 | .stuck => .stuck := rfl
@[simp] theorem p_eMeth (c : Nat) (nm : Str) (G : List D → RF) (fo : M D) (a : M (List D)) : eMeth c nm G fo a ρ = (fo ρ).bind fun o ρ1 => match o with
  | .ins c' fs => if c' = c ∧ fs.lookup nm = none then (a ρ1).bind fun ds ρ2 => (match G (.ins c' fs :: ds) with
    | .ok d => .ok d ρ2
    | .exc x => .exc x ρ2
    | .stuck => .stuck) else .stuck
  | _ => .stuck := rfl
@[simp] theorem p_eFnO (i : Nat) (G : D → List D → RO) (a : M (List D)) : eFnO i G a ρ = match ρ[i]? with
  | some (.own _) => (a ρ).bind fun ds ρ1 => (match ρ1[i]? with
    | some (.own o) => (match G o ds with
      | .ok d o' => .ok d (ρ1.set i (.own o'))
      | .stuck => .stuck)
    | _ => .stuck)
  | _ => .stuck := rfl
@[simp] theorem p_eMake (c : Nat) (G : D → List D → RO) (a : M (List D)) : eMake c G a ρ = (a ρ).bind fun ds ρ1 => match G (.ins c []) ds with
  | .ok .non (.ins c' fs) => .ok (.ins c' fs) ρ1
  | _ => .stuck := rfl
@[simp] theorem p_eTru (f : M D) : eTru f ρ = (f ρ).bind fun x ρ1 => match x with
  | .lst ds => .ok (!ds.isEmpty) ρ1
  | .tup ds => .ok (!ds.isEmpty) ρ1
  | .int i => .ok (i != 0) ρ1
  | .bl b => .ok b ρ1
  | .non => .ok false ρ1
  | _ => .stuck := rfl
@[simp] theorem p_sAsg (f : GD) (a : M D) : sAsg f a ρ = RS.ofT (a ρ) fun d ρ1 => match f d ρ1 with | some ρ2 => .nx ρ2 | none => .stuck := rfl
@[simp] theorem p_iSeq (f : M D) : iSeq f ρ = (f ρ).bind fun d ρ1 => match d with
  | .lst ds => .ok ds ρ1
  | .tup ds => .ok ds ρ1
  | _ => .stuck := rfl
@[simp] theorem p_iRg1 (f : M D) : iRg1 f ρ = (f ρ).bind fun d ρ1 => match d with
  | .int n => if n ≤ 100000 ∧ -100000 ≤ n then .ok ((List.range n.toNat).map fun i => .int (0 + (i : Nat))) ρ1 else .stuck
  | _ => .stuck := rfl
@[simp] theorem p_iRg2 (f g : M D) : iRg2 f g ρ = (f ρ).bind fun d ρ1 => (g ρ1).bind fun d2 ρ2 => match d, d2 with
  | .int a, .int n => if n ≤ 100000 ∧ -100000 ≤ n ∧ a ≤ 100000 ∧ -100000 ≤ a then .ok ((List.range (n - a).toNat).map fun i => .int (a + (i : Nat))) ρ2 else .stuck
  | _, _ => .stuck := rfl
@[simp] theorem p_iEnumD (f : M D) : iEnumD f ρ = (f ρ).bind fun d ρ1 => match d with
  | .lst ds => .ok (ds.zipIdx.map fun p => .tup [.int (p.2 : Nat), p.1]) ρ1
  | _ => .stuck := rfl
@[simp] theorem p_sFor (fi : M (List D)) (tg : GD) (gb : MS) : sFor fi tg gb ρ = RS.ofT (fi ρ) fun ds ρ1 => forLoop tg gb ds ρ1 := rfl
@[simp] theorem p_sApp (i : Nat) (f : M D) : sApp i f ρ = match ρ[i]? with
  | some (.own (.lst _)) => RS.ofT (f ρ) fun d ρ1 => (match ρ1[i]? with
    | some (.own (.lst ds)) => if ds.length < 100000 then .nx (ρ1.set i (.own (.lst (ds ++ [d])))) else .stuck
    | _ => .stuck)
  | _ => .stuck := rfl
@[simp] theorem p_ePop (i : Nat) : ePop i ρ = match ρ[i]? with
  | some (.own (.lst ds)) => (match ds[ds.length - 1]? with
    | some d => .ok d (ρ.set i (.own (.lst ds.dropLast)))
    | none => .stuck)
  | _ => .stuck := rfl
@[simp] theorem p_sClear (i : Nat) : sClear i ρ = match ρ[i]? with
  | some (.own (.lst _)) => .nx (ρ.set i (.own (.lst [])))
  | _ => .stuck := rfl
@[simp] theorem p_eLenO (i : Nat) : eLenO i ρ = match ρ[i]? with
  | some (.own (.lst ds)) => .ok (.int ds.length) ρ
  | _ => .stuck := rfl
@[simp] theorem p_eIxO (i : Nat) (f : M D) : eIxO i f ρ = match ρ[i]? with
  | some (.own _) => (f ρ).bind fun d ρ1 => (match ρ1[i]?, d with
    | some (.own (.lst ds)), .int k => lift (atI ds k) ρ1
    | _, _ => .stuck)
  | _ => .stuck := rfl
@[simp] theorem p_sIxSet (i : Nat) (fi fe : M D) : sIxSet i fi fe ρ = RS.ofT (fe ρ) fun d ρ1 => match ρ1[i]? with
  | some (.own _) => RS.ofT (fi ρ1) fun k ρ2 => (match ρ2[i]?, k with
    | some (.own (.lst ds)), .int k => (match ixN ds.length k with
      | some j => .nx (ρ2.set i (.own (.lst (ds.set j d))))
      | none => .stuck)
    | _, _ => .stuck)
  | _ => .stuck := rfl
@[simp] theorem p_sIxAug (i : Nat) (f : Int → Int → Int) (fi fe : M D) : sIxAug i f fi fe ρ = match ρ[i]? with
  | some (.own _) => RS.ofT (fi ρ) fun k ρ1 => (match ρ1[i]?, k with
    | some (.own (.lst ds)), .int k => (match atI ds k, ixN ds.length k with
      | some (.int z), some j => RS.ofT (fe ρ1) fun w ρ2 => (match ρ2[i]?, w with
        | some (.own (.lst ds2)), .int y => if ds2.length = ds.length then .nx (ρ2.set i (.own (.lst (ds2.set j (.int (f z y)))))) else .stuck
        | _, _ => .stuck)
      | _, _ => .stuck)
    | _, _ => .stuck)
  | _ => .stuck := rfl
@[simp] theorem p_eFld (c : Nat) (f : Str) (fo : M D) : eFld c f fo ρ = (fo ρ).bind fun d ρ1 => match d with
  | .ins c' fs => if c' = c then lift (fs.lookup f) ρ1 else .stuck
  | _ => .stuck := rfl
@[simp] theorem p_eFldO (c : Nat) (i : Nat) (f : Str) : eFldO c i f ρ = match ρ[i]? with
  | some (.own (.ins c' fs)) => if c' = c then lift (fs.lookup f) ρ else .stuck
  | _ => .stuck := rfl
@[simp] theorem p_sFldO (c : Nat) (i : Nat) (f : Str) (fv : M D) : sFldO c i f fv ρ = RS.ofT (fv ρ) fun d ρ1 => match ρ1[i]? with
  | some (.own (.ins c' fs)) => if c' = c ∧ fs.length < 900 then .nx (ρ1.set i (.own (.ins c' (putD f d fs)))) else .stuck
  | _ => .stuck := rfl
@[simp] theorem p_eDGet (fo fk : M D) : eDGet fo fk ρ = (fo ρ).bind fun d ρ1 => match d with
  | .dic es => (fk ρ1).bind fun k ρ2 => (match keyD k with
    | some k => .ok ((lookD k es).getD .non) ρ2
    | none => .stuck)
  | _ => .stuck := rfl
@[simp] theorem p_eDIx (fo fk : M D) : eDIx fo fk ρ = (fo ρ).bind fun d ρ1 => match d with
  | .dic es => (fk ρ1).bind fun k ρ2 => (match keyD k with
    | some k => lift (lookD k es) ρ2
    | none => .stuck)
  | _ => .stuck := rfl
@[simp] theorem p_eDIn (neg : Bool) (fk fo : M D) : eDIn neg fk fo ρ = (fk ρ).bind fun k ρ1 => (fo ρ1).bind fun d ρ2 => match d, keyD k with
  | .dic es, some k => .ok (.bl (if neg then !(lookD k es).isSome else (lookD k es).isSome)) ρ2
  | _, _ => .stuck := rfl
@[simp] theorem p_eDInO (neg : Bool) (i : Nat) (fk : M D) : eDInO neg i fk ρ = (fk ρ).bind fun k ρ1 => match ρ1[i]?, keyD k with
  | some (.own (.dic es)), some k => .ok (.bl (if neg then !(lookD k es).isSome else (lookD k es).isSome)) ρ1
  | _, _ => .stuck := rfl
@[simp] theorem p_sDPutO (i : Nat) (fk fv : M D) : sDPutO i fk fv ρ = RS.ofT (fv ρ) fun v ρ1 => match ρ1[i]? with
  | some (.own (.dic _)) => RS.ofT (fk ρ1) fun k ρ2 => (match ρ2[i]?, keyD k with
    | some (.own (.dic es)), some k => if es.length < 100000 then .nx (ρ2.set i (.own (.dic (dputD k v es)))) else .stuck
    | _, _ => .stuck)
  | _ => .stuck := rfl
@[simp] theorem p_eIsi (names : List String) (f : M D) : eIsi names f ρ = (f ρ).bind fun d ρ1 => lift ((tyD d).map fun t => .bl (names.any (isB t))) ρ1 := rfl
@[simp] theorem p_mYes : mYes ρ = .ok true ρ := rfl
@[simp] theorem p_eLc (vs : List Nat) (fi : M (List D)) (tg : GD) (ft : M Bool) (fe : M D) : eLc vs fi tg ft fe ρ = (fi ρ).bind fun ds ρ1 => lcLoop vs tg ft fe ds (wipeD ρ1 vs) [] := rfl
@[simp] theorem p_eRlc (vs : List Nat) (fi : M (List D)) (tg : GD) (fe : M D) : eRlc vs fi tg fe ρ = (fi ρ).bind fun ds ρ1 => rlcLoop vs tg fe ds (wipeD ρ1 vs) [] := rfl
@[simp] theorem p_eLc2 (vs vs1 : List Nat) (fi : M (List D)) (tg : GD) (ft : M Bool) (fi1 : M (List D)) (tg1 : GD) (ft1 : M Bool) (fe : M D) : eLc2 vs vs1 fi tg ft fi1 tg1 ft1 fe ρ = (fi ρ).bind fun ds ρ1 => lc2Loop vs vs1 tg ft fi1 tg1 ft1 fe ds (wipeD ρ1 vs) [] := rfl
@[simp] theorem p_eDc (vs : List Nat) (fi : M (List D)) (tg : GD) (ft : M Bool) (fk fv : M D) : eDc vs fi tg ft fk fv ρ = (fi ρ).bind fun ds ρ1 => dcLoop vs tg ft fk fv ds (wipeD ρ1 vs) [] := rfl
@[simp] theorem p_eMat (vs : List Nat) (fi : M (List D)) (tg : GD) (fe : M D) : eMat vs fi tg fe ρ = (fi ρ).bind fun ds ρ1 => matLoop vs tg fe ds (wipeD ρ1 vs) [] := rfl
@[simp] theorem p_sMat (wi : Nat) (em : M (List (List D))) (fi : M (List D)) (tg : GD) (f1 f2 f3 : M D) (g : MS) : sMat wi em fi tg f1 f2 f3 g ρ = RS.ofT (em ρ) fun m ρ1 => if wi < ρ1.length then (RS.ofT (fi (ρ1.set wi .un)) fun ds ρ2 => RS.ofT (matFor tg f1 f2 f3 ds ρ2 m) fun m' ρ3 => g (ρ3.set wi (.val (.lst (m'.map .lst))))) else .stuck := rfl
@[simp] theorem p_sSupO (c : Nat) (G : D → List D → RO) (a : M (List D)) : sSupO c G a ρ = match ρ[0]? with
  | some (Slot.own (D.ins c' _)) => if c' = c then (RS.ofT (eFnO 0 G a ρ) fun _ ρ1 => .nx ρ1) else .stuck
  | _ => .stuck := rfl
@[simp] theorem p_sRaise0 (c : Nat) : sRaise0 c ρ = .exc ⟨c, []⟩ ρ := rfl
@[simp] theorem p_sRaise1 (c : Nat) (f : Str) (a : M D) : sRaise1 c f a ρ = RS.ofT (a ρ) fun d ρ1 => .exc ⟨c, [(f, d)]⟩ ρ1 := rfl
@[simp] theorem p_sTry (n : Nat) (b : MS) (cs : List Nat) (l : List Cl) : sTry n b cs l ρ = match b ρ with
  | .exc x ρ1 => if x.c ∈ cs ∧ ρ1.length = n then pick l x ρ1 else .stuck
  | r => r := rfl
@[simp] theorem p_gdN (i : Nat) (d : D) : gdN i d ρ = some (ρ.set i (.val d)) := rfl
@[simp] theorem p_gdNil : gdNil [] ρ = some ρ := rfl
@[simp] theorem p_gdCons (f : GD) (r : List D → DEnv → Option DEnv) (d : D) (ds : List D) : gdCons f r (d :: ds) ρ = (f d ρ).bind fun ρ1 => r ds ρ1 := rfl
@[simp] theorem p_gdTup (n : Nat) (f : List D → DEnv → Option DEnv) (ds : List D) : gdTup n f (.tup ds) ρ = if ds.length = n then f ds ρ else none := rfl
@[simp] theorem p_wipe0 : wipeD ρ [] = ρ := rfl
@[simp] theorem p_wipeS (v : Nat) (vs : List Nat) : wipeD ρ (v :: vs) = (wipeD ρ vs).set v .un := rfl
end
@[simp] theorem p_freeze (ρ : DEnv) (i : Nat) : freeze ρ i = match ρ[i]? with | some (.own d) => ρ.set i (.val d) | _ => ρ := rfl
@[simp] theorem p_stD (n : Nat) (ds : List D) : stD n ds = ds.map Slot.val ++ List.replicate (n - ds.length) Slot.un := rfl
@[simp] theorem p_gI (p : Int → Int → Int) (i j : Int) : gI p (.int i) (.int j) = some (.int (p i j)) := rfl
@[simp] theorem p_gIc (c : Int → Int → Bool) (p : Int → Int → Int) (i j : Int) : gIc c p (.int i) (.int j) = if c i j = true then some (.int (p i j)) else none := rfl
@[simp] theorem p_gB (p : Int → Int → Bool) (i j : Int) : gB p (.int i) (.int j) = some (.bl (p i j)) := rfl
@[simp] theorem p_gU (p : Int → Int) (i : Int) : gU p (.int i) = some (.int (p i)) := rfl
@[simp] theorem p_gCatL (xs ys : List D) : gCatL (.lst xs) (.lst ys) = if xs.length + ys.length ≤ 100000 then some (.lst (xs ++ ys)) else none := rfl
@[simp] theorem p_gCatT (xs ys : List D) : gCatT (.tup xs) (.tup ys) = if xs.length + ys.length ≤ 100000 then some (.tup (xs ++ ys)) else none := rfl
@[simp] theorem p_gRep (xs : List D) (k : Int) : gRep (.lst xs) (.int k) = if xs.length * k.toNat ≤ 100000 ∧ k ≤ 100000 ∧ 0 ≤ k then some (.lst (List.replicate k.toNat xs).flatten) else none := rfl
@[simp] theorem p_gIsN (d : D) : gIsN d .non = some (.bl (isNon d)) := rfl
@[simp] theorem p_gNotN (d : D) : gNotN d .non = some (.bl (!isNon d)) := rfl
@[simp] theorem p_gIxL (ds : List D) (i : Int) : gIx (.lst ds) (.int i) = atI ds i := rfl
@[simp] theorem p_gIxT (ds : List D) (i : Int) : gIx (.tup ds) (.int i) = atI ds i := rfl
@[simp] theorem p_cLenL (ds : List D) : cLen [.lst ds] = some (.int ds.length) := rfl
@[simp] theorem p_cLenT (ds : List D) : cLen [.tup ds] = some (.int ds.length) := rfl
@[simp] theorem p_cLenD (ds : List (List Key × D)) : cLenD [.dic ds] = some (.int ds.length) := rfl
@[simp] theorem p_cListL (ds : List D) : cList [.lst ds] = some (.lst ds) := rfl
@[simp] theorem p_cListT (ds : List D) : cList [.tup ds] = some (.lst ds) := rfl
@[simp] theorem p_cTupleL (ds : List D) : cTuple [.lst ds] = some (.tup ds) := rfl
@[simp] theorem p_cTupleT (ds : List D) : cTuple [.tup ds] = some (.tup ds) := rfl
@[simp] theorem p_isNon_non : isNon .non = true := rfl
@[simp] theorem p_isNon_int (i : Int) : isNon (.int i) = false := rfl
@[simp] theorem p_isNon_tup (ds : List D) : isNon (.tup ds) = false := rfl
@[simp] theorem p_gRev (ds : List D) : gRev (.lst ds) = some (.lst ds.reverse) := rfl
/-- a def that ends -/
theorem runF_ok {n m : Nat} {b : MS} {ds : List D} {d : D} {ρ' : DEnv} (l : ds.length = m) (h : b (stD n ds) = .rt d ρ') : runF n m b ds = .ok d := by
  unfold runF; rw [if_pos l, h]
theorem runF_exc {n m : Nat} {b : MS} {ds : List D} {x : Exn} {ρ' : DEnv} (l : ds.length = m) (h : b (stD n ds) = .exc x ρ') : runF n m b ds = .exc x := by
  unfold runF; rw [if_pos l, h]
theorem runO_ok {n m : Nat} {b : MS} {o o' : D} {ds : List D} {d : D} {ρ' : DEnv} (l : ds.length + 1 = m) (h : b (Slot.own o :: ds.map Slot.val ++ List.replicate (n - m) Slot.un) = .rt d ρ') (h0 : ρ'[0]? = some (.own o')) : runO n m b o ds = .ok d o' := by
  unfold runO; rw [if_pos l, h]; dsimp only; rw [h0]
theorem runO_nx {n m : Nat} {b : MS} {o o' : D} {ds : List D} {ρ' : DEnv} (l : ds.length + 1 = m) (h : b (Slot.own o :: ds.map Slot.val ++ List.replicate (n - m) Slot.un) = .nx ρ') (h0 : ρ'[0]? = some (.own o')) : runO n m b o ds = .ok .non o' := by
  unfold runO; rw [if_pos l, h]; dsimp only; rw [h0]
/-- it hands back d -/
def Rt (r : RS) (d : D) : Prop := ∃ ρ', r = .rt d ρ'
def Exr (r : RS) (x : Exn) : Prop := ∃ ρ', r = .exc x ρ'
theorem runF_rt {n m : Nat} {b : MS} {ds : List D} {d : D} (l : ds.length = m) (h : Rt (b (stD n ds)) d) : runF n m b ds = .ok d := by
  obtain ⟨ρ', h⟩ := h
  exact runF_ok l h
theorem runF_ex {n m : Nat} {b : MS} {ds : List D} {x : Exn} (l : ds.length = m) (h : Exr (b (stD n ds)) x) : runF n m b ds = .exc x := by
  obtain ⟨ρ', h⟩ := h
  exact runF_exc l h
theorem rt_seq {a b : MS} {ρ ρ1 : DEnv} {d : D} (h1 : a ρ = .nx ρ1) (h2 : Rt (b ρ1) d) : Rt (sSeq a b ρ) d := by
  unfold sSeq; rw [h1]; exact h2
theorem rt_now {a b : MS} {ρ : DEnv} {d : D} (h1 : Rt (a ρ) d) : Rt (sSeq a b ρ) d := by
  obtain ⟨ρ', h⟩ := h1
  exact ⟨ρ', by unfold sSeq; rw [h]; rfl⟩
theorem ex_seq {a b : MS} {ρ ρ1 : DEnv} {x : Exn} (h1 : a ρ = .nx ρ1) (h2 : Exr (b ρ1) x) : Exr (sSeq a b ρ) x := by
  unfold sSeq; rw [h1]; exact h2
theorem ex_now {a b : MS} {ρ : DEnv} {x : Exn} (h1 : Exr (a ρ) x) : Exr (sSeq a b ρ) x := by
  obtain ⟨ρ', h⟩ := h1
  exact ⟨ρ', by unfold sSeq; rw [h]; rfl⟩
theorem rt_frz {i : Nat} {b : MS} {ρ : DEnv} {d : D} (h : Rt (b (freeze ρ i)) d) : Rt (sFrz i b ρ) d := h
/-- the object and the value that a def with an owned argument hands back -/
def RtO (r : RS) (d o : D) : Prop := ∃ ρ', (r = .rt d ρ' ∨ (r = .nx ρ' ∧ d = .non)) ∧ ρ'[0]? = some (.own o)
theorem runO_rt {n m : Nat} {b : MS} {o o' : D} {ds : List D} {d : D} (l : ds.length + 1 = m) (h : RtO (b (Slot.own o :: ds.map Slot.val ++ List.replicate (n - m) Slot.un)) d o') : runO n m b o ds = .ok d o' := by
  obtain ⟨ρ', h | ⟨h, rfl⟩, h0⟩ := h
  · exact runO_ok l h h0
  · exact runO_nx l h h0
theorem rto_seq {a b : MS} {ρ ρ1 : DEnv} {d o : D} (h1 : a ρ = .nx ρ1) (h2 : RtO (b ρ1) d o) : RtO (sSeq a b ρ) d o := by
  unfold sSeq; rw [h1]; exact h2
theorem rto_frz {i : Nat} {b : MS} {ρ : DEnv} {d o : D} (h : RtO (b (freeze ρ i)) d o) : RtO (sFrz i b ρ) d o := h
theorem rto_nx {r : RS} {ρ' : DEnv} {o : D} (h : r = .nx ρ') (h0 : ρ'[0]? = some (.own o)) : RtO r .non o := ⟨ρ', .inr ⟨h, rfl⟩, h0⟩
theorem rto_rt {r : RS} {ρ' : DEnv} {d o : D} (h : r = .rt d ρ') (h0 : ρ'[0]? = some (.own o)) : RtO r d o := ⟨ρ', .inl h, h0⟩
/-- statements one by one -/
theorem seq_nx {a b : MS} {ρ ρ1 : DEnv} {r : RS} (h1 : a ρ = .nx ρ1) (h2 : b ρ1 = r) : sSeq a b ρ = r := by
  show (a ρ).seq b = r
  rw [h1]; exact h2
theorem seq_rt {a b : MS} {ρ ρ1 : DEnv} {d : D} (h1 : a ρ = .rt d ρ1) : sSeq a b ρ = .rt d ρ1 := by
  show (a ρ).seq b = _
  rw [h1]; rfl
theorem seq_exc {a b : MS} {ρ ρ1 : DEnv} {x : Exn} (h1 : a ρ = .exc x ρ1) : sSeq a b ρ = .exc x ρ1 := by
  show (a ρ).seq b = _
  rw [h1]; rfl
theorem for_of {fi : M (List D)} {tg : GD} {gb : MS} {ρ ρ1 : DEnv} {ds : List D} {r : RS} (h1 : fi ρ = .ok ds ρ1) (h2 : forLoop tg gb ds ρ1 = r) : sFor fi tg gb ρ = r := by
  show RS.ofT (fi ρ) _ = r
  rw [h1]; exact h2
/-- a for that only appends -/
theorem for_app {β : Type} {tg : GD} {gb : MS} (E : List D → β → DEnv) (g : D → List D) (N : Nat) : ∀ (ds acc : List D) (b : β), acc.length + ds.length ≤ N →
    (∀ d ∈ ds, ∀ (acc : List D) (b : β), acc.length < N → (g d).length ≤ 1 ∧ ∃ ρ1 b', tg d (E acc b) = some ρ1 ∧ (gb ρ1 = .nx (E (acc ++ g d) b') ∨ gb ρ1 = .ct (E (acc ++ g d) b'))) → ∃ b', forLoop tg gb ds (E acc b) = .nx (E (acc ++ ds.flatMap g) b')
  | [], acc, b, _, _ => ⟨b, by simp [forLoop]⟩
  | d :: ds, acc, b, hl, h => by
    rw [List.length_cons] at hl
    obtain ⟨hg, ρ1, b1, h1, h2⟩ := h d (List.mem_cons_self ..) acc b (by omega)
    obtain ⟨b2, IH⟩ := for_app E g N ds (acc ++ g d) b1 (by rw [List.length_append]; omega) fun x hx => h x (List.mem_cons_of_mem _ hx)
    refine ⟨b2, ?_⟩
    rw [List.flatMap_cons, ← List.append_assoc, ← IH]
    show (match tg d (E acc b) with | none => RS.stuck | some ρ1 => match gb ρ1 with
      | .nx ρ2 => forLoop tg gb ds ρ2
      | .ct ρ2 => forLoop tg gb ds ρ2
      | .bk ρ2 => .nx ρ2
      | .rt d ρ2 => .rt d ρ2
      | .exc x ρ2 => .exc x ρ2
      | .stuck => .stuck) = _
    rw [h1]
    dsimp only
    rcases h2 with h2 | h2 <;> rw [h2]
theorem flatMap_one {α β : Type} (g : α → β) : ∀ l : List α, l.flatMap (fun d => [g d]) = l.map g
  | [] => rfl
  | x :: r => by rw [List.flatMap_cons, List.map_cons, flatMap_one g r] <;> rfl
/-- a for that appends one item each round -/
theorem for_map {β : Type} {tg : GD} {gb : MS} (E : List D → β → DEnv) (g : D → D) (N : Nat) (ds acc : List D) (b : β) (hl : acc.length + ds.length ≤ N)
    (h : ∀ d ∈ ds, ∀ (acc : List D) (b : β), acc.length < N → ∃ ρ1 b', tg d (E acc b) = some ρ1 ∧ (gb ρ1 = .nx (E (acc ++ [g d]) b') ∨ gb ρ1 = .ct (E (acc ++ [g d]) b'))) : ∃ b', forLoop tg gb ds (E acc b) = .nx (E (acc ++ ds.map g) b') := by
  have := for_app (tg := tg) (gb := gb) E (fun d => [g d]) N ds acc b hl fun d hd acc b hb => ⟨Nat.le_refl _, h d hd acc b hb⟩
  have e : ds.flatMap (fun d => [g d]) = ds.map g := flatMap_one g ds
  rwa [e] at this
/-- a for that changes nothing but its variables -/
theorem for_keep {β : Type} {tg : GD} {gb : MS} (E : β → DEnv) : ∀ (ds : List D) (b : β), (∀ d ∈ ds, ∀ b : β, ∃ ρ1 b', tg d (E b) = some ρ1 ∧ (gb ρ1 = .nx (E b') ∨ gb ρ1 = .ct (E b'))) → ∃ b', forLoop tg gb ds (E b) = .nx (E b')
  | [], b, _ => ⟨b, rfl⟩
  | d :: ds, b, h => by
    obtain ⟨ρ1, b1, h1, h2⟩ := h d (List.mem_cons_self ..) b
    obtain ⟨b2, IH⟩ := for_keep E ds b1 fun x hx => h x (List.mem_cons_of_mem _ hx)
    refine ⟨b2, ?_⟩
    unfold forLoop
    rw [h1]
    dsimp only
    rcases h2 with h2 | h2 <;> rw [h2] <;> exact IH
/-! ### the same over typed lists -/
theorem lc_of {α : Type} (enc : α → D) {vs : List Nat} {tg : GD} {ft : M Bool} {fe : M D} {ρ : DEnv} (p : α → Bool) (f : α → D) : ∀ (l : List α) (acc : List D), acc.length + l.length ≤ 100000 →
    (∀ a ∈ l, ∃ ρ1, tg (enc a) ρ = some ρ1 ∧ ft ρ1 = .ok (p a) ρ1 ∧ (p a = true → fe ρ1 = .ok (f a) ρ1) ∧ wipeD ρ1 vs = ρ) →
    lcLoop vs tg ft fe (l.map enc) ρ acc = .ok (.lst (acc ++ (l.filter p).map f)) ρ
  | [], acc, _, _ => by simp [lcLoop]
  | d :: ds, acc, hl, h => by
    obtain ⟨ρ1, h1, h2, h3, h4⟩ := h d (List.mem_cons_self ..)
    rw [List.length_cons] at hl
    have IH := fun acc hl => lc_of enc (vs := vs) (tg := tg) (ft := ft) (fe := fe) (ρ := ρ) p f ds acc hl fun x hx => h x (List.mem_cons_of_mem _ hx)
    rw [List.map_cons]
    unfold lcLoop
    rw [h1]
    dsimp only
    rw [h2]
    dsimp only
    by_cases c : p d = true
    · rw [if_pos c, h3 c]
      dsimp only
      rw [if_pos (by omega), h4, IH (acc ++ [f d]) (by rw [List.length_append, List.length_singleton]; omega), List.filter_cons_of_pos c, List.map_cons, List.append_assoc]
      rfl
    · rw [if_neg c, h4, IH acc (by omega), List.filter_cons_of_neg c]
/-- a comprehension without a test -/
theorem lc_map {α : Type} (enc : α → D) {vs : List Nat} {tg : GD} {fe : M D} {ρ : DEnv} (f : α → D) (l : List α) (hl : l.length ≤ 100000)
    (h : ∀ a ∈ l, ∃ ρ1, tg (enc a) ρ = some ρ1 ∧ fe ρ1 = .ok (f a) ρ1 ∧ wipeD ρ1 vs = ρ) : lcLoop vs tg mYes fe (l.map enc) ρ [] = .ok (.lst (l.map f)) ρ := by
  have := lc_of enc (vs := vs) (tg := tg) (ft := mYes) (fe := fe) (ρ := ρ) (fun _ => true) f l [] (by simpa using hl) fun a ha => by
    obtain ⟨ρ1, h1, h2, h3⟩ := h a ha
    exact ⟨ρ1, h1, rfl, fun _ => h2, h3⟩
  rw [this, List.nil_append, List.filter_eq_self.mpr fun _ _ => rfl]
/-- a comprehension whose element may raise, and does not -/
theorem rlc_map {α : Type} (enc : α → D) {vs : List Nat} {tg : GD} {fe : M D} {ρ : DEnv} (f : α → D) : ∀ (l : List α) (acc : List D), acc.length + l.length ≤ 100000 →
    (∀ a ∈ l, ∃ ρ1, tg (enc a) ρ = some ρ1 ∧ fe ρ1 = .ok (f a) ρ1 ∧ wipeD ρ1 vs = ρ) → rlcLoop vs tg fe (l.map enc) ρ acc = .ok (.lst (acc ++ l.map f)) ρ
  | [], acc, _, _ => by simp [rlcLoop]
  | d :: ds, acc, hl, h => by
    obtain ⟨ρ1, h1, h2, h3⟩ := h d (List.mem_cons_self ..)
    rw [List.length_cons] at hl
    rw [List.map_cons]
    unfold rlcLoop
    rw [h1]
    dsimp only
    rw [h2]
    dsimp only
    rw [if_pos (by omega), h3, rlc_map enc f ds (acc ++ [f d]) (by rw [List.length_append, List.length_singleton]; omega) fun x hx => h x (List.mem_cons_of_mem _ hx), List.map_cons, List.append_assoc]
    rfl
/-- a dict comprehension with different keys -/
theorem dput_new {k : List Key} {x : D} {kvs : List (List Key × D)} (h : ∀ p ∈ kvs, p.1 ≠ k) : dputD k x kvs = kvs ++ [(k, x)] := by
  unfold dputD
  rw [if_neg]
  rw [List.any_eq_true]
  rintro ⟨p, hp, e⟩
  exact h p hp (of_decide_eq_true e)
theorem dc_of {α : Type} (enc : α → D) {vs : List Nat} {tg : GD} {fk fv : M D} {ρ : DEnv} (k : α → List Key) (f : α → D) : ∀ (l : List α) (acc : List (List Key × D)), acc.length + l.length ≤ 100000 → (acc.map (·.1) ++ l.map k).Nodup →
    (∀ a ∈ l, ∃ ρ1 d, tg (enc a) ρ = some ρ1 ∧ fk ρ1 = .ok d ρ1 ∧ keyD d = some (k a) ∧ fv ρ1 = .ok (f a) ρ1 ∧ wipeD ρ1 vs = ρ) → dcLoop vs tg mYes fk fv (l.map enc) ρ acc = .ok (.dic (acc ++ l.map fun a => (k a, f a))) ρ
  | [], acc, _, _, _ => by simp [dcLoop]
  | a :: l, acc, hl, nd, h => by
    obtain ⟨ρ1, d, h1, h2, h3, h4, h5⟩ := h a (List.mem_cons_self ..)
    rw [List.length_cons] at hl
    have new : ∀ p ∈ acc, p.1 ≠ k a := fun p hp e => by
      rw [List.map_cons] at nd
      exact (List.nodup_append.mp nd).2.2 p.1 (List.mem_map_of_mem hp) (k a) (List.mem_cons_self ..) e
    rw [List.map_cons]
    unfold dcLoop
    rw [h1]
    dsimp only
    rw [p_mYes]
    dsimp only
    rw [if_pos rfl, h2]
    dsimp only
    rw [h4, h3]
    dsimp only
    rw [if_pos (by omega), h5, dput_new new, dc_of enc k f l (acc ++ [(k a, f a)]) (by rw [List.length_append, List.length_singleton]; omega) (by simpa using nd) fun x hx => h x (List.mem_cons_of_mem _ hx), List.map_cons, List.append_assoc]
    rfl
theorem for_appT {α β γ : Type} (enc : α → D) {tg : GD} {gb : MS} (E : List γ → β → DEnv) (g : α → List γ) (N : Nat) : ∀ (ds : List α) (acc : List γ) (b : β), acc.length + ds.length ≤ N →
    (∀ d ∈ ds, ∀ (acc : List γ) (b : β), acc.length < N → (g d).length ≤ 1 ∧ ∃ ρ1 b', tg (enc d) (E acc b) = some ρ1 ∧ (gb ρ1 = .nx (E (acc ++ g d) b') ∨ gb ρ1 = .ct (E (acc ++ g d) b'))) → ∃ b', forLoop tg gb (ds.map enc) (E acc b) = .nx (E (acc ++ ds.flatMap g) b')
  | [], acc, b, _, _ => ⟨b, by simp [forLoop]⟩
  | d :: ds, acc, b, hl, h => by
    rw [List.length_cons] at hl
    obtain ⟨hg, ρ1, b1, h1, h2⟩ := h d (List.mem_cons_self ..) acc b (by omega)
    obtain ⟨b2, IH⟩ := for_appT enc E g N ds (acc ++ g d) b1 (by rw [List.length_append]; omega) fun x hx => h x (List.mem_cons_of_mem _ hx)
    refine ⟨b2, ?_⟩
    rw [List.flatMap_cons, ← List.append_assoc, ← IH]
    show (match tg (enc d) (E acc b) with | none => RS.stuck | some ρ1 => match gb ρ1 with
      | .nx ρ2 => forLoop tg gb (ds.map enc) ρ2
      | .ct ρ2 => forLoop tg gb (ds.map enc) ρ2
      | .bk ρ2 => .nx ρ2
      | .rt d ρ2 => .rt d ρ2
      | .exc x ρ2 => .exc x ρ2
      | .stuck => .stuck) = _
    rw [h1]
    dsimp only
    rcases h2 with h2 | h2 <;> rw [h2]
theorem for_mapT {α β γ : Type} (enc : α → D) {tg : GD} {gb : MS} (E : List γ → β → DEnv) (g : α → γ) (N : Nat) (ds : List α) (acc : List γ) (b : β) (hl : acc.length + ds.length ≤ N)
    (h : ∀ d ∈ ds, ∀ (acc : List γ) (b : β), acc.length < N → ∃ ρ1 b', tg (enc d) (E acc b) = some ρ1 ∧ (gb ρ1 = .nx (E (acc ++ [g d]) b') ∨ gb ρ1 = .ct (E (acc ++ [g d]) b'))) : ∃ b', forLoop tg gb (ds.map enc) (E acc b) = .nx (E (acc ++ ds.map g) b') := by
  have := for_appT enc (tg := tg) (gb := gb) E (fun d => [g d]) N ds acc b hl fun d hd acc b hb => ⟨Nat.le_refl _, h d hd acc b hb⟩
  have e : ds.flatMap (fun d => [g d]) = ds.map g := flatMap_one g ds
  rwa [e] at this
theorem for_keepT {α β : Type} (enc : α → D) {tg : GD} {gb : MS} (E : β → DEnv) : ∀ (ds : List α) (b : β), (∀ d ∈ ds, ∀ b : β, ∃ ρ1 b', tg (enc d) (E b) = some ρ1 ∧ (gb ρ1 = .nx (E b') ∨ gb ρ1 = .ct (E b'))) → ∃ b', forLoop tg gb (ds.map enc) (E b) = .nx (E b')
  | [], b, _ => ⟨b, rfl⟩
  | d :: ds, b, h => by
    obtain ⟨ρ1, b1, h1, h2⟩ := h d (List.mem_cons_self ..) b
    obtain ⟨b2, IH⟩ := for_keepT enc E ds b1 fun x hx => h x (List.mem_cons_of_mem _ hx)
    refine ⟨b2, ?_⟩
    rw [List.map_cons]
    unfold forLoop
    rw [h1]
    dsimp only
    rcases h2 with h2 | h2 <;> rw [h2] <;> exact IH
/-- a for as a fold, over a typed list, by what is true ahead of the rest -/
theorem for_invT {α : Type} (enc : α → D) {tg : GD} {gb : MS} (I : List α → DEnv → Prop) (h : ∀ d r ρ, I (d :: r) ρ → ∃ ρ1 ρ2, tg (enc d) ρ = some ρ1 ∧ (gb ρ1 = .nx ρ2 ∨ gb ρ1 = .ct ρ2) ∧ I r ρ2) : ∀ (ds : List α) (ρ : DEnv), I ds ρ → ∃ ρ', forLoop tg gb (ds.map enc) ρ = .nx ρ' ∧ I [] ρ'
  | [], ρ, i => ⟨ρ, rfl, i⟩
  | d :: ds, ρ, i => by
    obtain ⟨ρ1, ρ2, h1, h2, i2⟩ := h d ds ρ i
    obtain ⟨ρ', h3, i3⟩ := for_invT enc I h ds ρ2 i2
    refine ⟨ρ', ?_, i3⟩
    rw [List.map_cons]
    unfold forLoop
    rw [h1]
    dsimp only
    rcases h2 with h2 | h2 <;> rw [h2] <;> exact h3
/-- a dict filled in a loop, with different keys -/
theorem for_dput {α β : Type} (enc : α → D) {tg : GD} {gb : MS} (E : List (List Key × D) → β → DEnv) (k : α → List Key) (f : α → D) : ∀ (l : List α) (acc : List (List Key × D)) (b : β), acc.length + l.length ≤ 100000 → (acc.map (·.1) ++ l.map k).Nodup →
    (∀ a ∈ l, ∀ (acc : List (List Key × D)) (b : β), acc.length < 100000 → (∀ p ∈ acc, p.1 ≠ k a) → ∃ ρ1 b', tg (enc a) (E acc b) = some ρ1 ∧ gb ρ1 = .nx (E (dputD (k a) (f a) acc) b')) → ∃ b', forLoop tg gb (l.map enc) (E acc b) = .nx (E (acc ++ l.map fun a => (k a, f a)) b')
  | [], acc, b, _, _, _ => ⟨b, by simp [forLoop]⟩
  | a :: l, acc, b, hl, nd, h => by
    rw [List.length_cons] at hl
    have new : ∀ p ∈ acc, p.1 ≠ k a := fun p hp e => by
      rw [List.map_cons] at nd
      exact (List.nodup_append.mp nd).2.2 p.1 (List.mem_map_of_mem hp) (k a) (List.mem_cons_self ..) e
    obtain ⟨ρ1, b1, h1, h2⟩ := h a (List.mem_cons_self ..) acc b (by omega) new
    rw [dput_new new] at h2
    obtain ⟨b2, IH⟩ := for_dput enc E k f l (acc ++ [(k a, f a)]) b1 (by rw [List.length_append, List.length_singleton]; omega) (by simpa using nd) fun x hx => h x (List.mem_cons_of_mem _ hx)
    refine ⟨b2, ?_⟩
    rw [List.append_assoc] at IH
    rw [List.map_cons, List.map_cons]
    unfold forLoop
    rw [h1]
    dsimp only
    rw [h2]
    exact IH
end PD
set_option maxRecDepth 100000
/-! P4: dicts of rows, circuits. -/
namespace PD
open PySem PySem.Spec PyProof.Rows L2
abbrev Rows := List (Lot × Int)
def kI (l : List Int) : List Key := l.map Sum.inl
def dK (rows : Rows) : List (List Key × D) := rows.map fun x => (kI x.1, .int x.2)
def oD : Option Int → D
  | none => .non
  | some i => .int i
theorem keyDs_DI : ∀ l : List Int, keyDs (DI l) = some (kI l)
  | [] => rfl
  | k :: r => by
    show ((some (Sum.inl k : Key)).bind fun k => (keyDs (DI r)).map fun ks => k :: ks) = _
    rw [keyDs_DI r]
    rfl
@[simp] theorem keyD_dT (l : List Int) : keyD (.tup (DI l)) = some (kI l) := keyDs_DI l
theorem kI_inj {l m : List Int} (h : kI l = kI m) : l = m := by
  unfold kI at h
  exact (List.map_inj_right fun a b e => Sum.inl.inj e).mp h
theorem look_dK (l : List Int) : ∀ rows : Rows, lookD (kI l) (dK rows) = (rows.lookup l).map .int
  | [] => rfl
  | (m, c) :: r => by
    show (if kI m = kI l then some (D.int c) else lookD (kI l) (dK r)) = _
    rw [List.lookup_cons]
    by_cases e : l = m
    · subst e
      rw [if_pos rfl, beq_self_eq_true]
      rfl
    · rw [if_neg fun h => e (kI_inj h).symm, look_dK l r, (beq_eq_false_iff_ne).mpr e]
theorem look_oD (l : List Int) (rows : Rows) : (lookD (kI l) (dK rows)).getD .non = oD (rows.lookup l) := by
  rw [look_dK]
  cases rows.lookup l <;> rfl
theorem vDs_DI : ∀ l : List Int, vDs (DI l) = some (l.map V.int)
  | [] => rfl
  | k :: r => by
    show ((some (V.int k)).bind fun v => (vDs (DI r)).map fun vs => v :: vs) = _
    rw [vDs_DI r]
    rfl
theorem inV_int (k : Int) (l : List Int) : inV (.int k) (l.map V.int) = decide (k ∈ l) := by
  unfold inV
  rw [List.any_map]
  induction l with
  | nil => simp
  | cons x r ih =>
    rw [List.any_cons, ih]
    have : ((fun y => eqV y (V.int k)) ∘ V.int) x = decide (x = k) := by
      show eqV (.int x) (.int k) = _
      unfold eqV
      by_cases e : x = k <;> simp [e]
    rw [this]
    by_cases e : x = k
    · subst e; simp
    · have : ¬ k = x := fun h => e h.symm
      simp [e, this]
@[simp] theorem gIn_T (neg : Bool) (k : Int) (l : List Int) : gIn neg (.int k) (.tup (DI l)) = some (.bl (if neg then !decide (k ∈ l) else decide (k ∈ l))) := by
  show ((some (V.int k)).bind fun v => (vDs (DI l)).map fun vs => D.bl (if neg then !inV v vs else inV v vs)) = _
  rw [vDs_DI]
  show some (D.bl (if neg then !inV (V.int k) (l.map V.int) else inV (V.int k) (l.map V.int))) = _
  rw [inV_int]
@[simp] theorem gIn_L (neg : Bool) (k : Int) (l : List Int) : gIn neg (.int k) (.lst (DI l)) = some (.bl (if neg then !decide (k ∈ l) else decide (k ∈ l))) := gIn_T neg k l
@[simp] theorem gEq_i (neg : Bool) (i j : Int) : gEq neg (.int i) (.int j) = some (.bl (if neg then !decide (i = j) else decide (i = j))) := by
  cases neg with
  | false => exact gEq_int i j
  | true =>
    unfold gEq
    simp [pyD, PyData.eqv, SeqAt.shaped]
    exact ⟨⟨⟨rfl, Nat.le_of_ble_eq_true rfl⟩, rfl, Nat.le_of_ble_eq_true rfl⟩, by by_cases h : i = j <;> simp [h, bne]⟩
/-- without x -/
def rm (l : List Int) (x : Int) : List Int := l.filter fun k => !decide (k = x)
/-- [k for k in lot if k != x] -/
theorem lc_ne {vs : List Nat} {ρ : DEnv} {i j : Nat} (x : Int) (l : List Int) (hl : l.length ≤ 100000) (h : ∀ k : Int, (ρ.set i (.val (.int k)))[i]? = some (.val (.int k)) ∧ (ρ.set i (.val (.int k)))[j]? = some (.val (.int x)) ∧ wipeD (ρ.set i (.val (.int k))) vs = ρ) :
    lcLoop vs (gdN i) (eT (e2 (gEq true) (eVar i) (eVar j))) (eVar i) (DI l) ρ [] = .ok (.lst (DI (rm l x))) ρ := by
  have := lc_of D.int (vs := vs) (tg := gdN i) (ft := eT (e2 (gEq true) (eVar i) (eVar j))) (fe := eVar i) (ρ := ρ) (fun k => !decide (k = x)) D.int l [] (by simp; omega) fun k _ => by
    obtain ⟨h1, h2, h3⟩ := h k
    refine ⟨_, rfl, ?_, fun _ => ?_, h3⟩
    · simp [h1, h2]
    · simp [h1]
  rw [DI, this, List.nil_append]
  rfl
def basesD (n r : Int) (rd : D) (es : List (List Key × D)) : D := .ins 2 [("letters", .int n), ("rank", .int r), ("rows", rd), ("_costs", .dic es)]
theorem cost_ok {n : Nat} (h : n ≤ 6) {l : Lot} (hl : l ∈ lots n) (r : Int) (rd : D) (rows : Rows) : F_Bases_cost [basesD n r rd (dK rows), .lst (DI l)] = .ok (oD (rows.lookup l)) := by
  have q : F_look_lot [.int n, .lst (DI l)] = .ok (dT l) := okq_ok (all_lot (p := fun n l => okq (F_look_lot [.int n, .lst (DI l)]) (dT l)) (by decide +kernel) h hl)
  refine runF_ok (ρ' := [.val (basesD n r rd (dK rows)), .val (.lst (DI l))]) rfl ?_
  have e1 : List.lookup ("letters" : Str) [(("letters" : Str), D.int n), ("rank", .int r), ("rows", rd), ("_costs", .dic (dK rows))] = some (.int n) := rfl
  have e2 : List.lookup ("_costs" : Str) [(("letters" : Str), D.int n), ("rank", .int r), ("rows", rd), ("_costs", .dic (dK rows))] = some (.dic (dK rows)) := rfl
  simp [b_Bases_cost, basesD, e1, e2, q, look_oD]
end PD
set_option maxRecDepth 100000
/-! P5: circuits. -/
namespace PD
open PySem PySem.Spec PyProof.Rows L2
theorem rgD (n : Nat) : ((List.range (n : Int).toNat).map fun i => D.int (0 + (i : Nat))) = (rg n).map D.int := by
  unfold rg
  rw [List.map_map, Int.toNat_natCast]
  exact List.map_congr_left fun i _ => by simp
@[simp] theorem rgD2 (n : Nat) : ((List.range n).map fun i => D.int (i : Nat)) = DI (rg n) := by
  unfold rg DI
  rw [List.map_map]
  rfl
theorem rg_len (n : Nat) : (rg n).length = n := by unfold rg; simp
/-- the entries of a circuit -/
def ent (n : Nat) (rows : Rows) (l : Lot) : List (Option Int) := (rg n).map fun k => if k ∈ l then rows.lookup (rm l k) else none
def dO (es : List (Option Int)) : D := .lst (es.map oD)
theorem lot_ne {n : Nat} (h : n ≤ 6) {l : Lot} (hl : l ∈ lots n) {k : Int} (hk : k ∈ rg n) : rm l k ∈ lots n := by
  have := all_lot (p := fun n l => (rg n).all fun k => decide (rm l k ∈ lots n)) (by decide +kernel) h hl
  exact of_decide_eq_true (List.all_eq_true.mp this k hk)
theorem lot_len {n : Nat} (h : n ≤ 6) {l : Lot} (hl : l ∈ lots n) : l.length ≤ n := by
  have := all_lot (p := fun n l => decide (l.length ≤ n)) (by decide +kernel) h hl
  exact of_decide_eq_true this
theorem lot_rg {n : Nat} (h : n ≤ 6) {l : Lot} (hl : l ∈ lots n) : ∀ k ∈ l, k ∈ rg n := by
  have := all_lot (p := fun n l => l.all fun k => decide (k ∈ rg n)) (by decide +kernel) h hl
  exact fun k hk => of_decide_eq_true (List.all_eq_true.mp this k hk)
theorem letters_at {n r : Int} {rd : D} {es : List (List Key × D)} : List.lookup ("letters" : Str) [(("letters" : Str), D.int n), ("rank", .int r), ("rows", rd), ("_costs", .dic es)] = some (.int n) := rfl
theorem rank_at {n r : Int} {rd : D} {es : List (List Key × D)} : List.lookup ("rank" : Str) [(("letters" : Str), D.int n), ("rank", .int r), ("rows", rd), ("_costs", .dic es)] = some (.int r) := rfl
theorem rows_at {n r : Int} {rd : D} {es : List (List Key × D)} : List.lookup ("rows" : Str) [(("letters" : Str), D.int n), ("rank", .int r), ("rows", rd), ("_costs", .dic es)] = some rd := rfl
theorem costs_at {n r : Int} {rd : D} {es : List (List Key × D)} : List.lookup ("_costs" : Str) [(("letters" : Str), D.int n), ("rank", .int r), ("rows", rd), ("_costs", .dic es)] = some (.dic es) := rfl
theorem cost_at {n r : Int} {rd : D} {es : List (List Key × D)} : List.lookup ("cost" : Str) [(("letters" : Str), D.int n), ("rank", .int r), ("rows", rd), ("_costs", .dic es)] = none := rfl
theorem listed_at {n r : Int} {rd : D} {es : List (List Key × D)} : List.lookup ("listed" : Str) [(("letters" : Str), D.int n), ("rank", .int r), ("rows", rd), ("_costs", .dic es)] = none := rfl
theorem dual_at {n r : Int} {rd : D} {es : List (List Key × D)} : List.lookup ("dual" : Str) [(("letters" : Str), D.int n), ("rank", .int r), ("rows", rd), ("_costs", .dic es)] = none := rfl
theorem lessened_ok {n : Nat} (h : n ≤ 6) {l : Lot} (hl : l ∈ lots n) (r : Int) (rd : D) (rows : Rows) : F_lessened_costs [basesD n r rd (dK rows), dT l] = .ok (dO (ent n rows l)) := by
  obtain ⟨b', hb⟩ := for_mapT D.int (γ := D) (tg := gdN 3) (gb := (sIf (eT (e2 (gIn false) (eVar 3) (eVar 1))) (sApp 2 (eMeth 2 "cost" F_Bases_cost (eVar 0) (aCons (eLc [4] (iSeq (eVar 1)) (gdN 4) (eT (e2 (gEq true) (eVar 4) (eVar 3))) (eVar 4)) aNil))) (sApp 2 (eC .non))))
    (fun acc s => [.val (basesD n r rd (dK rows)), .val (dT l), .own (.lst acc), s, .un]) (fun k => oD (if k ∈ l then rows.lookup (rm l k) else none)) 1000 (rg n) [] Slot.un (by rw [rg_len]; simp; omega) fun k hk acc s ha => by
      refine ⟨_, .val (.int k), rfl, .inl ?_⟩
      have hL := lot_len h hl
      have ha2 : acc.length < 100000 := by omega
      by_cases c : k ∈ l
      · have e := lc_ne (vs := [4]) (ρ := [.val (basesD n r rd (dK rows)), .val (dT l), .own (.lst acc), .val (.int k), .un]) (i := 4) (j := 3) k l (by omega) fun _ => ⟨rfl, rfl, rfl⟩
        have q := cost_ok h (lot_ne h hl hk) r rd rows
        unfold basesD at *
        simp [c, e, q, cost_at, ha2]
      · simp [c, ha2]
        rfl
  refine runF_rt rfl (rt_seq rfl (rt_seq (for_of (ds := DI (rg n)) (ρ1 := [.val (basesD n r rd (dK rows)), .val (dT l), .own (.lst []), .un, .un]) ?_ hb) ?_))
  · have hn : (n : Int) ≤ 100000 := by omega
    unfold basesD
    simp [letters_at, hn]
  · exact ⟨_, by simp [dO, ent]; rfl⟩
theorem has_number_ok (os : List (Option Int)) (hl : os.length ≤ 1000) : F_has_number [dO os] = .ok (.bl (os.any Option.isSome)) := by
  have e := lc_map oD (vs := [1]) (tg := gdN 1) (fe := e2 gNotN (eVar 1) (eC .non)) (ρ := [.val (dO os), .un]) (fun o => .bl o.isSome) os (by omega) fun o _ => by
    refine ⟨_, rfl, ?_, rfl⟩
    cases o <;> simp [oD]
  have hb : boolsD (os.map fun o => D.bl o.isSome) = some (os.map Option.isSome) := by
    clear e hl
    induction os with
    | nil => rfl
    | cons o r ih => simp only [List.map_cons, boolsD, ih]; rfl
  refine runF_ok (ρ' := [.val (dO os), .un]) rfl ?_
  unfold dO at *
  simp [b_has_number, e, cAny, hb, List.any_map]
end PD
set_option maxRecDepth 100000
/-! P6: the law's entries, circuit, refusal, same. -/
namespace PD
open PySem PySem.Spec PyProof.Rows L2
theorem ixN_in {n : Nat} {k : Int} (h : 0 ≤ k ∧ k < n) : ixN n k = some k.toNat := by
  unfold ixN
  rw [if_pos h.1, if_pos h.2]
theorem set_rg {α : Type} {n : Nat} (f : Int → α) {k : Int} (h : 0 ≤ k ∧ k < n) (v : α) : ((rg n).map f).set k.toNat v = (rg n).map fun j => if j = k then v else f j := by
  apply List.ext_getElem?
  intro i
  unfold rg
  rw [List.map_map, List.map_map]
  by_cases e : k.toNat = i
  · subst e
    have l : k.toNat < n := by omega
    rw [List.getElem?_set_self (by simpa using l), List.getElem?_map, List.getElem?_range l]
    have : ((k.toNat : Nat) : Int) = k := by omega
    simp [this]
  · rw [List.getElem?_set_ne e, List.getElem?_map, List.getElem?_map]
    by_cases l : i < n
    · rw [List.getElem?_range l]
      have : ¬ ((i : Nat) : Int) = k := by omega
      simp [this]
    · rw [List.getElem?_eq_none (by simpa using Nat.not_lt.mp l)]
      rfl
theorem rep_non (n : Nat) : List.replicate n D.non = (rg n).map fun _ => D.non := by
  unfold rg
  rw [List.map_map]
  induction n with
  | zero => rfl
  | succ n ih =>
    rw [List.replicate_succ', ih, List.range_succ, List.map_append]
    rfl
theorem entries_ok {n : Nat} (h : n ≤ 6) {l : Lot} (hl : l ∈ lots n) (rows : Rows) : F__law_entries [.int n, .dic (dK rows), dT l] = .ok (dO (ent n rows l)) := by
  have hL := lot_len h hl
  have hR := lot_rg h hl
  obtain ⟨ρ', hf, hi⟩ := for_invT D.int (tg := gdN 4) (gb := (sSeq (sSet 5 (eLc [6] (iSeq (eVar 2)) (gdN 6) (eT (e2 (gEq true) (eVar 6) (eVar 4))) (eVar 6)))
    (sIxSet 3 (eVar 4) (eDGet (eVar 1) (eCall cTuple (aCons (eVar 5) aNil))))))
    (fun rest ρ => ∃ done s4 s5, l = done ++ rest ∧ ρ = [.val (.int n), .val (.dic (dK rows)), .val (dT l), .own (.lst ((rg n).map fun k => if k ∈ done then oD (rows.lookup (rm l k)) else .non)), s4, s5, .un])
    (fun k r ρ hI => by
      obtain ⟨done, s4, s5, e, rfl⟩ := hI
      have hk : k ∈ l := by rw [e]; simp
      have hkr := mem_rg.mp (hR k hk)
      refine ⟨_, [.val (.int n), .val (.dic (dK rows)), .val (dT l), .own (.lst ((rg n).map fun j => if j ∈ done ++ [k] then oD (rows.lookup (rm l j)) else .non)), .val (.int k), .val (.lst (DI (rm l k))), .un], rfl, .inl ?_, done ++ [k], _, _, by rw [e]; simp, rfl⟩
      have q := lc_ne (vs := [6]) (ρ := [.val (.int n), .val (.dic (dK rows)), .val (dT l), .own (.lst ((rg n).map fun k => if k ∈ done then oD (rows.lookup (rm l k)) else .non)), .val (.int k), s5, .un]) (i := 6) (j := 4) k l (by omega) fun _ => ⟨rfl, rfl, rfl⟩
      have z := ixN_in hkr
      have z2 := set_rg (fun k => if k ∈ done then oD (rows.lookup (rm l k)) else .non) hkr (oD (rows.lookup (rm l k)))
      have z3 : (rg n).map (fun j => if j = k then oD (rows.lookup (rm l k)) else if j ∈ done then oD (rows.lookup (rm l j)) else .non) = (rg n).map fun j => if j ∈ done ++ [k] then oD (rows.lookup (rm l j)) else .non := by
        refine List.map_congr_left fun j _ => ?_
        by_cases e : j = k
        · subst e; simp
        · simp [e]
      simp [q, look_oD, rg_len, z, z2, z3])
    l [.val (.int n), .val (.dic (dK rows)), .val (dT l), .own (.lst ((rg n).map fun _ => .non)), .un, .un, .un] ⟨[], .un, .un, rfl, by simp⟩
  obtain ⟨done, s4, s5, e, rfl⟩ := hi
  rw [List.append_nil] at e
  subst e
  have hn : n ≤ 100000 := by omega
  have hn2 : (n : Int) ≤ 100000 := by omega
  refine runF_rt rfl (rt_seq (ρ1 := [.val (.int n), .val (.dic (dK rows)), .val (dT l), .own (.lst ((rg n).map fun _ => .non)), .un, .un, .un]) ?_ (rt_seq (for_of (ds := l.map D.int) (ρ1 := [.val (.int n), .val (.dic (dK rows)), .val (dT l), .own (.lst ((rg n).map fun _ => .non)), .un, .un, .un]) rfl hf) ?_))
  · simp [hn, hn2, rep_non]
  · simp [Rt, dO, ent]
    intro k _
    split <;> rfl
/-- circuit -/
theorem circuit_ok {n : Nat} (h : n ≤ 6) {l : Lot} (hl : l ∈ lots n) {en : D} (he : F_look_lot [.int n, en] = .ok (dT l)) (r : Int) (hr : (l.length : Int) = r + 1) (rd : D) (rows : Rows) (hs : (ent n rows l).any Option.isSome = true) : F_circuit [basesD n r rd (dK rows), en] = .ok (dO (ent n rows l)) := by
  have q1 := lessened_ok h hl r rd rows
  have q2 := has_number_ok (ent n rows l) (by unfold ent; rw [List.length_map, rg_len]; omega)
  rw [hs] at q2
  have q3 : F_look_count [.int l.length, .int (r + 1), .int (r + 1)] = .ok (.int l.length) := by
    refine runF_rt rfl ?_
    simp [Rt, b_look_count, hr]
  refine runF_rt rfl ?_
  unfold basesD at *
  simp [Rt, b_circuit, letters_at, rank_at, he, q1, q2, q3]
theorem circuit_none {n : Nat} (h : n ≤ 6) {l : Lot} (hl : l ∈ lots n) {en : D} (he : F_look_lot [.int n, en] = .ok (dT l)) (r : Int) (hr : (l.length : Int) = r + 1) (rd : D) (rows : Rows) (hs : (ent n rows l).any Option.isSome = false) : F_circuit [basesD n r rd (dK rows), en] = .exc ⟨12, []⟩ := by
  have q1 := lessened_ok h hl r rd rows
  have q2 := has_number_ok (ent n rows l) (by unfold ent; rw [List.length_map, rg_len]; omega)
  rw [hs] at q2
  have q3 : F_look_count [.int l.length, .int (r + 1), .int (r + 1)] = .ok (.int l.length) := by
    refine runF_rt rfl ?_
    simp [Rt, b_look_count, hr]
  refine runF_ex rfl ?_
  unfold basesD at *
  simp [Exr, b_circuit, letters_at, rank_at, he, q1, q2, q3]
theorem circuit_size {n : Nat} {l : Lot} {en : D} (he : F_look_lot [.int n, en] = .ok (dT l)) (r : Int) (hr : (l.length : Int) ≠ r + 1) (rd : D) (rows : Rows) : F_circuit [basesD n r rd (dK rows), en] = .exc ⟨10, [("count", .int l.length)]⟩ := by
  have q3 : F_look_count [.int l.length, .int (r + 1), .int (r + 1)] = .exc ⟨10, [("count", .int l.length)]⟩ := by
    refine runF_ex rfl ?_
    have : ¬ (r + 1 ≤ (l.length : Int) ∧ (l.length : Int) ≤ r + 1) := by omega
    by_cases c : r + 1 ≤ (l.length : Int)
    · have c2 : ¬ (l.length : Int) ≤ r + 1 := by omega
      simp [Exr, b_look_count, c, c2]
    · simp [Exr, b_look_count, c]
  refine runF_ex rfl ?_
  unfold basesD at *
  simp [Exr, b_circuit, letters_at, rank_at, he, q3]
theorem circuit_bad {n : Nat} {en : D} {x : Exn} (he : F_look_lot [.int n, en] = .exc x) (r : Int) (rd : D) (rows : Rows) : F_circuit [basesD n r rd (dK rows), en] = .exc x := by
  refine runF_ex rfl ?_
  unfold basesD at *
  simp [Exr, b_circuit, letters_at, rank_at, he]
/-- refusals -/
theorem refusal_12 {B en : D} (h : F_circuit [B, en] = .exc ⟨12, []⟩) : F__law_refusal [B, en] = .ok (.tup [.str "nothing"]) := by
  refine runF_rt rfl ?_
  simp [Rt, b__law_refusal, h, pick, unI]
theorem refusal_11 {B en : D} {e : Int} (h : F_circuit [B, en] = .exc ⟨11, [("end", .int e)]⟩) : F__law_refusal [B, en] = .ok (.tup [.str "end", .int e]) := by
  have z : List.lookup ("end" : Str) [(("end" : Str), D.int e)] = some (.int e) := rfl
  refine runF_rt rfl ?_
  simp [Rt, b__law_refusal, h, pick, unI, gXf, z]
theorem refusal_10 {B en : D} {e : Int} (h : F_circuit [B, en] = .exc ⟨10, [("count", .int e)]⟩) : F__law_refusal [B, en] = .ok (.tup [.str "size", .int e]) := by
  have z : List.lookup ("count" : Str) [(("count" : Str), D.int e)] = some (.int e) := rfl
  refine runF_rt rfl ?_
  simp [Rt, b__law_refusal, h, pick, unI, gXf, z]
end PD
set_option maxRecDepth 100000
/-! P7: simple data: ==, the law's same. -/
namespace PD
open PySem PySem.Spec PyProof.Rows L2
/-- whole numbers, None, texts, in tuples and lists, k deep -/
def sd : Nat → D → Bool
  | _, .non => true
  | _, .int _ => true
  | _, .str x => PyData.canLay0 (.str x)
  | 0, _ => false
  | k + 1, .tup ds => decide (ds.length ≤ 1000) && ds.all fun d => sd k d
  | k + 1, .lst ds => decide (ds.length ≤ 1000) && ds.all fun d => sd k d
  | _, _ => false
theorem sd_py : ∀ (k : Nat) (d : D), sd k d = true → ∃ p, pyD d = some p ∧ p.canLay0 = true ∧ p.depth ≤ k := by
  intro k
  induction k with
  | zero =>
    intro d h
    cases d with
    | non => exact ⟨_, rfl, rfl, Nat.le_refl _⟩
    | int i => exact ⟨_, rfl, rfl, Nat.le_refl _⟩
    | str x => exact ⟨_, rfl, by simpa [sd] using h, Nat.le_refl _⟩
    | _ => simp [sd] at h
  | succ k ih =>
    have all : ∀ ds : List D, (ds.all fun d => sd k d) = true → ∃ ps, pyDs ds = some ps ∧ PyData.canLayAll0 ps = true ∧ PyData.depthAll ps ≤ k := by
      intro ds
      induction ds with
      | nil => intro _; exact ⟨[], rfl, rfl, Nat.zero_le _⟩
      | cons d r ihr =>
        intro h
        rw [List.all_cons, Bool.and_eq_true] at h
        obtain ⟨p, h1, h2, h3⟩ := ih d h.1
        obtain ⟨ps, g1, g2, g3⟩ := ihr h.2
        refine ⟨p :: ps, ?_, ?_, ?_⟩
        · show ((pyD d).bind fun p => (pyDs r).map fun ps => p :: ps) = _
          rw [h1, g1]; rfl
        · show (PyData.canLay0 p && PyData.canLayAll0 ps) = true
          rw [h2, g2]; rfl
        · show max p.depth (PyData.depthAll ps) ≤ k
          omega
    intro d h
    cases d with
    | non => exact ⟨_, rfl, rfl, Nat.zero_le _⟩
    | int i => exact ⟨_, rfl, rfl, Nat.zero_le _⟩
    | str x => exact ⟨_, rfl, by simpa [sd] using h, Nat.zero_le _⟩
    | tup ds =>
      rw [sd, Bool.and_eq_true] at h
      obtain ⟨ps, g1, g2, g3⟩ := all ds h.2
      refine ⟨.tuple ps, ?_, g2, ?_⟩
      · show (pyDs ds).map PyData.tuple = _
        rw [g1]; rfl
      · show PyData.depthAll ps + 1 ≤ k + 1
        omega
    | lst ds =>
      rw [sd, Bool.and_eq_true] at h
      obtain ⟨ps, g1, g2, g3⟩ := all ds h.2
      refine ⟨.list ps, ?_, g2, ?_⟩
      · show (pyDs ds).map PyData.list = _
        rw [g1]; rfl
      · show PyData.depthAll ps + 1 ≤ k + 1
        omega
    | _ => simp [sd] at h
theorem eqv_all (k : Nat) (ih : ∀ d d' p p', sd k d = true → sd k d' = true → pyD d = some p → pyD d' = some p' → PyData.eqv p p' = deq d d') : ∀ (ds ds' : List D) (ps ps' : List PyData), (ds.all fun d => sd k d) = true → (ds'.all fun d => sd k d) = true → pyDs ds = some ps → pyDs ds' = some ps' → PyData.eqvAll ps ps' = deqs ds ds' := by
  intro ds
  induction ds with
  | nil =>
    intro ds' ps ps' _ h' e e'
    cases e
    cases ds' with
    | nil => cases e'; rfl
    | cons d' r' =>
      rw [List.all_cons, Bool.and_eq_true] at h'
      obtain ⟨q, h1, _, _⟩ := sd_py k d' h'.1
      have e'' : ((pyD d').bind fun p => (pyDs r').map fun ps => p :: ps) = some ps' := e'
      rw [h1] at e''
      cases z : pyDs r' with
      | none => rw [z] at e''; cases e''
      | some qs => rw [z] at e''; cases e''; rfl
  | cons d r ihr =>
    intro ds' ps ps' h h' e e'
    rw [List.all_cons, Bool.and_eq_true] at h
    obtain ⟨q, h1, _, _⟩ := sd_py k d h.1
    have e2 : ((pyD d).bind fun p => (pyDs r).map fun ps => p :: ps) = some ps := e
    rw [h1] at e2
    cases z : pyDs r with
    | none => rw [z] at e2; cases e2
    | some qs =>
      rw [z] at e2; cases e2
      cases ds' with
      | nil => cases e'; rfl
      | cons d' r' =>
        rw [List.all_cons, Bool.and_eq_true] at h'
        obtain ⟨q', h1', _, _⟩ := sd_py k d' h'.1
        have e3 : ((pyD d').bind fun p => (pyDs r').map fun ps => p :: ps) = some ps' := e'
        rw [h1'] at e3
        cases z' : pyDs r' with
        | none => rw [z'] at e3; cases e3
        | some qs' =>
          rw [z'] at e3; cases e3
          show (PyData.eqv q q' && PyData.eqvAll qs qs') = (deq d d' && deqs r r')
          rw [ih d d' q q' h.1 h'.1 h1 h1', ihr r' qs qs' h.2 h'.2 z z']
theorem eqv_deq : ∀ (k : Nat) (d d' : D) (p p' : PyData), sd k d = true → sd k d' = true → pyD d = some p → pyD d' = some p' → PyData.eqv p p' = deq d d' := by
  intro k
  have atom : ∀ d d' p p', (∀ ds, d ≠ .tup ds) → (∀ ds, d ≠ .lst ds) → sd k d = true → sd k d' = true → pyD d = some p → pyD d' = some p' → PyData.eqv p p' = deq d d' := by
    intro d d' p p' n1 n2 h h' e e'
    have tupd' : ∀ ds, pyD (.tup ds) = some p' → ∃ ps, p' = .tuple ps := fun ds e => by
      have e2 : (pyDs ds).map PyData.tuple = some p' := e
      cases z : pyDs ds with
      | none => rw [z] at e2; cases e2
      | some qs => rw [z] at e2; cases e2; exact ⟨qs, rfl⟩
    have lstd' : ∀ ds, pyD (.lst ds) = some p' → ∃ ps, p' = .list ps := fun ds e => by
      have e2 : (pyDs ds).map PyData.list = some p' := e
      cases z : pyDs ds with
      | none => rw [z] at e2; cases e2
      | some qs => rw [z] at e2; cases e2; exact ⟨qs, rfl⟩
    cases d with
    | tup ds => exact (n1 ds rfl).elim
    | lst ds => exact (n2 ds rfl).elim
    | bl b => cases k <;> simp [sd] at h
    | dic a => cases k <;> simp [sd] at h
    | ins a b => cases k <;> simp [sd] at h
    | scr a => cases k <;> simp [sd] at h
    | non =>
      cases e
      cases d' with
      | bl b => cases k <;> simp [sd] at h'
      | dic a => cases k <;> simp [sd] at h'
      | ins a b => cases k <;> simp [sd] at h'
      | scr a => cases k <;> simp [sd] at h'
      | tup ds => obtain ⟨ps, rfl⟩ := tupd' ds e'; rfl
      | lst ds => obtain ⟨ps, rfl⟩ := lstd' ds e'; rfl
      | _ => cases e'; rfl
    | int i =>
      cases e
      cases d' with
      | bl b => cases k <;> simp [sd] at h'
      | dic a => cases k <;> simp [sd] at h'
      | ins a b => cases k <;> simp [sd] at h'
      | scr a => cases k <;> simp [sd] at h'
      | tup ds => obtain ⟨ps, rfl⟩ := tupd' ds e'; rfl
      | lst ds => obtain ⟨ps, rfl⟩ := lstd' ds e'; rfl
      | int j => cases e'; show (i == j) = decide (i = j); by_cases q : i = j <;> simp [q]
      | _ => cases e'; rfl
    | str x =>
      cases e
      cases d' with
      | bl b => cases k <;> simp [sd] at h'
      | dic a => cases k <;> simp [sd] at h'
      | ins a b => cases k <;> simp [sd] at h'
      | scr a => cases k <;> simp [sd] at h'
      | tup ds => obtain ⟨ps, rfl⟩ := tupd' ds e'; rfl
      | lst ds => obtain ⟨ps, rfl⟩ := lstd' ds e'; rfl
      | str y => cases e'; show (x == y) = decide (x = y); by_cases q : x = y <;> simp [q]
      | _ => cases e'; rfl
  induction k with
  | zero =>
    intro d d' p p' h h' e e'
    refine atom d d' p p' ?_ ?_ h h' e e'
    · rintro ds rfl; simp [sd] at h
    · rintro ds rfl; simp [sd] at h
  | succ k ih0 =>
    have ih : ∀ d d' p p', sd k d = true → sd k d' = true → pyD d = some p → pyD d' = some p' → PyData.eqv p p' = deq d d' := by
      refine ih0 ?_
      intro d d' p p' n1 n2 h h' e e'
      have up : ∀ (j : Nat) (x : D), sd j x = true → sd (j + 1) x = true := by
        intro j
        induction j with
        | zero =>
          intro x hx
          cases x with
          | non => rfl
          | int i => rfl
          | str y => simpa [sd] using hx
          | _ => simp [sd] at hx
        | succ j ihj =>
          intro x hx
          cases x with
          | non => rfl
          | int i => rfl
          | str y => simpa [sd] using hx
          | tup ds =>
            rw [sd, Bool.and_eq_true] at hx ⊢
            exact ⟨hx.1, List.all_eq_true.mpr fun y hy => ihj y (List.all_eq_true.mp hx.2 y hy)⟩
          | lst ds =>
            rw [sd, Bool.and_eq_true] at hx ⊢
            exact ⟨hx.1, List.all_eq_true.mpr fun y hy => ihj y (List.all_eq_true.mp hx.2 y hy)⟩
          | _ => simp [sd] at hx
      exact atom d d' p p' n1 n2 (up k d h) (up k d' h') e e'
    intro d d' p p' h h' e e'
    by_cases n1 : ∃ ds, d = .tup ds
    · obtain ⟨ds, rfl⟩ := n1
      rw [sd, Bool.and_eq_true] at h
      have e2 : (pyDs ds).map PyData.tuple = some p := e
      cases z : pyDs ds with
      | none => rw [z] at e2; cases e2
      | some ps =>
        rw [z] at e2; cases e2
        cases d' with
        | tup ds' =>
          rw [sd, Bool.and_eq_true] at h'
          have e3 : (pyDs ds').map PyData.tuple = some p' := e'
          cases z' : pyDs ds' with
          | none => rw [z'] at e3; cases e3
          | some ps' =>
            rw [z'] at e3; cases e3
            exact eqv_all k ih ds ds' ps ps' h.2 h'.2 z z'
        | lst ds' =>
          have e3 : (pyDs ds').map PyData.list = some p' := e'
          cases z' : pyDs ds' with
          | none => rw [z'] at e3; cases e3
          | some ps' => rw [z'] at e3; cases e3; rfl
        | non => cases e'; rfl
        | int i => cases e'; rfl
        | str x => cases e'; rfl
        | _ => simp [sd] at h'
    · by_cases n2 : ∃ ds, d = .lst ds
      · obtain ⟨ds, rfl⟩ := n2
        rw [sd, Bool.and_eq_true] at h
        have e2 : (pyDs ds).map PyData.list = some p := e
        cases z : pyDs ds with
        | none => rw [z] at e2; cases e2
        | some ps =>
          rw [z] at e2; cases e2
          cases d' with
          | lst ds' =>
            rw [sd, Bool.and_eq_true] at h'
            have e3 : (pyDs ds').map PyData.list = some p' := e'
            cases z' : pyDs ds' with
            | none => rw [z'] at e3; cases e3
            | some ps' =>
              rw [z'] at e3; cases e3
              exact eqv_all k ih ds ds' ps ps' h.2 h'.2 z z'
          | tup ds' =>
            have e3 : (pyDs ds').map PyData.tuple = some p' := e'
            cases z' : pyDs ds' with
            | none => rw [z'] at e3; cases e3
            | some ps' => rw [z'] at e3; cases e3; rfl
          | non => cases e'; rfl
          | int i => cases e'; rfl
          | str x => cases e'; rfl
          | _ => simp [sd] at h'
      · exact atom d d' p p' (fun ds e => n1 ⟨ds, e⟩) (fun ds e => n2 ⟨ds, e⟩) h h' e e'
/-- == of simple data -/
theorem gEq_sd {k : Nat} (hk : k ≤ 64) {d d' : D} (h : sd k d = true) (h' : sd k d' = true) (neg : Bool) : gEq neg d d' = some (.bl (if neg then !deq d d' else deq d d')) := by
  obtain ⟨p, e1, e2, e3⟩ := sd_py k d h
  obtain ⟨q, f1, f2, f3⟩ := sd_py k d' h'
  have s1 : SeqAt.shaped p = true := by
    unfold SeqAt.shaped
    rw [e2, decide_eq_true (by omega)]
    rfl
  have s2 : SeqAt.shaped q = true := by
    unfold SeqAt.shaped
    rw [f2, decide_eq_true (by omega)]
    rfl
  show ((pyD d).bind fun p => (pyD d').bind fun q => if SeqAt.shaped p = true ∧ SeqAt.shaped q = true then some (D.bl (if neg then !PyData.eqv p q else PyData.eqv p q)) else none) = _
  rw [e1, f1]
  show (if SeqAt.shaped p = true ∧ SeqAt.shaped q = true then some (D.bl (if neg then !PyData.eqv p q else PyData.eqv p q)) else none) = _
  rw [if_pos ⟨s1, s2⟩, eqv_deq k d d' p q h h' e1 f1]
mutual
theorem deq_self : ∀ (k : Nat) (d : D), sd k d = true → deq d d = true
  | k, .non, h => rfl
  | k, .int i, h => decide_eq_true rfl
  | k, .str x, h => decide_eq_true rfl
  | 0, .tup ds, h => by simp [sd] at h
  | 0, .lst ds, h => by simp [sd] at h
  | k + 1, .tup ds, h => by
    rw [sd, Bool.and_eq_true] at h
    exact deqs_self k ds h.2
  | k + 1, .lst ds, h => by
    rw [sd, Bool.and_eq_true] at h
    exact deqs_self k ds h.2
  | k, .bl b, h => by cases k <;> simp [sd] at h
  | k, .dic b, h => by cases k <;> simp [sd] at h
  | k, .ins b c, h => by cases k <;> simp [sd] at h
  | k, .scr b, h => by cases k <;> simp [sd] at h
theorem deqs_self : ∀ (k : Nat) (ds : List D), (ds.all fun d => sd k d) = true → deqs ds ds = true
  | k, [], _ => rfl
  | k, d :: r, h => by
    rw [List.all_cons, Bool.and_eq_true] at h
    show (deq d d && deqs r r) = true
    rw [deq_self k d h.1, deqs_self k r h.2]
    rfl
end
/-! ### the law's same, of a datum and itself -/
theorem vDs_bls : ∀ l : List Bool, vDs (l.map D.bl) = some (l.map V.bl)
  | [] => rfl
  | k :: r => by
    show ((some (V.bl k)).bind fun v => (vDs (r.map D.bl)).map fun vs => v :: vs) = _
    rw [vDs_bls r]
    rfl
theorem not_false_in (n : Nat) : gIn true (.bl false) (.lst ((List.range n).map fun _ => D.bl true)) = some (.bl true) := by
  have e : ((List.range n).map fun _ => D.bl true) = ((List.range n).map fun _ => true).map D.bl := by rw [List.map_map]; rfl
  rw [e]
  show ((some (V.bl false)).bind fun v => (vDs (((List.range n).map fun _ => true).map D.bl)).map fun vs => D.bl (!inV v vs)) = _
  rw [vDs_bls]
  have z : inV (V.bl false) (((List.range n).map fun _ => true).map V.bl) = false := by
    unfold inV
    rw [List.map_map, List.any_map, List.any_eq_false]
    intro x _
    show ¬ eqV (.bl true) (.bl false) = true
    decide
  show some (D.bl (!inV (V.bl false) (((List.range n).map fun _ => true).map V.bl))) = _
  rw [z]
  rfl
@[simp] theorem gEq_bl (neg a b : Bool) : gEq neg (.bl a) (.bl b) = some (.bl (if neg then !decide (a = b) else decide (a = b))) := by
  cases neg <;> cases a <;> cases b <;> rfl
theorem same_list {G : List D → RF} {ds : List D} (mk : List D → D) (hmk : mk = D.lst ∨ mk = D.tup) (hl : ds.length ≤ 1000) (hG : ∀ d ∈ ds, G [d, d] = .ok (.bl true)) : runF 3 2 (b__law_same G) [mk ds, mk ds] = .ok (.bl true) := by
  have e := lc_map (fun i : Nat => D.int (i : Nat)) (vs := [2]) (tg := gdN 2) (fe := eFn G (aCons (e2 gIx (eVar 0) (eVar 2)) (aCons (e2 gIx (eVar 1) (eVar 2)) aNil))) (ρ := [.val (mk ds), .val (mk ds), .un]) (fun _ => .bl true) (List.range ds.length) (by simp; omega) fun i hi => by
    have li : i < ds.length := List.mem_range.mp hi
    have z : atI ds (i : Int) = some ds[i] := atI_nat (List.getElem?_eq_getElem li)
    refine ⟨_, rfl, ?_, rfl⟩
    have g := hG ds[i] (List.getElem_mem li)
    rcases hmk with rfl | rfl <;> simp [z, g]
  have l2 : (ds.length : Int) ≤ 100000 := by omega
  have nf := not_false_in ds.length
  rw [rgD2] at e
  refine runF_rt rfl ?_
  rcases hmk with rfl | rfl
  · simp [Rt, b__law_same, tyD, isB, isNon, l2, e, nf]
  · simp [Rt, b__law_same, tyD, isB, isNon, l2, e, nf]
theorem same_refl : ∀ (k : Nat) (d : D), sd k d = true → F__law_same_n (k + 1) [d, d] = .ok (.bl true) := by
  intro k
  have at0 : ∀ (j : Nat) (d : D), sd k d = true → (∀ ds, d ≠ .tup ds) → (∀ ds, d ≠ .lst ds) → F__law_same_n (j + 1) [d, d] = .ok (.bl true) := by
    intro j d h n1 n2
    cases d with
    | non => refine runF_rt rfl ?_; simp [Rt, b__law_same]
    | int i => refine runF_rt rfl ?_; simp [Rt, b__law_same, tyD, isB]
    | str x =>
      have q := gEq_sd (k := 0) (by decide) (d := .str x) (d' := .str x) (by cases k <;> exact h) (by cases k <;> exact h) false
      have q2 : deq (.str x) (.str x) = true := decide_eq_true rfl
      rw [q2] at q
      refine runF_rt rfl ?_
      simp [Rt, b__law_same, tyD, isB, q, isNon]
    | tup ds => exact (n1 ds rfl).elim
    | lst ds => exact (n2 ds rfl).elim
    | _ => cases k <;> simp [sd] at h
  induction k with
  | zero =>
    intro d h
    refine at0 0 d h ?_ ?_
    · rintro ds rfl; simp [sd] at h
    · rintro ds rfl; simp [sd] at h
  | succ k ih =>
    have ih' : ∀ d, sd k d = true → F__law_same_n (k + 1) [d, d] = .ok (.bl true) := by
      refine ih ?_
      intro j d h n1 n2
      refine at0 j d ?_ n1 n2
      cases d with
      | tup ds => exact (n1 ds rfl).elim
      | lst ds => exact (n2 ds rfl).elim
      | non => rfl
      | int i => rfl
      | str x => cases k <;> exact h
      | _ => cases k <;> simp [sd] at h
    intro d h
    by_cases n1 : ∃ ds, d = .tup ds
    · obtain ⟨ds, rfl⟩ := n1
      rw [sd, Bool.and_eq_true] at h
      exact same_list D.tup (.inr rfl) (of_decide_eq_true h.1) fun e he => ih' e (List.all_eq_true.mp h.2 e he)
    · by_cases n2 : ∃ ds, d = .lst ds
      · obtain ⟨ds, rfl⟩ := n2
        rw [sd, Bool.and_eq_true] at h
        exact same_list D.lst (.inl rfl) (of_decide_eq_true h.1) fun e he => ih' e (List.all_eq_true.mp h.2 e he)
      · exact at0 (k + 1) d h (fun ds e => n1 ⟨ds, e⟩) fun ds e => n2 ⟨ds, e⟩
/-- the law's same says yes of a datum and itself -/
theorem law_same_ok {d : D} (h : sd 5 d = true) : F__law_same [d, d] = .ok (.bl true) := same_refl 5 d h
end PD
set_option maxRecDepth 100000
/-! P8: circuits, the law's look at circuits. -/
namespace PD
open PySem PySem.Spec PyProof.Rows L2
def dR (x : Lot × Int) : D := .tup [dT x.1, .int x.2]
def dF (x : Lot × List (Option Int)) : D := .tup [dT x.1, dO x.2]
/-- lots in the program's order -/
def layer (n : Nat) : Nat → List Lot
  | 0 => [[]]
  | k + 1 => (layer n k).flatMap fun l => ((rg n).filter fun m => l.all fun j => decide (j < m)).map fun m => l ++ [m]
def lotsB (n : Nat) : List Lot := (List.range (n + 1)).flatMap (layer n)
theorem lots_below_ok {n : Nat} (h : n ≤ 6) : F_lots_below [.int n] = .ok (.lst ((lotsB n).map fun l => dT l)) :=
  okq_ok (all_le (p := fun n => okq (F_lots_below [.int n]) (.lst ((lotsB n).map fun l => dT l))) (k := 6) (by decide +kernel) h)
theorem lotsB_sub {n : Nat} (h : n ≤ 6) : ∀ l ∈ lotsB n, l ∈ lots n := by
  have := all_le (p := fun n => (lotsB n).all fun l => decide (l ∈ lots n)) (k := 6) (by decide +kernel) h
  exact fun l hl => of_decide_eq_true (List.all_eq_true.mp this l hl)
theorem lotsB_len {n : Nat} (h : n ≤ 6) : (lotsB n).length ≤ 64 := by
  have := all_le (p := fun n => decide ((lotsB n).length ≤ 64)) (k := 6) (by decide +kernel) h
  exact of_decide_eq_true this
/-- the lots in order -/
def lexB : Lot → Lot → Bool
  | [], _ => true
  | _ :: _, [] => false
  | x :: r, y :: s => decide (x < y) || (decide (x = y) && lexB r s)
def insL (l : Lot) : List Lot → List Lot
  | [] => [l]
  | m :: r => if lexB l m then l :: m :: r else m :: insL l r
def slots (n : Nat) : List Lot := (lots n).foldr insL []
theorem sort_lots {n : Nat} (h : n ≤ 6) : cSort [.lst ((lots n).map fun l => dT l)] = some (.lst ((slots n).map fun l => dT l)) := by
  have c1 := all_le (p := fun n => (((lots n).map fun l => dT l).all fun d => (pyD d).isSome) && srtB (((lots n).map fun l => dT l).map kD)) (k := 6) (by decide +kernel) h
  rw [Bool.and_eq_true] at c1
  have c2 := all_le (p := fun n => (lots n).isPerm (slots n)) (k := 6) (by decide +kernel) h
  have c3 : ∀ a ∈ slots n, ∀ b ∈ slots n, lexB a b = PySem.W.dataLe false kD (dT a) (dT b) := by
    have := all_le (p := fun n => (slots n).all fun a => (slots n).all fun b => lexB a b == PySem.W.dataLe false kD (dT a) (dT b)) (k := 6) (by decide +kernel) h
    exact fun a ha b hb => eq_of_beq (List.all_eq_true.mp (List.all_eq_true.mp this a ha) b hb)
  have c4 : ∀ a ∈ slots n, ∀ b ∈ slots n, lexB a b = true → lexB b a = true → a = b := by
    have := all_le (p := fun n => (slots n).all fun a => (slots n).all fun b => !(lexB a b) || (!(lexB b a) || decide (a = b))) (k := 6) (by decide +kernel) h
    intro a ha b hb e1 e2
    have z := List.all_eq_true.mp (List.all_eq_true.mp this a ha) b hb
    rw [e1, e2] at z
    exact of_decide_eq_true (by simpa using z)
  have c5 : (slots n).Pairwise fun a b => lexB a b = true := by
    have := all_le (p := fun n => decide ((slots n).Pairwise fun a b => lexB a b = true)) (k := 6) (by decide +kernel) h
    exact of_decide_eq_true this
  have hp : (lots n).Perm (slots n) := List.isPerm_iff.mp c2
  unfold cSort
  dsimp only
  rw [if_pos ⟨c1.1, c1.2⟩]
  have tot := PySem.W.sortLe_total (listOrd itemOrd) false fun d : D => PySem.W.keyToks (kD d)
  have hs : ((lots n).map fun l => dT l).mergeSort (PySem.W.dataLe false kD) = (slots n).map fun l => dT l := by
    refine List.Perm.eq_of_pairwise (le := fun a b => PySem.W.dataLe false kD a b = true) ?_ (List.pairwise_mergeSort tot.trans (fun a b => by simpa using tot.total a b) _) ?_ ((List.mergeSort_perm _ _).trans (hp.map _))
    · intro a b ha hb e1 e2
      have ha' := (List.mergeSort_perm _ _).mem_iff.mp ha
      obtain ⟨x, hx, rfl⟩ := List.mem_map.mp ha'
      obtain ⟨y, hy, rfl⟩ := List.mem_map.mp hb
      have hx' := hp.mem_iff.mp hx
      rw [← c3 x hx' y hy] at e1
      rw [← c3 y hy x hx'] at e2
      rw [c4 x hx' y hy e1 e2]
    · rw [List.pairwise_map]
      refine c5.imp_of_mem fun {a b} ha hb e => ?_
      rw [← c3 a ha b hb]; exact e
  rw [hs]
end PD
set_option maxRecDepth 100000
/-! P9: circuits, the law's look at circuits. -/
namespace PD
open PySem PySem.Spec PyProof.Rows L2
def fcond (n r : Nat) (rows : Rows) (l : Lot) : Bool := decide (l.length = r + 1) && (ent n rows l).any Option.isSome
def fone (n r : Nat) (rows : Rows) (l : Lot) : List (Lot × List (Option Int)) := if fcond n r rows l = true then [(l, ent n rows l)] else []
def found (n r : Nat) (rows : Rows) (ls : List Lot) : List (Lot × List (Option Int)) := ls.flatMap (fone n r rows)
theorem found_filter (n r : Nat) (rows : Rows) : ∀ ls : List Lot, found n r rows ls = found n r rows (ls.filter fun l => decide (l.length = r + 1))
  | [] => rfl
  | l :: ls => by
    have ih := found_filter n r rows ls
    unfold found at ih ⊢
    rw [List.flatMap_cons, List.filter_cons]
    by_cases c : l.length = r + 1
    · rw [if_pos (decide_eq_true c), List.flatMap_cons, ih]
    · have z : fone n r rows l = [] := by unfold fone fcond; rw [decide_eq_false c]; rfl
      rw [if_neg (by simpa using c), z, ih]
      rfl
theorem found_same {n : Nat} (h : n ≤ 6) (r : Nat) (rows : Rows) : found n r rows (slots n) = found n r rows (lotsB n) := by
  rw [found_filter, found_filter n r rows (lotsB n)]
  by_cases hr : r + 1 ≤ 6
  · have := all_le (p := fun n => (List.range 7).all fun m => decide ((slots n).filter (fun l => decide (l.length = m)) = (lotsB n).filter fun l => decide (l.length = m))) (k := 6) (by decide +kernel) h
    have e := of_decide_eq_true (List.all_eq_true.mp this (r + 1) (List.mem_range.mpr (by omega)))
    rw [e]
  · have z1 : (slots n).filter (fun l => decide (l.length = r + 1)) = [] := List.filter_eq_nil_iff.mpr fun l hl => by
      have := all_le (p := fun n => (slots n).all fun l => decide (l.length ≤ 6)) (k := 6) (by decide +kernel) h
      have e := of_decide_eq_true (List.all_eq_true.mp this l hl)
      simp; omega
    have z2 : (lotsB n).filter (fun l => decide (l.length = r + 1)) = [] := List.filter_eq_nil_iff.mpr fun l hl => by
      have := all_le (p := fun n => (lotsB n).all fun l => decide (l.length ≤ 6)) (k := 6) (by decide +kernel) h
      have e := of_decide_eq_true (List.all_eq_true.mp this l hl)
      simp; omega
    rw [z1, z2]
theorem ent_len (n : Nat) (rows : Rows) (l : Lot) : (ent n rows l).length = n := by unfold ent; rw [List.length_map, rg_len]
theorem circuits_ok {n : Nat} (h : n ≤ 6) (r : Nat) (rd : D) (rows : Rows) : F_circuits [basesD n r rd (dK rows)] = .ok (.lst ((found n r rows (lotsB n)).map dF)) := by
  obtain ⟨b', hb⟩ := for_appT (fun l : Lot => dT l) (γ := Lot × List (Option Int)) (tg := gdN 2) (gb := (sIf (eT (e2 (gEq false) (eCall cLen (aCons (eVar 2) aNil)) (e2 (gI fun i j => i + j) (eFld 2 "rank" (eVar 0)) (eC (.int 1))))) (sSeq (sSet 3 (eFn F_lessened_costs (aCons (eVar 0) (aCons (eVar 2) aNil))))
    (sIf (eT (eFn F_has_number (aCons (eVar 3) aNil))) (sApp 1 (eTup (aCons (eVar 2) (aCons (eVar 3) aNil)))) sSkip)) sSkip))
    (fun acc (s : Slot × Slot) => [.val (basesD n r rd (dK rows)), .own (.lst (acc.map dF)), s.1, s.2]) (fone n r rows) 1000 (lotsB n) [] (Slot.un, Slot.un) (by have := lotsB_len h; simp; omega) fun l hl acc s ha => by
      have ha2 : acc.length < 100000 := by omega
      have hl' := lotsB_sub h l hl
      refine ⟨by unfold fone; split <;> simp, ?_⟩
      by_cases c : l.length = r + 1
      · have q1 := lessened_ok h hl' r rd rows
        have q2 := has_number_ok (ent n rows l) (by rw [ent_len]; omega)
        refine ⟨_, (.val (dT l), .val (dO (ent n rows l))), rfl, .inl ?_⟩
        have c' : (l.length : Int) = r + 1 := by omega
        cases c2 : (ent n rows l).any Option.isSome with
        | true =>
          rw [c2] at q2
          have z : fone n r rows l = [(l, ent n rows l)] := by unfold fone fcond; rw [decide_eq_true c, c2]; rfl
          unfold basesD at *
          simp [rank_at, c', q1, q2, z, ha2, dF]
        | false =>
          rw [c2] at q2
          have z : fone n r rows l = [] := by unfold fone fcond; rw [c2, Bool.and_false]; rfl
          unfold basesD at *
          simp [rank_at, c', q1, q2, z]
      · refine ⟨_, (.val (dT l), s.2), rfl, .inl ?_⟩
        have c' : ¬ (l.length : Int) = r + 1 := by omega
        have z : fone n r rows l = [] := by unfold fone fcond; rw [decide_eq_false c]; rfl
        unfold basesD at *
        simp [rank_at, c', z]
  refine runF_rt rfl (rt_seq rfl (rt_seq (for_of (ds := (lotsB n).map fun l => dT l) (ρ1 := [.val (basesD n r rd (dK rows)), .own (.lst []), .un, .un]) ?_ hb) ?_))
  · have q := lots_below_ok h
    unfold basesD
    simp [letters_at, q]
  · simp [Rt, found]
theorem sd_T {n : Nat} (h : n ≤ 6) {l : Lot} (hl : l ∈ lots n) (k : Nat) : sd (k + 1) (dT l) = true := by
  have := lot_len h hl
  rw [sd, decide_eq_true (by rw [List.length_map]; omega), List.all_map, Bool.true_and, List.all_eq_true]
  intro x _
  cases k <;> rfl
theorem sd_O (es : List (Option Int)) (hl : es.length ≤ 1000) (k : Nat) : sd (k + 1) (dO es) = true := by
  unfold dO
  rw [sd, decide_eq_true (by rw [List.length_map]; omega), List.all_map, Bool.true_and, List.all_eq_true]
  intro x _
  cases x <;> cases k <;> rfl
theorem found_mem {n r : Nat} {rows : Rows} {ls : List Lot} {x : Lot × List (Option Int)} (h : x ∈ found n r rows ls) : x.1 ∈ ls ∧ x.2 = ent n rows x.1 := by
  unfold found at h
  obtain ⟨l, hl, hx⟩ := List.mem_flatMap.mp h
  unfold fone at hx
  split at hx
  · rw [List.mem_singleton.mp hx]; exact ⟨hl, rfl⟩
  · cases hx
theorem found_len (n r : Nat) (rows : Rows) : ∀ ls : List Lot, (found n r rows ls).length ≤ ls.length
  | [] => Nat.le_refl _
  | l :: ls => by
    have ih := found_len n r rows ls
    unfold found at ih ⊢
    rw [List.flatMap_cons, List.length_append, List.length_cons]
    have : (fone n r rows l).length ≤ 1 := by unfold fone; split <;> simp
    omega
theorem sd_found {n : Nat} (h : n ≤ 6) (r : Nat) (rows : Rows) : sd 5 (.lst ((found n r rows (lotsB n)).map dF)) = true := by
  have l1 := found_len n r rows (lotsB n)
  have l2 := lotsB_len h
  rw [sd, decide_eq_true (by rw [List.length_map]; omega), List.all_map, Bool.true_and, List.all_eq_true]
  intro x hx
  obtain ⟨h1, h2⟩ := found_mem hx
  show sd 4 (dF x) = true
  unfold dF
  rw [sd, decide_eq_true (by simp), List.all_cons, List.all_cons, sd_T h (lotsB_sub h _ h1), sd_O _ (by rw [h2, ent_len]; omega)]
  rfl
theorem told_found {n : Nat} (h : n ≤ 6) (r : Nat) (rows : Rows) : toldOk (.lst ((found n r rows (lotsB n)).map dF)) = true := by
  have l1 := found_len n r rows (lotsB n)
  have l2 := lotsB_len h
  unfold toldOk
  rw [List.all_eq_true]
  intro d hd
  obtain ⟨x, hx, rfl⟩ := List.mem_map.mp hd
  obtain ⟨h1, h2⟩ := found_mem hx
  have z : pairLst (dF x) = some x.2.length := by
    unfold dF pairLst dO
    dsimp only
    rw [if_pos, List.length_map]
    rw [List.all_map, List.all_eq_true]
    intro o _
    cases o <;> rfl
  rw [z]
  dsimp only
  rw [decide_eq_true]
  rw [List.length_map, h2, ent_len]
  omega
theorem cut2 (l : List Int) : cutD (DI l) none (some 2) = DI (l.take 2) := by
  unfold cutD
  rw [show (some (2 : Int)) = some ((2 : Nat) : Int) from rfl, HT.sIx_none, HT.sIx_nat, List.drop_zero, Nat.sub_zero]
  simp only [DI, List.length_map]
  rw [← List.map_take]
  congr 1
  by_cases c : 2 ≤ l.length
  · rw [Nat.min_eq_left c]
  · rw [Nat.min_eq_right (by omega), List.take_of_length_le (Nat.le_refl _), List.take_of_length_le (by omega)]
@[simp] theorem gSl2 (l : List Int) : gSl none (some 2) (.lst (DI l)) = some (.lst (DI (l.take 2))) := by
  show some (D.lst (cutD (DI l) none (some 2))) = _
  rw [cut2]
end PD
set_option maxRecDepth 100000
/-! P10: the law's look at circuits says yes. -/
namespace PD
open PySem PySem.Spec PyProof.Rows L2
theorem set_of {i : Nat} {a : M D} {ρ ρ1 : DEnv} {d : D} (h : a ρ = .ok d ρ1) : sSet i a ρ = .nx (ρ1.set i (.val d)) := by
  unfold sSet; rw [h]; rfl
theorem own_of {i : Nat} {a : M D} {ρ ρ1 : DEnv} {d : D} (h : a ρ = .ok d ρ1) : sOwn i a ρ = .nx (ρ1.set i (.own d)) := by
  unfold sOwn; rw [h]; rfl
def hD (l : Lot) : D := .lst (DI (l.reverse ++ l.take 2))
theorem handed_ok {ρ : DEnv} {i : Nat} {l : Lot} (hl : l.length ≤ 1000) (h : ρ[i]? = some (.val (dT l))) : (e2 gCatL (e1 gRev (eCall cList (aCons (eVar i) aNil))) (e1 (gSl none (some 2)) (eCall cList (aCons (eVar i) aNil)))) ρ = .ok (hD l) ρ := by
  have z : l.length + min 2 l.length ≤ 100000 := by omega
  simp [h, hD, z]
theorem dK_keys {rows : Rows} (nd : (rows.map (·.1)).Nodup) : (rows.map fun x => kI x.1).Nodup := by
  have e : (rows.map fun x => kI x.1) = (rows.map (·.1)).map kI := by rw [List.map_map]; rfl
  rw [e]
  rw [List.Nodup, List.pairwise_map]
  exact List.Pairwise.imp (fun h e => h (kI_inj e)) nd
theorem ent_congr {n : Nat} {rows rows' : Rows} (h : ∀ l, rows.lookup l = rows'.lookup l) (l : Lot) : ent n rows l = ent n rows' l := by
  unfold ent
  refine List.map_congr_left fun k _ => ?_
  rw [h]
theorem deqs_none : ∀ es : List (Option Int), deqs (es.map oD) (List.replicate es.length D.non) = !es.any Option.isSome
  | [] => rfl
  | none :: r => by
    have ih := deqs_none r
    show (deq .non .non && deqs (r.map oD) (List.replicate r.length D.non)) = _
    rw [ih]
    rfl
  | some i :: r => rfl
theorem str_ok (x : Str) (h : PyData.canLay0 (.str x) = true) (k : Nat) : sd k (.str x) = true := by cases k <;> exact h
theorem look_lot_end {n : Nat} (h : n ≤ 6) {w : Int} (hw : w = n ∨ w = -1 ∨ w = n + 60) : F_look_lot [.int n, .lst (DI (rg n ++ [w]))] = .exc ⟨11, [("end", .int w)]⟩ := by
  have bad : ∀ n : Nat, n ≤ 6 → ∀ w : Int, (w = n ∨ w = -1 ∨ w = n + 60) → (match F_look_lot [.int n, .lst (DI (rg n ++ [w]))] with
    | .exc x => decide (x.c = 11) && (match x.fs with | [(k, .int j)] => decide (k = "end") && decide (j = w) | _ => false)
    | _ => false) = true := by
    intro n hn w hw
    have a1 := all_le (p := fun n => (match F_look_lot [.int n, .lst (DI (rg n ++ [(n : Int)]))] with
    | .exc x => decide (x.c = 11) && (match x.fs with | [(k, .int j)] => decide (k = "end") && decide (j = (n : Int)) | _ => false)
    | _ => false)) (k := 6) (by decide +kernel) hn
    have a2 := all_le (p := fun n => (match F_look_lot [.int n, .lst (DI (rg n ++ [(-1 : Int)]))] with
    | .exc x => decide (x.c = 11) && (match x.fs with | [(k, .int j)] => decide (k = "end") && decide (j = (-1 : Int)) | _ => false)
    | _ => false)) (k := 6) (by decide +kernel) hn
    have a3 := all_le (p := fun n => (match F_look_lot [.int n, .lst (DI (rg n ++ [(n : Int) + 60]))] with
    | .exc x => decide (x.c = 11) && (match x.fs with | [(k, .int j)] => decide (k = "end") && decide (j = (n : Int) + 60) | _ => false)
    | _ => false)) (k := 6) (by decide +kernel) hn
    rcases hw with rfl | rfl | rfl
    · exact a1
    · exact a2
    · exact a3
  have z := bad n h w hw
  cases e : F_look_lot [.int n, .lst (DI (rg n ++ [w]))] with
  | exc x =>
    rw [e] at z
    obtain ⟨c, fs⟩ := x
    dsimp only at z
    rw [Bool.and_eq_true] at z
    obtain ⟨z1, z2⟩ := z
    have z1 := of_decide_eq_true z1
    subst z1
    split at z2
    · rw [Bool.and_eq_true] at z2
      have z3 := of_decide_eq_true z2.1
      have z4 := of_decide_eq_true z2.2
      subst z3 z4
      rfl
    · cases z2
  | ok d => rw [e] at z; cases z
  | stuck => rw [e] at z; cases z
theorem look_lot_61 {n : Nat} : F_look_lot [.int n, .lst (List.replicate 61 (.int n))] = .exc ⟨10, [("count", .int 61)]⟩ := by
  have q : F_look_count [.int 61, .int 0, .int 60] = .exc ⟨10, [("count", .int 61)]⟩ := by
    refine runF_ex rfl ?_
    simp [Exr, b_look_count]
  refine runF_ex rfl ?_
  simp [Exr, b_look_lot, q]
end PD
set_option maxRecDepth 100000
/-! P11: the law's look at circuits says yes. -/
namespace PD
open PySem PySem.Spec PyProof.Rows L2
theorem slots_sub {n : Nat} (h : n ≤ 6) : ∀ l ∈ slots n, l ∈ lots n := by
  have := all_le (p := fun n => (slots n).all fun l => decide (l ∈ lots n)) (k := 6) (by decide +kernel) h
  exact fun l hl => of_decide_eq_true (List.all_eq_true.mp this l hl)
theorem slots_len {n : Nat} (h : n ≤ 6) : (slots n).length ≤ 64 := by
  have := all_le (p := fun n => decide ((slots n).length ≤ 64)) (k := 6) (by decide +kernel) h
  exact of_decide_eq_true this
theorem rep_len (n : Nat) : gRep (.lst [.non]) (.int n) = if n ≤ 100000 then some (.lst (List.replicate n .non)) else none := by
  have e : (List.replicate n [D.non]).flatten = List.replicate n D.non := by simp
  show (if [D.non].length * (n : Int).toNat ≤ 100000 ∧ (n : Int) ≤ 100000 ∧ 0 ≤ (n : Int) then some (D.lst (List.replicate (n : Int).toNat [D.non]).flatten) else none) = _
  rw [Int.toNat_natCast, e]
  by_cases c : n ≤ 100000
  · rw [if_pos c, if_pos ⟨by simpa using c, by omega, by omega⟩]
  · rw [if_neg c, if_neg fun z => c (by have := z.1; simpa using this)]
/-- a slot that is not owned -/
def vs : Option D → Slot
  | none => .un
  | some d => .val d
theorem nolstk_dK : ∀ rows : Rows, nolstk (dK rows) = true
  | [] => rfl
  | x :: r => nolstk_dK r
theorem right_circuits_ok {n : Nat} (h : n ≤ 6) (r : Nat) (rd : D) (hrd : nolst rd = true) (rows rowsL : Rows) (hlk : ∀ l, rows.lookup l = rowsL.lookup l) (nd : (rowsL.map (·.1)).Nodup) (hl : rowsL.length ≤ 1000) :
    F__law_right_circuits [basesD n r rd (dK rows), .int n, .int r, .lst (rowsL.map dR)] = .ok (.bl true) := by
  have hn : n ≤ 100000 := by omega
  have hn2 : (n : Int) ≤ 100000 := by omega
  generalize hB : basesD n r rd (dK rows) = B
  generalize hRW : D.lst (rowsL.map dR) = RW
  -- known
  obtain ⟨b1, hk⟩ := for_dput dR (tg := gdTup 2 (gdCons (gdN 5) (gdCons (gdN 6) gdNil))) (gb := sDPutO 4 (eVar 5) (eVar 6)) (fun acc (s : Option D × Option D) => [.val B, .val (.int n), .val (.int r), .val RW, .own (.dic acc), vs s.1, vs s.2, .un, .un, .un, .un, .un])
    (fun x => kI x.1) (fun x => .int x.2) rowsL [] (none, none) (by simp; omega) (by simpa using dK_keys nd) fun x hx acc s ha _ => ⟨_, (some (dT x.1), some (.int x.2)), rfl, by simp [ha, vs]⟩
  -- the lots
  obtain ⟨b2, hf⟩ := for_appT (fun l : Lot => dT l) (γ := Lot × List (Option Int)) (tg := gdN 5) (gb := (sSeq (sSet 8 (e2 gCatL (e1 gRev (eCall cList (aCons (eVar 5) aNil))) (e1 (gSl none (some 2)) (eCall cList (aCons (eVar 5) aNil)))))
  (sSeq (sSet 9 (eFn F__law_entries (aCons (eVar 1) (aCons (eVar 4) (aCons (eVar 5) aNil)))))
  (sIf (eT (e2 (gEq true) (eCall cLen (aCons (eVar 5) aNil)) (e2 (gI fun i j => i + j) (eVar 2) (eC (.int 1))))) (sIf (eT (e2 (gEq true) (eFn F__law_refusal (aCons (eVar 0) (aCons (eVar 8) aNil))) (eTup (aCons (eC (.str "size")) (aCons (eCall cLen (aCons (eVar 5) aNil)) aNil))))) (sRet (eC (.bl false))) sSkip) (sIf (eT (e2 (gEq false) (eVar 9) (e2 gRep (eLst (aCons (eC .non) aNil)) (eVar 1)))) (sIf (eT (e2 (gEq true) (eFn F__law_refusal (aCons (eVar 0) (aCons (eVar 8) aNil))) (eTup (aCons (eC (.str "nothing")) aNil)))) (sRet (eC (.bl false))) sSkip) (sSeq (sApp 7 (eTup (aCons (eVar 5) (aCons (eVar 9) aNil))))
  (sIf (eNot (eT (eFn F__law_same (aCons (eFn F_circuit (aCons (eVar 0) (aCons (eVar 8) aNil))) (aCons (eVar 9) aNil))))) (sRet (eC (.bl false))) sSkip)))))))
    (fun acc (s : Option D × Option D × Option D) => [.val B, .val (.int n), .val (.int r), .val RW, .val (.dic (dK rowsL)), vs s.1, vs b1.2, .own (.lst (acc.map dF)), vs s.2.1, vs s.2.2, .un, .un]) (fone n r rows) 1000 (slots n) [] (b1.1, none, none) (by have := slots_len h; simp; omega) fun l hl acc s ha => by
      have ha2 : acc.length < 100000 := by omega
      have hl' := slots_sub h l hl
      have hL := lot_len h hl'
      have hE : ent n rowsL l = ent n rows l := (ent_congr hlk l).symm
      refine ⟨by unfold fone; split <;> simp, _, (some (dT l), some (hD l), some (dO (ent n rows l))), rfl, .inl ?_⟩
      refine seq_nx (set_of (handed_ok (i := 5) (l := l) (by omega) rfl)) (seq_nx (ρ1 := [.val B, .val (.int n), .val (.int r), .val RW, .val (.dic (dK rowsL)), .val (dT l), vs b1.2, .own (.lst (acc.map dF)), .val (hD l), .val (dO (ent n rows l)), .un, .un]) ?_ ?_)
      · have q := entries_ok h hl' rowsL
        rw [hE] at q
        simp [q]
      · have he : F_look_lot [.int n, hD l] = .ok (dT l) := look_lot_H h hl'
        by_cases c : l.length = r + 1
        · have c' : (l.length : Int) = r + 1 := by omega
          have e1 := gEq_sd (k := 1) (by decide) (sd_O (ent n rows l) (by rw [ent_len]; omega) 0) (d' := .lst (List.replicate n D.non)) (by
            rw [sd, decide_eq_true (by simp; omega), Bool.true_and, List.all_eq_true]
            intro x hx
            rw [List.eq_of_mem_replicate hx]
            rfl) false
          have e2' := deqs_none (ent n rows l)
          rw [ent_len] at e2'
          have e3 : deq (dO (ent n rows l)) (.lst (List.replicate n D.non)) = !(ent n rows l).any Option.isSome := e2'
          rw [e3] at e1
          cases c2 : (ent n rows l).any Option.isSome with
          | true =>
            have q := circuit_ok h hl' he r c' rd rows c2
            have z : fone n r rows l = [(l, ent n rows l)] := by unfold fone fcond; rw [decide_eq_true c, c2]; rfl
            have s1 := law_same_ok (sd_O (ent n rows l) (by rw [ent_len]; omega) 4)
            rw [hB] at q
            rw [c2] at e1
            simp [c', hn, hn2, e1, z, ha2, q, s1, dF, vs]
          | false =>
            have q := refusal_12 (circuit_none h hl' he r c' rd rows c2)
            have z : fone n r rows l = [] := by unfold fone fcond; rw [c2, Bool.and_false]; rfl
            have s1 := gEq_sd (k := 1) (by decide) (d := .tup [.str "nothing"]) (d' := .tup [.str "nothing"]) (by decide +kernel) (by decide +kernel) true
            rw [deq_self 1 _ (by decide +kernel)] at s1
            rw [hB] at q
            rw [c2] at e1
            simp [c', hn, hn2, e1, z, q, s1, vs]
        · have c' : ¬ (l.length : Int) = r + 1 := by omega
          have q := refusal_10 (circuit_size he r c' rd rows)
          have z : fone n r rows l = [] := by unfold fone fcond; rw [decide_eq_false c]; rfl
          have sz : sd 1 (.tup [.str "size", .int (l.length : Int)]) = true := by
            rw [sd, List.all_cons, List.all_cons, str_ok "size" (by decide +kernel)]
            rfl
          have s1 := gEq_sd (k := 1) (by decide) sz sz true
          rw [deq_self 1 _ sz] at s1
          rw [hB] at q
          simp [c', z, q, s1, vs]
  have hlots := law_lots_ok h
  have hsort := sort_lots h
  have hcr := circuits_ok h r rd rows
  have hsame := law_same_ok (sd_found h r rows)
  have htold := told_found h r rows
  have hfs : [] ++ (slots n).flatMap (fone n r rows) = found n r rows (lotsB n) := by rw [List.nil_append]; exact found_same h r rows
  rw [hfs] at hf
  rw [hB] at hcr
  have hnl : nolsts [B] = true := by
    subst hB
    have z := nolstk_dK rows
    show (nolst (.ins 2 _) && true) = true
    show ((nolst (.int n) && (nolst (.int r) && (nolst rd && (nolstk (dK rows) && true)))) && true) = true
    rw [hrd, z]
    rfl
  have hend : ∀ w : Int, (w = n ∨ w = -1 ∨ w = n + 60) → F__law_refusal [B, .lst (DI (rg n) ++ [.int w])] = .ok (.tup [.str "end", .int w]) := fun w hw => by
    have q := refusal_11 (circuit_bad (look_lot_end h hw) r rd rows)
    rw [hB] at q
    rw [← q]
    simp [DI]
  have h61 : F__law_refusal [B, .lst (List.replicate 61 (.int n))] = .ok (.tup [.str "size", .int 61]) := by
    have q := refusal_10 (circuit_bad (look_lot_61 (n := n)) r rd rows)
    rw [hB] at q
    exact q
  have heq : ∀ w : Int, gEq true (.tup [.str "end", .int w]) (.tup [.str "end", .int w]) = some (.bl false) := fun w => by
    have sz : sd 1 (.tup [.str "end", .int w]) = true := by
      rw [sd, List.all_cons, List.all_cons, str_ok "end" (by decide +kernel)]
      rfl
    have s1 := gEq_sd (k := 1) (by decide) sz sz true
    rw [deq_self 1 _ sz] at s1
    exact s1
  have heq2 : gEq false (.tup [.str "size", .int 61]) (.tup [.str "size", .int 61]) = some (.bl true) := by
    have sz : sd 1 (.tup [.str "size", .int 61]) = true := by decide +kernel
    have s1 := gEq_sd (k := 1) (by decide) sz sz false
    rw [deq_self 1 _ sz] at s1
    exact s1
  refine runF_rt rfl (rt_seq rfl (rt_seq (for_of (ds := rowsL.map dR) (ρ1 := [.val B, .val (.int n), .val (.int r), .val RW, .own (.dic []), .un, .un, .un, .un, .un, .un, .un]) ?_ hk) (rt_seq rfl (rt_frz (rt_seq (for_of (ds := (slots n).map fun l => dT l) (ρ1 := [.val B, .val (.int n), .val (.int r), .val RW, .val (.dic (dK rowsL)), vs b1.1, vs b1.2, .own (.lst []), .un, .un, .un, .un]) ?_ hf) (rt_frz ?_))))))
  · subst hRW; rfl
  · simp [cRange, hn2, hlots, hsort]
    rfl
  · obtain ⟨x1, x2⟩ := b1
    obtain ⟨y1, y2, y3⟩ := b2
    have no : noOwn [.val B, .val (.int n), .val (.int r), .val RW, .val (.dic (dK rowsL)), vs y1, vs x2, .val (.lst ((found n r rows (lotsB n)).map dF)), vs y2, vs y3, .un, .un] = true := by
      cases y1 <;> cases x2 <;> cases y2 <;> cases y3 <;> rfl
    generalize (.lst ((found n r rows (lotsB n)).map dF) : D) = FD at *
    obtain ⟨b3, hw⟩ := for_keepT D.int (tg := gdN 11) (gb := (sIf (eT (e2 (gEq true) (eFn F__law_refusal (aCons (eVar 0) (aCons (e2 gCatL (e1 cRange (eVar 1)) (eLst (aCons (eVar 11) aNil))) aNil))) (eTup (aCons (eC (.str "end")) (aCons (eVar 11) aNil))))) (sRet (eC (.bl false))) sSkip))
      (fun s : Slot => [.val B, .val (.int n), .val (.int r), .val RW, .val (.dic (dK rowsL)), .un, vs x2, .val FD, vs y2, .un, .un, s]) [(n : Int), -1, n + 60] .un fun w hw s => by
        refine ⟨_, .val (.int w), rfl, .inl ?_⟩
        have hw' : w = n ∨ w = -1 ∨ w = n + 60 := by simpa using hw
        have q := hend w hw'
        have q2 := heq w
        have l3 : n + 1 ≤ 100000 := by omega
        simp [cRange, hn2, rg_len, l3, q, q2]
    show Rt (sTold _ _ _ _ _ _ _ _ [.val B, .val (.int n), .val (.int r), .val RW, .val (.dic (dK rowsL)), vs y1, vs x2, .val FD, vs y2, vs y3, .un, .un]) _
    unfold sTold
    simp [no, hnl, hcr, htold, hsame]
    have hw' : forLoop _ _ [D.int n, D.int (-1), D.int (n + 60)] _ = _ := hw
    rw [hw']
    simp [List.replicate] at h61
    simp [Rt, h61, heq2]
end PD
set_option maxRecDepth 100000
/-! P12: tables. -/
namespace PD
open PySem PySem.Spec PyProof.Rows L2
/-- sorted rows: some order of them -/
theorem alike_ints : ∀ a b : List Int, PySem.W.alikeAll (a.map PyData.int) (b.map PyData.int) = true
  | [], _ => rfl
  | _ :: _, [] => rfl
  | x :: a, y :: b => by
    show (PySem.W.alike (.int x) (.int y) && PySem.W.alikeAll (a.map PyData.int) (b.map PyData.int)) = true
    rw [alike_ints a b]
    rfl
theorem pyDs_DI : ∀ l : List Int, pyDs (DI l) = some (l.map PyData.int)
  | [] => rfl
  | k :: r => by
    show ((pyD (.int k)).bind fun p => (pyDs (DI r)).map fun ps => p :: ps) = _
    rw [pyDs_DI r]
    rfl
theorem kD_T (l : List Int) : pyD (dT l) = some (.tuple (l.map PyData.int)) := by
  show (pyDs (DI l)).map PyData.tuple = _
  rw [pyDs_DI]
  rfl
theorem kD_R (x : Lot × Int) : pyD (dR x) = some (.tuple [.tuple (x.1.map PyData.int), .int x.2]) := by
  show (((pyD (dT x.1)).bind fun p => ((pyDs [D.int x.2]).map fun ps => p :: ps)).map PyData.tuple) = _
  rw [kD_T]
  rfl
theorem depth_ints : ∀ l : List Int, PyData.depthAll (l.map PyData.int) = 0
  | [] => rfl
  | k :: r => by
    show max (PyData.depth (.int k)) (PyData.depthAll (r.map PyData.int)) = 0
    rw [depth_ints r]
    rfl
theorem sort_rows (rows : Rows) : ∃ rows' : Rows, rows'.Perm rows ∧ cSort [.lst (rows.map dR)] = some (.lst (rows'.map dR)) := by
  refine ⟨rows.mergeSort (PySem.W.dataLe false fun x => kD (dR x)), List.mergeSort_perm _ _, ?_⟩
  have hm := PySem.W.sort_maps (r := PySem.W.dataLe false fun x : Lot × Int => kD (dR x)) (s := PySem.W.dataLe false kD) dR (l := rows) fun a _ b _ => rfl
  have hk : ∀ x : Lot × Int, kD (dR x) = .tuple [.tuple (x.1.map PyData.int), .int x.2] := fun x => by
    unfold kD; rw [kD_R]; rfl
  unfold cSort
  dsimp only
  rw [if_pos, hm]
  refine ⟨?_, ?_⟩
  · rw [List.all_map, List.all_eq_true]
    intro x _
    show (pyD (dR x)).isSome = true
    rw [kD_R]
    rfl
  · have e : (rows.map dR).map kD = rows.map fun x => .tuple [.tuple (x.1.map PyData.int), .int x.2] := by
      rw [List.map_map]
      exact List.map_congr_left fun x _ => hk x
    rw [e]
    unfold srtB
    rw [Bool.and_eq_true, Bool.and_eq_true]
    refine ⟨?_, ?_, ?_⟩
    · rw [List.all_map, List.all_eq_true]
      intro x _
      show (List.all _ _) = true
      rw [List.all_map, List.all_eq_true]
      intro y _
      show (PySem.W.alikeAll (x.1.map PyData.int) (y.1.map PyData.int) && true) = true
      rw [alike_ints]
      rfl
    · have : (rows.map fun x : Lot × Int => PyData.tuple [.tuple (x.1.map PyData.int), .int x.2]).all srtT = true := by
        rw [List.all_map, List.all_eq_true]
        intro x _
        rfl
      rw [this]
      rfl
    · rw [List.all_map, List.all_eq_true]
      intro x _
      show decide (PyData.depthAll [.tuple (x.1.map PyData.int), .int x.2] + 1 ≤ 60) = true
      have z : PyData.depthAll [.tuple (x.1.map PyData.int), .int x.2] = 1 := by
        show max (PyData.depthAll (x.1.map PyData.int) + 1) (max 0 0) = 1
        rw [depth_ints]
        rfl
      rw [z]
      decide
theorem look_number_ok (a b c : Int) (h1 : b ≤ a) (h2 : a ≤ c) : F_look_number [.int a, .int b, .int c] = .ok (.int a) := by
  refine runF_rt rfl ?_
  simp [Rt, b_look_number, h1, h2]
theorem look_count_ok (a b c : Int) (h1 : b ≤ a) (h2 : a ≤ c) : F_look_count [.int a, .int b, .int c] = .ok (.int a) := by
  refine runF_rt rfl ?_
  simp [Rt, b_look_count, h1, h2]
/-- the rows of a table -/
structure TRows (n : Nat) (rows : Rows) : Prop where
  pt : ∀ x ∈ rows, F_look_point [.int n, dT x.1] = .ok (dT x.1)
  len : ∀ x ∈ rows, x.1.length = n
  c : ∀ x ∈ rows, -1000000000000000 ≤ x.2 ∧ x.2 ≤ 1000000000000000
  nd : (rows.map (·.1)).Nodup
  l1 : 1 ≤ rows.length
  l2 : rows.length ≤ 400
theorem TRows.perm {n : Nat} {rows rows' : Rows} (h : TRows n rows) (p : rows'.Perm rows) : TRows n rows' :=
  ⟨fun x hx => h.pt x (p.mem_iff.mp hx), fun x hx => h.len x (p.mem_iff.mp hx), fun x hx => h.c x (p.mem_iff.mp hx), (p.map _).nodup_iff.mpr h.nd, by rw [p.length_eq]; exact h.l1, by rw [p.length_eq]; exact h.l2⟩
theorem look_fresh {k : List Key} {es : List (List Key × D)} (h : ∀ p ∈ es, p.1 ≠ k) : lookD k es = none := by
  induction es with
  | nil => rfl
  | cons e r ih =>
    obtain ⟨j, d⟩ := e
    show (if j = k then some d else lookD k r) = none
    rw [if_neg (h (j, d) (List.mem_cons_self ..)), ih fun p hp => h p (List.mem_cons_of_mem _ hp)]
theorem looked_rows_ok {n : Nat} {rows : Rows} (h : TRows n rows) : F_looked_rows [.int n, .lst (rows.map dR), .int 400] = .ok (.lst (rows.map dR)) := by
  have l2 := h.l2
  have l1 := h.l1
  obtain ⟨b1, hf⟩ := for_mapT dR (γ := D) (tg := gdTup 2 (gdCons (gdN 4) (gdCons (gdN 5) gdNil))) (gb := (sApp 3 (eTup (aCons (eFn F_look_point (aCons (eVar 0) (aCons (eVar 4) aNil))) (aCons (eFn F_look_number (aCons (eVar 5) (aCons (e1 (gU fun i => -i) (eC (.int (1000000000000000)))) (aCons (eC (.int (1000000000000000))) aNil)))) aNil)))))
    (fun acc (s : Slot × Slot) => [.val (.int n), .val (.lst (rows.map dR)), .val (.int 400), .own (.lst acc), s.1, s.2, .un, .un]) dR 1000 rows [] (.un, .un) (by simp; omega) fun x hx acc s ha => by
      have ha2 : acc.length < 100000 := by omega
      have q1 := h.pt x hx
      have q2 := look_number_ok x.2 (-1000000000000000) 1000000000000000 (h.c x hx).1 (h.c x hx).2
      refine ⟨_, (.val (dT x.1), .val (.int x.2)), rfl, .inl ?_⟩
      simp [q1, q2, ha2, dR]
  obtain ⟨b2, hd⟩ := for_dput dR (tg := gdTup 2 (gdCons (gdN 4) (gdCons (gdN 7) gdNil))) (gb := (sSeq (sIf (eT (eDInO false 6 (eVar 4))) sNo sSkip) (sDPutO 6 (eVar 4) (eC (.bl true)))))
    (fun acc (s : Slot × Slot) => [.val (.int n), .val (.lst (rows.map dR)), .val (.int 400), .val (.lst (rows.map dR)), s.1, b1.2, .own (.dic acc), s.2]) (fun x => kI x.1) (fun x => .bl true) rows [] (b1.1, .un) (by simp; omega) (by simpa using dK_keys h.nd) fun x hx acc s ha hnew => by
      have z := look_fresh hnew
      refine ⟨_, (.val (dT x.1), .val (.int x.2)), rfl, ?_⟩
      simp [z, ha]
  have q3 := look_count_ok rows.length 1 400 (by omega) (by omega)
  refine runF_rt rfl (rt_seq (ρ1 := [.val (.int n), .val (.lst (rows.map dR)), .val (.int 400), .un, .un, .un, .un, .un]) ?_ (rt_seq rfl (rt_seq (for_of rfl hf) (rt_seq rfl (rt_frz (rt_seq (for_of rfl hd) ?_))))))
  · simp [q3]
  · simp [Rt]
/-- a table -/
def tableD (n : Nat) (rows : Rows) (lo hi : List D) : D := .ins 0 [("width", .int n), ("rows", .tup (rows.map dR)), ("_costs", .dic (dK rows)), ("lows", .tup lo), ("highs", .tup hi)]
theorem intsD_DI : ∀ l : List Int, intsD (DI l) = some l
  | [] => rfl
  | k :: r => by
    show (intsD (DI r)).map (fun is => k :: is) = _
    rw [intsD_DI r]
    rfl
theorem intsD_map {α : Type} (f : α → Int) : ∀ l : List α, intsD (l.map fun x => D.int (f x)) = some (l.map f)
  | [] => rfl
  | k :: r => by
    show (intsD (r.map fun x => D.int (f x))).map (fun is => f k :: is) = _
    rw [intsD_map f r]
    rfl
def colD (g : List Int → Option Int) (rows : Rows) (k : Int) : D := oD (g (rows.map fun x => x.1.getD k.toNat 0))
theorem atI_ints {l : List Int} {k : Int} (h : 0 ≤ k ∧ k < l.length) : atI (DI l) k = some (.int (l.getD k.toNat 0)) := by
  unfold atI
  simp only [DI, List.length_map]
  rw [ixN_in h]
  have lt : k.toNat < l.length := by omega
  show (l.map D.int)[k.toNat]? = _
  rw [List.getElem?_map, List.getElem?_eq_getElem lt, List.getD_eq_getElem?_getD, List.getElem?_eq_getElem lt]
  rfl
theorem Table_ok {n : Nat} (hn : n ≤ 6) {rows : Rows} (h : TRows n rows) : ∃ (rows' : Rows) (lo hi : List D), rows'.Perm rows ∧ F_Table___init__ (.ins 0 []) [.int n, .lst (rows.map dR)] = .ok .non (tableD n rows' lo hi) := by
  obtain ⟨rows', hp, hs⟩ := sort_rows rows
  have h' := h.perm hp
  have l2 := h'.l2
  have q1 := look_number_ok n 0 6 (by omega) (by omega)
  have q2 := looked_rows_ok h
  have hn2 : (n : Int) ≤ 100000 := by omega
  refine ⟨rows', (rg n).map (colD minI rows'), (rg n).map (colD maxI rows'), hp, ?_⟩
  generalize hR : D.lst (rows.map dR) = RW at *
  have hdc := dc_of dR (vs := [4, 5]) (tg := gdTup 2 (gdCons (gdN 4) (gdCons (gdN 5) gdNil))) (fk := eVar 4) (fv := eVar 5) (ρ := [.own (.ins 0 [("width", .int n), ("rows", .tup (rows'.map dR))]), .val (.int n), .val RW, .val (.lst (rows.map dR)), .un, .un, .un, .un, .un])
    (fun x => kI x.1) (fun x => .int x.2) rows' [] (by simp; omega) (by simpa using dK_keys h'.nd) fun x hx => ⟨_, dT x.1, rfl, rfl, by simp, rfl, rfl⟩
  have hpts := lc_map dR (vs := [4, 7]) (tg := gdTup 2 (gdCons (gdN 4) (gdCons (gdN 7) gdNil))) (fe := eVar 4) (ρ := [.own (.ins 0 [("width", .int n), ("rows", .tup (rows'.map dR)), ("_costs", .dic (dK rows'))]), .val (.int n), .val RW, .val (.lst (rows.map dR)), .un, .un, .un, .un, .un])
    (fun x => dT x.1) rows' (by omega) fun x hx => ⟨_, rfl, rfl, rfl⟩
  have ne : rows' ≠ [] := fun e => by have := h'.l1; rw [e] at this; simp at this
  have col : ∀ (cM : List D → Option D) (g : List Int → Option Int), (∀ l : List Int, cM [.lst (DI l)] = (g l).map .int) → (∀ l : List Int, l ≠ [] → (g l).isSome = true) → ∀ o : D,
      lcLoop [8] (gdN 8) mYes (eCall cM (aCons (eLc [4] (iSeq (eVar 6)) (gdN 4) mYes (e2 gIx (eVar 4) (eVar 8))) aNil)) (DI (rg n)) [.own o, .val (.int n), .val RW, .val (.lst (rows.map dR)), .un, .un, .val (.lst (rows'.map fun x => dT x.1)), .un, .un] [] =
        .ok (.lst ((rg n).map (colD g rows'))) [.own o, .val (.int n), .val RW, .val (.lst (rows.map dR)), .un, .un, .val (.lst (rows'.map fun x => dT x.1)), .un, .un] := fun cM g hM hg o => by
    refine lc_map D.int (colD g rows') (rg n) (by rw [rg_len]; omega) fun k hk => ⟨_, rfl, ?_, rfl⟩
    have hk' := mem_rg.mp hk
    have e := lc_map (fun x : Lot × Int => dT x.1) (vs := [4]) (tg := gdN 4) (fe := e2 gIx (eVar 4) (eVar 8)) (ρ := [.own o, .val (.int n), .val RW, .val (.lst (rows.map dR)), .un, .un, .val (.lst (rows'.map fun x => dT x.1)), .un, .val (.int k)])
      (fun x => .int (x.1.getD k.toNat 0)) rows' (by omega) fun x hx => by
        refine ⟨_, rfl, ?_, rfl⟩
        have z := atI_ints (l := x.1) (k := k) (by rw [h'.len x hx]; exact hk')
        simp [z]
    have e2' : (rows'.map fun x : Lot × Int => D.int (x.1.getD k.toNat 0)) = DI (rows'.map fun x => x.1.getD k.toNat 0) := by rw [DI, List.map_map]; rfl
    rw [e2'] at e
    have z := hM (rows'.map fun x => x.1.getD k.toNat 0)
    obtain ⟨m, hm⟩ := Option.isSome_iff_exists.mp (hg (rows'.map fun x => x.1.getD k.toNat 0) (by simpa using ne))
    rw [hm] at z
    have hc : colD g rows' k = .int m := by unfold colD; rw [hm]; rfl
    generalize (rows'.map fun x : Lot × Int => x.1.getD k.toNat 0) = L at e z
    simp [e, z, hc]
  have hmin : ∀ l : List Int, cMinL [.lst (DI l)] = (minI l).map .int := fun l => by
    show (intsD (DI l)).bind _ = _
    rw [intsD_DI]
    rfl
  have hmax : ∀ l : List Int, cMaxL [.lst (DI l)] = (maxI l).map .int := fun l => by
    show (intsD (DI l)).bind _ = _
    rw [intsD_DI]
    rfl
  have hmi : ∀ l : List Int, l ≠ [] → (minI l).isSome = true := fun l hl => by cases l with | nil => exact (hl rfl).elim | cons x r => rfl
  have hma : ∀ l : List Int, l ≠ [] → (maxI l).isSome = true := fun l hl => by cases l with | nil => exact (hl rfl).elim | cons x r => rfl
  have k1 : putD "rows" (.tup (rows'.map dR)) [(("width" : Str), D.int n)] = ([("width", .int n), ("rows", .tup (rows'.map dR))] : List (Str × D)) := rfl
  have k2 : ∀ x : D, putD "_costs" x [(("width" : Str), D.int n), ("rows", .tup (rows'.map dR))] = ([("width", .int n), ("rows", .tup (rows'.map dR)), ("_costs", x)] : List (Str × D)) := fun _ => rfl
  have k3 : ∀ x y : D, putD "lows" x [(("width" : Str), D.int n), ("rows", .tup (rows'.map dR)), ("_costs", y)] = ([("width", .int n), ("rows", .tup (rows'.map dR)), ("_costs", y), ("lows", x)] : List (Str × D)) := fun _ _ => rfl
  have k4 : ∀ x y z : D, putD "highs" x [(("width" : Str), D.int n), ("rows", .tup (rows'.map dR)), ("_costs", y), ("lows", z)] = ([("width", .int n), ("rows", .tup (rows'.map dR)), ("_costs", y), ("lows", z), ("highs", x)] : List (Str × D)) := fun _ _ _ => rfl
  have g1 : List.lookup ("rows" : Str) [(("width" : Str), D.int n), ("rows", .tup (rows'.map dR))] = some (.tup (rows'.map dR)) := rfl
  have g2 : ∀ y : D, List.lookup ("rows" : Str) [(("width" : Str), D.int n), ("rows", .tup (rows'.map dR)), ("_costs", y)] = some (.tup (rows'.map dR)) := fun _ => rfl
  rw [List.nil_append] at hdc
  have hdc' : (rows'.map fun a => (kI a.1, D.int a.2)) = dK rows' := rfl
  rw [hdc'] at hdc
  refine runO_rt rfl (rto_seq (ρ1 := [.own (.ins 0 [("width", .int n)]), .val (.int n), .val RW, .un, .un, .un, .un, .un, .un]) ?_
    (rto_seq (ρ1 := [.own (.ins 0 [("width", .int n)]), .val (.int n), .val RW, .val (.lst (rows.map dR)), .un, .un, .un, .un, .un]) ?_
    (rto_seq (ρ1 := [.own (.ins 0 [("width", .int n), ("rows", .tup (rows'.map dR))]), .val (.int n), .val RW, .val (.lst (rows.map dR)), .un, .un, .un, .un, .un]) ?_
    (rto_seq (ρ1 := [.own (.ins 0 [("width", .int n), ("rows", .tup (rows'.map dR)), ("_costs", .dic (dK rows'))]), .val (.int n), .val RW, .val (.lst (rows.map dR)), .un, .un, .un, .un, .un]) ?_
    (rto_seq (ρ1 := [.own (.ins 0 [("width", .int n), ("rows", .tup (rows'.map dR)), ("_costs", .dic (dK rows'))]), .val (.int n), .val RW, .val (.lst (rows.map dR)), .un, .un, .val (.lst (rows'.map fun x => dT x.1)), .un, .un]) ?_
    (rto_seq (ρ1 := [.own (.ins 0 [("width", .int n), ("rows", .tup (rows'.map dR)), ("_costs", .dic (dK rows')), ("lows", .tup ((rg n).map (colD minI rows')))]), .val (.int n), .val RW, .val (.lst (rows.map dR)), .un, .un, .val (.lst (rows'.map fun x => dT x.1)), .un, .un]) ?_
    (rto_nx (ρ' := [.own (tableD n rows' ((rg n).map (colD minI rows')) ((rg n).map (colD maxI rows'))), .val (.int n), .val RW, .val (.lst (rows.map dR)), .un, .un, .val (.lst (rows'.map fun x => dT x.1)), .un, .un]) ?_ rfl)))))))
  · simp [q1, putD]
  · simp [q2, hR]
  · simp [hR, hs, k1]
  · simp [g1, hdc, k2]
  · simp [g2, hpts]
  · have c := col cMinL minI hmin hmi (.ins 0 [("width", .int n), ("rows", .tup (rows'.map dR)), ("_costs", .dic (dK rows'))])
    simp [hn2, c, k3]
  · have c := col cMaxL maxI hmax hma (.ins 0 [("width", .int n), ("rows", .tup (rows'.map dR)), ("_costs", .dic (dK rows')), ("lows", .tup ((rg n).map (colD minI rows')))])
    simp [hn2, c, k4, tableD]
end PD
set_option maxRecDepth 100000
/-! P13: weights. -/
namespace PD
open PySem PySem.Spec PyProof.Rows L2
def pt (n : Nat) (l : Lot) : List Int := (rg n).map fun k => if k ∈ l then 1 else 0
def endsO (n : Nat) : List (Option Int) := (rg n).map some ++ [none]
def steps (n : Nat) : List (Option Int × Option Int) := (endsO n).flatMap fun o => ((endsO n).filter fun i => decide (o ≠ i)).map fun i => (o, i)
def dS (s : Option Int × Option Int) : D := .tup [oD s.1, oD s.2]
/-- an amount changed -/
def ad (p : List Int) (o : Option Int) (d : Int) : List Int := match o with
  | none => p
  | some k => p.set k.toNat (p.getD k.toNat 0 + d)
def mv (p : List Int) (o i : Option Int) : List Int := ad (ad p o (-1)) i 1
theorem ad_len (p : List Int) (o : Option Int) (d : Int) : (ad p o d).length = p.length := by
  cases o with
  | none => rfl
  | some k => exact List.length_set
theorem near_steps_ok {n : Nat} (h : n ≤ 6) : F_near_steps [.int n] = .ok (.lst ((steps n).map dS)) :=
  okq_ok (all_le (p := fun n => okq (F_near_steps [.int n]) (.lst ((steps n).map dS))) (k := 6) (by decide +kernel) h)
theorem steps_mem {n : Nat} {s : Option Int × Option Int} (h : s ∈ steps n) : s.1 ∈ endsO n ∧ s.2 ∈ endsO n ∧ s.1 ≠ s.2 := by
  unfold steps at h
  obtain ⟨o, ho, hs⟩ := List.mem_flatMap.mp h
  obtain ⟨i, hi, rfl⟩ := List.mem_map.mp hs
  exact ⟨ho, (List.mem_filter.mp hi).1, of_decide_eq_true (List.mem_filter.mp hi).2⟩
theorem ends_mem {n : Nat} {k : Int} : some k ∈ endsO n ↔ 0 ≤ k ∧ k < n := by
  unfold endsO
  rw [← mem_rg]
  simp
theorem moved_ok (p : List Int) {o i : Option Int} (ho : o ∈ endsO p.length) (hi : i ∈ endsO p.length) : F_moved [dT p, oD o, oD i] = .ok (dT (mv p o i)) := by
  have step : ∀ (q : List Int) (e : Option Int) (f : Int → Int → Int) (d : Int) (v : Nat), (∀ a, f a 1 = a + d) → e ∈ endsO q.length → (v = 1 ∨ v = 2) → ∀ x1 x2 x0 : D, (v = 1 → x1 = oD e) → (v = 2 → x2 = oD e) →
      sIf (eT (e2 gNotN (eVar v) (eC .non))) (sIxAug 3 f (eVar v) (eC (.int 1))) sSkip [.val x0, .val x1, .val x2, .own (dL q)] = .nx [.val x0, .val x1, .val x2, .own (dL (ad q e d))] := by
    intro q e f d v hf he hv x1 x2 x0 h1 h2
    cases e with
    | none =>
      rcases hv with rfl | rfl
      · rw [h1 rfl]; simp [oD, ad]
      · rw [h2 rfl]; simp [oD, ad]
    | some k =>
      have hk := ends_mem.mp he
      have a1 := atI_ints (l := q) (k := k) hk
      have a2 := ixN_in (n := q.length) hk
      rcases hv with rfl | rfl
      · rw [h1 rfl]; simp only [oD, p_sIf, p_eT, p_e2, p_eVar, p_eC]; simp [a1, a2, hf, ad, List.map_set]
      · rw [h2 rfl]; simp only [oD, p_sIf, p_eT, p_e2, p_eVar, p_eC]; simp [a1, a2, hf, ad, List.map_set]
  have s1 := step p o (fun i j => i - j) (-1) 1 (fun a => by omega) ho (.inl rfl) (oD o) (oD i) (dT p) (fun _ => rfl) (fun e => by cases e)
  have s2 := step (ad p o (-1)) i (fun i j => i + j) 1 2 (fun a => rfl) (by rw [ad_len]; exact hi) (.inr rfl) (oD o) (oD i) (dT p) (fun e => by cases e) (fun _ => rfl)
  exact runF_rt rfl (rt_seq rfl (rt_seq s1 (rt_seq s2 (rt_frz ⟨_, rfl⟩))))
theorem pt_len (n : Nat) (l : Lot) : (pt n l).length = n := by unfold pt; rw [List.length_map, rg_len]
theorem end_place_ok (n : Nat) (o : Option Int) : F_end_place [.int n, oD o] = .ok (.int (match o with | none => n | some k => k)) := by
  refine runF_rt rfl ?_
  cases o <;> simp [Rt, b_end_place, oD]
def dN (t : (Option Int × Option Int) × Int) : D := .tup [oD t.1.1, oD t.1.2, .int t.2]
def none1 (rows : Rows) (p : List Int) (c0 : Int) (s : Option Int × Option Int) : List ((Option Int × Option Int) × Int) := match rows.lookup (mv p s.1 s.2) with
  | some c => [(s, c - c0)]
  | none => []
def nw (n : Nat) (rows : Rows) (p : List Int) (c0 : Int) : List ((Option Int × Option Int) × Int) := (steps n).flatMap (none1 rows p c0)
theorem steps_len {n : Nat} (h : n ≤ 6) : (steps n).length ≤ 42 := by
  have := all_le (p := fun n => decide ((steps n).length ≤ 42)) (k := 6) (by decide +kernel) h
  exact of_decide_eq_true this
theorem near_weights_ok {n : Nat} (h : n ≤ 6) {p : List Int} (hp : p.length = n) (rows : Rows) (c0 : Int) (h0 : rows.lookup p = some c0) : F_near_weights [.int n, .dic (dK rows), dT p] = .ok (.lst ((nw n rows p c0).map dN)) := by
  obtain ⟨b', hf⟩ := for_appT dS (γ := (Option Int × Option Int) × Int) (tg := gdTup 2 (gdCons (gdN 4) (gdCons (gdN 5) gdNil))) (gb := (sSeq (sSet 6 (eFn F_moved (aCons (eVar 2) (aCons (eVar 4) (aCons (eVar 5) aNil)))))
  (sIf (eT (eDIn false (eVar 6) (eVar 1))) (sApp 3 (eTup (aCons (eVar 4) (aCons (eVar 5) (aCons (e2 (gI fun i j => i - j) (eDIx (eVar 1) (eVar 6)) (eDIx (eVar 1) (eVar 2))) aNil))))) sSkip)))
    (fun acc (s : Slot × Slot × Slot) => [.val (.int n), .val (.dic (dK rows)), .val (dT p), .own (.lst (acc.map dN)), s.1, s.2.1, s.2.2]) (none1 rows p c0) 1000 (steps n) [] (.un, .un, .un) (by have := steps_len h; simp; omega) fun s hs acc b ha => by
      have ha2 : acc.length < 100000 := by omega
      obtain ⟨m1, m2, _⟩ := steps_mem hs
      have q := moved_ok p (o := s.1) (i := s.2) (by rw [hp]; exact m1) (by rw [hp]; exact m2)
      have L0 := look_dK p rows
      rw [h0] at L0
      have L1 := look_dK (mv p s.1 s.2) rows
      refine ⟨by unfold none1; split <;> simp, _, (.val (oD s.1), .val (oD s.2), .val (dT (mv p s.1 s.2))), rfl, .inl ?_⟩
      refine seq_nx (ρ1 := [.val (.int n), .val (.dic (dK rows)), .val (dT p), .own (.lst (acc.map dN)), .val (oD s.1), .val (oD s.2), .val (dT (mv p s.1 s.2))]) (by simp [q]) ?_
      cases e : rows.lookup (mv p s.1 s.2) with
      | none =>
        rw [e] at L1
        have z : none1 rows p c0 s = [] := by unfold none1; rw [e]
        simp [L1, z]
      | some c =>
        rw [e] at L1
        have z : none1 rows p c0 s = [(s, c - c0)] := by unfold none1; rw [e]
        simp [L0, L1, z, ha2, dN]
  refine runF_rt rfl (rt_seq rfl (rt_seq (for_of (ds := (steps n).map dS) (ρ1 := [.val (.int n), .val (.dic (dK rows)), .val (dT p), .own (.lst []), .un, .un, .un]) ?_ hf) ?_))
  · have q := near_steps_ok h
    simp [q]
  · simp [Rt, nw]
end PD
set_option maxRecDepth 100000
/-! P14: weight rows. -/
namespace PD
open PySem PySem.Spec PyProof.Rows L2
def Dim (N : Nat) (m : List (List Int)) : Prop := m.length = N ∧ ∀ r ∈ m, r.length = N
def getM (m : List (List Int)) (i j : Nat) : Int := (m.getD i []).getD j 0
def setM (m : List (List Int)) (i j : Nat) (w : Int) : List (List Int) := m.set i ((m.getD i []).set j w)
theorem dim_row {N : Nat} {m : List (List Int)} (d : Dim N m) {i : Nat} (hi : i < N) : (m.getD i []).length = N := by
  have lt : i < m.length := by rw [d.1]; exact hi
  rw [List.getD_eq_getElem?_getD, List.getElem?_eq_getElem lt]
  exact d.2 _ (List.getElem_mem lt)
theorem dim_set {N : Nat} {m : List (List Int)} (d : Dim N m) {i : Nat} (hi : i < N) (j : Nat) (w : Int) : Dim N (setM m i j w) := by
  refine ⟨by unfold setM; rw [List.length_set]; exact d.1, fun r hr => ?_⟩
  rcases List.mem_or_eq_of_mem_set hr with h | h
  · exact d.2 r h
  · rw [h, List.length_set]; exact dim_row d hi
theorem getD_set {α : Type} (d : α) (m : List α) (i i' : Nat) (r : α) (h : i < m.length) : (m.set i r).getD i' d = if i = i' then r else m.getD i' d := by
  rw [List.getD_eq_getElem?_getD, List.getD_eq_getElem?_getD]
  by_cases e : i = i'
  · subst e
    rw [if_pos rfl, List.getElem?_set_self h]
    rfl
  · rw [if_neg e, List.getElem?_set_ne e]
theorem get_set {N : Nat} {m : List (List Int)} (d : Dim N m) {i j i' j' : Nat} (hi : i < N) (hj : j < N) (w : Int) : getM (setM m i j w) i' j' = if i = i' ∧ j = j' then w else getM m i' j' := by
  have lt : i < m.length := by rw [d.1]; exact hi
  unfold getM setM
  rw [getD_set _ _ _ _ _ lt]
  by_cases e : i = i'
  · subst e
    rw [if_pos rfl, getD_set _ _ _ _ _ (by rw [dim_row d hi]; exact hj)]
    by_cases e2 : j = j'
    · rw [if_pos e2, if_pos ⟨rfl, e2⟩]
    · rw [if_neg e2, if_neg fun z => e2 z.2]
  · rw [if_neg e, if_neg fun z => e z.1]
section
variable {α : Type} (pi pj : α → Nat) (w : α → Int) (N : Nat)
def foldM (ts : List α) (m : List (List Int)) : List (List Int) := ts.foldl (fun m a => setM m (pi a) (pj a) (w a)) m
variable {pi pj w N}
theorem foldM_dim : ∀ (ts : List α) (m : List (List Int)), Dim N m → (∀ a ∈ ts, pi a < N ∧ pj a < N) → Dim N (foldM pi pj w ts m)
  | [], m, d, _ => d
  | a :: ts, m, d, h => foldM_dim ts _ (dim_set d (h a (List.mem_cons_self ..)).1 _ _) fun x hx => h x (List.mem_cons_of_mem _ hx)
theorem foldM_keep : ∀ (ts : List α) (m : List (List Int)) (i j : Nat), Dim N m → (∀ a ∈ ts, pi a < N ∧ pj a < N) → (∀ a ∈ ts, ¬ (pi a = i ∧ pj a = j)) → getM (foldM pi pj w ts m) i j = getM m i j
  | [], m, i, j, _, _, _ => rfl
  | a :: ts, m, i, j, d, h, n => by
    have h0 := h a (List.mem_cons_self ..)
    show getM (foldM pi pj w ts (setM m (pi a) (pj a) (w a))) i j = _
    rw [foldM_keep ts _ i j (dim_set d h0.1 _ _) (fun x hx => h x (List.mem_cons_of_mem _ hx)) (fun x hx => n x (List.mem_cons_of_mem _ hx)), get_set d h0.1 h0.2, if_neg (n a (List.mem_cons_self ..))]
theorem foldM_get : ∀ (ts : List α) (m : List (List Int)), Dim N m → (∀ a ∈ ts, pi a < N ∧ pj a < N) → (∀ a ∈ ts, ∀ b ∈ ts, pi a = pi b → pj a = pj b → w a = w b) → ∀ a ∈ ts, getM (foldM pi pj w ts m) (pi a) (pj a) = w a
  | [], _, _, _, _, a, ha => by cases ha
  | x :: ts, m, d, h, f, a, ha => by
    have h0 := h x (List.mem_cons_self ..)
    have ht : ∀ b ∈ ts, pi b < N ∧ pj b < N := fun b hb => h b (List.mem_cons_of_mem _ hb)
    show getM (foldM pi pj w ts (setM m (pi x) (pj x) (w x))) (pi a) (pj a) = _
    by_cases e : ∃ b ∈ ts, pi b = pi a ∧ pj b = pj a
    · obtain ⟨b, hb, e1, e2⟩ := e
      have IH := foldM_get ts (setM m (pi x) (pj x) (w x)) (dim_set d h0.1 _ _) ht (fun a ha b hb => f a (List.mem_cons_of_mem _ ha) b (List.mem_cons_of_mem _ hb)) b hb
      rw [e1, e2] at IH
      rw [IH]
      exact f b (List.mem_cons_of_mem _ hb) a ha e1 e2
    · have hx : a = x := by
        rcases List.mem_cons.mp ha with z | z
        · exact z
        · exact (e ⟨a, z, rfl, rfl⟩).elim
      subst hx
      rw [foldM_keep ts _ _ _ (dim_set d h0.1 _ _) ht (fun b hb z => e ⟨b, hb, z⟩), get_set d h0.1 h0.2, if_pos ⟨rfl, rfl⟩]
theorem matFor_ok {β : Type} (enc : α → D) {tg : GD} {f1 f2 f3 : M D} (E : β → DEnv) : ∀ (ts : List α) (m : List (List Int)) (b : β), Dim N m →
    (∀ a ∈ ts, (pi a < N ∧ pj a < N) ∧ ∀ b : β, ∃ b', tg (enc a) (E b) = some (E b') ∧ f3 (E b') = .ok (.int (w a)) (E b') ∧ f1 (E b') = .ok (.int (pi a)) (E b') ∧ f2 (E b') = .ok (.int (pj a)) (E b')) →
    ∃ b', matFor tg f1 f2 f3 (ts.map enc) (E b) (m.map DI) = .ok ((foldM pi pj w ts m).map DI) (E b')
  | [], m, b, _, _ => ⟨b, rfl⟩
  | a :: ts, m, b, d, h => by
    obtain ⟨h0, hb⟩ := h a (List.mem_cons_self ..)
    obtain ⟨b1, h1, h2, h3, h4⟩ := hb b
    obtain ⟨b2, IH⟩ := matFor_ok enc E ts (setM m (pi a) (pj a) (w a)) b1 (dim_set d h0.1 _ _) fun x hx => h x (List.mem_cons_of_mem _ hx)
    refine ⟨b2, ?_⟩
    have lt : pi a < m.length := by rw [d.1]; exact h0.1
    have lr := dim_row d h0.1
    rw [List.map_cons]
    unfold matFor
    rw [h1]
    dsimp only
    rw [h2]
    dsimp only
    rw [h3]
    dsimp only
    rw [h4]
    dsimp only
    have z1 : ixN (m.map DI).length (pi a : Int) = some (pi a) := by rw [List.length_map]; exact ixN_in (by omega)
    have z2 : (m.map DI)[pi a]? = some (DI (m.getD (pi a) [])) := by
      rw [List.getElem?_map, List.getD_eq_getElem?_getD, List.getElem?_eq_getElem lt]
      rfl
    have z3 : ixN (DI (m.getD (pi a) [])).length (pj a : Int) = some (pj a) := by rw [List.length_map]; exact ixN_in (by rw [lr]; omega)
    rw [z1]
    dsimp only
    rw [z2]
    dsimp only
    rw [z3]
    dsimp only
    have z4 : (m.map DI).set (pi a) ((DI (m.getD (pi a) [])).set (pj a) (.int (w a))) = (setM m (pi a) (pj a) (w a)).map DI := by
      unfold setM
      rw [List.map_set]
      congr 1
      exact (List.map_set ..).symm
    rw [z4, IH]
    rfl
end
theorem matLoop_map {α : Type} (enc : α → D) {vs : List Nat} {tg : GD} {fe : M D} {ρ : DEnv} (f : α → List D) : ∀ (l : List α) (acc : List (List D)), acc.length + l.length ≤ 100000 →
    (∀ a ∈ l, ∃ ρ1, tg (enc a) ρ = some ρ1 ∧ fe ρ1 = .ok (.lst (f a)) ρ1 ∧ wipeD ρ1 vs = ρ) → matLoop vs tg fe (l.map enc) ρ acc = .ok (acc ++ l.map f) ρ
  | [], acc, _, _ => by simp [matLoop]
  | d :: ds, acc, hl, h => by
    obtain ⟨ρ1, h1, h2, h3⟩ := h d (List.mem_cons_self ..)
    rw [List.length_cons] at hl
    rw [List.map_cons]
    unfold matLoop
    rw [h1]
    dsimp only
    rw [h2]
    dsimp only
    rw [if_pos (by omega), h3, matLoop_map enc f ds (acc ++ [f d]) (by rw [List.length_append, List.length_singleton]; omega) fun x hx => h x (List.mem_cons_of_mem _ hx), List.map_cons, List.append_assoc]
    rfl
/-- the place of an end -/
def pl (n : Nat) : Option Int → Nat
  | none => n
  | some k => k.toNat
def ENDL : Int := 100000000000000000000
def m0 (n : Nat) : List (List Int) := List.replicate (n + 1) (List.replicate (n + 1) ENDL)
def Wm (n : Nat) (rows : Rows) (x : List Int × Int) : List (List Int) := foldM (fun t : (Option Int × Option Int) × Int => pl n t.1.1) (fun t => pl n t.1.2) (fun t => t.2) (nw n rows x.1 x.2) (m0 n)
theorem m0_dim (n : Nat) : Dim (n + 1) (m0 n) := ⟨by simp [m0], fun r hr => by rw [List.eq_of_mem_replicate hr]; simp⟩
theorem nw_mem {n : Nat} {rows : Rows} {p : List Int} {c0 : Int} {t : (Option Int × Option Int) × Int} (h : t ∈ nw n rows p c0) : t.1 ∈ steps n ∧ ∃ c, rows.lookup (mv p t.1.1 t.1.2) = some c ∧ t.2 = c - c0 := by
  unfold nw at h
  obtain ⟨s, hs, ht⟩ := List.mem_flatMap.mp h
  unfold none1 at ht
  split at ht
  · rename_i c e
    rw [List.mem_singleton.mp ht]
    exact ⟨hs, c, e, rfl⟩
  · cases ht
theorem mem_nw {n : Nat} {rows : Rows} {p : List Int} {c0 c : Int} {s : Option Int × Option Int} (h : s ∈ steps n) (e : rows.lookup (mv p s.1 s.2) = some c) : (s, c - c0) ∈ nw n rows p c0 := by
  unfold nw
  refine List.mem_flatMap.mpr ⟨s, h, ?_⟩
  unfold none1
  rw [e]
  exact List.mem_singleton.mpr rfl
theorem pl_lt {n : Nat} {o : Option Int} (h : o ∈ endsO n) : pl n o < n + 1 := by
  cases o with
  | none => exact Nat.lt_succ_self n
  | some k => have := ends_mem.mp h; show k.toNat < n + 1; omega
theorem pl_inj {n : Nat} {o p : Option Int} (h : o ∈ endsO n) (h' : p ∈ endsO n) (e : pl n o = pl n p) : o = p := by
  cases o with
  | none =>
    cases p with
    | none => rfl
    | some k =>
      have := ends_mem.mp h'
      have e' : n = k.toNat := e
      omega
  | some j =>
    have hj := ends_mem.mp h
    cases p with
    | none =>
      have e' : j.toNat = n := e
      omega
    | some k =>
      have hk := ends_mem.mp h'
      have e' : j.toNat = k.toNat := e
      have : j = k := by omega
      rw [this]
theorem nw_pl {n : Nat} {rows : Rows} {p : List Int} {c0 : Int} : ∀ t ∈ nw n rows p c0, pl n t.1.1 < n + 1 ∧ pl n t.1.2 < n + 1 := fun t ht => by
  obtain ⟨hs, _⟩ := nw_mem ht
  obtain ⟨m1, m2, _⟩ := steps_mem hs
  exact ⟨pl_lt m1, pl_lt m2⟩
theorem Wm_dim (n : Nat) (rows : Rows) (x : List Int × Int) : Dim (n + 1) (Wm n rows x) := foldM_dim _ _ (m0_dim n) nw_pl
theorem Wm_get {n : Nat} {rows : Rows} {x : List Int × Int} {s : Option Int × Option Int} {c : Int} (h : s ∈ steps n) (e : rows.lookup (mv x.1 s.1 s.2) = some c) : getM (Wm n rows x) (pl n s.1) (pl n s.2) = c - x.2 := by
  refine foldM_get (pi := fun t : (Option Int × Option Int) × Int => pl n t.1.1) (pj := fun t => pl n t.1.2) (w := fun t => t.2) (N := n + 1) (nw n rows x.1 x.2) (m0 n) (m0_dim n) nw_pl ?_ (s, c - x.2) (mem_nw h e)
  intro a ha b hb e1 e2
  obtain ⟨sa, ca, la, wa⟩ := nw_mem ha
  obtain ⟨sb, cb, lb, wb⟩ := nw_mem hb
  obtain ⟨a1, a2, _⟩ := steps_mem sa
  obtain ⟨b1, b2, _⟩ := steps_mem sb
  have z1 := pl_inj a1 b1 e1
  have z2 := pl_inj a2 b2 e2
  rw [z1, z2, lb] at la
  cases la
  rw [wa, wb]
/-- a weight row -/
def wrow (n : Nat) (rows : Rows) (x : List Int × Int) : D := .tup [dT x.1, dL (x.1 ++ [-x.1.sum]), .lst ((Wm n rows x).map fun r => dL r)]
theorem lookup_mem {rows : Rows} (nd : (rows.map (·.1)).Nodup) {x : Lot × Int} (h : x ∈ rows) : rows.lookup x.1 = some x.2 := by
  induction rows with
  | nil => cases h
  | cons y r ih =>
    rw [List.map_cons, List.nodup_cons] at nd
    obtain ⟨k, c⟩ := y
    rw [List.lookup_cons]
    rcases List.mem_cons.mp h with e | h
    · subst e
      rw [beq_self_eq_true]
    · have ne : ¬ x.1 = k := fun e => nd.1 (List.mem_map.mpr ⟨x, h, e⟩)
      rw [(beq_eq_false_iff_ne).mpr ne]
      exact ih nd.2 h
theorem mem_lookup {rows : Rows} {l : Lot} {c : Int} (h : rows.lookup l = some c) : (l, c) ∈ rows := by
  induction rows with
  | nil => cases h
  | cons y r ih =>
    obtain ⟨k, d⟩ := y
    rw [List.lookup_cons] at h
    by_cases e : l = k
    · subst e
      rw [beq_self_eq_true] at h
      cases h
      exact List.mem_cons_self ..
    · rw [(beq_eq_false_iff_ne).mpr e] at h
      exact List.mem_cons_of_mem _ (ih h)
theorem width_at {n : Nat} {rd c lo hi : D} : List.lookup ("width" : Str) [(("width" : Str), D.int n), ("rows", rd), ("_costs", c), ("lows", lo), ("highs", hi)] = some (.int n) := rfl
theorem trows_at {n : Nat} {rd c lo hi : D} : List.lookup ("rows" : Str) [(("width" : Str), D.int n), ("rows", rd), ("_costs", c), ("lows", lo), ("highs", hi)] = some rd := rfl
theorem tpoints_at {n : Nat} {rd c lo hi : D} : List.lookup ("points" : Str) [(("width" : Str), D.int n), ("rows", rd), ("_costs", c), ("lows", lo), ("highs", hi)] = none := rfl
theorem tlows_at {n : Nat} {rd c lo hi : D} : List.lookup ("lows" : Str) [(("width" : Str), D.int n), ("rows", rd), ("_costs", c), ("lows", lo), ("highs", hi)] = some lo := rfl
theorem thighs_at {n : Nat} {rd c lo hi : D} : List.lookup ("highs" : Str) [(("width" : Str), D.int n), ("rows", rd), ("_costs", c), ("lows", lo), ("highs", hi)] = some hi := rfl
theorem table_costs_ok {n : Nat} {rows : Rows} (h : TRows n rows) (lo hi : List D) : F_table_costs [tableD n rows lo hi] = .ok (.dic (dK rows)) := by
  have l2 := h.l2
  have e := dc_of dR (vs := [1, 2]) (tg := gdTup 2 (gdCons (gdN 1) (gdCons (gdN 2) gdNil))) (fk := eVar 1) (fv := eVar 2) (ρ := [.val (tableD n rows lo hi), .un, .un]) (fun x => kI x.1) (fun x => .int x.2) rows [] (by simp; omega) (by simpa using dK_keys h.nd) fun x hx => ⟨_, dT x.1, rfl, rfl, by simp, rfl, rfl⟩
  have e' : dcLoop [1, 2] (gdTup 2 (gdCons (gdN 1) (gdCons (gdN 2) gdNil))) mYes (eVar 1) (eVar 2) (rows.map dR) [.val (tableD n rows lo hi), .un, .un] [] = .ok (.dic (dK rows)) [.val (tableD n rows lo hi), .un, .un] := e
  refine runF_rt rfl ?_
  unfold tableD at *
  simp [Rt, b_table_costs, trows_at, e']
theorem points_ok {n : Nat} {rows : Rows} (h : TRows n rows) (lo hi : List D) : F_Table_points [tableD n rows lo hi] = .ok (.lst (rows.map fun x => dT x.1)) := by
  have l2 := h.l2
  have e := lc_map dR (vs := [1, 2]) (tg := gdTup 2 (gdCons (gdN 1) (gdCons (gdN 2) gdNil))) (fe := eVar 1) (ρ := [.val (tableD n rows lo hi), .un, .un]) (fun x => dT x.1) rows (by omega) fun x hx => ⟨_, rfl, rfl, rfl⟩
  refine runF_rt rfl ?_
  unfold tableD at *
  simp [Rt, b_Table_points, trows_at, e]
theorem end_amounts_ok (p : List Int) (hl : p.length ≤ 1000) : F_end_amounts [dT p] = .ok (dL (p ++ [-p.sum])) := by
  have e : cSumT [dT p] = some (.int p.sum) := by
    show (intsD (DI p)).map _ = _
    rw [intsD_DI]
    rfl
  have l2 : p.length + 1 ≤ 100000 := by omega
  refine runF_rt rfl ?_
  simp [Rt, b_end_amounts, e, l2]
end PD
set_option maxRecDepth 100000
/-! P15: bad_triple finds none. -/
namespace PD
open PySem PySem.Spec PyProof.Rows L2
theorem mat_of {wi : Nat} {em : M (List (List D))} {fi : M (List D)} {tg : GD} {f1 f2 f3 : M D} {g : MS} {ρ ρ1 ρ2 ρ3 : DEnv} {m m' : List (List D)} {ds : List D} {r : RS} (h1 : em ρ = .ok m ρ1) (hw : wi < ρ1.length) (h2 : fi (ρ1.set wi .un) = .ok ds ρ2) (h3 : matFor tg f1 f2 f3 ds ρ2 m = .ok m' ρ3) (h4 : g (ρ3.set wi (.val (.lst (m'.map .lst)))) = r) : sMat wi em fi tg f1 f2 f3 g ρ = r := by
  unfold sMat
  rw [h1, p_ofT_ok, if_pos hw, h2, p_ofT_ok, h3, p_ofT_ok]
  exact h4
theorem end_place_pl (n : Nat) {o : Option Int} (h : o ∈ endsO n) : F_end_place [.int n, oD o] = .ok (.int (pl n o)) := by
  rw [end_place_ok]
  cases o with
  | none => rfl
  | some k =>
    have := ends_mem.mp h
    show RF.ok (.int k) = .ok (.int ((k.toNat : Nat) : Int))
    have : ((k.toNat : Nat) : Int) = k := by omega
    rw [this]
theorem rep_flat {α : Type} (n : Nat) (a : α) : (List.replicate n [a]).flatten = List.replicate n a := by simp
theorem weight_rows_ok {n : Nat} (hn : n ≤ 6) {rows : Rows} (h : TRows n rows) (lo hi : List D) : F_weight_rows [tableD n rows lo hi] = .ok (.lst (rows.map (wrow n rows))) := by
  have l2 := h.l2
  have hc := table_costs_ok h lo hi
  have hp := points_ok h lo hi
  have hn2 : (n : Int) + 1 ≤ 100000 := by omega
  generalize hT : tableD n rows lo hi = T at *
  have hTw : List.lookup ("width" : Str) [(("width" : Str), D.int n), ("rows", .tup (rows.map dR)), ("_costs", .dic (dK rows)), ("lows", .tup lo), ("highs", .tup hi)] = some (.int n) := rfl
  obtain ⟨b', hf⟩ := for_mapT (fun x : Lot × Int => dT x.1) (γ := D) (tg := gdN 4) (gb := (sMat 5 (eMat [9] (iRg1 (e2 (gI fun i j => i + j) (eVar 1) (eC (.int 1)))) (gdN 9) (e2 gRep (eLst (aCons (eC (.int (100000000000000000000))) aNil)) (e2 (gI fun i j => i + j) (eVar 1) (eC (.int 1))))) (iSeq (eFn F_near_weights (aCons (eVar 1) (aCons (eVar 2) (aCons (eVar 4) aNil))))) (gdTup 3 (gdCons (gdN 6) (gdCons (gdN 7) (gdCons (gdN 8) gdNil)))) (eFn F_end_place (aCons (eVar 1) (aCons (eVar 6) aNil))) (eFn F_end_place (aCons (eVar 1) (aCons (eVar 7) aNil))) (eVar 8)
  (sApp 3 (eTup (aCons (eVar 4) (aCons (eFn F_end_amounts (aCons (eVar 4) aNil)) (aCons (eVar 5) aNil)))))))
    (fun acc (s : Slot × Slot × Slot × Slot × Slot) => [.val T, .val (.int n), .val (.dic (dK rows)), .own (.lst acc), s.1, s.2.1, s.2.2.1, s.2.2.2.1, s.2.2.2.2, .un]) (wrow n rows) 1000 rows [] (.un, .un, .un, .un, .un) (by simp; omega) fun x hx acc s ha => by
      have ha2 : acc.length < 100000 := by omega
      have hl := h.len x hx
      have nwk := near_weights_ok hn hl rows x.2 (lookup_mem h.nd hx)
      have ea := end_amounts_ok x.1 (by omega)
      obtain ⟨s4, s5, s6, s7, s8⟩ := s
      have hm : (eMat [9] (iRg1 (e2 (gI fun i j => i + j) (eVar 1) (eC (.int 1)))) (gdN 9) (e2 gRep (eLst (aCons (eC (.int (100000000000000000000))) aNil)) (e2 (gI fun i j => i + j) (eVar 1) (eC (.int 1))))) [.val T, .val (.int n), .val (.dic (dK rows)), .own (.lst acc), .val (dT x.1), s5, s6, s7, s8, .un] = .ok ((m0 n).map DI) [.val T, .val (.int n), .val (.dic (dK rows)), .own (.lst acc), .val (dT x.1), s5, s6, s7, s8, .un] := by
        have e := matLoop_map (fun i : Nat => D.int (0 + (i : Nat))) (vs := [9]) (tg := gdN 9) (fe := e2 gRep (eLst (aCons (eC (.int (100000000000000000000))) aNil)) (e2 (gI fun i j => i + j) (eVar 1) (eC (.int 1)))) (ρ := [.val T, .val (.int n), .val (.dic (dK rows)), .own (.lst acc), .val (dT x.1), s5, s6, s7, s8, .un])
          (fun _ => DI (List.replicate (n + 1) ENDL)) (List.range (n + 1)) [] (by simp; omega) fun i _ => by
            refine ⟨_, rfl, ?_, rfl⟩
            have z1 : (n : Int) + 1 = ((n + 1 : Nat) : Int) := by omega
            have z2 : gRep (.lst [.int 100000000000000000000]) (.int ((n + 1 : Nat) : Int)) = some (.lst (DI (List.replicate (n + 1) ENDL))) := by
              show (if [D.int 100000000000000000000].length * ((n + 1 : Nat) : Int).toNat ≤ 100000 ∧ ((n + 1 : Nat) : Int) ≤ 100000 ∧ 0 ≤ ((n + 1 : Nat) : Int) then some (D.lst (List.replicate ((n + 1 : Nat) : Int).toNat [D.int 100000000000000000000]).flatten) else none) = _
              rw [Int.toNat_natCast, rep_flat, if_pos ⟨by simp; omega, by omega, by omega⟩, DI, List.map_replicate]
              rfl
            simp only [p_e2, p_eLst, p_aCons, p_aNil, p_eC, p_eVar, RM.bind]
            show lift (gRep (.lst [.int 100000000000000000000]) (.int ((n : Int) + 1))) _ = _
            rw [z1, z2]
            rfl
        have em : (m0 n).map DI = [] ++ (List.range (n + 1)).map fun _ => DI (List.replicate (n + 1) ENDL) := by
          unfold m0
          rw [List.map_replicate, List.nil_append]
          apply List.ext_getElem?
          intro j
          rw [List.getElem?_map]
          by_cases lt : j < n + 1
          · rw [List.getElem?_range lt, List.getElem?_replicate_of_lt lt]
            rfl
          · rw [List.getElem?_eq_none (by simpa using Nat.not_lt.mp lt), List.getElem?_eq_none (by simpa using Nat.not_lt.mp lt)]
            rfl
        have hi : (iRg1 (e2 (gI fun i j => i + j) (eVar 1) (eC (.int 1)))) [.val T, .val (.int n), .val (.dic (dK rows)), .own (.lst acc), .val (dT x.1), s5, s6, s7, s8, .un] = .ok ((List.range (n + 1)).map fun i : Nat => D.int (0 + (i : Nat))) [.val T, .val (.int n), .val (.dic (dK rows)), .own (.lst acc), .val (dT x.1), s5, s6, s7, s8, .un] := by
          have z : ((n : Int) + 1).toNat = n + 1 := by omega
          have z3 : (-100000 : Int) ≤ (n : Int) + 1 := by omega
          simp [hn2, z, z3]
        unfold eMat
        rw [hi, em]
        exact e
      obtain ⟨b, hmf⟩ := matFor_ok (pi := fun t : (Option Int × Option Int) × Int => pl n t.1.1) (pj := fun t => pl n t.1.2) (w := fun t => t.2) (N := n + 1) dN (tg := gdTup 3 (gdCons (gdN 6) (gdCons (gdN 7) (gdCons (gdN 8) gdNil)))) (f1 := eFn F_end_place (aCons (eVar 1) (aCons (eVar 6) aNil))) (f2 := eFn F_end_place (aCons (eVar 1) (aCons (eVar 7) aNil))) (f3 := eVar 8)
        (fun s : Slot × Slot × Slot => [.val T, .val (.int n), .val (.dic (dK rows)), .own (.lst acc), .val (dT x.1), .un, s.1, s.2.1, s.2.2, .un]) (nw n rows x.1 x.2) (m0 n) (s6, s7, s8) (m0_dim n) fun t ht => by
          refine ⟨nw_pl t ht, fun b => ⟨(.val (oD t.1.1), .val (oD t.1.2), .val (.int t.2)), rfl, rfl, ?_, ?_⟩⟩
          · obtain ⟨m1, m2, _⟩ := steps_mem (nw_mem ht).1
            have e := end_place_pl n m1
            simp [e]
          · obtain ⟨m1, m2, _⟩ := steps_mem (nw_mem ht).1
            have e := end_place_pl n m2
            simp [e]
      refine ⟨_, (.val (dT x.1), .val (.lst ((Wm n rows x).map fun r => dL r)), b.1, b.2.1, b.2.2), rfl, .inl ?_⟩
      refine mat_of (wi := 5) hm (by simp) (ds := (nw n rows x.1 x.2).map dN) ?_ hmf ?_
      · simp [nwk]
      · have zz : (Wm n rows x).map (fun r => dL r) = ((foldM (fun t : (Option Int × Option Int) × Int => pl n t.1.1) (fun t => pl n t.1.2) (fun t => t.2) (nw n rows x.1 x.2) (m0 n)).map DI).map D.lst := by
          rw [List.map_map]; rfl
        rw [← zz]
        simp [ea, ha2, wrow]
  refine runF_rt rfl (rt_seq (ρ1 := [.val T, .val (.int n), .un, .un, .un, .un, .un, .un, .un, .un]) ?_ (rt_seq (ρ1 := [.val T, .val (.int n), .val (.dic (dK rows)), .un, .un, .un, .un, .un, .un, .un]) ?_ (rt_seq rfl (rt_seq (for_of (ds := rows.map fun x => dT x.1) (ρ1 := [.val T, .val (.int n), .val (.dic (dK rows)), .own (.lst []), .un, .un, .un, .un, .un, .un]) ?_ hf) ?_))))
  · subst hT
    simp [tableD, hTw]
  · simp [hc]
  · subst hT
    unfold tableD at *
    simp [hp, tpoints_at]
  · simp [Rt]
end PD
set_option maxRecDepth 100000
/-! P16: bad_triple finds none. -/
namespace PD
open PySem PySem.Spec PyProof.Rows L2
theorem enum_DI (l : List Int) : ((DI l).zipIdx.map fun p : D × Nat => D.tup [.int (p.2 : Nat), p.1]) = l.zipIdx.map fun p : Int × Nat => D.tup [.int (p.2 : Nat), .int p.1] := by
  unfold DI
  rw [List.zipIdx_map, List.map_map]
  rfl
theorem zip_mem {l : List Int} {p : Int × Nat} (h : p ∈ l.zipIdx) : p.2 < l.length ∧ p.1 = l.getD p.2 0 := by
  obtain ⟨a, i⟩ := p
  have := List.mem_zipIdx_iff_getElem?.mp h
  have lt := (List.getElem?_eq_some_iff.mp this).1
  exact ⟨lt, by show a = _; rw [List.getD_eq_getElem?_getD, this]; rfl⟩
theorem mem_zip {l : List Int} {i : Nat} (h : i < l.length) : (l.getD i 0, i) ∈ l.zipIdx := by
  refine List.mem_zipIdx_iff_getElem?.mpr ?_
  rw [List.getD_eq_getElem?_getD, List.getElem?_eq_getElem h]
  rfl
theorem atI_nat' {l : List Int} {k : Nat} (h : k < l.length) : atI (DI l) (k : Int) = some (.int (l.getD k 0)) := by
  have := atI_ints (l := l) (k := k) ⟨by omega, by omega⟩
  rwa [Int.toNat_natCast] at this
theorem atI_row {N : Nat} {m : List (List Int)} (d : Dim N m) {i : Nat} (h : i < N) : atI (m.map fun r => dL r) (i : Int) = some (dL (m.getD i [])) := by
  have lt : i < m.length := by rw [d.1]; exact h
  unfold atI
  rw [List.length_map, ixN_in (by omega)]
  show (m.map fun r => dL r)[(i : Int).toNat]? = _
  rw [Int.toNat_natCast, List.getElem?_map, List.getD_eq_getElem?_getD, List.getElem?_eq_getElem lt]
  rfl
theorem boolsD_map {α : Type} (f : α → Bool) : ∀ l : List α, boolsD (l.map fun x => D.bl (f x)) = some (l.map f)
  | [] => rfl
  | k :: r => by
    show (boolsD (r.map fun x => D.bl (f x))).map (fun is => f k :: is) = _
    rw [boolsD_map f r]
    rfl
def amts (x : List Int × Int) : List Int := x.1 ++ [-x.1.sum]
theorem place_none {n : Nat} (hn : n ≤ 6) {rows : Rows} {x y : Lot × Int} (hx : x.1.length = n) (hy : y.1.length = n)
    (hex : ∀ i, i < n + 1 → (amts y).getD i 0 < (amts x).getD i 0 → ∃ j, j < n + 1 ∧ (amts x).getD j 0 < (amts y).getD j 0 ∧ getM (Wm n rows x) i j + getM (Wm n rows y) j i ≤ 0) :
    F_place_without_partner [wrow n rows x, wrow n rows y] = .ok .non := by
  have dx := Wm_dim n rows x
  have dy := Wm_dim n rows y
  have lx : (amts x).length = n + 1 := by unfold amts; rw [List.length_append, hx]; rfl
  have ly : (amts y).length = n + 1 := by unfold amts; rw [List.length_append, hy]; rfl
  have wx : wrow n rows x = .tup [dT x.1, dL (amts x), .lst ((Wm n rows x).map fun r => dL r)] := rfl
  have wy : wrow n rows y = .tup [dT y.1, dL (amts y), .lst ((Wm n rows y).map fun r => dL r)] := rfl
  rw [wx, wy]
  generalize Wm n rows x = mx at *
  generalize Wm n rows y = my at *
  generalize amts x = xs at *
  generalize amts y = ys at *
  generalize hA : D.tup [dT x.1, dL xs, .lst (mx.map fun r => dL r)] = A
  generalize hB : D.tup [dT y.1, dL ys, .lst (my.map fun r => dL r)] = B
  have hless := lc_of (fun p : Int × Nat => D.tup [.int (p.2 : Nat), .int p.1]) (vs := [8, 9]) (tg := gdTup 2 (gdCons (gdN 8) (gdCons (gdN 9) gdNil))) (ft := eT (e2 (gB fun i j => decide (i < j)) (eVar 9) (e2 gIx (eVar 5) (eVar 8)))) (fe := eVar 8)
    (ρ := [.val A, .val B, .val (dT y.1), .val (dL xs), .val (.lst (mx.map fun r => dL r)), .val (dL ys), .val (.lst (my.map fun r => dL r)), .un, .un, .un, .un]) (fun p => decide (p.1 < ys.getD p.2 0)) (fun p => .int (p.2 : Nat)) xs.zipIdx [] (by rw [List.length_zipIdx]; simp; omega) fun p hp => by
      obtain ⟨h1, h2⟩ := zip_mem hp
      have z := atI_nat' (l := ys) (k := p.2) (by omega)
      exact ⟨_, rfl, by simp [z], fun _ => rfl, rfl⟩
  have hl2 : ([] : List D) ++ (xs.zipIdx.filter fun p => decide (p.1 < ys.getD p.2 0)).map (fun p => D.int (p.2 : Nat)) = DI ((xs.zipIdx.filter fun p => decide (p.1 < ys.getD p.2 0)).map fun p => ((p.2 : Nat) : Int)) := by
    rw [List.nil_append, DI, List.map_map]; rfl
  rw [hl2] at hless
  have hlm : ∀ j : Int, j ∈ (xs.zipIdx.filter fun p => decide (p.1 < ys.getD p.2 0)).map (fun p => ((p.2 : Nat) : Int)) ↔ ∃ k : Nat, j = k ∧ k < n + 1 ∧ xs.getD k 0 < ys.getD k 0 := fun j => by
    rw [List.mem_map]
    constructor
    · rintro ⟨p, hp, rfl⟩
      obtain ⟨p1, p2⟩ := List.mem_filter.mp hp
      obtain ⟨h1, h2⟩ := zip_mem p1
      exact ⟨p.2, rfl, by omega, by rw [← h2]; exact of_decide_eq_true p2⟩
    · rintro ⟨k, rfl, h1, h2⟩
      exact ⟨(xs.getD k 0, k), List.mem_filter.mpr ⟨mem_zip (by omega), decide_eq_true h2⟩, rfl⟩
  have hll : ((xs.zipIdx.filter fun p => decide (p.1 < ys.getD p.2 0)).map fun p => ((p.2 : Nat) : Int)).length ≤ 1000 := by
    rw [List.length_map]
    have := List.length_filter_le (fun p : Int × Nat => decide (p.1 < ys.getD p.2 0)) xs.zipIdx
    rw [List.length_zipIdx] at this
    omega
  generalize (xs.zipIdx.filter fun p => decide (p.1 < ys.getD p.2 0)).map (fun p => ((p.2 : Nat) : Int)) = less at *
  obtain ⟨b', hf⟩ := for_keepT (fun p : Int × Nat => D.tup [.int (p.2 : Nat), .int p.1]) (tg := gdTup 2 (gdCons (gdN 10) (gdCons (gdN 9) gdNil))) (gb := (sIf (eAnd (eT (e2 (gB fun i j => decide (j < i)) (eVar 9) (e2 gIx (eVar 5) (eVar 10)))) (eNot (eT (eCall cAny (aCons (eLc [8] (iSeq (eVar 7)) (gdN 8) mYes (e2 (gB fun i j => decide (i ≤ j)) (e2 (gI fun i j => i + j) (e2 gIx (e2 gIx (eVar 4) (eVar 10)) (eVar 8)) (e2 gIx (e2 gIx (eVar 6) (eVar 8)) (eVar 10))) (eC (.int 0)))) aNil))))) (sRet (eVar 10)) sSkip))
    (fun s : Slot × Slot => [.val A, .val B, .val (dT y.1), .val (dL xs), .val (.lst (mx.map fun r => dL r)), .val (dL ys), .val (.lst (my.map fun r => dL r)), .val (dL less), .un, s.1, s.2]) xs.zipIdx (.un, .un) fun p hp s => by
      obtain ⟨h1, h2⟩ := zip_mem hp
      have z := atI_nat' (l := ys) (k := p.2) (by omega)
      refine ⟨_, (.val (.int p.1), .val (.int (p.2 : Nat))), rfl, .inl ?_⟩
      by_cases c : ys.getD p.2 0 < p.1
      · have q := lc_map D.int (vs := [8]) (tg := gdN 8) (fe := (e2 (gB fun i j => decide (i ≤ j)) (e2 (gI fun i j => i + j) (e2 gIx (e2 gIx (eVar 4) (eVar 10)) (eVar 8)) (e2 gIx (e2 gIx (eVar 6) (eVar 8)) (eVar 10))) (eC (.int 0))))
          (ρ := [.val A, .val B, .val (dT y.1), .val (dL xs), .val (.lst (mx.map fun r => dL r)), .val (dL ys), .val (.lst (my.map fun r => dL r)), .val (dL less), .un, .val (.int p.1), .val (.int (p.2 : Nat))])
          (fun j => .bl (decide (getM mx p.2 j.toNat + getM my j.toNat p.2 ≤ 0))) less (by omega) fun j hj => by
            obtain ⟨k, rfl, k1, k2⟩ := (hlm j).mp hj
            have a1 := atI_row dx (i := p.2) (by omega)
            have a2 := atI_nat' (l := mx.getD p.2 []) (k := k) (by rw [dim_row dx (by omega)]; exact k1)
            have a3 := atI_row dy (i := k) k1
            have a4 := atI_nat' (l := my.getD k []) (k := p.2) (by rw [dim_row dy k1]; omega)
            refine ⟨_, rfl, ?_, rfl⟩
            have g1 : getM mx p.2 ((k : Int).toNat) = (mx.getD p.2 []).getD k 0 := by rw [Int.toNat_natCast]; rfl
            have g2 : getM my ((k : Int).toNat) p.2 = (my.getD k []).getD p.2 0 := by rw [Int.toNat_natCast]; rfl
            rw [g1, g2]
            generalize (mx.getD p.2 []).getD k 0 = v1 at a2
            generalize (my.getD k []).getD p.2 0 = v2 at a4
            generalize mx.getD p.2 [] = r1 at a1 a2
            generalize my.getD k [] = r2 at a3 a4
            simp [a1, a2, a3, a4]
        have hany : (less.map fun j : Int => decide (getM mx p.2 j.toNat + getM my j.toNat p.2 ≤ 0)).any id = true := by
          obtain ⟨k, k1, k2, k3⟩ := hex p.2 (by omega) (by rw [← h2]; exact c)
          rw [List.any_map, List.any_eq_true]
          refine ⟨(k : Int), (hlm k).mpr ⟨k, rfl, k1, k2⟩, ?_⟩
          show decide (_ ≤ 0) = true
          rw [Int.toNat_natCast]
          exact decide_eq_true k3
        have qa : cAny [.lst (less.map fun j : Int => D.bl (decide (getM mx p.2 j.toNat + getM my j.toNat p.2 ≤ 0)))] = some (.bl true) := by
          show (boolsD _).map _ = _
          rw [boolsD_map, Option.map_some, hany]
        generalize less.map (fun j : Int => D.bl (decide (getM mx p.2 j.toNat + getM my j.toNat p.2 ≤ 0))) = ds at q qa
        have q' : lcLoop _ _ _ _ (DI less) _ _ = _ := q
        generalize ys.getD p.2 0 = v at z c
        simp [z, c, q', qa]
      · generalize ys.getD p.2 0 = v at z c
        simp [z, c]
  have hen : ∀ ρ : DEnv, ρ[3]? = some (.val (dL xs)) → iEnumD (eVar 3) ρ = .ok (xs.zipIdx.map fun p : Int × Nat => D.tup [.int (p.2 : Nat), .int p.1]) ρ := fun ρ h => by
    have := enum_DI xs
    simp [h, this]
  have hs : sSet 7 (eLc [8, 9] (iEnumD (eVar 3)) (gdTup 2 (gdCons (gdN 8) (gdCons (gdN 9) gdNil))) (eT (e2 (gB fun i j => decide (i < j)) (eVar 9) (e2 gIx (eVar 5) (eVar 8)))) (eVar 8)) [.val A, .val B, .val (dT y.1), .val (dL xs), .val (.lst (mx.map fun r => dL r)), .val (dL ys), .val (.lst (my.map fun r => dL r)), .un, .un, .un, .un] =
      .nx [.val A, .val B, .val (dT y.1), .val (dL xs), .val (.lst (mx.map fun r => dL r)), .val (dL ys), .val (.lst (my.map fun r => dL r)), .val (dL less), .un, .un, .un] := by
    refine set_of (ρ1 := [.val A, .val B, .val (dT y.1), .val (dL xs), .val (.lst (mx.map fun r => dL r)), .val (dL ys), .val (.lst (my.map fun r => dL r)), .un, .un, .un, .un]) ?_
    unfold eLc
    rw [hen _ rfl]
    exact hless
  have a1 : sAsg (gdTup 3 (gdCons (gdN 2) (gdCons (gdN 3) (gdCons (gdN 4) gdNil)))) (eVar 0) (stD 11 [A, B]) = .nx [.val A, .val B, .val (dT x.1), .val (dL xs), .val (.lst (mx.map fun r => dL r)), .un, .un, .un, .un, .un, .un] := by subst hA; rfl
  have a2 : sAsg (gdTup 3 (gdCons (gdN 2) (gdCons (gdN 5) (gdCons (gdN 6) gdNil)))) (eVar 1) [.val A, .val B, .val (dT x.1), .val (dL xs), .val (.lst (mx.map fun r => dL r)), .un, .un, .un, .un, .un, .un] = .nx [.val A, .val B, .val (dT y.1), .val (dL xs), .val (.lst (mx.map fun r => dL r)), .val (dL ys), .val (.lst (my.map fun r => dL r)), .un, .un, .un, .un] := by subst hB; rfl
  exact runF_rt rfl (rt_seq a1 (rt_seq a2 (rt_seq hs (rt_seq (for_of (hen _ rfl) hf) ⟨_, rfl⟩))))
theorem first_triple_ok {n : Nat} (hn : n ≤ 6) {rows : Rows} (h : TRows n rows) (lo hi : List D)
    (hex : ∀ x ∈ rows, ∀ y ∈ rows, ∀ i, i < n + 1 → (amts y).getD i 0 < (amts x).getD i 0 → ∃ j, j < n + 1 ∧ (amts x).getD j 0 < (amts y).getD j 0 ∧ getM (Wm n rows x) i j + getM (Wm n rows y) j i ≤ 0) :
    F_bad_triple [tableD n rows lo hi] = .ok .non := by
  have hw := weight_rows_ok hn h lo hi
  generalize tableD n rows lo hi = T at *
  have hft : F_first_triple [T, .bl false] = .ok .non := by
    obtain ⟨b', hf⟩ := for_keepT (wrow n rows) (tg := gdN 3) (gb := sFor (iSeq (eVar 2)) (gdN 4) (sSeq (sIf (eAnd (eT (eVar 1)) (eNot (fun _ => .stuck))) (fun ρ => .ct ρ) sSkip)
      (sSeq (sSet 5 (eFn F_place_without_partner (aCons (eVar 3) (aCons (eVar 4) aNil))))
      (sIf (eT (e2 (gNotN) (eVar 5) (eC .non))) (sRet (eTup (aCons (e2 gIx (eVar 3) (eC (.int 0))) (aCons (e2 gIx (eVar 4) (eC (.int 0))) (aCons (e2 gIx (eFn F_ends (aCons (eFld 0 "width" (eVar 0)) aNil)) (eVar 5)) aNil))))) sSkip))))
      (fun s : Slot × Slot × Slot => [.val T, .val (.bl false), .val (.lst (rows.map (wrow n rows))), s.1, s.2.1, s.2.2]) rows (.un, .un, .un) fun x hx s => by
        obtain ⟨b1, hg⟩ := for_keepT (wrow n rows) (tg := gdN 4) (gb := (sSeq (sIf (eAnd (eT (eVar 1)) (eNot (fun _ => .stuck))) (fun ρ => .ct ρ) sSkip)
          (sSeq (sSet 5 (eFn F_place_without_partner (aCons (eVar 3) (aCons (eVar 4) aNil))))
          (sIf (eT (e2 (gNotN) (eVar 5) (eC .non))) (sRet (eTup (aCons (e2 gIx (eVar 3) (eC (.int 0))) (aCons (e2 gIx (eVar 4) (eC (.int 0))) (aCons (e2 gIx (eFn F_ends (aCons (eFld 0 "width" (eVar 0)) aNil)) (eVar 5)) aNil))))) sSkip))))
          (fun s2 : Slot × Slot => [.val T, .val (.bl false), .val (.lst (rows.map (wrow n rows))), .val (wrow n rows x), s2.1, s2.2]) rows (s.2.1, s.2.2) fun y hy s2 => by
            have q := place_none hn (h.len x hx) (h.len y hy) (rows := rows) (hex x hx y hy)
            refine ⟨_, (.val (wrow n rows y), .val .non), rfl, .inl ?_⟩
            simp [q]
        refine ⟨_, (.val (wrow n rows x), b1.1, b1.2), rfl, .inl ?_⟩
        exact for_of (ds := rows.map (wrow n rows)) rfl hg
    refine runF_rt rfl (rt_seq (ρ1 := [.val T, .val (.bl false), .val (.lst (rows.map (wrow n rows))), .un, .un, .un]) (by simp [hw]) (rt_seq (for_of (ds := rows.map (wrow n rows)) (ρ1 := [.val T, .val (.bl false), .val (.lst (rows.map (wrow n rows))), .un, .un, .un]) rfl hf) ⟨_, rfl⟩))
  refine runF_rt rfl ?_
  simp [Rt, b_bad_triple, hft]
end PD
set_option maxRecDepth 100000
/-! P17: bases. -/
namespace PD
open PySem PySem.Spec PyProof.Rows L2
/-- i out of X, j into it -/
def swp (n : Nat) (X : Lot) (i j : Int) : Lot := (rg n).filter (sw (fun k => decide (k ∈ X)) i j)
structure Good (n r : Nat) (rows : Rows) : Prop where
  n6 : n ≤ 6
  lot : ∀ x ∈ rows, x.1 ∈ lots n
  len : ∀ x ∈ rows, x.1.length = r
  c : ∀ x ∈ rows, -1000000 ≤ x.2 ∧ x.2 ≤ 1000000
  nd : (rows.map (·.1)).Nodup
  ne : rows ≠ []
  ex : ∀ x ∈ rows, ∀ y ∈ rows, ∀ i ∈ x.1, ¬ i ∈ y.1 → ∃ j ∈ y.1, ¬ j ∈ x.1 ∧ ∃ c d, (swp n x.1 i j, c) ∈ rows ∧ (swp n y.1 j i, d) ∈ rows ∧ c + d ≤ x.2 + y.2
theorem Good.perm {n r : Nat} {rows rows' : Rows} (g : Good n r rows) (p : rows'.Perm rows) : Good n r rows' :=
  ⟨g.n6, fun x hx => g.lot x (p.mem_iff.mp hx), fun x hx => g.len x (p.mem_iff.mp hx), fun x hx => g.c x (p.mem_iff.mp hx), (p.map _).nodup_iff.mpr g.nd, fun e => g.ne (by rw [e] at p; exact p.symm.eq_nil), fun x hx y hy i h1 h2 => by
    obtain ⟨j, a, b, c, d, e, f, h⟩ := g.ex x (p.mem_iff.mp hx) y (p.mem_iff.mp hy) i h1 h2
    exact ⟨j, a, b, c, d, p.mem_iff.mpr e, p.mem_iff.mpr f, h⟩⟩
theorem Good.l1 {n r : Nat} {rows : Rows} (g : Good n r rows) : 1 ≤ rows.length := by
  have := g.ne
  cases rows with
  | nil => exact (this rfl).elim
  | cons x r => simp
theorem Good.l20 {n r : Nat} {rows : Rows} (g : Good n r rows) : rows.length ≤ 20 := by
  have z := all_le (p := fun n => (List.range 7).all fun r => decide (((lots n).filter fun l => decide (l.length = r)).length ≤ 20)) (k := 6) (by decide +kernel) g.n6
  have hr : r ≤ 6 := by
    have := g.l1
    cases h : rows with
    | nil => rw [h] at this; simp at this
    | cons x s =>
      have hx : x ∈ rows := by rw [h]; exact List.mem_cons_self ..
      have h1 := lot_len g.n6 (g.lot x hx)
      have h2 := g.len x hx
      have h3 := g.n6
      omega
  have z2 := of_decide_eq_true (List.all_eq_true.mp z r (List.mem_range.mpr (by omega)))
  have := List.Nodup.length_le_of_subset g.nd (l₂ := (lots n).filter fun l => decide (l.length = r)) fun l hl => by
    obtain ⟨x, hx, rfl⟩ := List.mem_map.mp hl
    exact List.mem_filter.mpr ⟨g.lot x hx, decide_eq_true (g.len x hx)⟩
  rw [List.length_map] at this
  omega
def pR (n : Nat) (x : Lot × Int) : List Int × Int := (pt n x.1, x.2)
def lotOf (n : Nat) (p : List Int) : Lot := (rg n).filter fun k => decide (p.getD k.toNat 0 = 1)
theorem lotOf_pt {n : Nat} (h : n ≤ 6) {l : Lot} (hl : l ∈ lots n) : lotOf n (pt n l) = l :=
  of_decide_eq_true (all_lot (p := fun n l => decide (lotOf n (pt n l) = l)) (by decide +kernel) h hl)
theorem pt_inj {n : Nat} (h : n ≤ 6) {l m : Lot} (hl : l ∈ lots n) (hm : m ∈ lots n) (e : pt n l = pt n m) : l = m := by
  rw [← lotOf_pt h hl, ← lotOf_pt h hm, e]
theorem pt_sum {n : Nat} (h : n ≤ 6) {l : Lot} (hl : l ∈ lots n) : (pt n l).sum = l.length :=
  of_decide_eq_true (all_lot (p := fun n l => decide ((pt n l).sum = l.length)) (by decide +kernel) h hl)
theorem look_pt {n : Nat} (h : n ≤ 6) {l : Lot} (hl : l ∈ lots n) : F_look_point [.int n, dT (pt n l)] = .ok (dT (pt n l)) :=
  okq_ok (all_lot (p := fun n l => okq (F_look_point [.int n, dT (pt n l)]) (dT (pt n l))) (by decide +kernel) h hl)
theorem look_ptL {n : Nat} (h : n ≤ 6) {l : Lot} (hl : l ∈ lots n) : F_look_point [.int n, dL (pt n l)] = .ok (dT (pt n l)) :=
  okq_ok (all_lot (p := fun n l => okq (F_look_point [.int n, dL (pt n l)]) (dT (pt n l))) (by decide +kernel) h hl)
theorem lot_point_ok {n : Nat} (h : n ≤ 6) {l : Lot} (hl : l ∈ lots n) : F_lot_point [.int n, dT l] = .ok (dT (pt n l)) :=
  okq_ok (all_lot (p := fun n l => okq (F_lot_point [.int n, dT l]) (dT (pt n l))) (by decide +kernel) h hl)
theorem mv_sw {n : Nat} (h : n ≤ 6) {l : Lot} (hl : l ∈ lots n) {i j : Int} (hi : i ∈ l) (hj : j ∈ rg n) (hjl : ¬ j ∈ l) : mv (pt n l) (some i) (some j) = pt n (swp n l i j) := by
  have := all_lot (p := fun n l => l.all fun i => (rg n).all fun j => decide (j ∈ l) || decide (mv (pt n l) (some i) (some j) = pt n (swp n l i j))) (by decide +kernel) h hl
  have z := List.all_eq_true.mp (List.all_eq_true.mp this i hi) j hj
  rw [decide_eq_false hjl, Bool.false_or] at z
  exact of_decide_eq_true z
theorem pt_at {n : Nat} {l : Lot} {k : Nat} (hk : k < n) : (pt n l).getD k 0 = if (k : Int) ∈ l then 1 else 0 := by
  unfold pt rg
  rw [List.map_map, List.getD_eq_getElem?_getD, List.getElem?_map, List.getElem?_range hk]
  rfl
theorem good_trows {n r : Nat} {rows : Rows} (g : Good n r rows) : TRows n (rows.map (pR n)) := by
  refine ⟨fun x hx => ?_, fun x hx => ?_, fun x hx => ?_, ?_, by rw [List.length_map]; exact g.l1, by rw [List.length_map]; have := g.l20; omega⟩
  · obtain ⟨y, hy, rfl⟩ := List.mem_map.mp hx
    exact look_pt g.n6 (g.lot y hy)
  · obtain ⟨y, hy, rfl⟩ := List.mem_map.mp hx
    exact pt_len n y.1
  · obtain ⟨y, hy, rfl⟩ := List.mem_map.mp hx
    have := g.c y hy
    show -1000000000000000 ≤ y.2 ∧ y.2 ≤ 1000000000000000
    omega
  · have e : (rows.map (pR n)).map (·.1) = (rows.map (·.1)).map (pt n) := by rw [List.map_map, List.map_map]; rfl
    rw [e, List.Nodup, List.pairwise_map]
    refine List.Pairwise.imp_of_mem (fun {a b} ha hb hne e => hne ?_) g.nd
    obtain ⟨x, hx, rfl⟩ := List.mem_map.mp ha
    obtain ⟨y, hy, rfl⟩ := List.mem_map.mp hb
    exact pt_inj g.n6 (g.lot x hx) (g.lot y hy) e
theorem amts_at {x : List Int × Int} {i : Nat} (h : i < x.1.length) : (amts x).getD i 0 = x.1.getD i 0 := by
  unfold amts
  rw [List.getD_eq_getElem?_getD, List.getElem?_append_left h, ← List.getD_eq_getElem?_getD]
theorem amts_end {x : List Int × Int} : (amts x).getD x.1.length 0 = -x.1.sum := by
  unfold amts
  rw [List.getD_eq_getElem?_getD, List.getElem?_append_right (Nat.le_refl _), Nat.sub_self]
  rfl
theorem steps_in {n : Nat} {i j : Int} (hi : i ∈ rg n) (hj : j ∈ rg n) (hne : i ≠ j) : (some i, some j) ∈ steps n := by
  unfold steps
  refine List.mem_flatMap.mpr ⟨some i, ends_mem.mpr (mem_rg.mp hi), List.mem_map.mpr ⟨some j, List.mem_filter.mpr ⟨ends_mem.mpr (mem_rg.mp hj), decide_eq_true fun e => hne (Option.some.inj e)⟩, rfl⟩⟩
theorem good_hex {n r : Nat} {rows rows' : Rows} (g : Good n r rows) (p : rows'.Perm (rows.map (pR n))) :
    ∀ x ∈ rows', ∀ y ∈ rows', ∀ i, i < n + 1 → (amts y).getD i 0 < (amts x).getD i 0 → ∃ j, j < n + 1 ∧ (amts x).getD j 0 < (amts y).getD j 0 ∧ getM (Wm n rows' x) i j + getM (Wm n rows' y) j i ≤ 0 := by
  intro x' hx' y' hy' i hi hlt
  have T := (good_trows g).perm p
  obtain ⟨x, hx, rfl⟩ := List.mem_map.mp (p.mem_iff.mp hx')
  obtain ⟨y, hy, rfl⟩ := List.mem_map.mp (p.mem_iff.mp hy')
  have lx := pt_len n x.1
  have ly := pt_len n y.1
  by_cases e : i = n
  · subst e
    have a1 := amts_end (x := pR i x)
    have a2 := amts_end (x := pR i y)
    have b1 : (pR i x).1.length = i := lx
    have b2 : (pR i y).1.length = i := ly
    have s1 : (pR i x).1.sum = x.1.length := pt_sum g.n6 (g.lot x hx)
    have s2 : (pR i y).1.sum = y.1.length := pt_sum g.n6 (g.lot y hy)
    have r1 := g.len x hx
    have r2 := g.len y hy
    rw [b1, s1] at a1
    rw [b2, s2] at a2
    omega
  · have hin : i < n := by omega
    have ax : ∀ (k : Nat), k < n → (amts (pR n x)).getD k 0 = if (k : Int) ∈ x.1 then 1 else 0 := fun k hk => by
      rw [amts_at (x := pR n x) (by show k < (pt n x.1).length; omega)]
      exact pt_at hk
    have ay : ∀ (k : Nat), k < n → (amts (pR n y)).getD k 0 = if (k : Int) ∈ y.1 then 1 else 0 := fun k hk => by
      rw [amts_at (x := pR n y) (by show k < (pt n y.1).length; omega)]
      exact pt_at hk
    rw [ax i hin, ay i hin] at hlt
    have hix : (i : Int) ∈ x.1 := by
      by_cases z : (i : Int) ∈ x.1
      · exact z
      · rw [if_neg z] at hlt
        by_cases z2 : (i : Int) ∈ y.1
        · rw [if_pos z2] at hlt; omega
        · rw [if_neg z2] at hlt; omega
    have hiy : ¬ (i : Int) ∈ y.1 := fun z => by
      rw [if_pos z, if_pos hix] at hlt; omega
    obtain ⟨j, hj, hjx, c, d, h1, h2, h3⟩ := g.ex x hx y hy i hix hiy
    have hjr := lot_rg g.n6 (g.lot y hy) j hj
    have hir := lot_rg g.n6 (g.lot x hx) i hix
    have hj2 := mem_rg.mp hjr
    have ej : ((j.toNat : Nat) : Int) = j := by omega
    have hne : (i : Int) ≠ j := fun z => hjx (z ▸ hix)
    have w1 := Wm_get (n := n) (rows := rows') (x := pR n x) (s := (some (i : Int), some j)) (steps_in hir hjr hne) (c := c) (by
      show rows'.lookup (mv (pt n x.1) (some (i : Int)) (some j)) = some c
      rw [mv_sw g.n6 (g.lot x hx) hix hjr hjx]
      exact lookup_mem T.nd (x := pR n (swp n x.1 i j, c)) (p.mem_iff.mpr (List.mem_map_of_mem h1)))
    have w2 := Wm_get (n := n) (rows := rows') (x := pR n y) (s := (some j, some (i : Int))) (steps_in hjr hir (Ne.symm hne)) (c := d) (by
      show rows'.lookup (mv (pt n y.1) (some j) (some (i : Int))) = some d
      rw [mv_sw g.n6 (g.lot y hy) hj hir hiy]
      exact lookup_mem T.nd (x := pR n (swp n y.1 j i, d)) (p.mem_iff.mpr (List.mem_map_of_mem h2)))
    refine ⟨j.toNat, by omega, ?_, ?_⟩
    · rw [ax _ (by omega), ay _ (by omega), ej, if_neg hjx, if_pos hj]
      omega
    · have w1' : getM (Wm n rows' (pR n x)) i j.toNat = c - x.2 := w1
      have w2' : getM (Wm n rows' (pR n y)) j.toNat i = d - y.2 := w2
      rw [w1', w2']
      omega
end PD
set_option maxRecDepth 100000
/-! P18: lot_table, looked_lots, Bases. -/
namespace PD
open PySem PySem.Spec PyProof.Rows L2
@[simp] theorem atI_0 {α : Type} (x : α) (s : List α) : atI (x :: s) 0 = some x := by
  have : (0 : Int) = ((0 : Nat) : Int) := rfl
  rw [this]
  exact atI_nat rfl
theorem acons_of {a : M D} {r : M (List D)} {ρ ρ1 ρ2 : DEnv} {x : D} {xs : List D} (h1 : a ρ = .ok x ρ1) (h2 : r ρ1 = .ok xs ρ2) : aCons a r ρ = .ok (x :: xs) ρ2 := by
  unfold aCons
  rw [h1]
  show RM.bind (r ρ1) _ = _
  rw [h2]
  rfl
theorem make_of {c : Nat} {G : D → List D → RO} {a : M (List D)} {ρ ρ1 : DEnv} {ds : List D} {c' : Nat} {fs : List (Str × D)} (h1 : a ρ = .ok ds ρ1) (h2 : G (.ins c []) ds = .ok .non (.ins c' fs)) : eMake c G a ρ = .ok (.ins c' fs) ρ1 := by
  unfold eMake
  rw [h1]
  show (match G (.ins c []) ds with | .ok .non (.ins c' fs) => RM.ok (D.ins c' fs) ρ1 | _ => .stuck) = _
  rw [h2]
theorem lot_table_ok {n r : Nat} {rows : Rows} (g : Good n r rows) {ds : D} (hds : ds = .lst (rows.map dR) ∨ ds = .tup (rows.map dR)) : ∃ (rows' : Rows) (lo hi : List D), rows'.Perm (rows.map (pR n)) ∧ F_lot_table [.int n, ds] = .ok (tableD n rows' lo hi) := by
  obtain ⟨rows', lo, hi, hp, ht⟩ := Table_ok g.n6 (good_trows g)
  refine ⟨rows', lo, hi, hp, ?_⟩
  have l20 := g.l20
  have e := lc_map dR (vs := [2, 3]) (tg := gdTup 2 (gdCons (gdN 2) (gdCons (gdN 3) gdNil))) (fe := (eTup (aCons (eFn F_lot_point (aCons (eVar 0) (aCons (eVar 2) aNil))) (aCons (eVar 3) aNil)))) (ρ := [.val (.int n), .val ds, .un, .un]) (fun x => dR (pR n x)) rows (by omega) fun x hx => by
    have q := lot_point_ok g.n6 (g.lot x hx)
    refine ⟨_, rfl, ?_, rfl⟩
    simp [q, dR, pR]
  have hm : (rows.map fun x => dR (pR n x)) = (rows.map (pR n)).map dR := by rw [List.map_map]; rfl
  rw [hm] at e
  have hi2 : iSeq (eVar 1) [.val (.int n), .val ds, .un, .un] = .ok (rows.map dR) [.val (.int n), .val ds, .un, .un] := by
    rcases hds with rfl | rfl <;> rfl
  refine runF_rt rfl ⟨[.val (.int n), .val ds, .un, .un], ?_⟩
  have hl : (eLc [2, 3] (iSeq (eVar 1)) (gdTup 2 (gdCons (gdN 2) (gdCons (gdN 3) gdNil))) mYes (eTup (aCons (eFn F_lot_point (aCons (eVar 0) (aCons (eVar 2) aNil))) (aCons (eVar 3) aNil)))) [.val (.int n), .val ds, .un, .un] = .ok (.lst ((rows.map (pR n)).map dR)) [.val (.int n), .val ds, .un, .un] := by
    unfold eLc
    rw [hi2]
    exact e
  show RS.ofT (eMake 0 F_Table___init__ _ _) _ = _
  have hmk : eMake 0 F_Table___init__ (aCons (eVar 0) (aCons (eLc [2, 3] (iSeq (eVar 1)) (gdTup 2 (gdCons (gdN 2) (gdCons (gdN 3) gdNil))) mYes (eTup (aCons (eFn F_lot_point (aCons (eVar 0) (aCons (eVar 2) aNil))) (aCons (eVar 3) aNil)))) aNil)) [.val (.int n), .val ds, .un, .un] = .ok (tableD n rows' lo hi) [.val (.int n), .val ds, .un, .un] := by
    refine make_of (ds := [.int n, .lst ((rows.map (pR n)).map dR)]) ?_ ht
    exact acons_of rfl (acons_of hl rfl)
  rw [show stD 4 [D.int n, ds] = [.val (.int n), .val ds, .un, .un] from rfl, hmk]
  rfl
/-- rows that are handed in: their lots as lists or tuples -/
theorem looked_lots_ok {n r : Nat} {rows : Rows} (g : Good n r rows) (q : Lot → D) (hq : ∀ l ∈ lots n, F_look_lot [.int n, q l] = .ok (dT l)) : F_looked_lots [.int n, .lst (rows.map fun x => .tup [q x.1, .int x.2])] = .ok (.lst (rows.map dR)) := by
  have l1 := g.l1
  have l20 := g.l20
  generalize hI : (D.lst (rows.map fun x => .tup [q x.1, .int x.2])) = I
  have hIs : iSeq (eVar 1) [.val (.int n), .val I, .own (.lst []), .un, .un, .un, .un, .un] = .ok (rows.map fun x => .tup [q x.1, .int x.2]) [.val (.int n), .val I, .own (.lst []), .un, .un, .un, .un, .un] := by subst hI; rfl
  obtain ⟨b1, hf⟩ := for_mapT (fun x : Lot × Int => D.tup [q x.1, .int x.2]) (γ := D) (tg := gdTup 2 (gdCons (gdN 3) (gdCons (gdN 4) gdNil))) (gb := (sApp 2 (eTup (aCons (eFn F_look_lot (aCons (eVar 0) (aCons (eVar 3) aNil))) (aCons (eFn F_look_number (aCons (eVar 4) (aCons (e1 (gU fun i => -i) (eC (.int (1000000)))) (aCons (eC (.int (1000000))) aNil)))) aNil)))))
    (fun acc (s : Slot × Slot) => [.val (.int n), .val I, .own (.lst acc), s.1, s.2, .un, .un, .un]) dR 1000 rows [] (.un, .un) (by simp; omega) fun x hx acc s ha => by
      have ha2 : acc.length < 100000 := by omega
      have q1 := hq x.1 (g.lot x hx)
      have q2 := look_number_ok x.2 (-1000000) 1000000 (g.c x hx).1 (g.c x hx).2
      refine ⟨_, (.val (q x.1), .val (.int x.2)), rfl, .inl ?_⟩
      simp [q1, q2, ha2, dR]
  obtain ⟨b2, hg⟩ := for_keepT dR (tg := gdTup 2 (gdCons (gdN 3) (gdCons (gdN 6) gdNil))) (gb := sExpr (eFn F_look_count (aCons (eCall cLen (aCons (eVar 3) aNil)) (aCons (eVar 5) (aCons (eVar 5) aNil)))))
    (fun s : Slot × Slot => [.val (.int n), .val I, .val (.lst (rows.map dR)), s.1, b1.2, .val (.int r), s.2, .un]) rows (b1.1, .un) fun x hx s => by
      have q1 := look_count_ok r r r (Int.le_refl _) (Int.le_refl _)
      have q2 := g.len x hx
      refine ⟨_, (.val (dT x.1), .val (.int x.2)), rfl, .inl ?_⟩
      simp [q1, q2]
  obtain ⟨b3, hd⟩ := for_dput dR (tg := gdTup 2 (gdCons (gdN 3) (gdCons (gdN 6) gdNil))) (gb := (sSeq (sIf (eT (eDInO false 7 (eVar 3))) sNo sSkip) (sDPutO 7 (eVar 3) (eC (.bl true)))))
    (fun acc (s : Slot × Slot) => [.val (.int n), .val I, .val (.lst (rows.map dR)), s.1, b1.2, .val (.int r), s.2, .own (.dic acc)]) (fun x => kI x.1) (fun x => .bl true) rows [] (b2.1, b2.2) (by simp; omega) (by simpa using dK_keys g.nd) fun x hx acc s ha hnew => by
      have z := look_fresh hnew
      refine ⟨_, (.val (dT x.1), .val (.int x.2)), rfl, ?_⟩
      simp [z, ha]
  have q3 := look_count_ok rows.length 1 20 (by omega) (by omega)
  have hfirst : sSet 5 (eCall cLen (aCons (e2 gIx (eIxO 2 (eC (.int 0))) (eC (.int 0))) aNil)) [.val (.int n), .val I, .own (.lst (rows.map dR)), b1.1, b1.2, .un, .un, .un] = .nx [.val (.int n), .val I, .own (.lst (rows.map dR)), b1.1, b1.2, .val (.int r), .un, .un] := by
    cases h : rows with
    | nil => exact (g.ne h).elim
    | cons x s =>
      have hx : x ∈ rows := by rw [h]; exact List.mem_cons_self ..
      have q2 := g.len x hx
      simp [dR, q2]
  refine runF_rt rfl (rt_seq (ρ1 := [.val (.int n), .val I, .un, .un, .un, .un, .un, .un]) ?_ (rt_seq rfl (rt_seq (for_of hIs hf) (rt_seq hfirst (rt_frz (rt_seq (for_of rfl hg) (rt_seq rfl (rt_seq (for_of rfl hd) ⟨_, rfl⟩))))))))
  subst hI
  simp [q3]
theorem Bases_ok {n r : Nat} {rows : Rows} (g : Good n r rows) (q : Lot → D) (hq : ∀ l ∈ lots n, F_look_lot [.int n, q l] = .ok (dT l)) :
    ∃ rows' : Rows, rows'.Perm rows ∧ F_Bases___init__ (.ins 2 []) [.int n, .lst (rows.map fun x => .tup [q x.1, .int x.2])] = .ok .non (basesD n r (.tup (rows'.map dR)) (dK rows)) := by
  have l20 := g.l20
  have n6 := g.n6
  obtain ⟨rows', hp, hs⟩ := sort_rows rows
  obtain ⟨tr, lo, hi, tp, ht⟩ := lot_table_ok g (ds := .lst (rows.map dR)) (.inl rfl)
  have hb := first_triple_ok n6 ((good_trows g).perm tp) lo hi (good_hex g tp)
  have q1 := look_number_ok n 0 6 (by omega) (by omega)
  have q2 := looked_lots_ok g q hq
  refine ⟨rows', hp, ?_⟩
  generalize hI : (D.lst (rows.map fun x => .tup [q x.1, .int x.2])) = I at *
  have hdc := dc_of dR (vs := [5, 6]) (tg := gdTup 2 (gdCons (gdN 5) (gdCons (gdN 6) gdNil))) (fk := eVar 5) (fv := eVar 6) (ρ := [.own (.ins 2 [("letters", .int n), ("rank", .int r), ("rows", .tup (rows'.map dR))]), .val (.int n), .val I, .val (.lst (rows.map dR)), .val .non, .un, .un])
    (fun x => kI x.1) (fun x => .int x.2) rows [] (by simp; omega) (by simpa using dK_keys g.nd) fun x hx => ⟨_, dT x.1, rfl, rfl, by simp, rfl, rfl⟩
  rw [List.nil_append] at hdc
  have hdc' : (rows.map fun a => (kI a.1, D.int a.2)) = dK rows := rfl
  rw [hdc'] at hdc
  have k1 : putD "rank" (.int r) [(("letters" : Str), D.int n)] = ([("letters", .int n), ("rank", .int r)] : List (Str × D)) := rfl
  have k2 : ∀ x : D, putD "rows" x [(("letters" : Str), D.int n), ("rank", .int r)] = ([("letters", .int n), ("rank", .int r), ("rows", x)] : List (Str × D)) := fun _ => rfl
  have k3 : ∀ x y : D, putD "_costs" x [(("letters" : Str), D.int n), ("rank", .int r), ("rows", y)] = ([("letters", .int n), ("rank", .int r), ("rows", y), ("_costs", x)] : List (Str × D)) := fun _ _ => rfl
  have hrank : (sFldO 2 0 "rank" (eCall cLen (aCons (e2 gIx (e2 gIx (eVar 3) (eC (.int 0))) (eC (.int 0))) aNil))) [.own (.ins 2 [("letters", .int n)]), .val (.int n), .val I, .val (.lst (rows.map dR)), .val .non, .un, .un] = .nx [.own (.ins 2 [("letters", .int n), ("rank", .int r)]), .val (.int n), .val I, .val (.lst (rows.map dR)), .val .non, .un, .un] := by
    cases h : rows with
    | nil => exact (g.ne h).elim
    | cons x s =>
      have hx : x ∈ rows := by rw [h]; exact List.mem_cons_self ..
      have q2 := g.len x hx
      simp [dR, q2, k1]
  refine runO_rt rfl (rto_seq (ρ1 := [.own (.ins 2 [("letters", .int n)]), .val (.int n), .val I, .un, .un, .un, .un]) ?_
    (rto_seq (ρ1 := [.own (.ins 2 [("letters", .int n)]), .val (.int n), .val I, .val (.lst (rows.map dR)), .un, .un, .un]) ?_
    (rto_seq (ρ1 := [.own (.ins 2 [("letters", .int n)]), .val (.int n), .val I, .val (.lst (rows.map dR)), .val .non, .un, .un]) ?_
    (rto_seq (ρ1 := [.own (.ins 2 [("letters", .int n)]), .val (.int n), .val I, .val (.lst (rows.map dR)), .val .non, .un, .un]) ?_
    (rto_seq hrank
    (rto_seq (ρ1 := [.own (.ins 2 [("letters", .int n), ("rank", .int r), ("rows", .tup (rows'.map dR))]), .val (.int n), .val I, .val (.lst (rows.map dR)), .val .non, .un, .un]) ?_
    (rto_nx (ρ' := [.own (basesD n r (.tup (rows'.map dR)) (dK rows)), .val (.int n), .val I, .val (.lst (rows.map dR)), .val .non, .un, .un]) ?_ rfl)))))))
  · simp [q1, putD]
  · simp [q2]
  · simp [ht, hb]
  · simp
  · simp [hs, k2]
  · simp [hdc, k3, basesD]
end PD
set_option maxRecDepth 100000
/-! P19: listed sources. -/
namespace PD
open PySem PySem.Spec PyProof.Rows L2
theorem acons1_of {a : M D} {ρ ρ1 : DEnv} {x : D} (h1 : a ρ = .ok x ρ1) : aCons a aNil ρ = .ok [x] ρ1 := acons_of h1 rfl
theorem sort_pts {n : Nat} (ls : List Lot) (h : ∀ l ∈ ls, l.length = n) : ∃ ls' : List Lot, ls'.Perm ls ∧ cSort [.lst (ls.map fun l => dT l)] = some (.lst (ls'.map fun l => dT l)) := by
  refine ⟨ls.mergeSort (PySem.W.dataLe false fun l => kD (dT l)), List.mergeSort_perm _ _, ?_⟩
  have hm := PySem.W.sort_maps (r := PySem.W.dataLe false fun l : Lot => kD (dT l)) (s := PySem.W.dataLe false kD) (fun l => dT l) (l := ls) fun a _ b _ => rfl
  have hk : ∀ l : Lot, kD (dT l) = .tuple (l.map PyData.int) := fun x => by
    unfold kD; rw [kD_T]; rfl
  unfold cSort
  dsimp only
  rw [if_pos, hm]
  refine ⟨?_, ?_⟩
  · rw [List.all_map, List.all_eq_true]
    intro x _
    show (pyD (dT x)).isSome = true
    rw [kD_T]
    rfl
  · have e : (ls.map fun l => dT l).map kD = ls.map fun l => .tuple (l.map PyData.int) := by
      rw [List.map_map]
      exact List.map_congr_left fun x _ => hk x
    rw [e]
    unfold srtB
    rw [Bool.and_eq_true, Bool.and_eq_true]
    refine ⟨?_, ?_, ?_⟩
    · rw [List.all_map, List.all_eq_true]
      intro x _
      show (List.all _ _) = true
      rw [List.all_map, List.all_eq_true]
      intro y _
      exact alike_ints x y
    · rw [Bool.or_eq_true, Bool.or_eq_true]
      cases n with
      | zero =>
        cases ls with
        | nil => exact .inl (.inl rfl)
        | cons x r =>
          have hx := h x (List.mem_cons_self ..)
          have : x = [] := List.length_eq_zero_iff.mp hx
          subst this
          refine .inr ?_
          show (List.all _ isTp) = true
          rw [List.all_map, List.all_eq_true]
          intro _ _
          rfl
      | succ n =>
        refine .inl (.inl ?_)
        rw [List.all_map, List.all_eq_true]
        intro x hx
        have := h x hx
        cases x with
        | nil => simp at this
        | cons k r => rfl
    · rw [List.all_map, List.all_eq_true]
      intro x _
      show decide (PyData.depthAll (x.map PyData.int) + 1 ≤ 60) = true
      rw [depth_ints]
      decide
theorem table_from_ok {n : Nat} (hn : n ≤ 6) {rows : Rows} (h : TRows n rows) : ∃ (rows' : Rows) (lo hi : List D), rows'.Perm rows ∧ F_table_from [.int n, .dic (dK rows)] = .ok (tableD n rows' lo hi) := by
  have l1 := h.l1
  have l2 := h.l2
  obtain ⟨ls, hp, hs⟩ := sort_pts (n := n) (rows.map (·.1)) fun l hl => by
    obtain ⟨x, hx, rfl⟩ := List.mem_map.mp hl
    exact h.len x hx
  have hk : cSortK [.dic (dK rows)] = some (.lst (ls.map fun l => dT l)) := by
    show cSort [.lst ((dK rows).map fun e => keyT e.1)] = _
    rw [← hs]
    congr 3
    unfold dK
    rw [List.map_map, List.map_map]
    refine List.map_congr_left fun x _ => ?_
    show D.tup ((kI x.1).map keyX) = dT x.1
    unfold kI
    rw [List.map_map]
    rfl
  have hval : ∀ l ∈ ls, rows.lookup l = some ((rows.lookup l).getD 0) := fun l hl => by
    obtain ⟨x, hx, rfl⟩ := List.mem_map.mp (hp.mem_iff.mp hl)
    rw [lookup_mem h.nd hx]
    rfl
  have hp2 : (ls.map fun l => (l, (rows.lookup l).getD 0)).Perm rows := by
    have z := hp.map fun l => (l, (rows.lookup l).getD 0)
    rw [List.map_map] at z
    have e : rows.map ((fun l => (l, (rows.lookup l).getD 0)) ∘ fun x => x.1) = rows := by
      have : rows.map ((fun l => (l, (rows.lookup l).getD 0)) ∘ fun x => x.1) = rows.map id := List.map_congr_left fun x hx => by
        show (x.1, (rows.lookup x.1).getD 0) = x
        rw [lookup_mem h.nd hx]
        rfl
      rw [this, List.map_id]
    rwa [e] at z
  obtain ⟨rows', lo, hi, hp3, ht⟩ := Table_ok hn (h.perm hp2)
  refine ⟨rows', lo, hi, hp3.trans hp2, ?_⟩
  have ll : ls.length ≤ 400 := by have := hp.length_eq; rw [List.length_map] at this; omega
  have e := lc_map (fun l : Lot => dT l) (vs := [2]) (tg := gdN 2) (fe := eTup (aCons (eVar 2) (aCons (eDIx (eVar 1) (eVar 2)) aNil))) (ρ := [.val (.int n), .val (.dic (dK rows)), .un]) (fun l => dR (l, (rows.lookup l).getD 0)) ls (by omega) fun l hl => by
    have q := look_dK l rows
    rw [hval l hl] at q
    refine ⟨_, rfl, ?_, rfl⟩
    simp [q, dR]
  have hm : (ls.map fun l => dR (l, (rows.lookup l).getD 0)) = (ls.map fun l => (l, (rows.lookup l).getD 0)).map dR := by rw [List.map_map]; rfl
  rw [hm] at e
  have hl : (eLc [2] (iSeq (eCall cSortK (aCons (eVar 1) aNil))) (gdN 2) mYes (eTup (aCons (eVar 2) (aCons (eDIx (eVar 1) (eVar 2)) aNil)))) [.val (.int n), .val (.dic (dK rows)), .un] = .ok (.lst ((ls.map fun l => (l, (rows.lookup l).getD 0)).map dR)) [.val (.int n), .val (.dic (dK rows)), .un] := by
    unfold eLc
    have : iSeq (eCall cSortK (aCons (eVar 1) aNil)) [.val (.int n), .val (.dic (dK rows)), .un] = .ok (ls.map fun l => dT l) [.val (.int n), .val (.dic (dK rows)), .un] := by simp [hk]
    rw [this]
    exact e
  have hmk := make_of (c := 0) (G := F_Table___init__) (acons_of (a := eVar 0) (ρ := [.val (.int n), .val (.dic (dK rows)), .un]) rfl (acons1_of hl)) ht
  have c1 : ¬ dK rows = [] := fun e => by have z := congrArg List.length e; unfold dK at z; rw [List.length_map, List.length_nil] at z; omega
  have c2 : ¬ (400 : Int) < ((dK rows).length : Int) := by unfold dK; rw [List.length_map]; omega
  refine runF_rt rfl (rt_seq (ρ1 := [.val (.int n), .val (.dic (dK rows)), .un]) ?_ (rt_seq (ρ1 := [.val (.int n), .val (.dic (dK rows)), .un]) ?_ ⟨[.val (.int n), .val (.dic (dK rows)), .un], ?_⟩))
  · simp [c1]
  · simp [c2]
  · unfold sRet
    rw [hmk]
    rfl
def listedD (n : Nat) (rows : Rows) (lo hi : List D) : D := .ins 1 [("width", .int n), ("nodes", .int 1), ("factors", .int 1), ("lows", .tup lo), ("highs", .tup hi), ("_known", .dic (dK rows))]
theorem Source_ok {n : Nat} (hn : n ≤ 6) {rows : Rows} (h : TRows n rows) : ∃ (rows' : Rows) (lo hi : List D), rows'.Perm rows ∧ F_Source___init__ (.ins 1 []) [.int n, .int 1, .int 1, .dic (dK rows)] = .ok .non (listedD n rows' lo hi) := by
  obtain ⟨rows', lo, hi, hp, ht⟩ := table_from_ok hn h
  have hc := table_costs_ok (h.perm hp) lo hi
  refine ⟨rows', lo, hi, hp, ?_⟩
  have k1 : putD "nodes" (.int 1) [(("width" : Str), D.int n)] = ([("width", .int n), ("nodes", .int 1)] : List (Str × D)) := rfl
  have k2 : putD "factors" (.int 1) [(("width" : Str), D.int n), ("nodes", .int 1)] = ([("width", .int n), ("nodes", .int 1), ("factors", .int 1)] : List (Str × D)) := rfl
  have k3 : putD "lows" (.tup lo) [(("width" : Str), D.int n), ("nodes", .int 1), ("factors", .int 1)] = ([("width", .int n), ("nodes", .int 1), ("factors", .int 1), ("lows", .tup lo)] : List (Str × D)) := rfl
  have k4 : putD "highs" (.tup hi) [(("width" : Str), D.int n), ("nodes", .int 1), ("factors", .int 1), ("lows", .tup lo)] = ([("width", .int n), ("nodes", .int 1), ("factors", .int 1), ("lows", .tup lo), ("highs", .tup hi)] : List (Str × D)) := rfl
  have k5 : putD "_known" (.dic (dK rows')) [(("width" : Str), D.int n), ("nodes", .int 1), ("factors", .int 1), ("lows", .tup lo), ("highs", .tup hi)] = ([("width", .int n), ("nodes", .int 1), ("factors", .int 1), ("lows", .tup lo), ("highs", .tup hi), ("_known", .dic (dK rows'))] : List (Str × D)) := rfl
  refine runO_rt rfl (rto_seq (ρ1 := [.own (.ins 1 []), .val (.int n), .val (.int 1), .val (.int 1), .val (.dic (dK rows)), .val (tableD n rows' lo hi)]) ?_
    (rto_seq (ρ1 := [.own (.ins 1 [("width", .int n)]), .val (.int n), .val (.int 1), .val (.int 1), .val (.dic (dK rows)), .val (tableD n rows' lo hi)]) ?_
    (rto_seq (ρ1 := [.own (.ins 1 [("width", .int n), ("nodes", .int 1)]), .val (.int n), .val (.int 1), .val (.int 1), .val (.dic (dK rows)), .val (tableD n rows' lo hi)]) ?_
    (rto_seq (ρ1 := [.own (.ins 1 [("width", .int n), ("nodes", .int 1), ("factors", .int 1)]), .val (.int n), .val (.int 1), .val (.int 1), .val (.dic (dK rows)), .val (tableD n rows' lo hi)]) ?_
    (rto_seq (ρ1 := [.own (.ins 1 [("width", .int n), ("nodes", .int 1), ("factors", .int 1), ("lows", .tup lo)]), .val (.int n), .val (.int 1), .val (.int 1), .val (.dic (dK rows)), .val (tableD n rows' lo hi)]) ?_
    (rto_seq (ρ1 := [.own (.ins 1 [("width", .int n), ("nodes", .int 1), ("factors", .int 1), ("lows", .tup lo), ("highs", .tup hi)]), .val (.int n), .val (.int 1), .val (.int 1), .val (.dic (dK rows)), .val (tableD n rows' lo hi)]) ?_
    (rto_nx (ρ' := [.own (listedD n rows' lo hi), .val (.int n), .val (.int 1), .val (.int 1), .val (.dic (dK rows)), .val (tableD n rows' lo hi)]) ?_ rfl)))))))
  · simp [ht]
  · simp [putD]
  · simp [k1]
  · simp [k2]
  · unfold tableD; simp [k3, tlows_at]
  · unfold tableD; simp [k4, thighs_at]
  · simp [hc, k5, listedD]
theorem Listed_ok {n r : Nat} {rows rows' : Rows} (g : Good n r rows) (hp : rows'.Perm (rows.map (pR n))) (lo hi : List D) : ∃ (rows'' : Rows) (lo' hi' : List D), rows''.Perm (rows.map (pR n)) ∧ F_Listed___init__ (.ins 1 []) [tableD n rows' lo hi] = .ok .non (listedD n rows'' lo' hi') := by
  have T := (good_trows g).perm hp
  have l2 := T.l2
  obtain ⟨rows'', lo', hi', hp', hs⟩ := Source_ok g.n6 T
  have hb := first_triple_ok g.n6 T lo hi (good_hex g hp)
  have hc := table_costs_ok T lo hi
  refine ⟨rows'', lo', hi', hp'.trans hp, ?_⟩
  generalize hT : tableD n rows' lo hi = TD at *
  have hw : (eFld 0 "width" (eVar 1)) [.own (.ins 1 []), .val TD, .un, .un, .un, .un, .un, .un, .un] = .ok (.int n) [.own (.ins 1 []), .val TD, .un, .un, .un, .un, .un, .un, .un] := by
    subst hT; unfold tableD; simp [width_at]
  have hrs : iSeq (eFld 0 "rows" (eVar 1)) [.own (.ins 1 []), .val TD, .un, .un, .un, .un, .un, .un, .un] = .ok (rows'.map dR) [.own (.ins 1 []), .val TD, .un, .un, .un, .un, .un, .un, .un] := by
    subst hT; unfold tableD; simp [trows_at]
  obtain ⟨b1, hf⟩ := for_keepT dR (tg := gdTup 2 (gdCons (gdN 3) (gdCons (gdN 4) gdNil))) (gb := (sExpr (eFn F_look_number (aCons (eVar 4) (aCons (e1 (gU fun i => -i) (eC (.int (1000000)))) (aCons (eC (.int (1000000))) aNil))))))
    (fun s : Slot × Slot => [.own (.ins 1 []), .val TD, .un, s.1, s.2, .un, .un, .un, .un]) rows' (.un, .un) fun x hx s => by
      obtain ⟨y, hy, rfl⟩ := List.mem_map.mp (hp.mem_iff.mp hx)
      have q := look_number_ok y.2 (-1000000) 1000000 (g.c y hy).1 (g.c y hy).2
      refine ⟨_, (.val (dT (pt n y.1)), .val (.int y.2)), rfl, .inl ?_⟩
      simp [q, dR, pR]
  have hw2 : ∀ s1 s2 s3 : Slot, (eFld 0 "width" (eVar 1)) [.own (.ins 1 []), .val TD, .un, s1, s2, s3, .un, .un, .un] = .ok (.int n) [.own (.ins 1 []), .val TD, .un, s1, s2, s3, .un, .un, .un] := fun s1 s2 s3 => by
    subst hT; unfold tableD; simp [width_at]
  refine runO_rt rfl (rto_seq (for_of hrs hf) (rto_seq (ρ1 := [.own (.ins 1 []), .val TD, .un, b1.1, b1.2, .val .non, .un, .un, .un]) ?_ (rto_seq (ρ1 := [.own (.ins 1 []), .val TD, .un, b1.1, b1.2, .val .non, .un, .un, .un]) ?_ (rto_seq (ρ1 := [.own (listedD n rows'' lo' hi'), .val TD, .un, b1.1, b1.2, .val .non, .un, .un, .un]) ?_ (rto_nx (ρ' := [.own (listedD n rows'' lo' hi'), .val TD, .un, b1.1, b1.2, .val .non, .un, .un, .un]) rfl rfl)))))
  · simp [hb]
  · simp
  · have ha : (aCons (eFld 0 "width" (eVar 1)) (aCons (eC (.int 1)) (aCons (eC (.int 1)) (aCons (eFn F_table_costs (aCons (eVar 1) aNil)) aNil)))) [.own (.ins 1 []), .val TD, .un, b1.1, b1.2, .val .non, .un, .un, .un] = .ok [.int n, .int 1, .int 1, .dic (dK rows')] [.own (.ins 1 []), .val TD, .un, b1.1, b1.2, .val .non, .un, .un, .un] :=
      acons_of (hw2 _ _ _) (acons_of rfl (acons_of rfl (acons_of (by simp [hc]) rfl)))
    have ho : eFnO 0 F_Source___init__ (aCons (eFld 0 "width" (eVar 1)) (aCons (eC (.int 1)) (aCons (eC (.int 1)) (aCons (eFn F_table_costs (aCons (eVar 1) aNil)) aNil)))) [.own (.ins 1 []), .val TD, .un, b1.1, b1.2, .val .non, .un, .un, .un] = .ok .non [.own (listedD n rows'' lo' hi'), .val TD, .un, b1.1, b1.2, .val .non, .un, .un, .un] := by
      unfold eFnO
      show RM.bind _ _ = _
      rw [ha]
      show (match F_Source___init__ (.ins 1 []) [.int n, .int 1, .int 1, .dic (dK rows')] with | .ok d o' => _ | .stuck => _) = _
      rw [hs]
      rfl
    show RS.ofT (eFnO 0 F_Source___init__ _ _) _ = _
    rw [ho]
    rfl
theorem listed_ok {n r : Nat} {rows rows' : Rows} (g : Good n r rows) (hp : rows'.Perm rows) (es : List (List Key × D)) : ∃ (rows'' : Rows) (lo hi : List D), rows''.Perm (rows.map (pR n)) ∧ F_Bases_listed [basesD n r (.tup (rows'.map dR)) es] = .ok (listedD n rows'' lo hi) := by
  obtain ⟨tr, tlo, thi, tp, ht⟩ := lot_table_ok (g.perm hp) (ds := .tup (rows'.map dR)) (.inr rfl)
  obtain ⟨rows'', lo, hi, hp2, hs⟩ := Listed_ok (g.perm hp) tp tlo thi
  refine ⟨rows'', lo, hi, hp2.trans (hp.map _), ?_⟩
  have h1 : (eFn F_lot_table (aCons (eFld 2 "letters" (eVar 0)) (aCons (eFld 2 "rows" (eVar 0)) aNil))) [.val (basesD n r (.tup (rows'.map dR)) es)] = .ok (tableD n tr tlo thi) [.val (basesD n r (.tup (rows'.map dR)) es)] := by
    unfold basesD
    simp [letters_at, rows_at, ht]
  have hmk := make_of (c := 1) (G := F_Listed___init__) (acons1_of h1) hs
  refine runF_rt rfl ⟨[.val (basesD n r (.tup (rows'.map dR)) es)], ?_⟩
  show RS.ofT (eMake 1 F_Listed___init__ _ _) _ = _
  have e : stD 1 [basesD n r (.tup (rows'.map dR)) es] = [.val (basesD n r (.tup (rows'.map dR)) es)] := rfl
  rw [e, hmk]
  rfl
end PD
set_option maxRecDepth 100000
/-! P20: near costs. -/
namespace PD
open PySem PySem.Spec PyProof.Rows L2
/-- good steps from a lot -/
def gst (l : Lot) (s : Option Int × Option Int) : Bool := match s.1, s.2 with
  | some o, some i => decide (o ∈ l) && !decide (i ∈ l)
  | _, _ => false
def pairs (n : Nat) : List (Option Int × Option Int) := (rg n).flatMap fun o => (rg n).map fun i => (some o, some i)
theorem steps_good {n : Nat} (h : n ≤ 6) {l : Lot} (hl : l ∈ lots n) : (steps n).filter (gst l) = (pairs n).filter (gst l) :=
  of_decide_eq_true (all_lot (p := fun n l => decide ((steps n).filter (gst l) = (pairs n).filter (gst l))) (by decide +kernel) h hl)
/-- the point of a lot with m letters, as far as a look can tell -/
def okP (m : Nat) (p : List Int) : Bool := (p.all fun a => decide (a = 0) || decide (a = 1)) && decide (p.sum = m)
theorem okP_pt {n : Nat} (h : n ≤ 6) {l : Lot} (hl : l ∈ lots n) : okP l.length (pt n l) = true :=
  all_lot (p := fun n l => okP l.length (pt n l)) (by decide +kernel) h hl
theorem bad_step {n : Nat} (h : n ≤ 6) {l : Lot} (hl : l ∈ lots n) {s : Option Int × Option Int} (hs : s ∈ steps n) (hb : gst l s = false) : okP l.length (mv (pt n l) s.1 s.2) = false := by
  have := all_lot (p := fun n l => (steps n).all fun s => gst l s || !okP l.length (mv (pt n l) s.1 s.2)) (by decide +kernel) h hl
  have z := List.all_eq_true.mp this s hs
  rw [hb, Bool.false_or] at z
  simpa using z
theorem swp_lot {n : Nat} (h : n ≤ 6) {l : Lot} (hl : l ∈ lots n) {i j : Int} (hi : i ∈ rg n) (hj : j ∈ rg n) : swp n l i j ∈ lots n := by
  have := all_lot (p := fun n l => (rg n).all fun i => (rg n).all fun j => decide (swp n l i j ∈ lots n)) (by decide +kernel) h hl
  exact of_decide_eq_true (List.all_eq_true.mp (List.all_eq_true.mp this i hi) j hj)
theorem flatMap_filter {α β : Type} (p : α → Bool) (f : α → List β) : ∀ l : List α, (∀ a ∈ l, p a = false → f a = []) → l.flatMap f = (l.filter p).flatMap f
  | [], _ => rfl
  | a :: l, h => by
    have ih := flatMap_filter p f l fun x hx => h x (List.mem_cons_of_mem _ hx)
    rw [List.flatMap_cons, List.filter_cons, ih]
    by_cases c : p a = true
    · rw [if_pos c, List.flatMap_cons]
    · rw [if_neg c, h a (List.mem_cons_self ..) (by simpa using c)]
      rfl
/-- what near tells, by the lots -/
def ln1 (n : Nat) (rows : Rows) (l : Lot) (c0 : Int) (s : Option Int × Option Int) : List ((Option Int × Option Int) × Int) := match s.1, s.2 with
  | some o, some i => if o ∈ l ∧ ¬ i ∈ l then (match rows.lookup (swp n l o i) with
    | some c => [(s, c - c0)]
    | none => []) else []
  | _, _ => []
def ln (n : Nat) (rows : Rows) (l : Lot) (c0 : Int) : List ((Option Int × Option Int) × Int) := (pairs n).flatMap (ln1 n rows l c0)
theorem lookup_pt {n r : Nat} {rows rows' : Rows} (g : Good n r rows) (hp : rows'.Perm (rows.map (pR n))) {m : Lot} (hm : m ∈ lots n) : rows'.lookup (pt n m) = rows.lookup m := by
  have T := (good_trows g).perm hp
  cases e : rows.lookup m with
  | some c => exact lookup_mem T.nd (x := pR n (m, c)) (hp.mem_iff.mpr (List.mem_map_of_mem (mem_lookup e)))
  | none =>
    cases e2 : rows'.lookup (pt n m) with
    | none => rfl
    | some c =>
      obtain ⟨y, hy, hyE⟩ := List.mem_map.mp (hp.mem_iff.mp (mem_lookup e2))
      have z1 : pt n y.1 = pt n m := congrArg Prod.fst hyE
      have z2 := pt_inj g.n6 (g.lot y hy) hm z1
      have z3 := lookup_mem g.nd hy
      rw [z2, e] at z3
      cases z3
theorem nw_ln {n r : Nat} {rows rows' : Rows} (g : Good n r rows) (hp : rows'.Perm (rows.map (pR n))) {x : Lot × Int} (hx : x ∈ rows) : nw n rows' (pt n x.1) x.2 = ln n rows x.1 x.2 := by
  have hl := g.lot x hx
  have T := (good_trows g).perm hp
  unfold nw ln
  rw [flatMap_filter (gst x.1) (none1 rows' (pt n x.1) x.2) (steps n) ?_, flatMap_filter (gst x.1) (ln1 n rows x.1 x.2) (pairs n) ?_, steps_good g.n6 hl]
  · have key : ∀ s ∈ (pairs n).filter (gst x.1), none1 rows' (pt n x.1) x.2 s = ln1 n rows x.1 x.2 s := fun s hs => by
      obtain ⟨h1, h2⟩ := List.mem_filter.mp hs
      obtain ⟨o, ho, h3⟩ := List.mem_flatMap.mp h1
      obtain ⟨i, hi, rfl⟩ := List.mem_map.mp h3
      have h2' : (decide (o ∈ x.1) && !decide (i ∈ x.1)) = true := h2
      rw [Bool.and_eq_true] at h2'
      have ho2 := of_decide_eq_true h2'.1
      have hi2 : ¬ i ∈ x.1 := by simpa using h2'.2
      unfold none1 ln1
      dsimp only
      rw [if_pos ⟨ho2, hi2⟩, mv_sw g.n6 hl ho2 hi hi2, lookup_pt g hp (swp_lot g.n6 hl ho hi)]
      try (cases rows.lookup (swp n x.1 o i) <;> rfl)
    clear hx
    generalize (pairs n).filter (gst x.1) = L at key
    induction L with
    | nil => rfl
    | cons s L ih => rw [List.flatMap_cons, List.flatMap_cons, key s (List.mem_cons_self ..), ih fun t ht => key t (List.mem_cons_of_mem _ ht)]
  · intro s hs hb
    unfold ln1
    obtain ⟨o, ho, h3⟩ := List.mem_flatMap.mp hs
    obtain ⟨i, hi, rfl⟩ := List.mem_map.mp h3
    dsimp only
    have hb' : (decide (o ∈ x.1) && !decide (i ∈ x.1)) = false := hb
    rw [if_neg]
    rintro ⟨z1, z2⟩
    simp [z1, z2] at hb'
  · intro s hs hb
    have z := bad_step g.n6 hl hs hb
    unfold none1
    cases e : rows'.lookup (mv (pt n x.1) s.1 s.2) with
    | none => rfl
    | some c =>
      obtain ⟨y, hy, hyE⟩ := List.mem_map.mp (hp.mem_iff.mp (mem_lookup e))
      have z1 : pt n y.1 = mv (pt n x.1) s.1 s.2 := congrArg Prod.fst hyE
      have z2 := okP_pt g.n6 (g.lot y hy)
      rw [g.len y hy, ← g.len x hx, z1, z] at z2
      cases z2
/-! ### sorted whole numbers -/
theorem le_ints (a b : Int) : PySem.W.dataLe false kD (.int a) (.int b) = decide (a ≤ b) := by
  have e : PySem.W.dataLe false kD (.int a) (.int b) = !(lexLt itemOrd [.inl b] [.inl a]) := rfl
  rw [e]
  have e2 : lexLt itemOrd [.inl b] [.inl a] = decide (b < a) := by
    show ((decide (b < a)) || (!(decide (a < b)) && false)) = decide (b < a)
    simp
  rw [e2]
  by_cases c : a ≤ b
  · have : ¬ b < a := by omega
    simp [c, this]
  · have : b < a := by omega
    simp [c, this]
theorem sort_ints {l l' : List Int} (hp : l'.Perm l) (hs : l'.Pairwise (· ≤ ·)) : cSort [.lst (DI l)] = some (.lst (DI l')) := by
  unfold cSort
  dsimp only
  rw [if_pos]
  · have tot := PySem.W.sortLe_total (listOrd itemOrd) false fun d : D => PySem.W.keyToks (kD d)
    have e : (DI l).mergeSort (PySem.W.dataLe false kD) = DI l' := by
      refine List.Perm.eq_of_pairwise (le := fun a b => PySem.W.dataLe false kD a b = true) ?_ (List.pairwise_mergeSort tot.trans (fun a b => by simpa using tot.total a b) _) ?_ ((List.mergeSort_perm _ _).trans (hp.symm.map _))
      · intro a b ha hb e1 e2
        obtain ⟨x, hx, rfl⟩ := List.mem_map.mp ((List.mergeSort_perm _ _).mem_iff.mp ha)
        obtain ⟨y, hy, rfl⟩ := List.mem_map.mp hb
        rw [le_ints] at e1 e2
        have := of_decide_eq_true e1
        have := of_decide_eq_true e2
        have : x = y := by omega
        rw [this]
      · rw [DI, List.pairwise_map]
        exact hs.imp fun h => by rw [le_ints]; exact decide_eq_true h
    rw [e]
  · refine ⟨?_, ?_⟩
    · rw [DI, List.all_map, List.all_eq_true]
      intro x _
      rfl
    · have e : (DI l).map kD = l.map PyData.int := by rw [DI, List.map_map]; rfl
      rw [e]
      unfold srtB
      rw [Bool.and_eq_true, Bool.and_eq_true]
      refine ⟨?_, ?_, ?_⟩
      · rw [List.all_map, List.all_eq_true]
        intro x _
        show (List.all _ _) = true
        rw [List.all_map, List.all_eq_true]
        intro y _
        rfl
      · have : (l.map PyData.int).all srtA = true := by
          rw [List.all_map, List.all_eq_true]
          intro x _
          rfl
        rw [this, Bool.or_true]
        rfl
      · rw [List.all_map, List.all_eq_true]
        intro x _
        rfl
theorem sort_new {n : Nat} (h : n ≤ 6) {l : Lot} (hl : l ∈ lots n) {o i : Int} (ho : o ∈ l) (hi : i ∈ rg n) (hil : ¬ i ∈ l) : cSort [.lst (DI (rm l o ++ [i]))] = some (.lst (DI (swp n l o i))) := by
  have h1 := all_lot (p := fun n l => l.all fun o => (rg n).all fun i => decide (i ∈ l) || ((swp n l o i).isPerm (rm l o ++ [i]) && decide ((swp n l o i).Pairwise (· ≤ ·)))) (by decide +kernel) h hl
  have z := List.all_eq_true.mp (List.all_eq_true.mp h1 o ho) i hi
  rw [decide_eq_false hil, Bool.false_or, Bool.and_eq_true] at z
  exact sort_ints (List.isPerm_iff.mp z.1) (of_decide_eq_true z.2)
end PD
set_option maxRecDepth 100000
/-! P21: near, the law's near. -/
namespace PD
open PySem PySem.Spec PyProof.Rows L2
theorem lwidth_at {n : Nat} {lo hi kn : D} : List.lookup ("width" : Str) [(("width" : Str), D.int n), ("nodes", .int 1), ("factors", .int 1), ("lows", lo), ("highs", hi), ("_known", kn)] = some (.int n) := rfl
theorem lknown_at {n : Nat} {lo hi kn : D} : List.lookup ("_known" : Str) [(("width" : Str), D.int n), ("nodes", .int 1), ("factors", .int 1), ("lows", lo), ("highs", hi), ("_known", kn)] = some kn := rfl
theorem lnear_at {n : Nat} {lo hi kn : D} : List.lookup ("near" : Str) [(("width" : Str), D.int n), ("nodes", .int 1), ("factors", .int 1), ("lows", lo), ("highs", hi), ("_known", kn)] = none := rfl
theorem near_ok {n r : Nat} {rows rows' : Rows} (g : Good n r rows) (hp : rows'.Perm (rows.map (pR n))) (lo hi : List D) {x : Lot × Int} (hx : x ∈ rows) : F_Listed_near [listedD n rows' lo hi, dL (pt n x.1)] = .ok (.lst ((ln n rows x.1 x.2).map dN)) := by
  have hl := g.lot x hx
  have T := (good_trows g).perm hp
  have q1 := look_ptL g.n6 hl
  have h0 : rows'.lookup (pt n x.1) = some x.2 := lookup_mem T.nd (x := pR n x) (hp.mem_iff.mpr (List.mem_map_of_mem hx))
  have q2 := near_weights_ok g.n6 (pt_len n x.1) rows' x.2 h0
  rw [nw_ln g hp hx] at q2
  have q3 := look_dK (pt n x.1) rows'
  rw [h0] at q3
  have q4 : F_near_of [listedD n rows' lo hi, dT (pt n x.1)] = .ok (.lst ((ln n rows x.1 x.2).map dN)) := by
    refine runF_rt rfl ?_
    unfold listedD
    simp [Rt, b_near_of, lwidth_at, lknown_at, q2]
  refine runF_rt rfl (rt_seq (ρ1 := [.val (listedD n rows' lo hi), .val (dL (pt n x.1)), .val (dT (pt n x.1))]) ?_ (rt_seq (ρ1 := [.val (listedD n rows' lo hi), .val (dL (pt n x.1)), .val (dT (pt n x.1))]) ?_ ?_))
  · unfold listedD; simp [lwidth_at, q1]
  · unfold listedD; simp [lknown_at, q3]
  · simp [Rt, q4]
theorem rg2_len {n : Nat} (h : n ≤ 6) (rows : Rows) (l : Lot) (c0 : Int) : (ln n rows l c0).length ≤ 36 := by
  have h1 : ∀ L : List (Option Int × Option Int), (L.flatMap (ln1 n rows l c0)).length ≤ L.length := by
    intro L
    induction L with
    | nil => exact Nat.le_refl _
    | cons s L ih =>
      rw [List.flatMap_cons, List.length_append, List.length_cons]
      have : (ln1 n rows l c0 s).length ≤ 1 := by
        unfold ln1
        repeat (first | split | simp)
      omega
  have h2 := all_le (p := fun n => decide ((pairs n).length ≤ 36)) (k := 6) (by decide +kernel) h
  have := of_decide_eq_true h2
  have := h1 (pairs n)
  unfold ln
  omega
theorem law_near_ok {n r : Nat} {rows : Rows} (g : Good n r rows) {x : Lot × Int} (hx : x ∈ rows) : F__law_near [.int n, .dic (dK rows), dT x.1] = .ok (.lst ((ln n rows x.1 x.2).map dN)) := by
  have hl := g.lot x hx
  have n6 := g.n6
  have hn2 : (n : Int) ≤ 100000 := by omega
  have hL := lot_len g.n6 hl
  have h0 := look_dK x.1 rows
  rw [lookup_mem g.nd hx] at h0
  obtain ⟨l, c0⟩ := x
  dsimp only at hl h0 hL
  -- the inner loop
  have inner : ∀ o ∈ rg n, ∀ (acc : List ((Option Int × Option Int) × Int)) (s : Slot × Slot), acc.length + n ≤ 1000 → ∃ b : Slot × Slot, forLoop (gdN 5) (sIf (eAnd (eT (e2 (gIn false) (eVar 4) (eVar 2))) (eT (e2 (gIn true) (eVar 5) (eVar 2)))) (sSeq (sSet 6 (eCall cSort (aCons (e2 gCatL (eLc [7] (iSeq (eVar 2)) (gdN 7) (eT (e2 (gEq true) (eVar 7) (eVar 4))) (eVar 7)) (eLst (aCons (eVar 5) aNil))) aNil)))
    (sIf (eT (eDIn false (eCall cTuple (aCons (eVar 6) aNil)) (eVar 1))) (sApp 3 (eTup (aCons (eVar 4) (aCons (eVar 5) (aCons (e2 (gI fun i j => i - j) (eDIx (eVar 1) (eCall cTuple (aCons (eVar 6) aNil))) (eDIx (eVar 1) (eVar 2))) aNil))))) sSkip)) sSkip)
      ((rg n).map D.int) [.val (.int n), .val (.dic (dK rows)), .val (dT l), .own (.lst (acc.map dN)), .val (.int o), s.1, s.2, .un] = .nx [.val (.int n), .val (.dic (dK rows)), .val (dT l), .own (.lst ((acc ++ (rg n).flatMap fun i => ln1 n rows l c0 (some o, some i)).map dN)), .val (.int o), b.1, b.2, .un] := by
    intro o ho acc s ha
    refine for_appT D.int (γ := (Option Int × Option Int) × Int) (fun acc (b : Slot × Slot) => [.val (.int n), .val (.dic (dK rows)), .val (dT l), .own (.lst (acc.map dN)), .val (.int o), b.1, b.2, .un]) (fun i => ln1 n rows l c0 (some o, some i)) 1000 (rg n) acc s (by rw [rg_len]; exact ha) fun i hi acc b hb => ?_
    have hb2 : acc.length < 100000 := by omega
    refine ⟨by unfold ln1; repeat (first | split | simp), ?_⟩
    by_cases c : o ∈ l ∧ ¬ i ∈ l
    · have q := lc_ne (vs := [7]) (ρ := [.val (.int n), .val (.dic (dK rows)), .val (dT l), .own (.lst (acc.map dN)), .val (.int o), .val (.int i), b.2, .un]) (i := 7) (j := 4) o l (by omega) fun _ => ⟨rfl, rfl, rfl⟩
      have q2 := sort_new n6 hl c.1 hi c.2
      have q3 := look_dK (swp n l o i) rows
      have rl : (rm l o).length ≤ l.length := List.length_filter_le _ _
      have rl2 : (rm l o).length + 1 ≤ 100000 := by omega
      have q2' : cSort [D.lst (DI (rm l o) ++ [D.int i])] = some (.lst (DI (swp n l o i))) := by
        rw [← q2]; simp [DI]
      refine ⟨_, (.val (.int i), .val (.lst (DI (swp n l o i)))), rfl, .inl ?_⟩
      cases e : rows.lookup (swp n l o i) with
      | some c1 =>
        rw [e] at q3
        have z : ln1 n rows l c0 (some o, some i) = [((some o, some i), c1 - c0)] := by
          show (if o ∈ l ∧ ¬ i ∈ l then _ else _) = _
          rw [if_pos c, e]
        simp [c.1, c.2, q, rl2, q2', q3, h0, z, hb2, dN, oD]
      | none =>
        rw [e] at q3
        have z : ln1 n rows l c0 (some o, some i) = [] := by
          show (if o ∈ l ∧ ¬ i ∈ l then _ else _) = _
          rw [if_pos c, e]
        simp [c.1, c.2, q, rl2, q2', q3, z]
    · have z : ln1 n rows l c0 (some o, some i) = [] := by
        show (if o ∈ l ∧ ¬ i ∈ l then _ else _) = _
        rw [if_neg c]
      refine ⟨_, (.val (.int i), b.2), rfl, .inl ?_⟩
      by_cases c1 : o ∈ l
      · have c2 : i ∈ l := Classical.byContradiction fun z => c ⟨c1, z⟩
        simp [c1, c2, z]
      · simp [c1, z]
  have one : ∀ o : Int, ((rg n).flatMap fun i => ln1 n rows l c0 (some o, some i)).length ≤ 6 := fun o => by
    have : ∀ L : List Int, (L.flatMap fun i => ln1 n rows l c0 (some o, some i)).length ≤ L.length := by
      intro L
      induction L with
      | nil => exact Nat.le_refl _
      | cons s L ih =>
        rw [List.flatMap_cons, List.length_append, List.length_cons]
        have : (ln1 n rows l c0 (some o, some s)).length ≤ 1 := by
          unfold ln1
          repeat (first | split | simp)
        omega
    have := this (rg n)
    rw [rg_len] at this
    omega
  have many : ∀ L : List Int, (L.flatMap fun o => (rg n).flatMap fun i => ln1 n rows l c0 (some o, some i)).length ≤ 6 * L.length := by
    intro L
    induction L with
    | nil => exact Nat.le_refl _
    | cons s L ih =>
      rw [List.flatMap_cons, List.length_append, List.length_cons]
      have := one s
      omega
  obtain ⟨ρ', hf, done, b, hd, rfl⟩ := for_invT D.int (tg := gdN 4) (gb := sFor (iRg1 (eVar 0)) (gdN 5) (sIf (eAnd (eT (e2 (gIn false) (eVar 4) (eVar 2))) (eT (e2 (gIn true) (eVar 5) (eVar 2)))) (sSeq (sSet 6 (eCall cSort (aCons (e2 gCatL (eLc [7] (iSeq (eVar 2)) (gdN 7) (eT (e2 (gEq true) (eVar 7) (eVar 4))) (eVar 7)) (eLst (aCons (eVar 5) aNil))) aNil)))
    (sIf (eT (eDIn false (eCall cTuple (aCons (eVar 6) aNil)) (eVar 1))) (sApp 3 (eTup (aCons (eVar 4) (aCons (eVar 5) (aCons (e2 (gI fun i j => i - j) (eDIx (eVar 1) (eCall cTuple (aCons (eVar 6) aNil))) (eDIx (eVar 1) (eVar 2))) aNil))))) sSkip)) sSkip))
    (fun rest ρ => ∃ (done : List Int) (b : Slot × Slot × Slot), rg n = done ++ rest ∧ ρ = [.val (.int n), .val (.dic (dK rows)), .val (dT l), .own (.lst ((done.flatMap fun o => (rg n).flatMap fun i => ln1 n rows l c0 (some o, some i)).map dN)), b.1, b.2.1, b.2.2, .un])
    (fun o rest ρ hI => by
      obtain ⟨done, b, hd, rfl⟩ := hI
      have ho : o ∈ rg n := by rw [hd]; simp
      have hlen : done.length ≤ n := by have := congrArg List.length hd; rw [rg_len, List.length_append] at this; omega
      have hm := many done
      obtain ⟨b1, hb⟩ := inner o ho (done.flatMap fun o => (rg n).flatMap fun i => ln1 n rows l c0 (some o, some i)) b.2 (by omega)
      refine ⟨_, _, rfl, .inl (for_of ?_ hb), done ++ [o], (.val (.int o), b1.1, b1.2), by rw [hd]; simp, ?_⟩
      · simp [hn2]
      · rw [List.flatMap_append]
        simp)
    (rg n) [.val (.int n), .val (.dic (dK rows)), .val (dT l), .own (.lst []), .un, .un, .un, .un] ⟨[], (.un, .un, .un), rfl, rfl⟩
  rw [List.append_nil] at hd
  subst hd
  have hln : ((rg n).flatMap fun o => (rg n).flatMap fun i => ln1 n rows l c0 (some o, some i)) = ln n rows l c0 := by
    unfold ln pairs
    rw [List.flatMap_assoc]
    congr 1
    funext o
    rw [List.flatMap_map]
  rw [hln] at hf
  refine runF_rt rfl (rt_seq rfl (rt_seq (for_of ?_ hf) ⟨_, rfl⟩))
  simp [hn2, DI]
end PD
set_option maxRecDepth 100000
/-! P22: the law's look at near costs says yes. -/
namespace PD
open PySem PySem.Spec PyProof.Rows L2
def add (n : Nat) (l : Lot) (x : Int) : Lot := (rg n).filter fun k => decide (k ∈ l) || decide (k = x)
theorem add_ok {n : Nat} (h : n ≤ 6) {l : Lot} (hl : l ∈ lots n) {x : Int} (hx : x ∈ rg n) (hxl : ¬ x ∈ l) :
    F_look_lot [.int n, .lst (DI (l ++ [x]))] = .ok (dT (add n l x)) ∧ add n l x ∈ lots n ∧ (add n l x).length = l.length + 1 ∧ rm (add n l x) x = l ∧ (∀ k ∈ l, rm (add n l x) k = swp n l k x) := by
  have h1 := all_lot (p := fun n l => (rg n).all fun x => decide (x ∈ l) || (okq (F_look_lot [.int n, .lst (DI (l ++ [x]))]) (dT (add n l x)) && (decide (add n l x ∈ lots n) && (decide ((add n l x).length = l.length + 1) && (decide (rm (add n l x) x = l) && l.all fun k => decide (rm (add n l x) k = swp n l k x)))))) (by decide +kernel) h hl
  have z := List.all_eq_true.mp h1 x hx
  rw [decide_eq_false hxl, Bool.false_or, Bool.and_eq_true, Bool.and_eq_true, Bool.and_eq_true, Bool.and_eq_true] at z
  exact ⟨okq_ok z.1, of_decide_eq_true z.2.1, of_decide_eq_true z.2.2.1, of_decide_eq_true z.2.2.2.1, fun k hk => of_decide_eq_true (List.all_eq_true.mp z.2.2.2.2 k hk)⟩
theorem mem_add {n : Nat} {l : Lot} {x k : Int} (hk : k ∈ rg n) : k ∈ add n l x ↔ k ∈ l ∨ k = x := by
  unfold add
  rw [List.mem_filter, Bool.or_eq_true, decide_eq_true_eq, decide_eq_true_eq]
  exact ⟨fun z => z.2, fun z => ⟨hk, z⟩⟩
theorem lookup_perm {rows rows' : Rows} (nd : (rows.map (·.1)).Nodup) (p : rows'.Perm rows) (l : Lot) : rows'.lookup l = rows.lookup l := by
  have nd' : (rows'.map (·.1)).Nodup := (p.map _).nodup_iff.mpr nd
  cases e : rows.lookup l with
  | some c => exact lookup_mem nd' (x := (l, c)) (p.mem_iff.mpr (mem_lookup e))
  | none =>
    cases e2 : rows'.lookup l with
    | none => rfl
    | some c =>
      have z := lookup_mem nd (x := (l, c)) (p.mem_iff.mp (mem_lookup e2))
      rw [e] at z
      cases z
theorem ln_mem {n : Nat} {rows : Rows} {l : Lot} {c0 : Int} {t : (Option Int × Option Int) × Int} (h : t ∈ ln n rows l c0) : ∃ o i c, o ∈ rg n ∧ i ∈ rg n ∧ t = ((some o, some i), c - c0) ∧ o ∈ l ∧ ¬ i ∈ l ∧ rows.lookup (swp n l o i) = some c := by
  unfold ln at h
  obtain ⟨s, hs, ht⟩ := List.mem_flatMap.mp h
  obtain ⟨o, ho, h3⟩ := List.mem_flatMap.mp hs
  obtain ⟨i, hi, rfl⟩ := List.mem_map.mp h3
  unfold ln1 at ht
  dsimp only at ht
  by_cases c : o ∈ l ∧ ¬ i ∈ l
  · rw [if_pos c] at ht
    cases e : rows.lookup (swp n l o i) with
    | none => rw [e] at ht; cases ht
    | some c1 =>
      rw [e] at ht
      exact ⟨o, i, c1, ho, hi, List.mem_singleton.mp ht, c.1, c.2, e⟩
  · rw [if_neg c] at ht
    cases ht
theorem mem_ln {n : Nat} {rows : Rows} {l : Lot} {c0 c : Int} {o i : Int} (ho : o ∈ rg n) (hi : i ∈ rg n) (h1 : o ∈ l) (h2 : ¬ i ∈ l) (e : rows.lookup (swp n l o i) = some c) : ((some o, some i), c - c0) ∈ ln n rows l c0 := by
  unfold ln
  refine List.mem_flatMap.mpr ⟨(some o, some i), List.mem_flatMap.mpr ⟨o, ho, List.mem_map_of_mem hi⟩, ?_⟩
  unfold ln1
  dsimp only
  rw [if_pos ⟨h1, h2⟩, e]
  exact List.mem_singleton.mpr rfl
/-- the due entries behind some of the told steps -/
def dueF (n : Nat) (rows : Rows) (l : Lot) (x c0 : Int) (ks : List (Option Int × Option Int)) (k : Int) : D := if k = x then .int c0 else if (some k, some x) ∈ ks then oD (rows.lookup (swp n l k x)) else .non
theorem due_end {n : Nat} (h : n ≤ 6) {rows : Rows} {l : Lot} (hl : l ∈ lots n) {x c0 : Int} (hx : x ∈ rg n) (hxl : ¬ x ∈ l) (h0 : rows.lookup l = some c0) : (rg n).map (dueF n rows l x c0 ((ln n rows l c0).map (·.1))) = (ent n rows (add n l x)).map oD := by
  obtain ⟨_, _, _, a4, a5⟩ := add_ok h hl hx hxl
  unfold ent
  rw [List.map_map]
  refine List.map_congr_left fun k hk => ?_
  show dueF n rows l x c0 _ k = oD (if k ∈ add n l x then rows.lookup (rm (add n l x) k) else none)
  unfold dueF
  by_cases e : k = x
  · subst e
    rw [if_pos rfl, if_pos ((mem_add hk).mpr (.inr rfl)), a4, h0]
    rfl
  · rw [if_neg e]
    by_cases kl : k ∈ l
    · rw [if_pos ((mem_add hk).mpr (.inl kl)), a5 k kl]
      by_cases m : (some k, some x) ∈ (ln n rows l c0).map (·.1)
      · rw [if_pos m]
      · rw [if_neg m]
        cases z : rows.lookup (swp n l k x) with
        | none => rfl
        | some c => exact (m (List.mem_map.mpr ⟨_, mem_ln hk hx kl hxl z, rfl⟩)).elim
    · rw [if_neg fun z => (mem_add hk).mp z |>.elim kl e, if_neg]
      · rfl
      · intro m
        obtain ⟨t, ht, e2⟩ := List.mem_map.mp m
        obtain ⟨o, i, c, ho, hi, rfl, h1, h2, h3⟩ := ln_mem ht
        cases e2
        exact kl h1
theorem sd_near {n : Nat} (h : n ≤ 6) (rows : Rows) (l : Lot) (c0 : Int) : sd 5 (.lst ((ln n rows l c0).map dN)) = true := by
  have l1 := rg2_len h rows l c0
  rw [sd, decide_eq_true (by rw [List.length_map]; omega), List.all_map, Bool.true_and, List.all_eq_true]
  intro t ht
  obtain ⟨o, i, c, ho, hi, rfl, h1, h2, h3⟩ := ln_mem ht
  rfl
end PD
set_option maxRecDepth 100000
/-! P23: the law's look at near costs says yes. -/
namespace PD
open PySem PySem.Spec PyProof.Rows L2
theorem frz_nx {i : Nat} {b : MS} {ρ ρ' : DEnv} (h : b (freeze ρ i) = .nx ρ') : sFrz i b ρ = .nx ρ' := h
theorem due_loop {n r : Nat} {rows : Rows} (g : Good n r rows) {l : Lot} {c0 : Int} (hx0 : (l, c0) ∈ rows) {x : Int} (hxr : x ∈ rg n) (hxl : ¬ x ∈ l) (B RW S P TD : D) (s12 s13 s14 : Slot) : ∃ b : Slot × Slot × Slot,
    forLoop (gdTup 3 (gdCons (gdN 12) (gdCons (gdN 13) (gdCons (gdN 14) gdNil)))) (sIf (eT (e2 (gEq false) (eVar 13) (eVar 9))) (sIxSet 11 (eVar 12) (e2 (gI fun i j => i + j) (eVar 5) (eVar 14))) sSkip) ((ln n rows l c0).map dN)
      [.val B, .val (.int n), .val RW, .val (.dic (dK rows)), .val (dT l), .val (.int c0), .val S, .val P, .val TD, .val (.int x), .un, .own (.lst ((rg n).map (dueF n rows l x c0 []))), s12, s13, s14] =
    .nx [.val B, .val (.int n), .val RW, .val (.dic (dK rows)), .val (dT l), .val (.int c0), .val S, .val P, .val TD, .val (.int x), .un, .own (dO (ent n rows (add n l x))), b.1, b.2.1, b.2.2] := by
  have hl : l ∈ lots n := g.lot _ hx0
  have h0 := lookup_mem g.nd hx0
  obtain ⟨ρ', hf, done, b, hd, rfl⟩ := for_invT dN (tg := gdTup 3 (gdCons (gdN 12) (gdCons (gdN 13) (gdCons (gdN 14) gdNil)))) (gb := (sIf (eT (e2 (gEq false) (eVar 13) (eVar 9))) (sIxSet 11 (eVar 12) (e2 (gI fun i j => i + j) (eVar 5) (eVar 14))) sSkip))
    (fun rest ρ => ∃ (done : List ((Option Int × Option Int) × Int)) (b : Slot × Slot × Slot), ln n rows l c0 = done ++ rest ∧ ρ = [.val B, .val (.int n), .val RW, .val (.dic (dK rows)), .val (dT l), .val (.int c0), .val S, .val P, .val TD, .val (.int x), .un, .own (.lst ((rg n).map (dueF n rows l x c0 (done.map (·.1))))), b.1, b.2.1, b.2.2])
    (fun t rest ρ hI => by
      obtain ⟨done, b, hd, rfl⟩ := hI
      have ht : t ∈ ln n rows l c0 := by rw [hd]; simp
      obtain ⟨o, i, c, ho, hi, rfl, h1, h2, h3⟩ := ln_mem ht
      have hor := mem_rg.mp ho
      refine ⟨_, [.val B, .val (.int n), .val RW, .val (.dic (dK rows)), .val (dT l), .val (.int c0), .val S, .val P, .val TD, .val (.int x), .un, .own (.lst ((rg n).map (dueF n rows l x c0 ((done ++ [((some o, some i), c - c0)]).map (·.1))))), .val (.int o), .val (.int i), .val (.int (c - c0))], rfl, .inl ?_, done ++ [((some o, some i), c - c0)], (.val (.int o), .val (.int i), .val (.int (c - c0))), by rw [hd]; simp, rfl⟩
      by_cases e : i = x
      · subst e
        have z := ixN_in hor
        have z2 := set_rg (dueF n rows l i c0 (done.map (·.1))) hor (.int c)
        have z3 : (rg n).map (fun j => if j = o then D.int c else dueF n rows l i c0 (done.map (·.1)) j) = (rg n).map (dueF n rows l i c0 ((done ++ [((some o, some i), c - c0)]).map (·.1))) := by
          refine List.map_congr_left fun k _ => ?_
          by_cases ek : k = o
          · subst ek
            have ne : ¬ k = i := fun z => h2 (z ▸ h1)
            unfold dueF
            rw [if_pos rfl, if_neg ne, if_pos (by simp), h3]
            rfl
          · unfold dueF
            rw [if_neg ek]
            by_cases e2 : k = i
            · rw [if_pos e2, if_pos e2]
            · rw [if_neg e2, if_neg e2]
              have : ((some k, some i) ∈ done.map (·.1)) ↔ ((some k, some i) ∈ (done ++ [((some o, some i), c - c0)]).map (·.1)) := by
                rw [List.map_append, List.mem_append]
                constructor
                · exact .inl
                · rintro (m | m)
                  · exact m
                  · rw [List.map_cons, List.map_nil, List.mem_singleton] at m
                    cases m
                    exact (ek rfl).elim
              by_cases m : (some k, some i) ∈ done.map (·.1)
              · rw [if_pos m, if_pos (this.mp m)]
              · rw [if_neg m, if_neg fun z => m (this.mpr z)]
        have hsum : c0 + (c - c0) = c := by omega
        rw [← z3, ← z2]
        simp [rg_len, z, hsum, oD]
      · have z3 : (rg n).map (dueF n rows l x c0 (done.map (·.1))) = (rg n).map (dueF n rows l x c0 ((done ++ [((some o, some i), c - c0)]).map (·.1))) := by
          refine List.map_congr_left fun k _ => ?_
          unfold dueF
          by_cases e2 : k = x
          · rw [if_pos e2, if_pos e2]
          · rw [if_neg e2, if_neg e2]
            have : ((some k, some x) ∈ done.map (·.1)) ↔ ((some k, some x) ∈ (done ++ [((some o, some i), c - c0)]).map (·.1)) := by
              rw [List.map_append, List.mem_append]
              constructor
              · exact .inl
              · rintro (m | m)
                · exact m
                · rw [List.map_cons, List.map_nil, List.mem_singleton] at m
                  cases m
                  exact (e rfl).elim
            by_cases m : (some k, some x) ∈ done.map (·.1)
            · rw [if_pos m, if_pos (this.mp m)]
            · rw [if_neg m, if_neg fun z => m (this.mpr z)]
        rw [← z3]
        simp [e, oD])
    (ln n rows l c0) [.val B, .val (.int n), .val RW, .val (.dic (dK rows)), .val (dT l), .val (.int c0), .val S, .val P, .val TD, .val (.int x), .un, .own (.lst ((rg n).map (dueF n rows l x c0 []))), s12, s13, s14] ⟨[], (s12, s13, s14), rfl, rfl⟩
  rw [List.append_nil] at hd
  subst hd
  rw [due_end g.n6 hl hxr hxl h0] at hf
  exact ⟨b, hf⟩
/-- the look at one letter -/
theorem letter_ok {n r : Nat} {rows rowsK : Rows} (g : Good n r rows) (hk : rowsK.Perm rows) (rd : D) {l : Lot} {c0 : Int} (hx0 : (l, c0) ∈ rows) {x : Int} (hxr : x ∈ rg n) (RW S P : D) (u11 u12 u13 u14 : Slot) : ∃ b : Slot × Slot × Slot × Slot,
    (sIf (eT (e2 (gIn true) (eVar 9) (eVar 4))) (sSeq (sOwn 11 (e2 gRep (eLst (aCons (eC .non) aNil)) (eVar 1)))
  (sSeq (sIxSet 11 (eVar 9) (eVar 5))
  (sSeq (sFor (iSeq (eVar 8)) (gdTup 3 (gdCons (gdN 12) (gdCons (gdN 13) (gdCons (gdN 14) gdNil)))) (sIf (eT (e2 (gEq false) (eVar 13) (eVar 9))) (sIxSet 11 (eVar 12) (e2 (gI fun i j => i + j) (eVar 5) (eVar 14))) sSkip))
  (sFrz 11 (sIf (eNot (eT (eFn F__law_same (aCons (eFn F_circuit (aCons (eVar 0) (aCons (e2 gCatL (eCall cList (aCons (eVar 4) aNil)) (eLst (aCons (eVar 9) aNil))) aNil))) (aCons (eVar 11) aNil))))) (sRet (eC (.bl false))) sSkip))))) sSkip)
      [.val (basesD n r rd (dK rowsK)), .val (.int n), .val RW, .val (.dic (dK rows)), .val (dT l), .val (.int c0), .val S, .val P, .val (.lst ((ln n rows l c0).map dN)), .val (.int x), .un, u11, u12, u13, u14] =
    .nx [.val (basesD n r rd (dK rowsK)), .val (.int n), .val RW, .val (.dic (dK rows)), .val (dT l), .val (.int c0), .val S, .val P, .val (.lst ((ln n rows l c0).map dN)), .val (.int x), .un, b.1, b.2.1, b.2.2.1, b.2.2.2] := by
  have hl : l ∈ lots n := g.lot _ hx0
  have n6 := g.n6
  have hxr2 := mem_rg.mp hxr
  have hn : n ≤ 100000 := by omega
  have hn2 : (n : Int) ≤ 100000 := by omega
  by_cases hxl : x ∈ l
  · exact ⟨(u11, u12, u13, u14), by simp [hxl]⟩
  · obtain ⟨a1, a2, a3, a4, a5⟩ := add_ok n6 hl hxr hxl
    have hlen := g.len _ hx0
    have hL := lot_len n6 hl
    have h0 := lookup_mem g.nd hx0
    have he : ent n rowsK (add n l x) = ent n rows (add n l x) := ent_congr (fun m => lookup_perm g.nd hk m) _
    have hs : (ent n rowsK (add n l x)).any Option.isSome = true := by
      rw [he, List.any_eq_true]
      refine ⟨some c0, ?_, rfl⟩
      unfold ent
      refine List.mem_map.mpr ⟨x, hxr, ?_⟩
      rw [if_pos ((mem_add hxr).mpr (.inr rfl)), a4]
      exact h0
    have q := circuit_ok n6 a2 a1 (r : Int) (by rw [a3]; show ((l.length + 1 : Nat) : Int) = _; have : l.length = r := hlen; omega) rd rowsK hs
    rw [he] at q
    have q2 := law_same_ok (sd_O (ent n rows (add n l x)) (by rw [ent_len]; omega) 4)
    generalize basesD n r rd (dK rowsK) = B at q
    generalize hTD : D.lst ((ln n rows l c0).map dN) = TD
    obtain ⟨b, hb⟩ := due_loop g hx0 hxr hxl B RW S P TD u12 u13 u14
    refine ⟨(.val (dO (ent n rows (add n l x))), b), ?_⟩
    have z := ixN_in hxr2
    have z2 := set_rg (fun _ => D.non) hxr2 (.int c0)
    have z3 : (rg n).map (fun j => if j = x then D.int c0 else D.non) = (rg n).map (dueF n rows l x c0 []) := by
      refine List.map_congr_left fun k _ => ?_
      unfold dueF
      simp
    rw [z3] at z2
    have l3 : l.length + 1 ≤ 100000 := by omega
    have q' : F_circuit [B, .lst (DI l ++ [.int x])] = .ok (dO (ent n rows (add n l x))) := by
      rw [← q]; simp [DI]
    have hi8 : iSeq (eVar 8) [.val B, .val (.int n), .val RW, .val (.dic (dK rows)), .val (dT l), .val (.int c0), .val S, .val P, .val TD, .val (.int x), .un, .own (.lst ((rg n).map (dueF n rows l x c0 []))), u12, u13, u14] = .ok ((ln n rows l c0).map dN) [.val B, .val (.int n), .val RW, .val (.dic (dK rows)), .val (dT l), .val (.int c0), .val S, .val P, .val TD, .val (.int x), .un, .own (.lst ((rg n).map (dueF n rows l x c0 []))), u12, u13, u14] := by subst hTD; rfl
    have hfin : (sFrz 11 (sIf (eNot (eT (eFn F__law_same (aCons (eFn F_circuit (aCons (eVar 0) (aCons (e2 gCatL (eCall cList (aCons (eVar 4) aNil)) (eLst (aCons (eVar 9) aNil))) aNil))) (aCons (eVar 11) aNil))))) (sRet (eC (.bl false))) sSkip))
      [.val B, .val (.int n), .val RW, .val (.dic (dK rows)), .val (dT l), .val (.int c0), .val S, .val P, .val TD, .val (.int x), .un, .own (dO (ent n rows (add n l x))), b.1, b.2.1, b.2.2] = .nx [.val B, .val (.int n), .val RW, .val (.dic (dK rows)), .val (dT l), .val (.int c0), .val S, .val P, .val TD, .val (.int x), .un, .val (dO (ent n rows (add n l x))), b.1, b.2.1, b.2.2] := by
      simp [l3, q', q2]
    have hloop := seq_nx (for_of hi8 hb) hfin
    have hsteps : (sSeq (sOwn 11 (e2 gRep (eLst (aCons (eC .non) aNil)) (eVar 1)))
      (sSeq (sIxSet 11 (eVar 9) (eVar 5))
      (sSeq (sFor (iSeq (eVar 8)) (gdTup 3 (gdCons (gdN 12) (gdCons (gdN 13) (gdCons (gdN 14) gdNil)))) (sIf (eT (e2 (gEq false) (eVar 13) (eVar 9))) (sIxSet 11 (eVar 12) (e2 (gI fun i j => i + j) (eVar 5) (eVar 14))) sSkip))
      (sFrz 11 (sIf (eNot (eT (eFn F__law_same (aCons (eFn F_circuit (aCons (eVar 0) (aCons (e2 gCatL (eCall cList (aCons (eVar 4) aNil)) (eLst (aCons (eVar 9) aNil))) aNil))) (aCons (eVar 11) aNil))))) (sRet (eC (.bl false))) sSkip)))))
      [.val B, .val (.int n), .val RW, .val (.dic (dK rows)), .val (dT l), .val (.int c0), .val S, .val P, .val TD, .val (.int x), .un, u11, u12, u13, u14] =
      .nx [.val B, .val (.int n), .val RW, .val (.dic (dK rows)), .val (dT l), .val (.int c0), .val S, .val P, .val TD, .val (.int x), .un, .val (dO (ent n rows (add n l x))), b.1, b.2.1, b.2.2] := by
      refine seq_nx (ρ1 := [.val B, .val (.int n), .val RW, .val (.dic (dK rows)), .val (dT l), .val (.int c0), .val S, .val P, .val TD, .val (.int x), .un, .own (.lst ((rg n).map fun _ => .non)), u12, u13, u14]) ?_ (seq_nx (ρ1 := [.val B, .val (.int n), .val RW, .val (.dic (dK rows)), .val (dT l), .val (.int c0), .val S, .val P, .val TD, .val (.int x), .un, .own (.lst ((rg n).map (dueF n rows l x c0 []))), u12, u13, u14]) ?_ hloop)
      · simp [hn, hn2, rep_non]
      · rw [← z2]
        simp [rg_len, z]
    show RS.ofT (eT _ _) _ = _
    have ht : (eT (e2 (gIn true) (eVar 9) (eVar 4))) [.val B, .val (.int n), .val RW, .val (.dic (dK rows)), .val (dT l), .val (.int c0), .val S, .val P, .val TD, .val (.int x), .un, u11, u12, u13, u14] = .ok true [.val B, .val (.int n), .val RW, .val (.dic (dK rows)), .val (dT l), .val (.int c0), .val S, .val P, .val TD, .val (.int x), .un, u11, u12, u13, u14] := by simp [hxl]
    rw [ht, p_ofT_ok, if_pos rfl]
    exact hsteps
end PD
set_option maxRecDepth 100000
/-! P24: the law's look at near costs says yes. -/
namespace PD
open PySem PySem.Spec PyProof.Rows L2
theorem right_near_ok {n r : Nat} {rows rowsB rowsK : Rows} (g : Good n r rows) (hB : rowsB.Perm rows) (hK : rowsK.Perm rows) :
    F__law_right_near [basesD n r (.tup (rowsB.map dR)) (dK rowsK), .int n, .lst (rows.map dR)] = .ok (.bl true) := by
  have n6 := g.n6
  have l20 := g.l20
  have hn2 : (n : Int) ≤ 100000 := by omega
  obtain ⟨srows, lo, hi, sp, hs⟩ := listed_ok g hB (dK rowsK)
  generalize hRW : D.lst (rows.map dR) = RW
  generalize hBD : basesD n r (.tup (rowsB.map dR)) (dK rowsK) = B
  obtain ⟨b1, hk⟩ := for_dput dR (tg := gdTup 2 (gdCons (gdN 4) (gdCons (gdN 5) gdNil))) (gb := sDPutO 3 (eVar 4) (eVar 5)) (fun acc (s : Slot × Slot) => [.val B, .val (.int n), .val RW, .own (.dic acc), s.1, s.2, .un, .un, .un, .un, .un, .un, .un, .un, .un])
    (fun x => kI x.1) (fun x => .int x.2) rows [] (.un, .un) (by simp; omega) (by simpa using dK_keys g.nd) fun x hx acc s ha _ => ⟨_, (.val (dT x.1), .val (.int x.2)), rfl, by simp [ha]⟩
  obtain ⟨b2, hf⟩ := for_keepT dR (tg := gdTup 2 (gdCons (gdN 4) (gdCons (gdN 5) gdNil))) (gb := (sSeq (sSet 7 (eLc [10] (iRg1 (eVar 1)) (gdN 10) mYes (eCall cInt (aCons (e2 (gIn false) (eVar 10) (eVar 4)) aNil))))
  (sSeq (sSet 8 (eMeth 1 "near" F_Listed_near (eVar 6) (aCons (eVar 7) aNil)))
  (sSeq (sIf (eNot (eT (eFn F__law_same (aCons (eVar 8) (aCons (eFn F__law_near (aCons (eVar 1) (aCons (eVar 3) (aCons (eVar 4) aNil)))) aNil))))) (sRet (eC (.bl false))) sSkip)
  (sFor (iRg1 (eVar 1)) (gdN 9) (sIf (eT (e2 (gIn true) (eVar 9) (eVar 4))) (sSeq (sOwn 11 (e2 gRep (eLst (aCons (eC .non) aNil)) (eVar 1)))
  (sSeq (sIxSet 11 (eVar 9) (eVar 5))
  (sSeq (sFor (iSeq (eVar 8)) (gdTup 3 (gdCons (gdN 12) (gdCons (gdN 13) (gdCons (gdN 14) gdNil)))) (sIf (eT (e2 (gEq false) (eVar 13) (eVar 9))) (sIxSet 11 (eVar 12) (e2 (gI fun i j => i + j) (eVar 5) (eVar 14))) sSkip))
  (sFrz 11 (sIf (eNot (eT (eFn F__law_same (aCons (eFn F_circuit (aCons (eVar 0) (aCons (e2 gCatL (eCall cList (aCons (eVar 4) aNil)) (eLst (aCons (eVar 9) aNil))) aNil))) (aCons (eVar 11) aNil))))) (sRet (eC (.bl false))) sSkip))))) sSkip))))))
    (fun s : Slot × Slot × Slot × Slot × Slot × Slot × Slot × Slot × Slot => [.val B, .val (.int n), .val RW, .val (.dic (dK rows)), s.1, s.2.1, .val (listedD n srows lo hi), s.2.2.1, s.2.2.2.1, s.2.2.2.2.1, .un, s.2.2.2.2.2.1, s.2.2.2.2.2.2.1, s.2.2.2.2.2.2.2.1, s.2.2.2.2.2.2.2.2]) rows (b1.1, b1.2, .un, .un, .un, .un, .un, .un, .un) fun x hx s => by
      obtain ⟨s4, s5, s7, s8, s9, s11, s12, s13, s14⟩ := s
      obtain ⟨l, c0⟩ := x
      have hl : l ∈ lots n := g.lot _ hx
      have qn := near_ok g sp lo hi hx
      have ql := law_near_ok g hx
      have qs := law_same_ok (sd_near n6 rows l c0)
      dsimp only at qn ql
      -- the point
      have hpt := lc_map D.int (vs := [10]) (tg := gdN 10) (fe := (eCall cInt (aCons (e2 (gIn false) (eVar 10) (eVar 4)) aNil))) (ρ := [.val B, .val (.int n), .val RW, .val (.dic (dK rows)), .val (dT l), .val (.int c0), .val (listedD n srows lo hi), s7, s8, s9, .un, s11, s12, s13, s14])
        (fun k => .int (if k ∈ l then 1 else 0)) (rg n) (by rw [rg_len]; omega) fun k hk => by
          refine ⟨_, rfl, ?_, rfl⟩
          by_cases c : k ∈ l
          · simp [c, cInt]
          · simp [c, cInt]
      have hptE : ((rg n).map fun k => D.int (if k ∈ l then 1 else 0)) = DI (pt n l) := by
        unfold pt DI
        rw [List.map_map]
        rfl
      rw [hptE] at hpt
      have hpt' : lcLoop [10] (gdN 10) mYes (eCall cInt (aCons (e2 (gIn false) (eVar 10) (eVar 4)) aNil)) (DI (rg n)) _ [] = _ := hpt
      -- the letters
      obtain ⟨b3, hlet⟩ := for_keepT D.int (tg := gdN 9) (gb := (sIf (eT (e2 (gIn true) (eVar 9) (eVar 4))) (sSeq (sOwn 11 (e2 gRep (eLst (aCons (eC .non) aNil)) (eVar 1)))
        (sSeq (sIxSet 11 (eVar 9) (eVar 5))
        (sSeq (sFor (iSeq (eVar 8)) (gdTup 3 (gdCons (gdN 12) (gdCons (gdN 13) (gdCons (gdN 14) gdNil)))) (sIf (eT (e2 (gEq false) (eVar 13) (eVar 9))) (sIxSet 11 (eVar 12) (e2 (gI fun i j => i + j) (eVar 5) (eVar 14))) sSkip))
        (sFrz 11 (sIf (eNot (eT (eFn F__law_same (aCons (eFn F_circuit (aCons (eVar 0) (aCons (e2 gCatL (eCall cList (aCons (eVar 4) aNil)) (eLst (aCons (eVar 9) aNil))) aNil))) (aCons (eVar 11) aNil))))) (sRet (eC (.bl false))) sSkip))))) sSkip))
        (fun b : Slot × Slot × Slot × Slot × Slot => [.val B, .val (.int n), .val RW, .val (.dic (dK rows)), .val (dT l), .val (.int c0), .val (listedD n srows lo hi), .val (dL (pt n l)), .val (.lst ((ln n rows l c0).map dN)), b.1, .un, b.2.1, b.2.2.1, b.2.2.2.1, b.2.2.2.2]) (rg n) (s9, s11, s12, s13, s14) fun x hxr b => by
          obtain ⟨b9, b11, b12, b13, b14⟩ := b
          obtain ⟨e, he⟩ := letter_ok g hK (.tup (rowsB.map dR)) hx hxr RW (listedD n srows lo hi) (dL (pt n l)) b11 b12 b13 b14
          rw [hBD] at he
          exact ⟨_, (.val (.int x), e), rfl, .inl he⟩
      refine ⟨_, (.val (dT l), .val (.int c0), .val (dL (pt n l)), .val (.lst ((ln n rows l c0).map dN)), b3), rfl, .inl ?_⟩
      refine seq_nx (ρ1 := [.val B, .val (.int n), .val RW, .val (.dic (dK rows)), .val (dT l), .val (.int c0), .val (listedD n srows lo hi), .val (dL (pt n l)), s8, s9, .un, s11, s12, s13, s14]) ?_
        (seq_nx (ρ1 := [.val B, .val (.int n), .val RW, .val (.dic (dK rows)), .val (dT l), .val (.int c0), .val (listedD n srows lo hi), .val (dL (pt n l)), .val (.lst ((ln n rows l c0).map dN)), s9, .un, s11, s12, s13, s14]) ?_
        (seq_nx (ρ1 := [.val B, .val (.int n), .val RW, .val (.dic (dK rows)), .val (dT l), .val (.int c0), .val (listedD n srows lo hi), .val (dL (pt n l)), .val (.lst ((ln n rows l c0).map dN)), s9, .un, s11, s12, s13, s14]) ?_ (for_of (ds := (rg n).map D.int) (ρ1 := [.val B, .val (.int n), .val RW, .val (.dic (dK rows)), .val (dT l), .val (.int c0), .val (listedD n srows lo hi), .val (dL (pt n l)), .val (.lst ((ln n rows l c0).map dN)), s9, .un, s11, s12, s13, s14]) ?_ hlet)))
      · simp [hn2, dR]
        rw [hpt']
        rfl
      · unfold listedD at *
        simp [lnear_at, qn]
      · simp [ql, qs]
      · simp [hn2, DI]
  refine runF_rt rfl (rt_seq rfl (rt_seq (for_of (ds := rows.map dR) (ρ1 := [.val B, .val (.int n), .val RW, .own (.dic []), .un, .un, .un, .un, .un, .un, .un, .un, .un, .un, .un]) (by subst hRW; rfl) hk) (rt_seq (ρ1 := [.val B, .val (.int n), .val RW, .own (.dic (dK rows)), b1.1, b1.2, .val (listedD n srows lo hi), .un, .un, .un, .un, .un, .un, .un, .un]) ?_ (rt_frz (rt_seq (for_of (ds := rows.map dR) (ρ1 := [.val B, .val (.int n), .val RW, .val (.dic (dK rows)), b1.1, b1.2, .val (listedD n srows lo hi), .un, .un, .un, .un, .un, .un, .un, .un]) (by subst hRW; rfl) hf) ⟨_, rfl⟩)))))
  subst hBD
  show sSet 6 (eMeth 2 "listed" F_Bases_listed (eVar 0) aNil) [.val (basesD n r (.tup (rowsB.map dR)) (dK rowsK)), .val (.int n), .val RW, .own (.dic (dK rows)), b1.1, b1.2, .un, .un, .un, .un, .un, .un, .un, .un, .un] = _
  unfold basesD at *
  simp [listed_at, hs]
end PD
set_option maxRecDepth 100000
/-! P25: drawn bends. -/
namespace PD
open PySem PySem.Spec PyProof.Rows L2
structure Bd (i : Nat) (cs : List Int) (st : Int) : Prop where
  len : cs.length = i + 1
  cv : ∀ k, k + 2 < i + 1 → cs.getD (k + 1) 0 + cs.getD (k + 1) 0 ≤ cs.getD k 0 + cs.getD (k + 2) 0
  last : ∀ j, i = j + 1 → cs.getD i 0 - cs.getD j 0 = st
  stb : -(5 + 3 * (i : Int)) ≤ st ∧ st ≤ 5 + 3 * (i : Int)
  b : ∀ k, k ≤ i → -(6 + 30 * (k : Int)) ≤ cs.getD k 0 ∧ cs.getD k 0 ≤ 6 + 30 * (k : Int)
theorem getD_app {cs : List Int} {v : Int} {k : Nat} : (cs ++ [v]).getD k 0 = if k < cs.length then cs.getD k 0 else if k = cs.length then v else 0 := by
  rw [List.getD_eq_getElem?_getD, List.getD_eq_getElem?_getD]
  by_cases h : k < cs.length
  · rw [if_pos h, List.getElem?_append_left h]
  · rw [if_neg h, List.getElem?_append_right (Nat.not_lt.mp h)]
    by_cases e : k = cs.length
    · rw [if_pos e, e, Nat.sub_self]; rfl
    · rw [if_neg e, List.getElem?_eq_none (by simp; omega)]
      rfl
theorem Bd.next {i : Nat} {cs : List Int} {st st' : Int} (h : Bd i cs st) (hi : i ≤ 7) (h1 : 1 ≤ i → st ≤ st') (h2 : -(5 + 3 * ((i + 1 : Nat) : Int)) ≤ st' ∧ st' ≤ 5 + 3 * ((i + 1 : Nat) : Int)) : Bd (i + 1) (cs ++ [cs.getD i 0 + st']) st' := by
  have hl := h.len
  refine ⟨by rw [List.length_append, hl]; rfl, fun k hk => ?_, fun j hj => ?_, h2, fun k hk => ?_⟩
  · rw [getD_app, getD_app, getD_app, if_pos (by omega), if_pos (by omega)]
    by_cases e : k + 2 < cs.length
    · rw [if_pos e]
      exact h.cv k (by omega)
    · have e2 : k + 2 = cs.length := by omega
      rw [if_neg e, if_pos e2]
      have ei : i = k + 1 := by omega
      have := h.last k ei
      have := h1 (by omega)
      rw [ei] at *
      omega
  · have : j = i := by omega
    subst this
    rw [getD_app, getD_app, if_neg (by omega), if_pos (by omega), if_pos (by omega)]
    omega
  · rw [getD_app]
    by_cases e : k < cs.length
    · rw [if_pos e]
      exact h.b k (by omega)
    · have e2 : k = cs.length := by omega
      rw [if_neg e, if_pos e2]
      have := h.b i (Nat.le_refl _)
      have e3 : k = i + 1 := by omega
      subst e3
      omega
theorem last_at {cs : List Int} {i : Nat} (h : cs.length = i + 1) : atI (DI cs) (-1) = some (.int (cs.getD i 0)) := by
  obtain ⟨xs, v, rfl⟩ : ∃ xs v, cs = xs ++ [v] := by
    have ne : cs ≠ [] := fun e => by rw [e] at h; simp at h
    exact ⟨cs.dropLast, cs.getLast ne, (List.dropLast_concat_getLast ne).symm⟩
  have hx : xs.length = i := by rw [List.length_append] at h; simpa using h
  rw [getD_app, if_neg (by omega), if_pos hx.symm]
  have := atI_last (DI xs) (D.int v)
  simpa [DI] using this
theorem bends_loop (count : D) : ∀ (m i : Nat) (pool cs : List Int) (st : Int) (s4 : Slot), PO pool → Bd i cs st → i + m ≤ 7 → ∃ (pool' cs' : List Int) (st' : Int) (b : Slot),
    forLoop (gdN 4) (sSeq (sIf (eT (e2 (gB fun i j => decide (j < i)) (eVar 4) (eC (.int 1)))) (sSet 3 (e2 (gI fun i j => i + j) (eVar 3) (eFnO 0 F__law_draw (aCons (eC (.int 4)) aNil)))) sSkip)
      (sApp 2 (e2 (gI fun i j => i + j) (eIxO 2 (e1 (gU fun i => -i) (eC (.int 1)))) (eVar 3)))) ((List.range' i m).map fun j => D.int (1 + (j : Nat))) [.own (dL pool), .val count, .own (dL cs), .val (.int st), s4] =
      .nx [.own (dL pool'), .val count, .own (dL cs'), .val (.int st'), b] ∧ PO pool' ∧ Bd (i + m) cs' st'
  | 0, i, pool, cs, st, s4, hp, hb, _ => ⟨pool, cs, st, s4, rfl, hp, hb⟩
  | m + 1, i, pool, cs, st, s4, hp, hb, hm => by
    have hl := hb.len
    have la := last_at hl
    have hl2 : cs.length < 100000 := by omega
    by_cases c : i = 0
    · subst c
      have hb' : Bd 1 (cs ++ [cs.getD 0 0 + st]) st := hb.next (by omega) (fun z => by omega) (by have := hb.stb; omega)
      obtain ⟨pool', cs', st', b, h1, h2, h3⟩ := bends_loop count m 1 pool (cs ++ [cs.getD 0 0 + st]) st (.val (.int (1 + ((0 : Nat) : Int)))) hp hb' (by omega)
      refine ⟨pool', cs', st', b, ?_, h2, by rw [Nat.add_comm] at h3 ⊢; exact h3⟩
      rw [List.range'_succ, List.map_cons]
      unfold forLoop
      rw [p_gdN]
      dsimp only
      have hstep : (sSeq (sIf (eT (e2 (gB fun i j => decide (j < i)) (eVar 4) (eC (.int 1)))) (sSet 3 (e2 (gI fun i j => i + j) (eVar 3) (eFnO 0 F__law_draw (aCons (eC (.int 4)) aNil)))) sSkip)
        (sApp 2 (e2 (gI fun i j => i + j) (eIxO 2 (e1 (gU fun i => -i) (eC (.int 1)))) (eVar 3)))) (List.set [.own (dL pool), .val count, .own (dL cs), .val (.int st), s4] 4 (.val (.int (1 + ((0 : Nat) : Int))))) = .nx [.own (dL pool), .val count, .own (dL (cs ++ [cs.getD 0 0 + st])), .val (.int st), .val (.int (1 + ((0 : Nat) : Int)))] := by
        generalize cs.getD 0 0 = v at la
        simp [la, hl2, DI]
      rw [hstep]
      exact h1
    · obtain ⟨d, pool1, e1', hp1, d0, d1, d2⟩ := draw_ok pool hp 4 (by omega)
      have d3 := d2 (by omega)
      have hb' : Bd (i + 1) (cs ++ [cs.getD i 0 + (st + d)]) (st + d) := hb.next (by omega) (fun z => by omega) (by have := hb.stb; omega)
      obtain ⟨pool', cs', st', b, h1, h2, h3⟩ := bends_loop count m (i + 1) pool1 (cs ++ [cs.getD i 0 + (st + d)]) (st + d) (.val (.int (1 + (i : Nat)))) hp1 hb' (by omega)
      have e : i + 1 + m = i + (m + 1) := by omega
      rw [e] at h3
      refine ⟨pool', cs', st', b, ?_, h2, h3⟩
      rw [List.range'_succ, List.map_cons]
      unfold forLoop
      rw [p_gdN]
      dsimp only
      have hstep : (sSeq (sIf (eT (e2 (gB fun i j => decide (j < i)) (eVar 4) (eC (.int 1)))) (sSet 3 (e2 (gI fun i j => i + j) (eVar 3) (eFnO 0 F__law_draw (aCons (eC (.int 4)) aNil)))) sSkip)
        (sApp 2 (e2 (gI fun i j => i + j) (eIxO 2 (e1 (gU fun i => -i) (eC (.int 1)))) (eVar 3)))) (List.set [.own (dL pool), .val count, .own (dL cs), .val (.int st), s4] 4 (.val (.int (1 + (i : Nat))))) = .nx [.own (dL pool1), .val count, .own (dL (cs ++ [cs.getD i 0 + (st + d)])), .val (.int (st + d)), .val (.int (1 + (i : Nat)))] := by
        generalize cs.getD i 0 = v at la
        have c1 : 1 < 1 + (i : Int) := by omega
        simp [la, hl2, DI, c1, e1']
      rw [hstep]
      exact h1
def CvxL (cs : List Int) : Prop := ∀ k, k + 2 < cs.length → cs.getD (k + 1) 0 + cs.getD (k + 1) 0 ≤ cs.getD k 0 + cs.getD (k + 2) 0
theorem bends_ok (pool : List Int) (hp : PO pool) (count : Nat) (h1 : 1 ≤ count) (h8 : count ≤ 8) : ∃ cs pool' : List Int, F__law_bends (.lst (DI pool)) [.int count] = .ok (.lst (DI cs)) (.lst (DI pool')) ∧ PO pool' ∧ cs.length = count ∧ CvxL cs ∧ ∀ k, k < count → -1000 ≤ cs.getD k 0 ∧ cs.getD k 0 ≤ 1000 := by
  obtain ⟨a, p1, e1', hp1, a0, _, a2⟩ := draw_ok pool hp 13 (by omega)
  obtain ⟨b, p2, e2', hp2, b0, _, b2⟩ := draw_ok p1 hp1 11 (by omega)
  have a3 := a2 (by omega)
  have b3 := b2 (by omega)
  have hb : Bd 0 [a - 6] (b - 5) := ⟨rfl, fun k hk => by omega, fun j hj => by omega, by omega, fun k hk => by
    have : k = 0 := by omega
    subst this
    show -(6 + 30 * ((0 : Nat) : Int)) ≤ a - 6 ∧ a - 6 ≤ 6 + 30 * ((0 : Nat) : Int)
    omega⟩
  obtain ⟨p3, cs, st, b4, hf, hp3, hB⟩ := bends_loop (.int count) (count - 1) 0 p2 [a - 6] (b - 5) .un hp2 hb (by omega)
  have hl := hB.len
  refine ⟨cs, p3, ?_, hp3, by omega, fun k hk => hB.cv k (by omega), fun k hk => by have := hB.b k (by omega); omega⟩
  have hc : (count : Int) ≤ 100000 := by omega
  have hc2 : (-100000 : Int) ≤ count := by omega
  have hr : ((count : Int) - 1).toNat = count - 1 := by omega
  refine runO_rt rfl (rto_seq (ρ1 := [.own (dL p1), .val (.int count), .own (dL [a - 6]), .un, .un]) ?_ (rto_seq (ρ1 := [.own (dL p2), .val (.int count), .own (dL [a - 6]), .val (.int (b - 5)), .un]) ?_ (rto_seq (for_of (ds := (List.range' 0 (count - 1)).map fun j => D.int (1 + (j : Nat))) (ρ1 := [.own (dL p2), .val (.int count), .own (dL [a - 6]), .val (.int (b - 5)), .un]) ?_ hf) (rto_frz (rto_rt rfl rfl)))))
  · simp [e1', DI]
  · simp [e2', DI]
  · simp [hc, hc2, hr, List.range_eq_range']
end PD
set_option maxRecDepth 100000
/-! P26: drawn rows are good, in plain terms. -/
namespace PD
open PySem PySem.Spec PyProof.Rows L2
theorem rg_succ (n : Nat) : rg (n + 1) = rg n ++ [(n : Int)] := by
  unfold rg
  rw [List.range_succ, List.map_append]
  rfl
theorem lots_succ (n : Nat) : lots (n + 1) = lots n ++ (lots n).map fun l => l ++ [(n : Int)] := by
  unfold lots
  rw [rg_succ, List.foldl_append]
  rfl
theorem filter_lots (p : Int → Bool) : ∀ n : Nat, (rg n).filter p ∈ lots n
  | 0 => by
    show (rg 0).filter p ∈ [[]]
    exact List.mem_singleton.mpr rfl
  | n + 1 => by
    have ih := filter_lots p n
    rw [rg_succ, lots_succ, List.filter_append, List.mem_append]
    by_cases c : p n = true
    · refine .inr (List.mem_map.mpr ⟨_, ih, ?_⟩)
      rw [List.filter_cons_of_pos c]
      rfl
    · refine .inl ?_
      rw [List.filter_cons_of_neg c]
      simpa using ih
theorem lot_filter {n : Nat} (h : n ≤ 6) {l : Lot} (hl : l ∈ lots n) : l = (rg n).filter fun k => decide (k ∈ l) :=
  of_decide_eq_true (all_lot (p := fun n l => decide (l = (rg n).filter fun k => decide (k ∈ l))) (by decide +kernel) h hl)
theorem lots_nodup {n : Nat} (h : n ≤ 6) : (lots n).Nodup := by
  have := all_le (p := fun n => decide (lots n).Nodup) (k := 6) (by decide +kernel) h
  exact of_decide_eq_true this
/-- letters of a lot in a class -/
def cntL (S : List Int) (l : Lot) : Nat := (l.filter fun k => decide (k ∈ S)).length
theorem ind_sum (s : Int → Bool) : ∀ l : List Int, (l.map (ind s)).sum = ((l.filter s).length : Nat)
  | [] => rfl
  | k :: r => by
    rw [List.map_cons, List.sum_cons, ind_sum s r, List.filter_cons]
    unfold ind
    by_cases c : s k = true
    · rw [if_pos c, if_pos c, List.length_cons]; omega
    · rw [if_neg c, if_neg c]; omega
theorem wS_lot {n : Nat} (h : n ≤ 6) (w : Int → Int) {l : Lot} (hl : l ∈ lots n) : wS w (fun k => decide (k ∈ l)) (rg n) = (l.map w).sum := by
  rw [wS_filter, ← lot_filter h hl]
structure Par where
  n : Nat
  r : Nat
  pr : List Int
  inner : List Int
  outer : List Int
  low : Nat
  cs : List Int
  ms : List Int
structure Par.Ok (P : Par) : Prop where
  n6 : P.n ≤ 6
  lpr : P.pr.length = P.n
  bpr : ∀ k, k < P.n → -6 ≤ P.pr.getD k 0 ∧ P.pr.getD k 0 ≤ 6
  sub1 : P.inner.Sublist (rg P.n)
  sub2 : P.outer.Sublist (rg P.n)
  dj : ∀ k ∈ P.inner, ¬ k ∈ P.outer
  low1 : P.low ≤ P.inner.length
  low2 : P.low ≤ P.r
  low3 : P.r - P.low ≤ P.outer.length
  lcs : 1 ≤ P.cs.length
  ccs : CvxL P.cs
  bcs : ∀ k, k < P.cs.length → -1000 ≤ P.cs.getD k 0 ∧ P.cs.getD k 0 ≤ 1000
  lms : P.ms.length = P.outer.length + 1
  cms : CvxL P.ms
  bms : ∀ k, k < P.ms.length → -1000 ≤ P.ms.getD k 0 ∧ P.ms.getD k 0 ≤ 1000
def Par.cost (P : Par) (l : Lot) : Int := (l.map fun k => P.pr.getD k.toNat 0).sum + P.cs.getD (cntL P.inner l - P.low) 0 + P.ms.getD (cntL P.outer.tail l) 0
def Par.let (P : Par) (l : Lot) : Bool := decide (l.length = P.r) && (decide (P.low ≤ cntL P.inner l) && decide (cntL P.inner l - P.low < P.cs.length))
def Par.one (P : Par) (l : Lot) : Rows := if P.let l = true then [(l, P.cost l)] else []
def Par.rows (P : Par) : Rows := (lots P.n).flatMap P.one
theorem Par.mem {P : Par} {x : Lot × Int} : x ∈ P.rows ↔ x.1 ∈ lots P.n ∧ P.let x.1 = true ∧ x.2 = P.cost x.1 := by
  unfold Par.rows
  rw [List.mem_flatMap]
  constructor
  · rintro ⟨l, hl, hx⟩
    unfold Par.one at hx
    by_cases c : P.let l = true
    · rw [if_pos c] at hx
      rw [List.mem_singleton.mp hx]
      exact ⟨hl, c, rfl⟩
    · rw [if_neg c] at hx; cases hx
  · rintro ⟨h1, h2, h3⟩
    refine ⟨x.1, h1, ?_⟩
    unfold Par.one
    rw [if_pos h2, ← h3]
    exact List.mem_singleton.mpr rfl
theorem Par.nd {P : Par} (h : P.Ok) : (P.rows.map (·.1)).Nodup := by
  have e : ∀ L : List Lot, (L.flatMap P.one).map (·.1) = L.filter P.let := by
    intro L
    induction L with
    | nil => rfl
    | cons l L ih =>
      rw [List.flatMap_cons, List.map_append, ih, List.filter_cons]
      unfold Par.one
      by_cases c : P.let l = true
      · rw [if_pos c, if_pos c]; rfl
      · rw [if_neg c, if_neg c]; rfl
  unfold Par.rows
  rw [e]
  exact (lots_nodup h.n6).sublist List.filter_sublist
def Par.C (P : Par) : Cst := ⟨rg P.n, fun k => P.pr.getD k.toNat 0, fun k => decide (k ∈ P.inner), fun k => decide (k ∈ P.outer.tail), fun k => P.cs.getD k.toNat 0, fun k => P.ms.getD k.toNat 0, P.cs.length, P.ms.length⟩
theorem cvx_of {cs : List Int} (h : CvxL cs) : Cvx (fun k => cs.getD k.toNat 0) cs.length := fun k h0 h1 => by
  have := h k.toNat (by omega)
  have e1 : (k + 1).toNat = k.toNat + 1 := by omega
  have e2 : (k + 2).toNat = k.toNat + 2 := by omega
  show cs.getD (k + 1).toNat 0 + cs.getD (k + 1).toNat 0 ≤ cs.getD k.toNat 0 + cs.getD (k + 2).toNat 0
  rw [e1, e2]
  exact this
theorem Par.cok {P : Par} (h : P.Ok) : P.C.Ok := ⟨rg_nodup _, fun k _ z => h.dj k (of_decide_eq_true z.1) (List.mem_of_mem_tail (of_decide_eq_true z.2)), cvx_of h.ccs, cvx_of h.cms⟩
theorem cnt_le_tail {P : Par} (h : P.Ok) {l : Lot} (hl : l ∈ lots P.n) : cntL P.outer.tail l < P.ms.length := by
  have nl : l.Nodup := by
    rw [lot_filter h.n6 hl]
    exact (rg_nodup _).sublist List.filter_sublist
  have := List.Nodup.length_le_of_subset (l₁ := l.filter fun k => decide (k ∈ P.outer.tail)) (l₂ := P.outer.tail) (nl.sublist List.filter_sublist) fun k hk => of_decide_eq_true (List.mem_filter.mp hk).2
  rw [List.length_tail] at this
  have := h.lms
  unfold cntL
  omega
theorem Par.na {P : Par} (h : P.Ok) {l : Lot} (hl : l ∈ lots P.n) : P.C.na (fun k => decide (k ∈ l)) = cntL P.inner l := by
  show wS (ind fun k => decide (k ∈ P.inner)) (fun k => decide (k ∈ l)) (rg P.n) = _
  rw [wS_lot h.n6 _ hl, ind_sum]
  rfl
theorem Par.nb {P : Par} (h : P.Ok) {l : Lot} (hl : l ∈ lots P.n) : P.C.nb (fun k => decide (k ∈ l)) = cntL P.outer.tail l := by
  show wS (ind fun k => decide (k ∈ P.outer.tail)) (fun k => decide (k ∈ l)) (rg P.n) = _
  rw [wS_lot h.n6 _ hl, ind_sum]
  rfl
theorem ones_len (l : List Int) : (l.map fun _ => (1 : Int)).sum = l.length := by
  induction l with
  | nil => rfl
  | cons x r ih => rw [List.map_cons, List.sum_cons, ih, List.length_cons]; omega
theorem wS_sw_lot {n : Nat} (w : Int → Int) (l : Lot) (i j : Int) : wS w (sw (fun k => decide (k ∈ l)) i j) (rg n) = wS w (fun k => decide (k ∈ swp n l i j)) (rg n) := by
  refine wS_congr fun k hk => ?_
  rw [Bool.eq_iff_iff, decide_eq_true_eq]
  unfold swp
  rw [List.mem_filter]
  exact ⟨fun z => ⟨hk, z⟩, fun z => z.2⟩
theorem Par.good {P : Par} (h : P.Ok) : Good P.n P.r P.rows := by
  have leng : ∀ {x : Lot × Int}, x ∈ P.rows → x.1.length = P.r ∧ P.low ≤ cntL P.inner x.1 ∧ cntL P.inner x.1 - P.low < P.cs.length := fun {x} hx => by
    have z := (Par.mem.mp hx).2.1
    unfold Par.let at z
    rw [Bool.and_eq_true, Bool.and_eq_true, decide_eq_true_eq, decide_eq_true_eq, decide_eq_true_eq] at z
    exact z
  refine ⟨h.n6, fun x hx => (Par.mem.mp hx).1, fun x hx => (leng hx).1, fun x hx => ?_, Par.nd h, ?_, ?_⟩
  · obtain ⟨h1, h2, h3⟩ := Par.mem.mp hx
    obtain ⟨g1, g2, g3⟩ := leng hx
    have b1 := h.bcs _ g3
    have b2 := h.bms _ (cnt_le_tail h h1)
    have b3 : ∀ l : List Int, (∀ k ∈ l, k ∈ rg P.n) → -(6 * (l.length : Int)) ≤ (l.map fun k => P.pr.getD k.toNat 0).sum ∧ (l.map fun k => P.pr.getD k.toNat 0).sum ≤ 6 * (l.length : Int) := by
      intro l
      induction l with
      | nil => intro _; exact ⟨by simp, by simp⟩
      | cons k r ih =>
        intro hr
        have i := ih fun x hx => hr x (List.mem_cons_of_mem _ hx)
        have kk := mem_rg.mp (hr k (List.mem_cons_self ..))
        have bk := h.bpr k.toNat (by omega)
        rw [List.map_cons, List.sum_cons, List.length_cons]
        omega
    have b4 := b3 x.1 (lot_rg h.n6 h1)
    have b5 := lot_len h.n6 h1
    have := h.n6
    rw [h3]
    unfold Par.cost
    omega
  · -- a lot that is let
    have n1 : P.inner.Nodup := (rg_nodup _).sublist h.sub1
    have n2 : P.outer.Nodup := (rg_nodup _).sublist h.sub2
    let S := P.inner.take P.low ++ P.outer.take (P.r - P.low)
    have nS : S.Nodup := List.nodup_append.mpr ⟨n1.sublist (List.take_sublist _ _), n2.sublist (List.take_sublist _ _), fun a ha b hb e => h.dj a (List.mem_of_mem_take ha) (e ▸ List.mem_of_mem_take hb)⟩
    have hS : ∀ k ∈ S, k ∈ rg P.n := fun k hk => by
      rcases List.mem_append.mp hk with z | z
      · exact h.sub1.subset (List.mem_of_mem_take z)
      · exact h.sub2.subset (List.mem_of_mem_take z)
    have pS : ((rg P.n).filter fun k => decide (k ∈ S)).Perm S := (List.perm_ext_iff_of_nodup ((rg_nodup _).sublist List.filter_sublist) nS).mpr fun k => by
      rw [List.mem_filter, decide_eq_true_eq]
      exact ⟨fun z => z.2, fun z => ⟨hS k z, z⟩⟩
    have lS : S.length = P.r := by
      show (P.inner.take P.low ++ P.outer.take (P.r - P.low)).length = P.r
      rw [List.length_append, List.length_take, List.length_take]
      have := h.low1
      have := h.low2
      have := h.low3
      omega
    have cS : cntL P.inner ((rg P.n).filter fun k => decide (k ∈ S)) = P.low := by
      unfold cntL
      rw [(pS.filter _).length_eq]
      show ((P.inner.take P.low ++ P.outer.take (P.r - P.low)).filter fun k => decide (k ∈ P.inner)).length = P.low
      rw [List.filter_append, List.filter_eq_self.mpr fun k hk => decide_eq_true (List.mem_of_mem_take hk), List.filter_eq_nil_iff.mpr fun k hk z => h.dj k (of_decide_eq_true z) (List.mem_of_mem_take hk), List.append_nil, List.length_take]
      have := h.low1
      omega
    have hm : ((rg P.n).filter fun k => decide (k ∈ S), P.cost ((rg P.n).filter fun k => decide (k ∈ S))) ∈ P.rows := by
      refine Par.mem.mpr ⟨filter_lots _ _, ?_, rfl⟩
      show P.let ((rg P.n).filter fun k => decide (k ∈ S)) = true
      unfold Par.let
      rw [cS, decide_eq_true (by rw [pS.length_eq]; exact lS), decide_eq_true (Nat.le_refl _), decide_eq_true (by have := h.lcs; omega)]
      rfl
    intro e
    rw [e] at hm
    cases hm
  · intro x hx y hy i hi hiy
    obtain ⟨x1, x2, x3⟩ := Par.mem.mp hx
    obtain ⟨y1, y2, y3⟩ := Par.mem.mp hy
    obtain ⟨gx1, gx2, gx3⟩ := leng hx
    obtain ⟨gy1, gy2, gy3⟩ := leng hy
    have tx := cnt_le_tail h x1
    have ty := cnt_le_tail h y1
    have nax := Par.na h x1
    have nay := Par.na h y1
    have nbx := Par.nb h x1
    have nby := Par.nb h y1
    have hir := lot_rg h.n6 x1 i hi
    obtain ⟨j, hj, qj, pj, r1, r2, r3, r4, r5⟩ := Cst.exch (Par.cok h) (p := fun k => decide (k ∈ x.1)) (q := fun k => decide (k ∈ y.1)) (lo := P.low) (by rw [nax]; show 0 ≤ _ ∧ _ < (P.cs.length : Int); omega) (by rw [nay]; show 0 ≤ _ ∧ _ < (P.cs.length : Int); omega) (by rw [nbx]; show 0 ≤ _ ∧ _ < (P.ms.length : Int); omega) (by rw [nby]; show 0 ≤ _ ∧ _ < (P.ms.length : Int); omega) (by
      show wS (fun _ => 1) _ (rg P.n) = wS (fun _ => 1) _ (rg P.n)
      rw [wS_lot h.n6 _ x1, wS_lot h.n6 _ y1, ones_len, ones_len, gx1, gy1]) (i := i) hir (decide_eq_true hi) (decide_eq_false hiy)
    have hj : j ∈ rg P.n := hj
    have hjy := of_decide_eq_true qj
    have hjx := of_decide_eq_false pj
    -- the two new lots
    have new : ∀ (l : Lot), l ∈ lots P.n → l.length = P.r → ∀ (i j : Int), i ∈ l → ¬ j ∈ l → i ∈ rg P.n → j ∈ rg P.n → 0 ≤ P.C.na (sw (fun k => decide (k ∈ l)) i j) - P.low → P.C.na (sw (fun k => decide (k ∈ l)) i j) - P.low < P.C.m →
        (swp P.n l i j, P.cost (swp P.n l i j)) ∈ P.rows ∧ P.cost (swp P.n l i j) = wS P.C.pr (sw (fun k => decide (k ∈ l)) i j) P.C.L + P.C.f (P.C.na (sw (fun k => decide (k ∈ l)) i j) - P.low) + P.C.g (P.C.nb (sw (fun k => decide (k ∈ l)) i j)) := by
      intro l hl hlen i j hi hj hir hjr b1 b2
      have hs : swp P.n l i j ∈ lots P.n := filter_lots _ _
      have e1 : P.C.na (sw (fun k => decide (k ∈ l)) i j) = cntL P.inner (swp P.n l i j) := by
        rw [← Par.na h hs]
        exact wS_sw_lot _ l i j
      have e2 : P.C.nb (sw (fun k => decide (k ∈ l)) i j) = cntL P.outer.tail (swp P.n l i j) := by
        rw [← Par.nb h hs]
        exact wS_sw_lot _ l i j
      have e3 : wS P.C.pr (sw (fun k => decide (k ∈ l)) i j) P.C.L = ((swp P.n l i j).map fun k => P.pr.getD k.toNat 0).sum := by
        show wS (fun k => P.pr.getD k.toNat 0) (sw (fun k => decide (k ∈ l)) i j) (rg P.n) = _
        rw [wS_sw_lot, wS_lot h.n6 _ hs]
      have e4 : (swp P.n l i j).length = P.r := by
        have z1 : wS (fun _ => (1 : Int)) (sw (fun k => decide (k ∈ l)) i j) (rg P.n) = _ := wS_sw (rg_nodup _) hir hjr (decide_eq_true hi) (decide_eq_false hj)
        rw [wS_sw_lot, wS_lot h.n6 _ hs, wS_lot h.n6 _ hl, ones_len, ones_len] at z1
        omega
      rw [e1] at b1 b2
      have b2' : (cntL P.inner (swp P.n l i j) : Int) - P.low < (P.cs.length : Int) := b2
      refine ⟨Par.mem.mpr ⟨hs, ?_, rfl⟩, ?_⟩
      · show P.let (swp P.n l i j) = true
        unfold Par.let
        rw [decide_eq_true e4, decide_eq_true (show P.low ≤ cntL P.inner (swp P.n l i j) by omega), decide_eq_true (show cntL P.inner (swp P.n l i j) - P.low < P.cs.length by omega)]
        rfl
      · rw [e1, e2, e3]
        unfold Par.cost
        show _ = _ + P.cs.getD ((cntL P.inner (swp P.n l i j) : Int) - P.low).toNat 0 + P.ms.getD ((cntL P.outer.tail (swp P.n l i j) : Int)).toNat 0
        have z1 : ((cntL P.inner (swp P.n l i j) : Int) - P.low).toNat = cntL P.inner (swp P.n l i j) - P.low := by omega
        rw [z1, Int.toNat_natCast]
    obtain ⟨m1, c1⟩ := new x.1 x1 gx1 i j hi hjx hir hj r1.1 r1.2
    obtain ⟨m2, c2⟩ := new y.1 y1 gy1 j i hjy hiy hj hir r2.1 r2.2
    have old : ∀ l : Lot, l ∈ lots P.n → P.low ≤ cntL P.inner l → P.cost l = wS P.C.pr (fun k => decide (k ∈ l)) P.C.L + P.C.f (P.C.na (fun k => decide (k ∈ l)) - P.low) + P.C.g (P.C.nb (fun k => decide (k ∈ l))) := by
      intro l hl hlow
      rw [Par.na h hl, Par.nb h hl]
      have e3 : wS P.C.pr (fun k => decide (k ∈ l)) P.C.L = (l.map fun k => P.pr.getD k.toNat 0).sum := wS_lot h.n6 _ hl
      rw [e3]
      unfold Par.cost
      show _ = _ + P.cs.getD ((cntL P.inner l : Int) - P.low).toNat 0 + P.ms.getD ((cntL P.outer.tail l : Int)).toNat 0
      have z1 : ((cntL P.inner l : Int) - P.low).toNat = cntL P.inner l - P.low := by omega
      rw [z1, Int.toNat_natCast]
    refine ⟨j, hjy, hjx, _, _, m1, m2, ?_⟩
    rw [x3, y3, old x.1 x1 gx2, old y.1 y1 gy2, c1, c2]
    exact r5
end PD
set_option maxRecDepth 100000
/-! P27: the law's rows. -/
namespace PD
open PySem PySem.Spec PyProof.Rows L2
/-- a comprehension whose element changes the state -/
theorem lc_st {α β : Type} (enc : α → D) {vs : List Nat} {tg : GD} {fe : M D} (E : β → DEnv) (I : β → Prop) (P : Int → Prop) : ∀ (l : List α) (acc : List D) (b : β), I b → acc.length + l.length ≤ 100000 →
    (∀ a ∈ l, ∀ b, I b → ∃ ρ1 ρ2 b' v, tg (enc a) (E b) = some ρ1 ∧ fe ρ1 = .ok (.int v) ρ2 ∧ wipeD ρ2 vs = E b' ∧ I b' ∧ P v) →
    ∃ (ys : List Int) (b' : β), lcLoop vs tg mYes fe (l.map enc) (E b) acc = .ok (.lst (acc ++ DI ys)) (E b') ∧ I b' ∧ ys.length = l.length ∧ ∀ y ∈ ys, P y
  | [], acc, b, hI, _, _ => ⟨[], b, by simp [lcLoop], hI, rfl, fun y hy => by cases hy⟩
  | a :: l, acc, b, hI, hl, h => by
    obtain ⟨ρ1, ρ2, b1, v, h1, h2, h3, h4, h5⟩ := h a (List.mem_cons_self ..) b hI
    rw [List.length_cons] at hl
    obtain ⟨ys, b2, g1, g2, g3, g4⟩ := lc_st enc E I P l (acc ++ [.int v]) b1 h4 (by rw [List.length_append, List.length_singleton]; omega) fun x hx => h x (List.mem_cons_of_mem _ hx)
    refine ⟨v :: ys, b2, ?_, g2, by rw [List.length_cons, List.length_cons, g3], fun y hy => ?_⟩
    · rw [List.map_cons]
      unfold lcLoop
      rw [h1]
      dsimp only
      rw [p_mYes]
      dsimp only
      rw [if_pos rfl, h2]
      dsimp only
      rw [if_pos (by omega), h3, g1, List.append_assoc]
      rfl
    · rcases List.mem_cons.mp hy with e | hy
      · rw [e]; exact h5
      · exact g4 y hy
theorem split_len {α : Type} (p q : α → Bool) : ∀ L : List α, (∀ k ∈ L, p k = !q k) → (L.filter p).length + (L.filter q).length = L.length
  | [], _ => rfl
  | k :: r, h => by
    have ih := split_len p q r fun x hx => h x (List.mem_cons_of_mem _ hx)
    have h0 := h k (List.mem_cons_self ..)
    rw [List.filter_cons, List.filter_cons, List.length_cons]
    cases e : q k with
    | true => rw [e] at h0; rw [h0]; simp; omega
    | false => rw [e] at h0; rw [h0]; simp; omega
theorem getD_mem {P : Int → Prop} {l : List Int} (h : ∀ y ∈ l, P y) {k : Nat} (hk : k < l.length) : P (l.getD k 0) := by
  rw [List.getD_eq_getElem?_getD, List.getElem?_eq_getElem hk]
  exact h _ (List.getElem_mem hk)
theorem cut1 (l : List Int) : cutD (DI l) (some 1) none = DI l.tail := by
  unfold cutD
  rw [show (some (1 : Int)) = some ((1 : Nat) : Int) from rfl, HT.sIx_none, HT.sIx_nat]
  simp only [DI, List.length_map]
  cases l with
  | nil => rfl
  | cons x r =>
    have z1 : min 1 (x :: r).length = 1 := by rw [List.length_cons]; omega
    rw [z1, List.map_cons, List.drop_succ_cons, List.drop_zero, List.tail_cons]
    exact List.take_of_length_le (by rw [List.length_map, List.length_cons]; omega)
@[simp] theorem gSl1 (l : List Int) : gSl (some 1) none (.lst (DI l)) = some (.lst (DI l.tail)) := by
  show some (D.lst (cutD (DI l) (some 1) none)) = _
  rw [cut1]
/-- one round of the loop over the lots -/
theorem rows_step {P : Par} (h : P.Ok) {l : Lot} (hl : l ∈ lots P.n) (acc : Rows) (ha : acc.length < 1000) (PL X5 X8 : D) (s13 s14 s15 s16 : Slot) : ∃ b : Slot × Slot × Slot,
    (sSeq (sSet 14 (e2 (gI fun i j => i - j) (eCall cLen (aCons (eLc [4] (iSeq (eVar 13)) (gdN 4) (eT (e2 (gIn false) (eVar 4) (eVar 6))) (eVar 4)) aNil)) (eVar 9)))
  (sIf (eAnd (eT (e2 (gEq false) (eCall cLen (aCons (eVar 13) aNil)) (eVar 2))) (eT (eCh (gB fun i j => decide (i ≤ j)) (gB fun i j => decide (i < j)) (eC (.int 0)) (eVar 14) (eCall cLen (aCons (eVar 10) aNil))))) (sSeq (sSet 15 (eCall cLen (aCons (eLc [4] (iSeq (eVar 13)) (gdN 4) (eT (e2 (gIn false) (eVar 4) (e1 (gSl (some 1) none) (eVar 7)))) (eVar 4)) aNil)))
  (sSeq (sSet 16 (eCall cSum (aCons (eLc [4] (iSeq (eVar 13)) (gdN 4) mYes (e2 gIx (eVar 3) (eVar 4))) aNil)))
  (sApp 12 (eTup (aCons (eVar 13) (aCons (e2 (gI fun i j => i + j) (e2 (gI fun i j => i + j) (eVar 16) (e2 gIx (eVar 10) (eVar 14))) (e2 gIx (eVar 11) (eVar 15))) aNil)))))) sSkip))
      [.own PL, .val (.int P.n), .val (.int P.r), .val (dL P.pr), .un, .val X5, .val (dL P.inner), .val (dL P.outer), .val X8, .val (.int P.low), .val (dL P.cs), .val (dL P.ms), .own (.lst (acc.map dR)), .val (dT l), s14, s15, s16] =
    .nx [.own PL, .val (.int P.n), .val (.int P.r), .val (dL P.pr), .un, .val X5, .val (dL P.inner), .val (dL P.outer), .val X8, .val (.int P.low), .val (dL P.cs), .val (dL P.ms), .own (.lst ((acc ++ P.one l).map dR)), .val (dT l), b.1, b.2.1, b.2.2] := by
  have hL := lot_len h.n6 hl
  have hn6 := h.n6
  have hR := lot_rg h.n6 hl
  have ha2 : acc.length < 100000 := by omega
  have q1 := lc_of D.int (vs := [4]) (tg := gdN 4) (ft := eT (e2 (gIn false) (eVar 4) (eVar 6))) (fe := eVar 4) (ρ := [.own PL, .val (.int P.n), .val (.int P.r), .val (dL P.pr), .un, .val X5, .val (dL P.inner), .val (dL P.outer), .val X8, .val (.int P.low), .val (dL P.cs), .val (dL P.ms), .own (.lst (acc.map dR)), .val (dT l), s14, s15, s16])
    (fun k => decide (k ∈ P.inner)) D.int l [] (by simp; omega) fun k hk => ⟨_, rfl, by simp, fun _ => rfl, rfl⟩
  rw [List.nil_append] at q1
  have q1' : lcLoop [4] (gdN 4) (eT (e2 (gIn false) (eVar 4) (eVar 6))) (eVar 4) (DI l) [.own PL, .val (.int P.n), .val (.int P.r), .val (dL P.pr), .un, .val X5, .val (dL P.inner), .val (dL P.outer), .val X8, .val (.int P.low), .val (dL P.cs), .val (dL P.ms), .own (.lst (acc.map dR)), .val (dT l), s14, s15, s16] [] = .ok (.lst (DI (l.filter fun k => decide (k ∈ P.inner)))) _ := q1
  have hcn : ((l.filter fun k => decide (k ∈ P.inner)).length : Int) = cntL P.inner l := rfl
  by_cases c : P.let l = true
  · have z : P.one l = [(l, P.cost l)] := by unfold Par.one; rw [if_pos c]
    unfold Par.let at c
    rw [Bool.and_eq_true, Bool.and_eq_true, decide_eq_true_eq, decide_eq_true_eq, decide_eq_true_eq] at c
    obtain ⟨c1, c2, c3⟩ := c
    have c1' : (l.length : Int) = P.r := by omega
    have c2' : (0 : Int) ≤ (cntL P.inner l : Int) - P.low := by omega
    have c3' : (cntL P.inner l : Int) - P.low < (P.cs.length : Int) := by omega
    have a1 := atI_ints (l := P.cs) (k := (cntL P.inner l : Int) - P.low) ⟨c2', c3'⟩
    have z1 : ((cntL P.inner l : Int) - P.low).toNat = cntL P.inner l - P.low := by omega
    rw [z1] at a1
    have t := cnt_le_tail h hl
    have a2 := atI_nat' (l := P.ms) (k := cntL P.outer.tail l) t
    have q2 := lc_of D.int (vs := [4]) (tg := gdN 4) (ft := eT (e2 (gIn false) (eVar 4) (e1 (gSl (some 1) none) (eVar 7)))) (fe := eVar 4) (ρ := [.own PL, .val (.int P.n), .val (.int P.r), .val (dL P.pr), .un, .val X5, .val (dL P.inner), .val (dL P.outer), .val X8, .val (.int P.low), .val (dL P.cs), .val (dL P.ms), .own (.lst (acc.map dR)), .val (dT l), .val (.int ((cntL P.inner l : Int) - P.low)), s15, s16])
      (fun k => decide (k ∈ P.outer.tail)) D.int l [] (by simp; omega) fun k hk => ⟨_, rfl, by simp [-List.map_tail], fun _ => rfl, rfl⟩
    rw [List.nil_append] at q2
    have q2' : lcLoop [4] (gdN 4) (eT (e2 (gIn false) (eVar 4) (e1 (gSl (some 1) none) (eVar 7)))) (eVar 4) (DI l) [.own PL, .val (.int P.n), .val (.int P.r), .val (dL P.pr), .un, .val X5, .val (dL P.inner), .val (dL P.outer), .val X8, .val (.int P.low), .val (dL P.cs), .val (dL P.ms), .own (.lst (acc.map dR)), .val (dT l), .val (.int ((cntL P.inner l : Int) - P.low)), s15, s16] [] = .ok (.lst (DI (l.filter fun k => decide (k ∈ P.outer.tail)))) _ := q2
    have q3 := lc_map D.int (vs := [4]) (tg := gdN 4) (fe := e2 gIx (eVar 3) (eVar 4)) (ρ := [.own PL, .val (.int P.n), .val (.int P.r), .val (dL P.pr), .un, .val X5, .val (dL P.inner), .val (dL P.outer), .val X8, .val (.int P.low), .val (dL P.cs), .val (dL P.ms), .own (.lst (acc.map dR)), .val (dT l), .val (.int ((cntL P.inner l : Int) - P.low)), .val (.int (cntL P.outer.tail l)), s16])
      (fun k => .int (P.pr.getD k.toNat 0)) l (by omega) fun k hk => by
        have a := atI_ints (l := P.pr) (k := k) (by rw [h.lpr]; exact mem_rg.mp (hR k hk))
        refine ⟨_, rfl, ?_, rfl⟩
        generalize P.pr.getD k.toNat 0 = v at a
        simp [a]
    have hsum : cSum [.lst (l.map fun k => D.int (P.pr.getD k.toNat 0))] = some (.int (l.map fun k => P.pr.getD k.toNat 0).sum) := by
      show (intsD _).map _ = _
      rw [intsD_map]
      rfl
    have hco : P.cost l = (l.map fun k => P.pr.getD k.toNat 0).sum + P.cs.getD (cntL P.inner l - P.low) 0 + P.ms.getD (cntL P.outer.tail l) 0 := rfl
    refine ⟨(.val (.int ((cntL P.inner l : Int) - P.low)), .val (.int (cntL P.outer.tail l)), .val (.int (l.map fun k => P.pr.getD k.toNat 0).sum)), ?_⟩
    refine seq_nx (ρ1 := [.own PL, .val (.int P.n), .val (.int P.r), .val (dL P.pr), .un, .val X5, .val (dL P.inner), .val (dL P.outer), .val X8, .val (.int P.low), .val (dL P.cs), .val (dL P.ms), .own (.lst (acc.map dR)), .val (dT l), .val (.int ((cntL P.inner l : Int) - P.low)), s15, s16]) ?_ ?_
    · simp only [p_sSet, p_e2, p_eCall, p_aCons, p_aNil, p_eLc, p_iSeq, p_eVar]
      simp [q1', hcn]
    · have hin : (sSeq (sSet 15 (eCall cLen (aCons (eLc [4] (iSeq (eVar 13)) (gdN 4) (eT (e2 (gIn false) (eVar 4) (e1 (gSl (some 1) none) (eVar 7)))) (eVar 4)) aNil)))
          (sSeq (sSet 16 (eCall cSum (aCons (eLc [4] (iSeq (eVar 13)) (gdN 4) mYes (e2 gIx (eVar 3) (eVar 4))) aNil)))
          (sApp 12 (eTup (aCons (eVar 13) (aCons (e2 (gI fun i j => i + j) (e2 (gI fun i j => i + j) (eVar 16) (e2 gIx (eVar 10) (eVar 14))) (e2 gIx (eVar 11) (eVar 15))) aNil))))))
          [.own PL, .val (.int P.n), .val (.int P.r), .val (dL P.pr), .un, .val X5, .val (dL P.inner), .val (dL P.outer), .val X8, .val (.int P.low), .val (dL P.cs), .val (dL P.ms), .own (.lst (acc.map dR)), .val (dT l), .val (.int ((cntL P.inner l : Int) - P.low)), s15, s16] =
          .nx [.own PL, .val (.int P.n), .val (.int P.r), .val (dL P.pr), .un, .val X5, .val (dL P.inner), .val (dL P.outer), .val X8, .val (.int P.low), .val (dL P.cs), .val (dL P.ms), .own (.lst ((acc ++ P.one l).map dR)), .val (dT l), .val (.int ((cntL P.inner l : Int) - P.low)), .val (.int (cntL P.outer.tail l)), .val (.int (l.map fun k => P.pr.getD k.toNat 0).sum)] := by
        refine seq_nx (ρ1 := [.own PL, .val (.int P.n), .val (.int P.r), .val (dL P.pr), .un, .val X5, .val (dL P.inner), .val (dL P.outer), .val X8, .val (.int P.low), .val (dL P.cs), .val (dL P.ms), .own (.lst (acc.map dR)), .val (dT l), .val (.int ((cntL P.inner l : Int) - P.low)), .val (.int (cntL P.outer.tail l)), s16]) ?_
          (seq_nx (ρ1 := [.own PL, .val (.int P.n), .val (.int P.r), .val (dL P.pr), .un, .val X5, .val (dL P.inner), .val (dL P.outer), .val X8, .val (.int P.low), .val (dL P.cs), .val (dL P.ms), .own (.lst (acc.map dR)), .val (dT l), .val (.int ((cntL P.inner l : Int) - P.low)), .val (.int (cntL P.outer.tail l)), .val (.int (l.map fun k => P.pr.getD k.toNat 0).sum)]) ?_ ?_)
        · have hct : ((l.filter fun k => decide (k ∈ P.outer.tail)).length : Int) = cntL P.outer.tail l := rfl
          simp only [p_sSet, p_e2, p_eCall, p_aCons, p_aNil, p_eLc, p_iSeq, p_eVar]
          simp [q2', hct]
        · have q3' : lcLoop [4] (gdN 4) mYes (e2 gIx (eVar 3) (eVar 4)) (DI l) [.own PL, .val (.int P.n), .val (.int P.r), .val (dL P.pr), .un, .val X5, .val (dL P.inner), .val (dL P.outer), .val X8, .val (.int P.low), .val (dL P.cs), .val (dL P.ms), .own (.lst (acc.map dR)), .val (dT l), .val (.int ((cntL P.inner l : Int) - P.low)), .val (.int (cntL P.outer.tail l)), s16] [] = _ := q3
          generalize hs : (l.map fun k => P.pr.getD k.toNat 0).sum = sm at *
          generalize (l.map fun k => D.int (P.pr.getD k.toNat 0)) = ds at q3' hsum
          simp only [p_sSet, p_e2, p_eCall, p_aCons, p_aNil, p_eLc, p_iSeq, p_eVar]
          simp [q3', hsum]
        · rw [z]
          generalize (l.map fun k => P.pr.getD k.toNat 0).sum = sm at hco
          generalize P.cs.getD (cntL P.inner l - P.low) 0 = v1 at hco a1
          generalize P.ms.getD (cntL P.outer.tail l) 0 = v2 at hco a2
          simp [a1, a2, ha2, dR, hco]
      have ht : (eAnd (eT (e2 (gEq false) (eCall cLen (aCons (eVar 13) aNil)) (eVar 2))) (eT (eCh (gB fun i j => decide (i ≤ j)) (gB fun i j => decide (i < j)) (eC (.int 0)) (eVar 14) (eCall cLen (aCons (eVar 10) aNil)))))
          [.own PL, .val (.int P.n), .val (.int P.r), .val (dL P.pr), .un, .val X5, .val (dL P.inner), .val (dL P.outer), .val X8, .val (.int P.low), .val (dL P.cs), .val (dL P.ms), .own (.lst (acc.map dR)), .val (dT l), .val (.int ((cntL P.inner l : Int) - P.low)), s15, s16] =
          .ok true [.own PL, .val (.int P.n), .val (.int P.r), .val (dL P.pr), .un, .val X5, .val (dL P.inner), .val (dL P.outer), .val X8, .val (.int P.low), .val (dL P.cs), .val (dL P.ms), .own (.lst (acc.map dR)), .val (dT l), .val (.int ((cntL P.inner l : Int) - P.low)), s15, s16] := by
        generalize (cntL P.inner l : Int) - P.low = at' at c2' c3'
        simp [c1', c2', c3']
      show RS.ofT (eAnd _ _ _) _ = _
      rw [ht, p_ofT_ok, if_pos rfl]
      exact hin
  · have z : P.one l = [] := by unfold Par.one; rw [if_neg c]
    refine ⟨(.val (.int ((cntL P.inner l : Int) - P.low)), s15, s16), ?_⟩
    refine seq_nx (ρ1 := [.own PL, .val (.int P.n), .val (.int P.r), .val (dL P.pr), .un, .val X5, .val (dL P.inner), .val (dL P.outer), .val X8, .val (.int P.low), .val (dL P.cs), .val (dL P.ms), .own (.lst (acc.map dR)), .val (dT l), .val (.int ((cntL P.inner l : Int) - P.low)), s15, s16]) ?_ ?_
    · simp only [p_sSet, p_e2, p_eCall, p_aCons, p_aNil, p_eLc, p_iSeq, p_eVar]
      simp [q1', hcn]
    · have ht : (eAnd (eT (e2 (gEq false) (eCall cLen (aCons (eVar 13) aNil)) (eVar 2))) (eT (eCh (gB fun i j => decide (i ≤ j)) (gB fun i j => decide (i < j)) (eC (.int 0)) (eVar 14) (eCall cLen (aCons (eVar 10) aNil)))))
          [.own PL, .val (.int P.n), .val (.int P.r), .val (dL P.pr), .un, .val X5, .val (dL P.inner), .val (dL P.outer), .val X8, .val (.int P.low), .val (dL P.cs), .val (dL P.ms), .own (.lst (acc.map dR)), .val (dT l), .val (.int ((cntL P.inner l : Int) - P.low)), s15, s16] =
          .ok false [.own PL, .val (.int P.n), .val (.int P.r), .val (dL P.pr), .un, .val X5, .val (dL P.inner), .val (dL P.outer), .val X8, .val (.int P.low), .val (dL P.cs), .val (dL P.ms), .own (.lst (acc.map dR)), .val (dT l), .val (.int ((cntL P.inner l : Int) - P.low)), s15, s16] := by
        unfold Par.let at c
        rw [Bool.and_eq_true, Bool.and_eq_true, decide_eq_true_eq, decide_eq_true_eq, decide_eq_true_eq] at c
        by_cases c1 : l.length = P.r
        · have c1' : (l.length : Int) = P.r := by omega
          by_cases c2 : P.low ≤ cntL P.inner l
          · have c2' : (0 : Int) ≤ (cntL P.inner l : Int) - P.low := by omega
            have c3' : ¬ (cntL P.inner l : Int) - P.low < (P.cs.length : Int) := fun z => c ⟨c1, c2, by omega⟩
            generalize (cntL P.inner l : Int) - P.low = at' at c2' c3'
            simp [c1', c2', c3']
          · have c2' : ¬ (0 : Int) ≤ (cntL P.inner l : Int) - P.low := by omega
            generalize (cntL P.inner l : Int) - P.low = at' at c2'
            simp [c1', c2']
        · have c1' : ¬ (l.length : Int) = P.r := by omega
          simp [c1']
      show RS.ofT (eAnd _ _ _) _ = _
      rw [ht, p_ofT_ok, if_neg Bool.false_ne_true, z]
      simp
end PD
set_option maxRecDepth 100000
/-! P28: the law's rows. -/
namespace PD
open PySem PySem.Spec PyProof.Rows L2
theorem lots_len {n : Nat} (h : n ≤ 6) : (lots n).length ≤ 64 := by
  have := all_le (p := fun n => decide ((lots n).length ≤ 64)) (k := 6) (by decide +kernel) h
  exact of_decide_eq_true this
theorem law_rows_ok (pool : List Int) (hp : PO pool) (n : Nat) (hn : n ≤ 6) : ∃ (r : Nat) (rows : Rows) (pool' : List Int), F__law_rows (.lst (DI pool)) [.int n] = .ok (.tup [.int r, .lst (rows.map dR)]) (.lst (DI pool')) ∧ PO pool' ∧ Good n r rows ∧ r ≤ n := by
  have hn2 : (n : Int) ≤ 100000 := by omega
  obtain ⟨ri, p1, e1', hp1, r0, r1, r2⟩ := draw_ok pool hp (n + 1) (by omega)
  have r3 := r2 (by omega)
  obtain ⟨r, rfl⟩ : ∃ r : Nat, ri = r := ⟨ri.toNat, by omega⟩
  have hrn : r ≤ n := by omega
  -- prices
  obtain ⟨pr, p2, hpr, hp2, lpr, bpr⟩ := lc_st D.int (vs := [4]) (tg := gdN 4) (fe := (e2 (gI fun i j => i - j) (eFnO 0 F__law_draw (aCons (eC (.int 13)) aNil)) (eC (.int 6)))) (fun p : List Int => [.own (dL p), .val (.int n), .val (.int r), .un, .un, .un, .un, .un, .un, .un, .un, .un, .un, .un, .un, .un, .un]) PO (fun v => -6 ≤ v ∧ v ≤ 6) (rg n) [] p1 hp1 (by rw [rg_len]; simp; omega) fun k hk p hP => by
    obtain ⟨d, q, eq, hq, d0, d1, d2⟩ := draw_ok p hP 13 (by omega)
    have d3 := d2 (by omega)
    exact ⟨_, [.own (dL q), .val (.int n), .val (.int r), .un, .val (.int k), .un, .un, .un, .un, .un, .un, .un, .un, .un, .un, .un, .un], q, d - 6, rfl, by simp [eq], rfl, hq, by omega⟩
  rw [rg_len] at lpr
  -- marks
  obtain ⟨mk, p3, hmk, hp3, lmk, bmk⟩ := lc_st D.int (vs := [4]) (tg := gdN 4) (fe := (eFnO 0 F__law_draw (aCons (eC (.int 2)) aNil))) (fun p : List Int => [.own (dL p), .val (.int n), .val (.int r), .val (dL pr), .un, .un, .un, .un, .un, .un, .un, .un, .un, .un, .un, .un, .un]) PO (fun v => v = 0 ∨ v = 1) (rg n) [] p2 hp2 (by rw [rg_len]; simp; omega) fun k hk p hP => by
    obtain ⟨d, q, eq, hq, d0, d1, d2⟩ := draw_ok p hP 2 (by omega)
    have d3 := d2 (by omega)
    exact ⟨_, [.own (dL q), .val (.int n), .val (.int r), .val (dL pr), .val (.int k), .un, .un, .un, .un, .un, .un, .un, .un, .un, .un, .un, .un], q, d, rfl, by simp [eq], rfl, hq, by omega⟩
  rw [rg_len] at lmk
  have hmv : ∀ k ∈ rg n, mk.getD k.toNat 0 = 0 ∨ mk.getD k.toNat 0 = 1 := fun k hk => by
    have := mem_rg.mp hk
    exact getD_mem (P := fun v => v = 0 ∨ v = 1) bmk (by omega)
  have cls : ∀ (c : Int) (s6 : Slot), lcLoop [4] (gdN 4) (eT (e2 (gEq false) (e2 gIx (eVar 5) (eVar 4)) (eC (.int c)))) (eVar 4) (DI (rg n)) [.own (dL p3), .val (.int n), .val (.int r), .val (dL pr), .un, .val (dL mk), s6, .un, .un, .un, .un, .un, .un, .un, .un, .un, .un] [] =
      .ok (.lst (DI ((rg n).filter fun k => decide (mk.getD k.toNat 0 = c)))) [.own (dL p3), .val (.int n), .val (.int r), .val (dL pr), .un, .val (dL mk), s6, .un, .un, .un, .un, .un, .un, .un, .un, .un, .un] := fun c s6 => by
    have := lc_of D.int (vs := [4]) (tg := gdN 4) (ft := eT (e2 (gEq false) (e2 gIx (eVar 5) (eVar 4)) (eC (.int c)))) (fe := eVar 4) (ρ := [.own (dL p3), .val (.int n), .val (.int r), .val (dL pr), .un, .val (dL mk), s6, .un, .un, .un, .un, .un, .un, .un, .un, .un, .un])
      (fun k => decide (mk.getD k.toNat 0 = c)) D.int (rg n) [] (by rw [rg_len]; simp; omega) fun k hk => by
        have a := atI_ints (l := mk) (k := k) (by rw [lmk]; exact mem_rg.mp hk)
        refine ⟨_, rfl, ?_, fun _ => rfl, rfl⟩
        generalize mk.getD k.toNat 0 = v at a
        simp [a]
    rw [List.nil_append] at this
    exact this
  generalize hin : ((rg n).filter fun k => decide (mk.getD k.toNat 0 = 1)) = inner
  generalize hout : ((rg n).filter fun k => decide (mk.getD k.toNat 0 = 0)) = outer
  have sub1 : inner.Sublist (rg n) := by rw [← hin]; exact List.filter_sublist
  have sub2 : outer.Sublist (rg n) := by rw [← hout]; exact List.filter_sublist
  have dj : ∀ k ∈ inner, ¬ k ∈ outer := fun k h1 h2 => by
    rw [← hin, List.mem_filter, decide_eq_true_eq] at h1
    rw [← hout, List.mem_filter, decide_eq_true_eq] at h2
    omega
  have tot : inner.length + outer.length = n := by
    have := split_len (fun k : Int => decide (mk.getD k.toNat 0 = 1)) (fun k => decide (mk.getD k.toNat 0 = 0)) (rg n) fun k hk => by
      rcases hmv k hk with e | e
      · rw [e]; rfl
      · rw [e]; rfl
    rw [hin, hout, rg_len] at this
    exact this
  -- high, low
  obtain ⟨hi, hhi⟩ : ∃ hi : Nat, hi = min r inner.length := ⟨_, rfl⟩
  have chi : cMin2 [.int r, .int inner.length] = some (.int hi) := by
    show some (D.int (if (inner.length : Int) < r then (inner.length : Int) else r)) = _
    congr 2
    split <;> omega
  obtain ⟨lo, hlo⟩ : ∃ lo : Nat, lo = r - outer.length := ⟨_, rfl⟩
  have clo : cMax2 [.int 0, .int ((r : Int) - outer.length)] = some (.int lo) := by
    show some (D.int (if ((r : Int) - outer.length) > 0 then ((r : Int) - outer.length) else 0)) = _
    congr 2
    split <;> omega
  have hlh : lo ≤ hi := by omega
  obtain ⟨d1, p4, e4, hp4, d1a, d1b, d1c⟩ := draw_ok p3 hp3 ((hi : Int) - lo + 1) (by omega)
  have d1d := d1c (by omega)
  obtain ⟨lw, hlw⟩ : ∃ lw : Nat, (lw : Int) = lo + d1 := ⟨(lo + d1).toNat, by omega⟩
  obtain ⟨d2, p5, e5, hp5, d2a, d2b, d2c⟩ := draw_ok p4 hp4 ((hi : Int) - lw + 1) (by omega)
  have d2d := d2c (by omega)
  obtain ⟨m, hm⟩ : ∃ m : Nat, (m : Int) = 1 + d2 := ⟨(1 + d2).toNat, by omega⟩
  obtain ⟨cs, p6, e6, hp6, lcs, ccs, bcs⟩ := bends_ok p5 hp5 m (by omega) (by omega)
  obtain ⟨ms, p7, e7, hp7, lms, cms, bms⟩ := bends_ok p6 hp6 (outer.length + 1) (by omega) (by omega)
  let P : Par := ⟨n, r, pr, inner, outer, lw, cs, ms⟩
  have hP : P.Ok := ⟨hn, lpr, fun k hk => getD_mem (P := fun v => -6 ≤ v ∧ v ≤ 6) bpr (by have z : k < n := hk; omega), sub1, sub2, dj, (by show lw ≤ inner.length; omega), (by show lw ≤ r; omega), (by show r - lw ≤ outer.length; omega), (by show 1 ≤ cs.length; omega), ccs, (by show ∀ k, k < cs.length → _; rw [lcs]; exact bcs), lms, cms, (by show ∀ k, k < ms.length → _; rw [lms]; exact bms)⟩
  obtain ⟨b, hf⟩ := for_appT (fun l : Lot => dT l) (γ := Lot × Int) (tg := gdN 13) (gb := (sSeq (sSet 14 (e2 (gI fun i j => i - j) (eCall cLen (aCons (eLc [4] (iSeq (eVar 13)) (gdN 4) (eT (e2 (gIn false) (eVar 4) (eVar 6))) (eVar 4)) aNil)) (eVar 9)))
    (sIf (eAnd (eT (e2 (gEq false) (eCall cLen (aCons (eVar 13) aNil)) (eVar 2))) (eT (eCh (gB fun i j => decide (i ≤ j)) (gB fun i j => decide (i < j)) (eC (.int 0)) (eVar 14) (eCall cLen (aCons (eVar 10) aNil))))) (sSeq (sSet 15 (eCall cLen (aCons (eLc [4] (iSeq (eVar 13)) (gdN 4) (eT (e2 (gIn false) (eVar 4) (e1 (gSl (some 1) none) (eVar 7)))) (eVar 4)) aNil)))
    (sSeq (sSet 16 (eCall cSum (aCons (eLc [4] (iSeq (eVar 13)) (gdN 4) mYes (e2 gIx (eVar 3) (eVar 4))) aNil)))
    (sApp 12 (eTup (aCons (eVar 13) (aCons (e2 (gI fun i j => i + j) (e2 (gI fun i j => i + j) (eVar 16) (e2 gIx (eVar 10) (eVar 14))) (e2 gIx (eVar 11) (eVar 15))) aNil)))))) sSkip)))
    (fun acc (s : Slot × Slot × Slot × Slot) => [.own (dL p7), .val (.int n), .val (.int r), .val (dL pr), .un, .val (dL mk), .val (dL inner), .val (dL outer), .val (.int hi), .val (.int lw), .val (dL cs), .val (dL ms), .own (.lst (acc.map dR)), s.1, s.2.1, s.2.2.1, s.2.2.2]) P.one 1000 (lots n) [] (.un, .un, .un, .un) (by have := lots_len hn; simp; omega) fun l hl acc s ha => by
      obtain ⟨e, he⟩ := rows_step hP hl acc ha (dL p7) (dL mk) (.int hi) s.1 s.2.1 s.2.2.1 s.2.2.2
      exact ⟨by unfold Par.one; split <;> simp, _, (.val (dT l), e), rfl, .inl he⟩
  have hrows : [] ++ (lots n).flatMap P.one = P.rows := List.nil_append _
  rw [hrows] at hf
  have gP := Par.good hP
  obtain ⟨rows', pp, hs⟩ := sort_rows P.rows
  have hlots := law_lots_ok hn
  refine ⟨r, rows', p7, ?_, hp7, gP.perm pp, hrn⟩
  refine runO_rt rfl (rto_seq (ρ1 := [.own (dL p1), .val (.int n), .val (.int r), .un, .un, .un, .un, .un, .un, .un, .un, .un, .un, .un, .un, .un, .un]) ?_
    (rto_seq (ρ1 := [.own (dL p2), .val (.int n), .val (.int r), .val (dL pr), .un, .un, .un, .un, .un, .un, .un, .un, .un, .un, .un, .un, .un]) ?_
    (rto_seq (ρ1 := [.own (dL p3), .val (.int n), .val (.int r), .val (dL pr), .un, .val (dL mk), .un, .un, .un, .un, .un, .un, .un, .un, .un, .un, .un]) ?_
    (rto_seq (ρ1 := [.own (dL p3), .val (.int n), .val (.int r), .val (dL pr), .un, .val (dL mk), .val (dL inner), .un, .un, .un, .un, .un, .un, .un, .un, .un, .un]) ?_
    (rto_seq (ρ1 := [.own (dL p3), .val (.int n), .val (.int r), .val (dL pr), .un, .val (dL mk), .val (dL inner), .val (dL outer), .un, .un, .un, .un, .un, .un, .un, .un, .un]) ?_
    (rto_seq (ρ1 := [.own (dL p3), .val (.int n), .val (.int r), .val (dL pr), .un, .val (dL mk), .val (dL inner), .val (dL outer), .val (.int hi), .un, .un, .un, .un, .un, .un, .un, .un]) ?_
    (rto_seq (ρ1 := [.own (dL p3), .val (.int n), .val (.int r), .val (dL pr), .un, .val (dL mk), .val (dL inner), .val (dL outer), .val (.int hi), .val (.int lo), .un, .un, .un, .un, .un, .un, .un]) ?_
    (rto_seq (ρ1 := [.own (dL p4), .val (.int n), .val (.int r), .val (dL pr), .un, .val (dL mk), .val (dL inner), .val (dL outer), .val (.int hi), .val (.int lw), .un, .un, .un, .un, .un, .un, .un]) ?_
    (rto_seq (ρ1 := [.own (dL p6), .val (.int n), .val (.int r), .val (dL pr), .un, .val (dL mk), .val (dL inner), .val (dL outer), .val (.int hi), .val (.int lw), .val (dL cs), .un, .un, .un, .un, .un, .un]) ?_
    (rto_seq (ρ1 := [.own (dL p7), .val (.int n), .val (.int r), .val (dL pr), .un, .val (dL mk), .val (dL inner), .val (dL outer), .val (.int hi), .val (.int lw), .val (dL cs), .val (dL ms), .un, .un, .un, .un, .un]) ?_
    (rto_seq (ρ1 := [.own (dL p7), .val (.int n), .val (.int r), .val (dL pr), .un, .val (dL mk), .val (dL inner), .val (dL outer), .val (.int hi), .val (.int lw), .val (dL cs), .val (dL ms), .own (.lst []), .un, .un, .un, .un]) rfl
    (rto_seq (for_of (ds := (lots n).map fun l => dT l) (ρ1 := [.own (dL p7), .val (.int n), .val (.int r), .val (dL pr), .un, .val (dL mk), .val (dL inner), .val (dL outer), .val (.int hi), .val (.int lw), .val (dL cs), .val (dL ms), .own (.lst []), .un, .un, .un, .un]) ?_ hf)
    (rto_frz (rto_rt (ρ' := [.own (dL p7), .val (.int n), .val (.int r), .val (dL pr), .un, .val (dL mk), .val (dL inner), .val (dL outer), .val (.int hi), .val (.int lw), .val (dL cs), .val (dL ms), .val (.lst (P.rows.map dR)), b.1, b.2.1, b.2.2.1, b.2.2.2]) ?_ rfl))))))))))))))
  · simp [e1']
  · rw [List.nil_append] at hpr
    have hpr' : lcLoop [4] (gdN 4) mYes _ (DI (rg n)) [.own (dL p1), .val (.int n), .val (.int r), .un, .un, .un, .un, .un, .un, .un, .un, .un, .un, .un, .un, .un, .un] [] = _ := hpr
    simp [hn2]
    rw [hpr']
    rfl
  · rw [List.nil_append] at hmk
    have hmk' : lcLoop [4] (gdN 4) mYes _ (DI (rg n)) [.own (dL p2), .val (.int n), .val (.int r), .val (dL pr), .un, .un, .un, .un, .un, .un, .un, .un, .un, .un, .un, .un, .un] [] = _ := hmk
    simp [hn2]
    rw [hmk']
    rfl
  · have c := cls 1 .un
    rw [hin] at c
    simp [hn2, c]
  · have c := cls 0 (.val (dL inner))
    rw [hout] at c
    simp [hn2, c]
  · simp [chi]
  · simp [clo]
  · simp [e4, hlw]
  · have hm' : (1 : Int) + d2 = m := by omega
    simp [e5, hm', e6]
  · have ho' : (outer.length : Int) + 1 = ((outer.length + 1 : Nat) : Int) := by omega
    rw [← ho'] at e7
    simp [e7]
  · simp [cRange, hn2, hlots]
  · simp [hs]
end PD
set_option maxRecDepth 100000
/-! P29: the dual; the law holds. -/
namespace PD
open PySem PySem.Spec PyProof.Rows L2
def comp (n : Nat) (l : Lot) : Lot := (rg n).filter fun k => !decide (k ∈ l)
def cR (n : Nat) (x : Lot × Int) : Lot × Int := (comp n x.1, x.2)
theorem mem_comp {n : Nat} {l : Lot} {k : Int} : k ∈ comp n l ↔ k ∈ rg n ∧ ¬ k ∈ l := by
  unfold comp
  rw [List.mem_filter]
  simp
theorem comp_comp {n : Nat} (h : n ≤ 6) {l : Lot} (hl : l ∈ lots n) : comp n (comp n l) = l :=
  of_decide_eq_true (all_lot (p := fun n l => decide (comp n (comp n l) = l)) (by decide +kernel) h hl)
theorem comp_swp {n : Nat} (l : Lot) {i j : Int} (h : i ≠ j) : swp n (comp n l) i j = comp n (swp n l j i) := by
  unfold swp
  show _ = (rg n).filter _
  refine List.filter_congr fun k hk => ?_
  rw [Bool.eq_iff_iff]
  rw [Bool.not_eq_true', decide_eq_false_iff_not, List.mem_filter]
  by_cases e1 : k = j
  · subst e1
    rw [sw_j, sw_i (Ne.symm h)]
    simp
  · by_cases e2 : k = i
    · subst e2
      rw [sw_i h, sw_j]
      simp [hk]
    · rw [sw_o e2 e1, sw_o e1 e2, decide_eq_true_eq, decide_eq_true_eq, mem_comp]
      simp [hk]
theorem Good.dual {n r : Nat} {rows : Rows} (g : Good n r rows) : Good n (n - r) (rows.map (cR n)) := by
  refine ⟨g.n6, fun x hx => ?_, fun x hx => ?_, fun x hx => ?_, ?_, ?_, ?_⟩
  · obtain ⟨y, hy, rfl⟩ := List.mem_map.mp hx
    exact filter_lots _ _
  · obtain ⟨y, hy, rfl⟩ := List.mem_map.mp hx
    have h1 := g.len y hy
    have h2 := split_len (fun k => !decide (k ∈ y.1)) (fun k => decide (k ∈ y.1)) (rg n) fun k _ => rfl
    rw [← lot_filter g.n6 (g.lot y hy), rg_len] at h2
    show (comp n y.1).length = n - r
    unfold comp
    omega
  · obtain ⟨y, hy, rfl⟩ := List.mem_map.mp hx
    exact g.c y hy
  · have e : (rows.map (cR n)).map (·.1) = (rows.map (·.1)).map (comp n) := by rw [List.map_map, List.map_map]; rfl
    rw [e, List.Nodup, List.pairwise_map]
    refine List.Pairwise.imp_of_mem (fun {a b} ha hb hne e => hne ?_) g.nd
    obtain ⟨x, hx, rfl⟩ := List.mem_map.mp ha
    obtain ⟨y, hy, rfl⟩ := List.mem_map.mp hb
    rw [← comp_comp g.n6 (g.lot x hx), ← comp_comp g.n6 (g.lot y hy), e]
  · intro e
    exact g.ne (List.map_eq_nil_iff.mp e)
  · intro x' hx' y' hy' i hi hiy
    obtain ⟨x, hx, rfl⟩ := List.mem_map.mp hx'
    obtain ⟨y, hy, rfl⟩ := List.mem_map.mp hy'
    obtain ⟨hir, hix⟩ := mem_comp.mp hi
    have hiy2 : i ∈ y.1 := Classical.byContradiction fun z => hiy (mem_comp.mpr ⟨hir, z⟩)
    obtain ⟨j, hj, hjy, c, d, h1, h2, h3⟩ := g.ex y hy x hx i hiy2 hix
    have hjr := lot_rg g.n6 (g.lot x hx) j hj
    have hne : i ≠ j := fun e => hjy (e ▸ hiy2)
    refine ⟨j, mem_comp.mpr ⟨hjr, hjy⟩, fun z => (mem_comp.mp z).2 hj, d, c, ?_, ?_, ?_⟩
    · show (swp n (comp n x.1) i j, d) ∈ _
      rw [comp_swp _ hne]
      exact List.mem_map_of_mem (f := cR n) h2
    · show (swp n (comp n y.1) j i, c) ∈ _
      rw [comp_swp _ (Ne.symm hne)]
      exact List.mem_map_of_mem (f := cR n) h1
    · show d + c ≤ x.2 + y.2
      omega
theorem look_lot_L {n : Nat} (h : n ≤ 6) {l : Lot} (hl : l ∈ lots n) : F_look_lot [.int n, dL l] = .ok (dT l) := okq_ok (all_lot (p := fun n l => okq (F_look_lot [.int n, dL l]) (dT l)) (by decide +kernel) h hl)
/-- [k for k in range(letters) if k not in lot] -/
theorem lc_comp {vs : List Nat} {ρ : DEnv} {i j n : Nat} (hn : n ≤ 6) (l : Lot) (h : ∀ k : Int, (ρ.set i (.val (.int k)))[i]? = some (.val (.int k)) ∧ (ρ.set i (.val (.int k)))[j]? = some (.val (dT l)) ∧ wipeD (ρ.set i (.val (.int k))) vs = ρ) :
    lcLoop vs (gdN i) (eT (e2 (gIn true) (eVar i) (eVar j))) (eVar i) (DI (rg n)) ρ [] = .ok (dL (comp n l)) ρ := by
  have := lc_of D.int (vs := vs) (tg := gdN i) (ft := eT (e2 (gIn true) (eVar i) (eVar j))) (fe := eVar i) (ρ := ρ) (fun k => !decide (k ∈ l)) D.int (rg n) [] (by rw [rg_len]; simp; omega) fun k _ => by
    obtain ⟨h1, h2, h3⟩ := h k
    refine ⟨_, rfl, ?_, fun _ => ?_, h3⟩
    · simp [h1, h2]
    · simp [h1]
  rw [DI, this, List.nil_append]
  rfl
theorem app_of {i : Nat} {f : M D} {ρ : DEnv} {d : D} {ds : List D} (h : ρ[i]? = some (.own (.lst ds))) (hf : f ρ = .ok d ρ) (hl : ds.length < 100000) : sApp i f ρ = .nx (ρ.set i (.own (.lst (ds ++ [d])))) := by
  rw [p_sApp, h]
  dsimp only
  rw [hf, p_ofT_ok, h]
  dsimp only
  rw [if_pos hl]
theorem dual_ok {n r : Nat} {rows : Rows} (g : Good n r rows) (es : List (List Key × D)) : ∃ rows' : Rows, rows'.Perm (rows.map (cR n)) ∧ F_Bases_dual [basesD n r (.tup (rows.map dR)) es] = .ok (basesD n ((n - r : Nat) : Int) (.tup (rows'.map dR)) (dK (rows.map (cR n)))) := by
  have n6 := g.n6
  have hn2 : (n : Int) ≤ 100000 := by omega
  have l20 := g.l20
  obtain ⟨rows', hp, hb⟩ := Bases_ok g.dual (fun l => dL l) fun l hl => look_lot_L n6 hl
  have hbr : ((rows.map (cR n)).map fun x => D.tup [dL x.1, .int x.2]) = rows.map fun x => D.tup [dL (comp n x.1), .int x.2] := by rw [List.map_map]; rfl
  rw [hbr] at hb
  refine ⟨rows', hp, ?_⟩
  generalize hB : basesD n r (.tup (rows.map dR)) es = B
  obtain ⟨b, hf⟩ := for_mapT dR (γ := D) (tg := gdTup 2 (gdCons (gdN 2) (gdCons (gdN 3) gdNil))) (gb := (sApp 1 (eTup (aCons (eLc [4] (iRg1 (eFld 2 "letters" (eVar 0))) (gdN 4) (eT (e2 (gIn true) (eVar 4) (eVar 2))) (eVar 4)) (aCons (eVar 3) aNil)))))
    (fun acc (s : Slot × Slot) => [.val B, .own (.lst acc), s.1, s.2, .un]) (fun x => D.tup [dL (comp n x.1), .int x.2]) 1000 rows [] (.un, .un) (by simp; omega) fun x hx acc s ha => by
      have ha2 : acc.length < 100000 := by omega
      have q := lc_comp (vs := [4]) (ρ := [.val B, .own (.lst acc), .val (dT x.1), .val (.int x.2), .un]) (i := 4) (j := 2) n6 x.1 fun k => ⟨rfl, rfl, rfl⟩
      refine ⟨_, (.val (dT x.1), .val (.int x.2)), rfl, .inl ?_⟩
      have hw : iRg1 (eFld 2 "letters" (eVar 0)) [.val B, .own (.lst acc), .val (dT x.1), .val (.int x.2), .un] = .ok (DI (rg n)) [.val B, .own (.lst acc), .val (dT x.1), .val (.int x.2), .un] := by
        subst hB; unfold basesD; simp [letters_at, hn2]
      have hl : (eLc [4] (iRg1 (eFld 2 "letters" (eVar 0))) (gdN 4) (eT (e2 (gIn true) (eVar 4) (eVar 2))) (eVar 4)) [.val B, .own (.lst acc), .val (dT x.1), .val (.int x.2), .un] = .ok (dL (comp n x.1)) [.val B, .own (.lst acc), .val (dT x.1), .val (.int x.2), .un] := by
        unfold eLc
        rw [hw]
        exact q
      have ht : (eTup (aCons (eLc [4] (iRg1 (eFld 2 "letters" (eVar 0))) (gdN 4) (eT (e2 (gIn true) (eVar 4) (eVar 2))) (eVar 4)) (aCons (eVar 3) aNil))) [.val B, .own (.lst acc), .val (dT x.1), .val (.int x.2), .un] = .ok (.tup [dL (comp n x.1), .int x.2]) [.val B, .own (.lst acc), .val (dT x.1), .val (.int x.2), .un] := by
        unfold eTup
        rw [acons_of hl (acons1_of (a := eVar 3) rfl)]
        rfl
      exact app_of rfl ht ha2
  have hlet : (eFld 2 "letters" (eVar 0)) [.val B, .val (.lst (rows.map fun x => D.tup [dL (comp n x.1), .int x.2])), b.1, b.2, .un] = .ok (.int n) [.val B, .val (.lst (rows.map fun x => D.tup [dL (comp n x.1), .int x.2])), b.1, b.2, .un] := by subst hB; unfold basesD; simp [letters_at]
  have hmk := make_of (c := 2) (G := F_Bases___init__) (a := (aCons (eFld 2 "letters" (eVar 0)) (aCons (eVar 1) aNil))) (ρ := [.val B, .val (.lst (rows.map fun x => D.tup [dL (comp n x.1), .int x.2])), b.1, b.2, .un]) (acons_of hlet (acons1_of (a := eVar 1) rfl)) hb
  have hrs : iSeq (eFld 2 "rows" (eVar 0)) [.val B, .own (.lst []), .un, .un, .un] = .ok (rows.map dR) [.val B, .own (.lst []), .un, .un, .un] := by
    subst hB; unfold basesD; simp [rows_at]
  refine runF_rt rfl (rt_seq rfl (rt_seq (for_of hrs hf) (rt_frz ⟨[.val B, .val (.lst (rows.map fun x => D.tup [dL (comp n x.1), .int x.2])), b.1, b.2, .un], ?_⟩)))
  have ef : freeze [.val B, .own (.lst ([] ++ rows.map fun x => D.tup [dL (comp n x.1), .int x.2])), b.1, b.2, .un] 1 = [.val B, .val (.lst (rows.map fun x => D.tup [dL (comp n x.1), .int x.2])), b.1, b.2, .un] := rfl
  rw [ef]
  unfold sRet
  rw [hmk]
  rfl
theorem nolst_rows : ∀ rows : Rows, nolst (.tup (rows.map dR)) = true
  | [] => rfl
  | x :: r => by
    have ih := nolst_rows r
    have h1 : nolst (dR x) = true := by
      show ((nolst (dT x.1)) && (true && true)) = true
      have : ∀ l : List Int, nolsts (DI l) = true := by
        intro l
        induction l with
        | nil => rfl
        | cons k r ih => exact ih
      show (nolsts (DI x.1) && (true && true)) = true
      rw [this]
      rfl
    show (nolst (dR x) && nolsts (r.map dR)) = true
    rw [h1]
    exact ih
/-- both looks at bases -/
theorem looks_ok {n r : Nat} {rows rowsB rowsK : Rows} (g : Good n r rows) (hB : rowsB.Perm rows) (hK : rowsK.Perm rows) :
    F__law_right_circuits [basesD n r (.tup (rowsB.map dR)) (dK rowsK), .int n, .int r, .lst (rows.map dR)] = .ok (.bl true) ∧ F__law_right_near [basesD n r (.tup (rowsB.map dR)) (dK rowsK), .int n, .lst (rows.map dR)] = .ok (.bl true) :=
  ⟨right_circuits_ok g.n6 r _ (nolst_rows _) rowsK rows (fun l => lookup_perm g.nd hK l) g.nd (by have := g.l20; omega), right_near_ok g hB hK⟩
end PD
set_option maxRecDepth 100000
/-! P30: the law holds. -/
namespace PD
open PySem PySem.Spec PyProof.Rows L2
theorem dT_row (x : Lot × Int) : dR x = .tup [dT x.1, .int x.2] := rfl
theorem law_ok (ns : List Int) (hl : ns.length ≤ 63) : F_law [.scr ns] = .ok (.bl true) := by
  obtain ⟨d, p1, e1', hp1, d0, d1, d2⟩ := draw_ok (poolOf ns) (poolOf_ok ns) 8 (by omega)
  have d3 := d2 (by omega)
  obtain ⟨c, p2, e2', hp2, c0, c1, c2⟩ := draw_ok p1 hp1 2 (by omega)
  have c3 := c2 (by omega)
  -- the number of letters
  obtain ⟨n, p3, hn, hp3, hN⟩ : ∃ (n : Nat) (p3 : List Int), n ≤ 6 ∧ PO p3 ∧ ∃ v : Int, (e2 gIx (eLst (aCons (eC (.int 4)) (aCons (eC (.int 3)) (aCons (eC (.int 5)) (aCons (eC (.int 2)) (aCons (eC (.int 4)) (aCons (eC (.int 3)) (aCons (eC (.int 6)) (aCons (eC (.int 1)) aNil))))))))) (eFnO 1 F__law_draw (aCons (eC (.int 8)) aNil)))
      [.val (.scr ns), .own (dL (poolOf ns)), .un, .un, .un, .un, .un, .un, .un, .un, .un, .un] = .ok (.int v) [.val (.scr ns), .own (dL p1), .un, .un, .un, .un, .un, .un, .un, .un, .un, .un] ∧
      (sIf (eT (e2 (gEq false) (eVar 2) (eC (.int 1)))) (sSet 2 (eFnO 1 F__law_draw (aCons (eC (.int 2)) aNil))) sSkip) [.val (.scr ns), .own (dL p1), .val (.int v), .un, .un, .un, .un, .un, .un, .un, .un, .un] = .nx [.val (.scr ns), .own (dL p3), .val (.int n), .un, .un, .un, .un, .un, .un, .un, .un, .un] := by
    have ev : ∀ v : Int, atI [D.int 4, .int 3, .int 5, .int 2, .int 4, .int 3, .int 6, .int 1] d = some (.int v) → (e2 gIx (eLst (aCons (eC (.int 4)) (aCons (eC (.int 3)) (aCons (eC (.int 5)) (aCons (eC (.int 2)) (aCons (eC (.int 4)) (aCons (eC (.int 3)) (aCons (eC (.int 6)) (aCons (eC (.int 1)) aNil))))))))) (eFnO 1 F__law_draw (aCons (eC (.int 8)) aNil)))
        [.val (.scr ns), .own (dL (poolOf ns)), .un, .un, .un, .un, .un, .un, .un, .un, .un, .un] = .ok (.int v) [.val (.scr ns), .own (dL p1), .un, .un, .un, .un, .un, .un, .un, .un, .un, .un] := fun v hv => by
      simp [e1', hv]
    have st : ∀ v : Int, v ≠ 1 → (sIf (eT (e2 (gEq false) (eVar 2) (eC (.int 1)))) (sSet 2 (eFnO 1 F__law_draw (aCons (eC (.int 2)) aNil))) sSkip) [.val (.scr ns), .own (dL p1), .val (.int v), .un, .un, .un, .un, .un, .un, .un, .un, .un] = .nx [.val (.scr ns), .own (dL p1), .val (.int v), .un, .un, .un, .un, .un, .un, .un, .un, .un] := fun v hv => by
      simp [hv]
    have cases8 : d = 0 ∨ d = 1 ∨ d = 2 ∨ d = 3 ∨ d = 4 ∨ d = 5 ∨ d = 6 ∨ d = 7 := by omega
    rcases cases8 with rfl | rfl | rfl | rfl | rfl | rfl | rfl | rfl
    · exact ⟨4, p1, by decide, hp1, 4, ev 4 rfl, st 4 (by decide)⟩
    · exact ⟨3, p1, by decide, hp1, 3, ev 3 rfl, st 3 (by decide)⟩
    · exact ⟨5, p1, by decide, hp1, 5, ev 5 rfl, st 5 (by decide)⟩
    · exact ⟨2, p1, by decide, hp1, 2, ev 2 rfl, st 2 (by decide)⟩
    · exact ⟨4, p1, by decide, hp1, 4, ev 4 rfl, st 4 (by decide)⟩
    · exact ⟨3, p1, by decide, hp1, 3, ev 3 rfl, st 3 (by decide)⟩
    · exact ⟨6, p1, by decide, hp1, 6, ev 6 rfl, st 6 (by decide)⟩
    · refine ⟨c.toNat, p2, by omega, hp2, 1, ev 1 rfl, ?_⟩
      have hc : ((c.toNat : Nat) : Int) = c := by omega
      rw [hc]
      simp [e2']
  obtain ⟨v, hv, hif⟩ := hN
  obtain ⟨r, rows, p4, hrows, hp4, g, hrn⟩ := law_rows_ok p3 hp3 n hn
  have hn2 : (n : Int) ≤ 100000 := by omega
  have l20 := g.l20
  -- bases
  obtain ⟨rb, hrb, hb⟩ := Bases_ok (g.perm (List.reverse_perm rows)) (fun l => dT l) fun l hl => look_lot_T hn hl
  have hrev : (rows.reverse.map fun x => D.tup [dT x.1, .int x.2]) = (rows.map dR).reverse := by rw [List.map_reverse]; rfl
  rw [hrev] at hb
  obtain ⟨q1, q2⟩ := looks_ok g (hrb.trans (List.reverse_perm rows)) (List.reverse_perm rows)
  -- the dual
  have gb := g.perm (hrb.trans (List.reverse_perm rows))
  obtain ⟨rd, hrd, hd⟩ := dual_ok gb (dK rows.reverse)
  obtain ⟨rt, hrt, hst⟩ := sort_rows (rows.map (cR n))
  have gd : Good n (n - r) rt := g.dual.perm hrt
  have hpd : (rb.map (cR n)).Perm rt := ((hrb.trans (List.reverse_perm rows)).map _).trans hrt.symm
  obtain ⟨q3, q4⟩ := looks_ok gd (hrd.trans hpd) hpd
  have hsub : (n : Int) - r = ((n - r : Nat) : Int) := by omega
  generalize hB : basesD n r (.tup (rb.map dR)) (dK rows.reverse) = B at q1 q2 hd
  generalize hDB : basesD n ((n - r : Nat) : Int) (.tup (rd.map dR)) (dK (rb.map (cR n))) = DB at q3 q4 hd
  obtain ⟨b, hf⟩ := for_mapT dR (γ := D) (tg := gdTup 2 (gdCons (gdN 7) (gdCons (gdN 8) gdNil))) (gb := (sSeq (sSet 9 (eLc [10] (iRg1 (eVar 2)) (gdN 10) (eT (e2 (gIn true) (eVar 10) (eVar 7))) (eVar 10)))
    (sApp 6 (eTup (aCons (eCall cTuple (aCons (eVar 9) aNil)) (aCons (eVar 8) aNil))))))
    (fun acc (s : Slot × Slot × Slot) => [.val (.scr ns), .own (dL p4), .val (.int n), .val (.int r), .val (.lst (rows.map dR)), .val B, .own (.lst acc), s.1, s.2.1, s.2.2, .un, .un]) (fun x => dR (cR n x)) 1000 rows [] (.un, .un, .un) (by simp; omega) fun x hx acc s ha => by
      have ha2 : acc.length < 100000 := by omega
      have q := lc_comp (vs := [10]) (ρ := [.val (.scr ns), .own (dL p4), .val (.int n), .val (.int r), .val (.lst (rows.map dR)), .val B, .own (.lst acc), .val (dT x.1), .val (.int x.2), s.2.2, .un, .un]) (i := 10) (j := 7) hn x.1 fun k => ⟨rfl, rfl, rfl⟩
      refine ⟨_, (.val (dT x.1), .val (.int x.2), .val (dL (comp n x.1))), rfl, .inl ?_⟩
      refine seq_nx (ρ1 := [.val (.scr ns), .own (dL p4), .val (.int n), .val (.int r), .val (.lst (rows.map dR)), .val B, .own (.lst acc), .val (dT x.1), .val (.int x.2), .val (dL (comp n x.1)), .un, .un]) ?_ ?_
      · simp [hn2, dR, q]
      · simp [ha2, dR, cR]
  have hB' : eMake 2 F_Bases___init__ (aCons (eVar 2) (aCons (e1 gRev (eVar 4)) aNil)) [.val (.scr ns), .own (dL p4), .val (.int n), .val (.int r), .val (.lst (rows.map dR)), .un, .un, .un, .un, .un, .un, .un] = .ok B [.val (.scr ns), .own (dL p4), .val (.int n), .val (.int r), .val (.lst (rows.map dR)), .un, .un, .un, .un, .un, .un, .un] := by
    subst hB
    exact make_of (acons_of (a := eVar 2) rfl (acons1_of (a := e1 gRev (eVar 4)) rfl)) hb
  have hmapd : rows.map (fun x => dR (cR n x)) = (rows.map (cR n)).map dR := by rw [List.map_map]; rfl
  rw [hmapd] at hf
  refine runF_rt rfl (rt_seq (ρ1 := [.val (.scr ns), .own (dL (poolOf ns)), .un, .un, .un, .un, .un, .un, .un, .un, .un, .un]) ?_
    (rt_seq (set_of hv) (rt_seq hif
    (rt_seq (ρ1 := [.val (.scr ns), .own (dL p4), .val (.int n), .val (.int r), .val (.lst (rows.map dR)), .un, .un, .un, .un, .un, .un, .un]) ?_
    (rt_seq (set_of hB')
    (rt_seq (ρ1 := [.val (.scr ns), .own (dL p4), .val (.int n), .val (.int r), .val (.lst (rows.map dR)), .val B, .un, .un, .un, .un, .un, .un]) ?_
    (rt_seq (ρ1 := [.val (.scr ns), .own (dL p4), .val (.int n), .val (.int r), .val (.lst (rows.map dR)), .val B, .un, .un, .un, .un, .un, .un]) ?_
    (rt_seq rfl
    (rt_seq (for_of (ds := rows.map dR) rfl hf) (rt_frz
    (rt_seq (ρ1 := [.val (.scr ns), .own (dL p4), .val (.int n), .val (.int r), .val (.lst (rows.map dR)), .val B, .own (.lst (rt.map dR)), b.1, b.2.1, b.2.2, .un, .un]) ?_
    (rt_seq (ρ1 := [.val (.scr ns), .own (dL p4), .val (.int n), .val (.int r), .val (.lst (rows.map dR)), .val B, .own (.lst (rt.map dR)), b.1, b.2.1, b.2.2, .un, .val DB]) ?_ (rt_frz
    (rt_seq (ρ1 := [.val (.scr ns), .own (dL p4), .val (.int n), .val (.int r), .val (.lst (rows.map dR)), .val B, .val (.lst (rt.map dR)), b.1, b.2.1, b.2.2, .un, .val DB]) ?_ ?_))))))))))))))
  · have q := pool_of ns hl
    simp [q]
  · simp [hrows]
  · simp [q1]
  · simp [q2]
  · rw [List.map_map] at hst
    simp [hst]
  · subst hB
    unfold basesD at *
    simp [dual_at, hd]
  · rw [hsub.symm] at q3
    simp [q3]
  · simp [Rt, q4]
end PD
theorem PySem.Challenge.cw_nearbydown_k75_circuits_by_near_steps_holds : PySem.Challenge.rw_nearbydown_k75_circuits_by_near_steps.Holds := by
  exact PD.join PD.law_ok
