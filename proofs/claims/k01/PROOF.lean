import PyProof.Rows.All
import Wide.All
import OpenK.AllK
import Wide.FinOn
import HandS.ForMost
import HandS.ForExc
import HandS.CallSlots
import HandS.Defaults
import HandS.Flow
import HandS.IsInst
import HandS.TupAny
import HandS.TupMul
import HandS.Walk
import HandS.Sort
import KE.GoesEnum
import HandS.EndBits
import HandS.Dict
import HandS.Head0
import HandS.Head1
import HandS.Head2
import HandS.HeadEnd
import HandS.HeadHook1
import HandS.HeadHook2
import PySem.Challenge.RW_waystolog_k01_names_lines_logs_and_piece
set_option Elab.async false
set_option linter.all false
set_option maxRecDepth 100000
set_option maxHeartbeats 1000000
set_option autoImplicit false
/-! Mi: a small functional reading of the hand layer. Values W are trees (tuples by value), mutable things stand in a list Mem by their places; each piece of syntax gets a plain function of slots and Mem. -/
namespace Mi
open PySem L2

inductive W where
  | non | bl (b : Bool) | int (i : Int) | str (s : Str) | tup (xs : List W) | fl (xs : List W) | loc (n : Nat) | st (v : V)

inductive MO where
  | lst (xs : List W)
  | rng (lo hi : Int)
  | dct (kvs : List (Key × W))
  | ins (C : Addr) (fs : List (Str × W))

abbrev Mem := List MO
abbrev Sl := List (Option W)

/-! ### relations -/
/-- a list that nobody writes: the script, a list of the module's own -/
def SqF (K : PySem.W.Frag) (H : Hp) (a : Addr) (xs : List V) : Prop := (∃ o, H a = some (.frz o (.lst xs))) ∨ SqL K (fun _ => none) a xs
mutual
inductive RW (K : PySem.W.Frag) (ρ : List Addr) (H : Hp) : W → V → Prop
  | non : RW K ρ H .non .non
  | bl (b : Bool) : RW K ρ H (.bl b) (.bl b)
  | int (i : Int) : RW K ρ H (.int i) (.int i)
  | str {s : Str} : PyData.strOk s = true → RW K ρ H (.str s) (.str s)
  | tup {xs : List W} {vs : List V} {a : Addr} : SqT K H a vs → RWs K ρ H xs vs → RW K ρ H (.tup xs) (.ref a)
  | fl {xs : List W} {vs : List V} {a : Addr} : SqF K H a vs → RWs K ρ H xs vs → RW K ρ H (.fl xs) (.ref a)
  | loc {n : Nat} {a : Addr} : ρ[n]? = some a → RW K ρ H (.loc n) (.ref a)
  | st (v : V) : RW K ρ H (.st v) v
inductive RWs (K : PySem.W.Frag) (ρ : List Addr) (H : Hp) : List W → List V → Prop
  | nil : RWs K ρ H [] []
  | cons {x : W} {v : V} {xs : List W} {vs : List V} : RW K ρ H x v → RWs K ρ H xs vs → RWs K ρ H (x :: xs) (v :: vs)
end

/-- named values (dict entries, fields): the same names in the same order -/
def RKv {κ : Type} (K : PySem.W.Frag) (ρ : List Addr) (H : Hp) (kws : List (κ × W)) (kvs : List (κ × V)) : Prop :=
  kws.map (·.1) = kvs.map (·.1) ∧ RWs K ρ H (kws.map (·.2)) (kvs.map (·.2))

def RMo (K : PySem.W.Frag) (ρ : List Addr) (H : Hp) (a : Addr) : MO → Prop
  | .lst xs => ∃ vs, H a = some (.lst vs) ∧ RWs K ρ H xs vs
  | .rng lo hi => H a = some (.rng lo hi)
  | .dct kws => ∃ kvs, H a = some (.dK kvs) ∧ RKv K ρ H kws kvs
  | .ins C fs => ∃ dx gs, H a = some (.ins C dx gs) ∧ RKv K ρ H fs gs

structure RM (K : PySem.W.Frag) (ρ : List Addr) (H : Hp) (μ : Mem) : Prop where
  len : ρ.length = μ.length
  nd : ρ.Nodup
  at_ : ∀ (n : Nat) (a : Addr) (o : MO), ρ[n]? = some a → μ[n]? = some o → RMo K ρ H a o

/-- what may have happened: more places, nothing else changed but what stands at the places -/
structure Ext (ρ : List Addr) (H : Hp) (ρ' : List Addr) (H' : Hp) : Prop where
  pre : ∃ r, ρ' = ρ ++ r
  new : ∀ a, a ∈ ρ' → a ∉ ρ → H a = none
  keep : ∀ b o, b ∉ ρ → H b = some o → H' b = some o
  tup : ∀ b xs, H b = some (.tup xs) → H' b = some (.tup xs)
  frz : ∀ b o u, H b = some (.frz o u) → H' b = some (.frz o u)

theorem Ext.refl (ρ : List Addr) (H : Hp) : Ext ρ H ρ H :=
  ⟨⟨[], (List.append_nil _).symm⟩, fun _ h n => absurd h n, fun _ _ _ h => h, fun _ _ h => h, fun _ _ _ h => h⟩
theorem Ext.trans {ρ ρ1 ρ2 : List Addr} {H H1 H2 : Hp} (a : Ext ρ H ρ1 H1) (b : Ext ρ1 H1 ρ2 H2) : Ext ρ H ρ2 H2 := by
  have back : ∀ x, x ∉ ρ → H1 x = none → H x = none := fun x nx e => by
    cases q : H x with
    | none => rfl
    | some o =>
      rw [a.keep x o nx q] at e
      cases e
  refine ⟨?_, fun x h n => ?_, fun x o n h => ?_, fun x xs h => b.tup x xs (a.tup x xs h), fun x o u h => b.frz x o u (a.frz x o u h)⟩
  · obtain ⟨r, e⟩ := a.pre
    obtain ⟨r2, e2⟩ := b.pre
    exact ⟨r ++ r2, by rw [e2, e, List.append_assoc]⟩
  · by_cases h1 : x ∈ ρ1
    · exact a.new x h1 n
    · exact back x n (b.new x h h1)
  · have n1 : x ∉ ρ1 := fun h1 => by
      rw [a.new x h1 n] at h
      cases h
    exact b.keep x o n1 (a.keep x o n h)
/-- what the relations lean on -/
structure Grow (ρ : List Addr) (H : Hp) (ρ' : List Addr) (H' : Hp) : Prop where
  pre : ∃ r, ρ' = ρ ++ r
  tup : ∀ b xs, H b = some (.tup xs) → H' b = some (.tup xs)
  frz : ∀ b o u, H b = some (.frz o u) → H' b = some (.frz o u)
theorem Ext.grow {ρ ρ' : List Addr} {H H' : Hp} (e : Ext ρ H ρ' H') : Grow ρ H ρ' H' := ⟨e.pre, e.tup, e.frz⟩
theorem Grow.get {ρ ρ' : List Addr} {H H' : Hp} (e : Grow ρ H ρ' H') {n : Nat} {a : Addr} (h : ρ[n]? = some a) : ρ'[n]? = some a := by
  obtain ⟨r, q⟩ := e.pre
  rw [q, List.getElem?_append_left (List.getElem?_eq_some_iff.mp h).1]
  exact h
theorem Grow.rdT {ρ ρ' : List Addr} {H H' : Hp} (e : Grow ρ H ρ' H') {a : Addr} {xs : List V} (h : Rd H a (.tup xs)) : Rd H' a (.tup xs) := by
  rcases h with h | ⟨o, h⟩
  · exact .inl (e.tup _ _ h)
  · exact .inr ⟨o, e.frz _ _ _ h⟩
theorem Grow.sqT {K : PySem.W.Frag} {ρ ρ' : List Addr} {H H' : Hp} (e : Grow ρ H ρ' H') {a : Addr} {xs : List V} (h : SqT K H a xs) : SqT K H' a xs := by
  rcases h with h | h
  · exact .inl (e.rdT h)
  · exact .inr h
theorem Grow.sqF {K : PySem.W.Frag} {ρ ρ' : List Addr} {H H' : Hp} (e : Grow ρ H ρ' H') {a : Addr} {xs : List V} (h : SqF K H a xs) : SqF K H' a xs := by
  rcases h with ⟨o, h⟩ | h
  · exact .inl ⟨o, e.frz _ _ _ h⟩
  · exact .inr h
theorem SqF.sqL {K : PySem.W.Frag} {H : Hp} {a : Addr} {xs : List V} (h : SqF K H a xs) : SqL K H a xs := by
  rcases h with ⟨o, h⟩ | h
  · exact .inl (.inr ⟨o, h⟩)
  · rcases h with (h | ⟨o, h⟩) | h
    · cases h
    · cases h
    · exact .inr h
mutual
theorem RW.grow {K : PySem.W.Frag} {ρ ρ' : List Addr} {H H' : Hp} (e : Grow ρ H ρ' H') : ∀ {x : W} {v : V}, RW K ρ H x v → RW K ρ' H' x v
  | _, _, .non => .non
  | _, _, .bl b => .bl b
  | _, _, .int i => .int i
  | _, _, .str s => .str s
  | _, _, .tup h r => .tup (e.sqT h) (RWs.grow e r)
  | _, _, .fl h r => .fl (e.sqF h) (RWs.grow e r)
  | _, _, .loc h => .loc (e.get h)
  | _, _, .st v => .st v
theorem RWs.grow {K : PySem.W.Frag} {ρ ρ' : List Addr} {H H' : Hp} (e : Grow ρ H ρ' H') : ∀ {xs : List W} {vs : List V}, RWs K ρ H xs vs → RWs K ρ' H' xs vs
  | _, _, .nil => .nil
  | _, _, .cons h r => .cons (RW.grow e h) (RWs.grow e r)
end
theorem Ext.get {ρ ρ' : List Addr} {H H' : Hp} (e : Ext ρ H ρ' H') {n : Nat} {a : Addr} (h : ρ[n]? = some a) : ρ'[n]? = some a := e.grow.get h
theorem Ext.sqT {K : PySem.W.Frag} {ρ ρ' : List Addr} {H H' : Hp} (e : Ext ρ H ρ' H') {a : Addr} {xs : List V} (h : SqT K H a xs) : SqT K H' a xs := e.grow.sqT h
theorem RW.mono {K : PySem.W.Frag} {ρ ρ' : List Addr} {H H' : Hp} (e : Ext ρ H ρ' H') {x : W} {v : V} (h : RW K ρ H x v) : RW K ρ' H' x v := h.grow e.grow
theorem RWs.mono {K : PySem.W.Frag} {ρ ρ' : List Addr} {H H' : Hp} (e : Ext ρ H ρ' H') {xs : List W} {vs : List V} (h : RWs K ρ H xs vs) : RWs K ρ' H' xs vs := h.grow e.grow
theorem RKv.grow {κ : Type} {K : PySem.W.Frag} {ρ ρ' : List Addr} {H H' : Hp} (e : Grow ρ H ρ' H') {kws : List (κ × W)} {kvs : List (κ × V)} (h : RKv K ρ H kws kvs) : RKv K ρ' H' kws kvs := ⟨h.1, h.2.grow e⟩
theorem RKv.mono {κ : Type} {K : PySem.W.Frag} {ρ ρ' : List Addr} {H H' : Hp} (e : Ext ρ H ρ' H') {kws : List (κ × W)} {kvs : List (κ × V)} (h : RKv K ρ H kws kvs) : RKv K ρ' H' kws kvs := ⟨h.1, h.2.mono e⟩

theorem RWs.length {K : PySem.W.Frag} {ρ : List Addr} {H : Hp} : ∀ {xs : List W} {vs : List V}, RWs K ρ H xs vs → vs.length = xs.length
  | _, _, .nil => rfl
  | _, _, .cons _ r => congrArg Nat.succ (RWs.length r)
theorem RWs.append {K : PySem.W.Frag} {ρ : List Addr} {H : Hp} : ∀ {xs ys : List W} {vs us : List V}, RWs K ρ H xs vs → RWs K ρ H ys us → RWs K ρ H (xs ++ ys) (vs ++ us)
  | _, _, _, _, .nil, s => s
  | _, _, _, _, .cons h r, s => .cons h (RWs.append r s)
theorem RWs.get {K : PySem.W.Frag} {ρ : List Addr} {H : Hp} : ∀ {xs : List W} {vs : List V} {i : Nat} {x : W}, RWs K ρ H xs vs → xs[i]? = some x → ∃ v, vs[i]? = some v ∧ RW K ρ H x v
  | _, _, i, _, .nil, e => by simp at e
  | _, _, 0, _, .cons h _, e => by
    simp at e
    subst e
    exact ⟨_, rfl, h⟩
  | _, _, i + 1, x, .cons _ r, e => by
    obtain ⟨v, h1, h2⟩ := RWs.get (i := i) (x := x) r (by simpa using e)
    exact ⟨v, by simpa using h1, h2⟩
theorem RWs.set {K : PySem.W.Frag} {ρ : List Addr} {H : Hp} {x : W} {v : V} (q : RW K ρ H x v) : ∀ {xs : List W} {vs : List V} (i : Nat), RWs K ρ H xs vs → RWs K ρ H (xs.set i x) (vs.set i v)
  | _, _, _, .nil => .nil
  | _, _, 0, .cons _ t => .cons q t
  | _, _, i + 1, .cons h t => .cons h (RWs.set q i t)
theorem RWs.take {K : PySem.W.Frag} {ρ : List Addr} {H : Hp} : ∀ {xs : List W} {vs : List V} (i : Nat), RWs K ρ H xs vs → RWs K ρ H (xs.take i) (vs.take i)
  | _, _, 0, _ => .nil
  | _, _, _ + 1, .nil => .nil
  | _, _, i + 1, .cons h t => .cons h (RWs.take i t)
theorem RWs.drop {K : PySem.W.Frag} {ρ : List Addr} {H : Hp} : ∀ {xs : List W} {vs : List V} (i : Nat), RWs K ρ H xs vs → RWs K ρ H (xs.drop i) (vs.drop i)
  | _, _, 0, r => r
  | _, _, _ + 1, .nil => .nil
  | _, _, i + 1, .cons _ t => RWs.drop i t
theorem RWs.reverse {K : PySem.W.Frag} {ρ : List Addr} {H : Hp} : ∀ {xs : List W} {vs : List V}, RWs K ρ H xs vs → RWs K ρ H xs.reverse vs.reverse
  | _, _, .nil => .nil
  | _, _, .cons h t => by
    rw [List.reverse_cons, List.reverse_cons]
    exact (RWs.reverse t).append (.cons h .nil)
theorem RWs.rep {K : PySem.W.Frag} {ρ : List Addr} {H : Hp} {xs : List W} {vs : List V} (r : RWs K ρ H xs vs) : ∀ k : Nat, RWs K ρ H (List.replicate k xs).flatten (List.replicate k vs).flatten
  | 0 => .nil
  | k + 1 => by
    rw [List.replicate_succ, List.replicate_succ, List.flatten_cons, List.flatten_cons]
    exact r.append (RWs.rep r k)
theorem RWs.ints {K : PySem.W.Frag} {ρ : List Addr} {H : Hp} : ∀ ns : List Int, RWs K ρ H (ns.map W.int) (ns.map V.int)
  | [] => .nil
  | n :: ns => .cons (.int n) (RWs.ints ns)

/-! ### slots -/
inductive RS (K : PySem.W.Frag) (ρ : List Addr) (H : Hp) : Sl → L2.St → Prop
  | nil : RS K ρ H [] []
  | non {v : Option V} {δ : Sl} {σ : L2.St} : RS K ρ H δ σ → RS K ρ H (Option.none :: δ) (v :: σ)
  | som {x : W} {v : V} {δ : Sl} {σ : L2.St} : RW K ρ H x v → RS K ρ H δ σ → RS K ρ H (Option.some x :: δ) (Option.some v :: σ)
theorem RS.mono {K : PySem.W.Frag} {ρ ρ' : List Addr} {H H' : Hp} (e : Ext ρ H ρ' H') : ∀ {δ : Sl} {σ : L2.St}, RS K ρ H δ σ → RS K ρ' H' δ σ
  | _, _, .nil => .nil
  | _, _, .non t => .non (RS.mono e t)
  | _, _, .som h t => .som (h.mono e) (RS.mono e t)
theorem RS.get {K : PySem.W.Frag} {ρ : List Addr} {H : Hp} : ∀ {δ : Sl} {σ : L2.St} {i : Nat} {x : W}, RS K ρ H δ σ → δ[i]? = some (some x) → ∃ v, σ[i]? = some (some v) ∧ RW K ρ H x v
  | _, _, i, _, .nil, e => by simp at e
  | _, _, 0, _, .non _, e => by simp at e
  | _, _, 0, _, .som h _, e => by
    simp at e
    subst e
    exact ⟨_, rfl, h⟩
  | _, _, i + 1, x, .non t, e => by
    obtain ⟨v, h1, h2⟩ := RS.get (i := i) (x := x) t (by simpa using e)
    exact ⟨v, by simpa using h1, h2⟩
  | _, _, i + 1, x, .som _ t, e => by
    obtain ⟨v, h1, h2⟩ := RS.get (i := i) (x := x) t (by simpa using e)
    exact ⟨v, by simpa using h1, h2⟩
theorem RS.set {K : PySem.W.Frag} {ρ : List Addr} {H : Hp} {x : W} {v : V} (q : RW K ρ H x v) : ∀ {δ : Sl} {σ : L2.St} (i : Nat), RS K ρ H δ σ → RS K ρ H (δ.set i (Option.some x)) (σ.set i (Option.some v))
  | _, _, _, .nil => .nil
  | _, _, 0, .non t => .som q t
  | _, _, 0, .som _ t => .som q t
  | _, _, i + 1, .non t => .non (RS.set q i t)
  | _, _, i + 1, .som h t => .som h (RS.set q i t)
theorem RS.wipe1 {K : PySem.W.Frag} {ρ : List Addr} {H : Hp} : ∀ {δ : Sl} {σ : L2.St} (i : Nat) (o : Option V), RS K ρ H δ σ → RS K ρ H (δ.set i Option.none) (σ.set i o)
  | _, _, _, _, .nil => .nil
  | _, _, 0, _, .non t => .non t
  | _, _, 0, _, .som _ t => .non t
  | _, _, i + 1, o, .non t => .non (RS.wipe1 i o t)
  | _, _, i + 1, o, .som h t => .som h (RS.wipe1 i o t)
theorem RS.args {K : PySem.W.Frag} {ρ : List Addr} {H : Hp} (n : Nat) : ∀ {ws : List W} {vs : List V}, RWs K ρ H ws vs → RS K ρ H (ws.map Option.some ++ List.replicate n Option.none) (vs.map Option.some ++ List.replicate n Option.none)
  | _, _, .nil => by
    show RS K ρ H (List.replicate n Option.none) (List.replicate n Option.none)
    induction n with
    | zero => exact .nil
    | succ n ih => exact .non ih
  | _, _, .cons h t => .som h (RS.args n t)

/-! ### memory -/
theorem RM.lt {K : PySem.W.Frag} {ρ : List Addr} {H : Hp} {μ : Mem} (m : RM K ρ H μ) {a : Addr} (h : a ∈ ρ) : ∃ o, H a = some o := by
  obtain ⟨n, hn, e⟩ := List.getElem_of_mem h
  have h1 : ρ[n]? = some a := List.getElem?_eq_some_iff.mpr ⟨hn, e⟩
  have h2 : μ[n]? = some (μ[n]'(by rw [← m.len]; exact hn)) := List.getElem?_eq_some_iff.mpr ⟨by rw [← m.len]; exact hn, rfl⟩
  have q := m.at_ n a _ h1 h2
  cases eo : μ[n]'(by rw [← m.len]; exact hn) with
  | lst xs => rw [eo] at q; obtain ⟨vs, z, _⟩ := q; exact ⟨_, z⟩
  | rng lo hi => rw [eo] at q; exact ⟨_, q⟩
  | dct kvs => rw [eo] at q; obtain ⟨vs, z, _⟩ := q; exact ⟨_, z⟩
  | ins C fs => rw [eo] at q; obtain ⟨dx, vs, z, _⟩ := q; exact ⟨_, z⟩
theorem RM.fresh {K : PySem.W.Frag} {ρ : List Addr} {H : Hp} {μ : Mem} (m : RM K ρ H μ) {p : Addr} (h : H p = none) : p ∉ ρ := fun q => by
  obtain ⟨o, e⟩ := m.lt q
  rw [h] at e
  cases e
/-- a tuple at a place that is not tracked -/
theorem RM.ntup {K : PySem.W.Frag} {ρ : List Addr} {H : Hp} {μ : Mem} (m : RM K ρ H μ) {a : Addr} {xs : List V} (h : H a = some (.tup xs)) : a ∉ ρ := fun q => by
  obtain ⟨n, hn, e⟩ := List.getElem_of_mem q
  have h1 : ρ[n]? = some a := List.getElem?_eq_some_iff.mpr ⟨hn, e⟩
  have h2 : μ[n]? = some (μ[n]'(by rw [← m.len]; exact hn)) := List.getElem?_eq_some_iff.mpr ⟨by rw [← m.len]; exact hn, rfl⟩
  have q := m.at_ n a _ h1 h2
  cases eo : μ[n]'(by rw [← m.len]; exact hn) with
  | lst ys => rw [eo] at q; obtain ⟨vs, z, _⟩ := q; rw [h] at z; cases z
  | rng lo hi => rw [eo] at q; have z : H a = some (.rng lo hi) := q; rw [h] at z; cases z
  | dct kvs => rw [eo] at q; obtain ⟨vs, z, _⟩ := q; rw [h] at z; cases z
  | ins C fs => rw [eo] at q; obtain ⟨dx, vs, z, _⟩ := q; rw [h] at z; cases z
/-- what is not written stays -/
theorem RMo.grow {K : PySem.W.Frag} {ρ ρ' : List Addr} {H H' : Hp} {a : Addr} {o : MO} (e : Grow ρ H ρ' H') (h : H' a = H a) (q : RMo K ρ H a o) : RMo K ρ' H' a o := by
  cases o with
  | lst xs =>
    obtain ⟨vs, z, r⟩ := q
    exact ⟨vs, by rw [h]; exact z, r.grow e⟩
  | rng lo hi =>
    show H' a = some (.rng lo hi)
    rw [h]
    exact q
  | dct kvs =>
    obtain ⟨vs, z, r⟩ := q
    exact ⟨vs, by rw [h]; exact z, r.grow e⟩
  | ins C fs =>
    obtain ⟨dx, vs, z, r⟩ := q
    exact ⟨dx, vs, by rw [h]; exact z, r.grow e⟩
theorem RMo.mono {K : PySem.W.Frag} {ρ ρ' : List Addr} {H H' : Hp} {a : Addr} {o : MO} (e : Ext ρ H ρ' H') (h : H' a = H a) (q : RMo K ρ H a o) : RMo K ρ' H' a o := q.grow e.grow h
theorem RM.grow {K : PySem.W.Frag} {ρ : List Addr} {H H' : Hp} {μ : Mem} (e : Grow ρ H ρ H') (m : RM K ρ H μ) (h : ∀ a, a ∈ ρ → H' a = H a) : RM K ρ H' μ :=
  ⟨m.len, m.nd, fun n a o h1 h2 => (m.at_ n a o h1 h2).grow e (h a (List.mem_of_getElem? h1))⟩
/-- an object that was not tracked is tracked from now on -/
theorem RM.track {K : PySem.W.Frag} {ρ : List Addr} {H : Hp} {μ : Mem} (m : RM K ρ H μ) {p : Addr} {mo : MO} (hp : p ∉ ρ) (q : RMo K (ρ ++ [p]) H p mo) : RM K (ρ ++ [p]) H (μ ++ [mo]) := by
  refine ⟨by rw [List.length_append, List.length_append, m.len]; rfl, ?_, fun n a o' h1 h2 => ?_⟩
  · rw [List.nodup_append]
    refine ⟨m.nd, by simp, fun a ha b hb => ?_⟩
    rw [List.mem_singleton.mp hb]
    exact fun z => hp (z ▸ ha)
  · by_cases hn : n < ρ.length
    · rw [List.getElem?_append_left hn] at h1
      rw [List.getElem?_append_left (by rw [← m.len]; exact hn)] at h2
      exact (m.at_ n a o' h1 h2).grow ⟨⟨[p], rfl⟩, fun _ _ h => h, fun _ _ _ h => h⟩ rfl
    · have e : n = ρ.length := by
        have := (List.getElem?_eq_some_iff.mp h1).1
        rw [List.length_append, List.length_singleton] at this
        omega
      subst e
      rw [List.getElem?_append_right (Nat.le_refl _), Nat.sub_self] at h1
      rw [m.len, List.getElem?_append_right (Nat.le_refl _), Nat.sub_self] at h2
      have e1 : p = a := Option.some.inj h1
      have e2 : mo = o' := Option.some.inj h2
      subst e1 e2
      exact q
/-- a heap that differs at nothing known but untracked things -/
theorem RM.mono {K : PySem.W.Frag} {ρ : List Addr} {H H' : Hp} {μ : Mem} (e : Ext ρ H ρ H') (m : RM K ρ H μ) (h : ∀ a, a ∈ ρ → H' a = H a) : RM K ρ H' μ :=
  ⟨m.len, m.nd, fun n a o h1 h2 => (m.at_ n a o h1 h2).mono e (h a (List.mem_of_getElem? h1))⟩
/-- a new untracked object (a tuple) -/
theorem Ext.newU {K : PySem.W.Frag} {ρ : List Addr} {H : Hp} {μ : Mem} (m : RM K ρ H μ) {p : Addr} {o : HO} (hp : H p = none) : Ext ρ H ρ (upd H p o) := by
  refine ⟨⟨[], (List.append_nil _).symm⟩, fun _ h n => absurd h n, fun b u _ h => ?_, fun b xs h => ?_, fun b u x h => ?_⟩
  all_goals
    rw [upd_ne (ne_of_none h hp)]
    exact h
theorem RM.newU {K : PySem.W.Frag} {ρ : List Addr} {H : Hp} {μ : Mem} (m : RM K ρ H μ) {p : Addr} {o : HO} (hp : H p = none) : RM K ρ (upd H p o) μ :=
  m.mono (Ext.newU m hp) fun a ha => upd_ne fun z => m.fresh hp (z ▸ ha)
/-- a new tracked object -/
theorem Ext.newT {K : PySem.W.Frag} {ρ : List Addr} {H : Hp} {μ : Mem} (m : RM K ρ H μ) {p : Addr} {o : HO} (hp : H p = none) : Ext ρ H (ρ ++ [p]) (upd H p o) := by
  refine ⟨⟨[p], rfl⟩, fun a h n => ?_, fun b u _ h => ?_, fun b xs h => ?_, fun b u x h => ?_⟩
  · rcases List.mem_append.mp h with h | h
    · exact absurd h n
    · rw [List.mem_singleton.mp h]
      exact hp
  all_goals
    rw [upd_ne (ne_of_none h hp)]
    exact h
theorem RM.newT {K : PySem.W.Frag} {ρ : List Addr} {H : Hp} {μ : Mem} (m : RM K ρ H μ) {p : Addr} {o : HO} {mo : MO} (hp : H p = none) (q : RMo K (ρ ++ [p]) (upd H p o) p mo) : RM K (ρ ++ [p]) (upd H p o) (μ ++ [mo]) := by
  refine ⟨by rw [List.length_append, List.length_append, m.len]; rfl, ?_, fun n a o' h1 h2 => ?_⟩
  · rw [List.nodup_append]
    refine ⟨m.nd, by simp, fun a ha b hb => ?_⟩
    rw [List.mem_singleton.mp hb]
    exact fun z => m.fresh hp (z ▸ ha)
  · by_cases hn : n < ρ.length
    · rw [List.getElem?_append_left hn] at h1
      rw [List.getElem?_append_left (by rw [← m.len]; exact hn)] at h2
      exact (m.at_ n a o' h1 h2).mono (Ext.newT m hp) (upd_ne fun z => m.fresh hp (z ▸ List.mem_of_getElem? h1))
    · have e : n = ρ.length := by
        have := (List.getElem?_eq_some_iff.mp h1).1
        rw [List.length_append, List.length_singleton] at this
        omega
      subst e
      rw [List.getElem?_append_right (Nat.le_refl _), Nat.sub_self] at h1
      rw [m.len, List.getElem?_append_right (Nat.le_refl _), Nat.sub_self] at h2
      have e1 : p = a := Option.some.inj h1
      have e2 : mo = o' := Option.some.inj h2
      subst e1 e2
      exact q
theorem RM.newLoc {ρ : List Addr} {μ : Mem} {p : Addr} (h : ρ.length = μ.length) : (ρ ++ [p])[μ.length]? = some p := by
  rw [← h, List.getElem?_append_right (Nat.le_refl _), Nat.sub_self]
  rfl
/-- an object is written -/
theorem Ext.write {ρ : List Addr} {H : Hp} {a : Addr} {o u : HO} (ha : a ∈ ρ) (h : H a = some u) (nt : ∀ xs, u ≠ .tup xs) (nf : ∀ x y, u ≠ .frz x y) : Ext ρ H ρ (upd H a o) := by
  refine ⟨⟨[], (List.append_nil _).symm⟩, fun _ h n => absurd h n, fun b u _ h => ?_, fun b xs hb => ?_, fun b x y hb => ?_⟩
  · rw [upd_ne (fun z => by subst z; contradiction)]
    exact h
  · rw [upd_ne (fun z => by subst z; rw [h] at hb; exact nt xs (Option.some.inj hb))]
    exact hb
  · rw [upd_ne (fun z => by subst z; rw [h] at hb; exact nf x y (Option.some.inj hb))]
    exact hb
theorem ix_inj {α : Type} {l : List α} (hN : l.Nodup) {i j : Nat} {x : α} (a : l[i]? = some x) (b : l[j]? = some x) : i = j := by
  obtain ⟨h1, e1⟩ := List.getElem?_eq_some_iff.mp a
  obtain ⟨h2, e2⟩ := List.getElem?_eq_some_iff.mp b
  exact (List.getElem_inj hN).mp (e1.trans e2.symm)
theorem RM.write {K : PySem.W.Frag} {ρ : List Addr} {H : Hp} {μ : Mem} (m : RM K ρ H μ) {n : Nat} {a : Addr} {o u : HO} {mo : MO} (hn : ρ[n]? = some a) (h : H a = some u) (nt : ∀ xs, u ≠ .tup xs) (nf : ∀ x y, u ≠ .frz x y)
    (q : RMo K ρ (upd H a o) a mo) : RM K ρ (upd H a o) (μ.set n mo) := by
  refine ⟨by rw [List.length_set]; exact m.len, m.nd, fun k b o' h1 h2 => ?_⟩
  by_cases e : k = n
  · subst e
    rw [hn] at h1
    have e1 : a = b := Option.some.inj h1
    subst e1
    rw [List.getElem?_set_self (by rw [← m.len]; exact (List.getElem?_eq_some_iff.mp hn).1)] at h2
    have e2 : mo = o' := Option.some.inj h2
    subst e2
    exact q
  · rw [List.getElem?_set_ne (Ne.symm e)] at h2
    have nb : b ≠ a := fun z => e (ix_inj m.nd (z ▸ h1) hn)
    exact (m.at_ k b o' h1 h2).mono (Ext.write (List.mem_of_getElem? hn) h nt nf) (upd_ne nb)
theorem RM.get {K : PySem.W.Frag} {ρ : List Addr} {H : Hp} {μ : Mem} (m : RM K ρ H μ) {n : Nat} {o : MO} (h : μ[n]? = some o) : ∃ a, ρ[n]? = some a ∧ RMo K ρ H a o := by
  have hn : n < ρ.length := by rw [m.len]; exact (List.getElem?_eq_some_iff.mp h).1
  refine ⟨ρ[n], List.getElem?_eq_some_iff.mpr ⟨hn, rfl⟩, m.at_ n _ o (List.getElem?_eq_some_iff.mpr ⟨hn, rfl⟩) h⟩

/-! ### results -/
structure Exn where
  cls : Value
  fs : Option (List (Str × W))
inductive R (α : Type) where
  | ok (a : α) (μ : Mem)
  | exc (x : Exn) (μ : Mem)
  | stuck
def R.bind {α β : Type} (r : R α) (k : α → Mem → R β) : R β := match r with
  | .ok a μ => k a μ
  | .exc x μ => .exc x μ
  | .stuck => .stuck
def R.ofO {α : Type} : Option (α × Mem) → R α
  | some (a, μ) => .ok a μ
  | none => .stuck
/-- where the flow goes behind a statement -/
inductive F where
  | nx (δ : Sl) (μ : Mem)
  | rt (w : W) (μ : Mem)
  | bk (δ : Sl) (μ : Mem)
  | ct (δ : Sl) (μ : Mem)
  | exc (x : Exn) (δ : Sl) (μ : Mem)
  | stuck
def R.toF {α : Type} (r : R α) (δ : Sl) (k : α → Mem → F) : F := match r with
  | .ok a μ => k a μ
  | .exc x μ => .exc x δ μ
  | .stuck => .stuck
def F.seq (f : F) (k : Sl → Mem → F) : F := match f with
  | .nx δ μ => k δ μ
  | .rt w μ => .rt w μ
  | .bk δ μ => .bk δ μ
  | .ct δ μ => .ct δ μ
  | .exc x δ μ => .exc x δ μ
  | .stuck => .stuck

def RX (K : PySem.W.Frag) (ρ : List Addr) (H : Hp) (x : Exn) (c : Value) (d : Option Addr) : Prop :=
  c = x.cls ∧ ∀ fs, x.fs = some fs → ∃ dx gs, d = some dx ∧ H dx = some (.xd gs) ∧ RKv K ρ H fs gs

section
variable {α β : Type} {K : PySem.W.Frag}
def Res (K : PySem.W.Frag) (E : XK) (ρ : List Addr) (H : Hp) (r : R α) (Q : α → List Addr → Hp → Mem → Prop) : Prop := match r with
  | .ok a μ' => ∀ ρ' H', Ext ρ H ρ' H' → RM K ρ' H' μ' → Q a ρ' H' μ'
  | .exc x μ' => ∀ ρ' H' c d, Ext ρ H ρ' H' → RM K ρ' H' μ' → RX K ρ' H' x c d → E c d H'
  | .stuck => False
theorem Res.imp {E : XK} {ρ : List Addr} {H : Hp} {r : R α} {Q Q' : α → List Addr → Hp → Mem → Prop} (h : Res K E ρ H r Q)
    (k : ∀ a ρ' H' μ', Ext ρ H ρ' H' → RM K ρ' H' μ' → Q a ρ' H' μ' → Q' a ρ' H' μ') : Res K E ρ H r Q' := by
  cases r with
  | ok a μ => exact fun ρ' H' e m => k a ρ' H' μ e m (h ρ' H' e m)
  | exc x μ => exact h
  | stuck => exact h
theorem Res.from {E : XK} {ρ ρ1 : List Addr} {H H1 : Hp} {r : R α} {Q : α → List Addr → Hp → Mem → Prop} (e : Ext ρ H ρ1 H1) (h : Res K E ρ H r Q) : Res K E ρ1 H1 r Q := by
  cases r with
  | ok a μ => exact fun ρ' H' e' m => h ρ' H' (e.trans e') m
  | exc x μ => exact fun ρ' H' c d e' m q => h ρ' H' c d (e.trans e') m q
  | stuck => exact h
theorem Res.bind {E : XK} {ρ : List Addr} {H : Hp} {r : R α} {k : α → Mem → R β} {Q : β → List Addr → Hp → Mem → Prop} (h : Res K E ρ H (r.bind k) Q) :
    Res K E ρ H r (fun a ρ1 H1 μ1 => Res K E ρ1 H1 (k a μ1) Q) := by
  cases r with
  | ok a μ => exact fun ρ' H' e m => Res.from e h
  | exc x μ => exact h
  | stuck => exact h
end

/-! ### judgements -/
/-- Q of a value that stands for w -/
def QW (K : PySem.W.Frag) (Q : VK) : W → List Addr → Hp → Mem → Prop := fun w ρ' H' _ => ∀ x, RW K ρ' H' w x → Q x H'
def QWs (K : PySem.W.Frag) (Q : List V → Hp → Prop) : List W → List Addr → Hp → Mem → Prop := fun ws ρ' H' _ => ∀ xs, RWs K ρ' H' ws xs → Q xs H'
def tM (K : PySem.W.Frag) (Wx : WX) (m : Sl → Mem → R W) : TE := fun σ H Q => ∃ ρ δ μ, RM K ρ H μ ∧ RS K ρ H δ σ ∧ Res K (fun c d H' => Wx c d σ H') ρ H (m δ μ) (QW K Q)
def tMs (K : PySem.W.Frag) (Wx : WX) (m : Sl → Mem → R (List W)) : TA := fun σ H Q => ∃ ρ δ μ, RM K ρ H μ ∧ RS K ρ H δ σ ∧ Res K (fun c d H' => Wx c d σ H') ρ H (m δ μ) (QWs K Q)
def tMt (K : PySem.W.Frag) (Wx : WX) (m : Sl → Mem → R Bool) : TT := fun σ H Q => ∃ ρ δ μ, RM K ρ H μ ∧ RS K ρ H δ σ ∧ Res K (fun c d H' => Wx c d σ H') ρ H (m δ μ) (fun b _ H' _ => Q b H')
def ResS (K : PySem.W.Frag) (Wx : WX) (D : Ends) (ρ : List Addr) (H : Hp) (f : F) : Prop := match f with
  | .nx δ μ => ∀ ρ' H' σ', Ext ρ H ρ' H' → RM K ρ' H' μ → RS K ρ' H' δ σ' → D.nx σ' H'
  | .rt w μ => ∀ ρ' H' x, Ext ρ H ρ' H' → RM K ρ' H' μ → RW K ρ' H' w x → D.rt x H'
  | .bk δ μ => ∀ ρ' H' σ', Ext ρ H ρ' H' → RM K ρ' H' μ → RS K ρ' H' δ σ' → D.bk σ' H'
  | .ct δ μ => ∀ ρ' H' σ', Ext ρ H ρ' H' → RM K ρ' H' μ → RS K ρ' H' δ σ' → D.ct σ' H'
  | .exc x δ μ => ∀ ρ' H' σ' c d, Ext ρ H ρ' H' → RM K ρ' H' μ → RS K ρ' H' δ σ' → RX K ρ' H' x c d → Wx c d σ' H'
  | .stuck => False
def tMS (K : PySem.W.Frag) (Wx : WX) (m : Sl → Mem → F) : TS := fun D σ H => ∃ ρ δ μ, RM K ρ H μ ∧ RS K ρ H δ σ ∧ ResS K Wx D ρ H (m δ μ)

structure ME (X : Cx) (Wx : WX) (e : Expr) (m : Sl → Mem → R W) : Prop where
  pe : PE X e (tM X.K Wx m)
structure MA (X : Cx) (Wx : WX) (es : List Expr) (m : Sl → Mem → R (List W)) : Prop where
  pa : PA X es (tMs X.K Wx m)
  len : ∀ δ μ ws μ', m δ μ = .ok ws μ' → ws.length = es.length
structure MT (X : Cx) (Wx : WX) (e : Expr) (m : Sl → Mem → R Bool) : Prop where
  pt : PT X e (tMt X.K Wx m)
structure MS (X : Cx) (Wx : WX) (s : Stmt) (m : Sl → Mem → F) : Prop where
  ps : PS X s (tMS X.K Wx m)
structure MSs (X : Cx) (Wx : WX) (s : List Stmt) (m : Sl → Mem → F) : Prop where
  ps : PSs X s (tMS X.K Wx m)

theorem _root_.L2.PE.weak {X : Cx} {e : Expr} {t t' : TE} (h : PE X e t) (k : ∀ σ H Q, t' σ H Q → t σ H Q) : PE X e t' := ⟨fun pins s σ H Q I q => h.run pins s σ H Q I (k σ H Q q)⟩
theorem _root_.L2.PA.weak {X : Cx} {e : List Expr} {t t' : TA} (h : PA X e t) (k : ∀ σ H Q, t' σ H Q → t σ H Q) : PA X e t' := ⟨fun pos pins s σ H Q I q => h.run pos pins s σ H Q I (k σ H Q q)⟩
theorem _root_.L2.PT.weak {X : Cx} {e : Expr} {t t' : TT} (h : PT X e t) (k : ∀ σ H Q, t' σ H Q → t σ H Q) : PT X e t' := ⟨fun pins s σ H Q I q => h.run pins s σ H Q I (k σ H Q q)⟩
theorem _root_.L2.PS.weak {X : Cx} {e : Stmt} {t t' : TS} (h : PS X e t) (k : ∀ D σ H, t' D σ H → t D σ H) : PS X e t' := ⟨fun pins s σ H D I q => h.run pins s σ H D I (k D σ H q)⟩
theorem _root_.L2.PSs.weak {X : Cx} {e : List Stmt} {t t' : TS} (h : PSs X e t) (k : ∀ D σ H, t' D σ H → t D σ H) : PSs X e t' := ⟨fun pins s σ H D I q => h.run pins s σ H D I (k D σ H q)⟩
/-- two expressions side by side -/
theorem tM_bind {K : PySem.W.Frag} {Wx : WX} {m : Sl → Mem → R W} {ρ : List Addr} {δ : Sl} {μ : Mem} {σ : L2.St} {H : Hp} {α : Type} {k : W → Mem → R α} {Q : α → List Addr → Hp → Mem → Prop} {Qv : VK}
    (hm : RM K ρ H μ) (hs : RS K ρ H δ σ) (h : Res K (fun c d H' => Wx c d σ H') ρ H ((m δ μ).bind k) Q)
    (go : ∀ w ρ1 H1 μ1 x, Ext ρ H ρ1 H1 → RM K ρ1 H1 μ1 → RS K ρ1 H1 δ σ → RW K ρ1 H1 w x → Res K (fun c d H' => Wx c d σ H') ρ1 H1 (k w μ1) Q → Qv x H1) : tM K Wx m σ H Qv :=
  ⟨ρ, δ, μ, hm, hs, h.bind.imp fun w ρ1 H1 μ1 e m1 q x rx => go w ρ1 H1 μ1 x e m1 (hs.mono e) rx q⟩
theorem tMs_bind {K : PySem.W.Frag} {Wx : WX} {m : Sl → Mem → R (List W)} {ρ : List Addr} {δ : Sl} {μ : Mem} {σ : L2.St} {H : Hp} {α : Type} {k : List W → Mem → R α} {Q : α → List Addr → Hp → Mem → Prop} {Qv : List V → Hp → Prop}
    (hm : RM K ρ H μ) (hs : RS K ρ H δ σ) (h : Res K (fun c d H' => Wx c d σ H') ρ H ((m δ μ).bind k) Q)
    (go : ∀ w ρ1 H1 μ1 x, Ext ρ H ρ1 H1 → RM K ρ1 H1 μ1 → RS K ρ1 H1 δ σ → RWs K ρ1 H1 w x → Res K (fun c d H' => Wx c d σ H') ρ1 H1 (k w μ1) Q → Qv x H1) : tMs K Wx m σ H Qv :=
  ⟨ρ, δ, μ, hm, hs, h.bind.imp fun w ρ1 H1 μ1 e m1 q x rx => go w ρ1 H1 μ1 x e m1 (hs.mono e) rx q⟩
theorem tMt_bind {K : PySem.W.Frag} {Wx : WX} {m : Sl → Mem → R Bool} {ρ : List Addr} {δ : Sl} {μ : Mem} {σ : L2.St} {H : Hp} {α : Type} {k : Bool → Mem → R α} {Q : α → List Addr → Hp → Mem → Prop} {Qv : Bool → Hp → Prop}
    (hm : RM K ρ H μ) (hs : RS K ρ H δ σ) (h : Res K (fun c d H' => Wx c d σ H') ρ H ((m δ μ).bind k) Q)
    (go : ∀ w ρ1 H1 μ1, Ext ρ H ρ1 H1 → RM K ρ1 H1 μ1 → RS K ρ1 H1 δ σ → Res K (fun c d H' => Wx c d σ H') ρ1 H1 (k w μ1) Q → Qv w H1) : tMt K Wx m σ H Qv :=
  ⟨ρ, δ, μ, hm, hs, h.bind.imp fun w ρ1 H1 μ1 e m1 q => go w ρ1 H1 μ1 e m1 (hs.mono e) q⟩
end Mi

set_option Elab.async false
set_option linter.all false
set_option maxRecDepth 100000
set_option maxHeartbeats 1000000
set_option autoImplicit false
namespace Mi
open PySem L2

/-! ### constants, names -/
def mV (i : Nat) : Sl → Mem → R W := fun δ μ => match δ[i]? with
  | some (some w) => .ok w μ
  | _ => .stuck
def mC (w : W) : Sl → Mem → R W := fun _ μ => .ok w μ
section
variable {X : Cx} {Wx : WX} {a b c e : Expr} {pos : Pos} {ma mb mc m : Sl → Mem → R W} {mt : Sl → Mem → R Bool} {es : List Expr} {ms : Sl → Mem → R (List W)}
theorem res_ok {K : PySem.W.Frag} {E : XK} {ρ : List Addr} {H : Hp} {μ : Mem} {α : Type} {a : α} {Q : α → List Addr → Hp → Mem → Prop} (h : Res K E ρ H (.ok a μ) Q) (m : RM K ρ H μ) : Q a ρ H μ := h ρ H (Ext.refl ρ H) m
theorem me_v {i : Nat} (h : PE X e (tVar i)) : ME X Wx e (mV i) := ⟨h.weak fun σ H Q ⟨ρ, δ, μ, hm, hs, q⟩ => by
  unfold mV at q
  cases hd : δ[i]? with
  | none => rw [hd] at q; exact q.elim
  | some o =>
    rw [hd] at q
    cases o with
    | none => exact q.elim
    | some w =>
      obtain ⟨v, h1, h2⟩ := hs.get hd
      exact ⟨v, h1, res_ok q hm v h2⟩⟩
theorem me_c {v : V} {w : W} (h : PE X e (tC v)) (r : ∀ ρ H, RW X.K ρ H w v) : ME X Wx e (mC w) := ⟨h.weak fun σ H Q ⟨ρ, δ, μ, hm, hs, q⟩ => res_ok q hm v (r ρ H)⟩
theorem me_int {i : Int} {j : Nat} : ME X Wx (.Constant (.int i) j pos) (mC (.int i)) := me_c pe_int fun _ _ => .int i
theorem me_bl {i : Bool} {j : Nat} : ME X Wx (.Constant (.bool i) j pos) (mC (.bl i)) := me_c pe_bl fun _ _ => .bl i
theorem me_non {j : Nat} : ME X Wx (.Constant .none j pos) (mC .non) := me_c pe_non fun _ _ => .non
theorem me_str {s : Str} {j : Nat} (h : PyData.strOk s = true := by decide +kernel) : ME X Wx (.Constant (.str s) j pos) (mC (.str s)) := me_c pe_str fun _ _ => .str h
/-- a module's constant -/
theorem me_globI {x : Str} {i : Int} (hg : Gl X x) (hm : ∃ t, X.mg x = some (.int i t)) (hd : (x == ("__debug__" : Str)) = false := by decide) : ME X Wx (.Name x pos) (mC (.int i)) := by
  obtain ⟨t, hm⟩ := hm
  exact me_c (v := .int i) (pe_glob hg hm ⟨t, rfl⟩ hd) fun _ _ => .int i
theorem me_globS {x : Str} {s : Str} (hg : Gl X x) (hm : ∃ t, X.mg x = some (.str s t)) (hs : PyData.strOk s = true := by decide +kernel) (hd : (x == ("__debug__" : Str)) = false := by decide) : ME X Wx (.Name x pos) (mC (.str s)) := by
  obtain ⟨t, hm⟩ := hm
  exact me_c (v := .str s) (pe_glob hg hm ⟨t, rfl⟩ hd) fun _ _ => .str hs
/-- a def, a class of the module as a value -/
theorem me_globR {x : Str} {a : Addr} (hg : Gl X x) (hm : X.mg x = some (.ref a)) (hd : (x == ("__debug__" : Str)) = false := by decide) : ME X Wx (.Name x pos) (mC (.st (.ref a))) := me_c (v := .ref a) (pe_glob hg hm rfl hd) fun _ _ => .st _
/-- a built-in class as a value -/
theorem me_ty {x : Str} {n : String} (hg : Gl X x) (hm : X.mg x = none) (hv : bootBuiltins x = some (.type n)) (hn : x ≠ "__name__" := by decide) (hd : (x == ("__debug__" : Str)) = false := by decide) : ME X Wx (.Name x pos) (mC (.st (.ty n))) :=
  me_c (v := .ty n) (pe_bltn hg hm hv rfl hn hd) fun _ _ => .st _

/-! ### operators -/
abbrev Op2 := W → W → Mem → Option (W × Mem)
def QO (K : PySem.W.Frag) (ρ : List Addr) (H : Hp) (r : Option (W × Mem)) (Q : VK) : Prop := ∃ w μ', r = some (w, μ') ∧ ∀ ρ' H' v, Ext ρ H ρ' H' → RM K ρ' H' μ' → RW K ρ' H' w v → Q v H'
def rM2 (K : PySem.W.Frag) (f : Op2) : R2 := fun x y H Q => ∃ ρ μ a b, RM K ρ H μ ∧ RW K ρ H a x ∧ RW K ρ H b y ∧ QO K ρ H (f a b μ) Q
structure OpM (X : Cx) (op : Value → Value → Sem Value) (f : Op2) : Prop where
  op : OpR X op (rM2 X.K f)
theorem qo_of {K : PySem.W.Frag} {E : XK} {ρ : List Addr} {H : Hp} {r : Option (W × Mem)} {Q : VK} (h : Res K E ρ H (R.ofO r) (QW K Q)) : QO K ρ H r Q := by
  cases r with
  | none => exact h.elim
  | some p =>
    obtain ⟨w, μ'⟩ := p
    exact ⟨w, μ', rfl, fun ρ' H' v e m r => h ρ' H' e m v r⟩
def mBin (f : Op2) (ma mb : Sl → Mem → R W) : Sl → Mem → R W := fun δ μ => (ma δ μ).bind fun x μ1 => (mb δ μ1).bind fun y μ2 => R.ofO (f x y μ2)
theorem tM_bin {K : PySem.W.Frag} {f : Op2} {σ : L2.St} {H : Hp} {Q : VK} (h : tM K Wx (mBin f ma mb) σ H Q) : tOp (rM2 K f) (tM K Wx ma) (tM K Wx mb) σ H Q := by
  obtain ⟨ρ, δ, μ, hm, hs, q⟩ := h
  exact tM_bind hm hs q fun x ρ1 H1 μ1 xv e1 m1 s1 rx q1 => tM_bind m1 s1 q1 fun y ρ2 H2 μ2 yv e2 m2 s2 ry q2 => ⟨ρ2, μ2, x, y, m2, rx.mono e2, ry, qo_of q2⟩
theorem me_op {op : Operator} {f : Op2} (ho : OpM X (binaryOp op) f) (ha : ME X Wx a ma) (hb : ME X Wx b mb) : ME X Wx (.BinOp a op b pos) (mBin f ma mb) :=
  ⟨(pe_op ho.op ha.pe hb.pe).weak fun σ H Q h => tM_bin h⟩
theorem me_cmp {op : CmpOp} {f : Op2} (ho : OpM X (compareOp op) f) (ha : ME X Wx a ma) (hb : ME X Wx b mb) (hm : behindInMarks op b = false := by first | exact nomark _ | rfl) : ME X Wx (.Compare a [op] [b] pos) (mBin f ma mb) :=
  ⟨(pe_cmpR ho.op ha.pe hb.pe hm).weak fun σ H Q h => tM_bin h⟩
/-- x[i] -/
theorem me_ix {f : Op2} (ho : IxR X (rM2 X.K f)) (ha : ME X Wx a ma) (hb : ME X Wx b mb) (hs : PlainIx b := by intro _ _; rfl) : ME X Wx (.Subscript a b pos) (mBin f ma mb) :=
  ⟨(pe_ix ho ha.pe hb.pe hs).weak fun σ H Q h => tM_bin h⟩
abbrev Op1 := W → Mem → Option (W × Mem)
def rM1 (K : PySem.W.Frag) (f : Op1) : V → Hp → VK → Prop := fun x H Q => ∃ ρ μ a, RM K ρ H μ ∧ RW K ρ H a x ∧ QO K ρ H (f a μ) Q
def mUn (f : Op1) (ma : Sl → Mem → R W) : Sl → Mem → R W := fun δ μ => (ma δ μ).bind fun x μ1 => R.ofO (f x μ1)
theorem me_un {op : UnaryOp} {f : Op1} (ho : UnR X (unaryOp op) (rM1 X.K f)) (ha : ME X Wx a ma) : ME X Wx (.UnaryOp op a pos) (mUn f ma) :=
  ⟨(pe_un ho ha.pe).weak fun σ H Q ⟨ρ, δ, μ, hm, hs, q⟩ => tM_bind hm hs q fun x ρ1 H1 μ1 xv e1 m1 s1 rx q1 => ⟨ρ1, μ1, x, m1, rx, qo_of q1⟩⟩

/-! ### truth -/
def getL (μ : Mem) (n : Nat) : Option (List W) := match μ[n]? with
  | some (.lst xs) => some xs
  | _ => none
theorem getL_some {μ : Mem} {n : Nat} {xs : List W} (h : getL μ n = some xs) : μ[n]? = some (.lst xs) := by
  unfold getL at h
  split at h
  · rename_i e; rw [e]; cases h; rfl
  · cases h
theorem rm_lst {K : PySem.W.Frag} {ρ : List Addr} {H : Hp} {μ : Mem} (m : RM K ρ H μ) {n : Nat} {xs : List W} {a : Addr} (h : getL μ n = some xs) (ha : ρ[n]? = some a) : ∃ vs, H a = some (.lst vs) ∧ RWs K ρ H xs vs := m.at_ n a _ ha (getL_some h)
/-- what may be read as a list -/
def readL (μ : Mem) : W → Option (List W)
  | .fl xs => some xs
  | .loc n => getL μ n
  | _ => none
theorem rd_lst {K : PySem.W.Frag} {ρ : List Addr} {H : Hp} {μ : Mem} (m : RM K ρ H μ) {w : W} {xs : List W} {v : V} (h : readL μ w = some xs) (r : RW K ρ H w v) : ∃ a vs, v = .ref a ∧ SqL K H a vs ∧ RWs K ρ H xs vs := by
  cases r with
  | fl h1 h2 =>
    cases h
    exact ⟨_, _, rfl, h1.sqL, h2⟩
  | loc ha =>
    obtain ⟨vs, h1, h2⟩ := rm_lst m h ha
    exact ⟨_, vs, rfl, SqL.of h1, h2⟩
  | _ => cases h
theorem rws_isEmpty {K : PySem.W.Frag} {ρ : List Addr} {H : Hp} {xs : List W} {vs : List V} (r : RWs K ρ H xs vs) : xs.isEmpty = vs.isEmpty := by
  cases r <;> rfl
def truth (μ : Mem) : W → Option Bool
  | .non => some false
  | .bl b => some b
  | .int i => some (i != 0)
  | .str s => if s.length ≤ 1000000 then some ((s.length : Int) != 0) else none
  | .tup xs => some (!xs.isEmpty)
  | .fl xs => some (!xs.isEmpty)
  | .loc n => match μ[n]? with
    | some (.lst xs) => some (!xs.isEmpty)
    | some (.dct kvs) => some (!kvs.isEmpty)
    | _ => none
  | .st _ => none
theorem lim_le {n : Nat} (h : n ≤ 1000000) : n ≤ sizeLine := Nat.le_trans h (by decide)
theorem truth_ok {K : PySem.W.Frag} {ρ : List Addr} {H : Hp} {μ : Mem} (m : RM K ρ H μ) {w : W} {v : V} (r : RW K ρ H w v) {b : Bool} (h : truth μ w = some b) : TruV K v H b := by
  cases r with
  | non => cases h; rfl
  | bl b => cases h; rfl
  | int i => cases h; rfl
  | @str s hs =>
    have h : (if s.length ≤ 1000000 then some ((s.length : Int) != 0) else none) = some b := h
    split at h
    · rename_i z
      cases h
      exact ⟨lim_le z, rfl⟩
    · cases h
  | tup hq hr =>
    cases h
    exact .inr (.inl ⟨_, hq, by rw [rws_isEmpty hr]⟩)
  | fl hq hr =>
    cases h
    exact .inl ⟨_, hq.sqL, by rw [rws_isEmpty hr]⟩
  | @loc n a ha =>
    have h : (match μ[n]? with
    | some (.lst xs) => some (!xs.isEmpty)
    | some (.dct kvs) => some (!kvs.isEmpty)
    | _ => none) = some b := h
    split at h
    · rename_i e
      cases h
      obtain ⟨vs, h1, h2⟩ := m.at_ n a _ ha e
      exact .inl ⟨vs, SqL.of h1, by rw [rws_isEmpty h2]⟩
    · rename_i kvs e
      cases h
      obtain ⟨vs, h1, h2⟩ := m.at_ n a _ ha e
      refine .inr (.inr ⟨vs, h1, ?_⟩)
      have e1 := rws_isEmpty h2.2
      rw [List.isEmpty_map, List.isEmpty_map] at e1
      rw [e1]
    · cases h
  | st v => cases h

def bTru (x : W) (μ : Mem) : R Bool := match truth μ x with
  | some b => .ok b μ
  | none => .stuck
def mAnd (ma mb : Sl → Mem → R W) : Sl → Mem → R W := fun δ μ => (ma δ μ).bind fun x μ1 => (bTru x μ1).bind fun b μ1 => if b then mb δ μ1 else .ok x μ1
def mOr (ma mb : Sl → Mem → R W) : Sl → Mem → R W := fun δ μ => (ma δ μ).bind fun x μ1 => (bTru x μ1).bind fun b μ1 => if b then .ok x μ1 else mb δ μ1
def mNot (ma : Sl → Mem → R W) : Sl → Mem → R W := fun δ μ => (ma δ μ).bind fun x μ1 => (bTru x μ1).bind fun b μ1 => .ok (.bl (!b)) μ1
theorem res_tru {K : PySem.W.Frag} {E : XK} {ρ : List Addr} {H : Hp} {μ : Mem} {x : W} {α : Type} {k : Bool → Mem → R α} {Q : α → List Addr → Hp → Mem → Prop} (h : Res K E ρ H ((bTru x μ).bind k) Q) : ∃ b, truth μ x = some b ∧ Res K E ρ H (k b μ) Q := by
  unfold bTru at h
  cases e : truth μ x with
  | none => rw [e] at h; exact h.elim
  | some b => rw [e] at h; exact ⟨b, rfl, h⟩
theorem me_one {op : BoolOp} (h : ME X Wx a ma) : ME X Wx (.BoolOp op [a] pos) ma := ⟨pe_one h.pe⟩
theorem me_and {rest : List Expr} (ha : ME X Wx a ma) (hb : ME X Wx (.BoolOp .And (b :: rest) pos) mb) : ME X Wx (.BoolOp .And (a :: b :: rest) pos) (mAnd ma mb) :=
  ⟨(pe_andT ha.pe hb.pe).weak fun σ H Q ⟨ρ, δ, μ, hm, hs, q⟩ => tM_bind hm hs q fun x ρ1 H1 μ1 xv e1 m1 s1 rx q1 => by
    obtain ⟨b, hb, q2⟩ := res_tru q1
    refine ⟨b, truth_ok m1 rx hb, ?_⟩
    cases b with
    | true => exact ⟨ρ1, δ, μ1, m1, s1, q2⟩
    | false => exact res_ok q2 m1 xv rx⟩
theorem me_or {rest : List Expr} (ha : ME X Wx a ma) (hb : ME X Wx (.BoolOp .Or (b :: rest) pos) mb) : ME X Wx (.BoolOp .Or (a :: b :: rest) pos) (mOr ma mb) :=
  ⟨(pe_orT ha.pe hb.pe).weak fun σ H Q ⟨ρ, δ, μ, hm, hs, q⟩ => tM_bind hm hs q fun x ρ1 H1 μ1 xv e1 m1 s1 rx q1 => by
    obtain ⟨b, hb, q2⟩ := res_tru q1
    refine ⟨b, truth_ok m1 rx hb, ?_⟩
    cases b with
    | true => exact res_ok q2 m1 xv rx
    | false => exact ⟨ρ1, δ, μ1, m1, s1, q2⟩⟩
theorem me_not (ha : ME X Wx a ma) : ME X Wx (.UnaryOp .Not a pos) (mNot ma) :=
  ⟨(pe_notT ha.pe).weak fun σ H Q ⟨ρ, δ, μ, hm, hs, q⟩ => tM_bind hm hs q fun x ρ1 H1 μ1 xv e1 m1 s1 rx q1 => by
    obtain ⟨b, hb, q2⟩ := res_tru q1
    exact ⟨b, truth_ok m1 rx hb, res_ok q2 m1 _ (.bl _)⟩⟩

/-! ### tests -/
def tV (ma : Sl → Mem → R W) : Sl → Mem → R Bool := fun δ μ => (ma δ μ).bind fun x μ1 => bTru x μ1
def tAn (ma mb : Sl → Mem → R Bool) : Sl → Mem → R Bool := fun δ μ => (ma δ μ).bind fun b μ1 => if b then mb δ μ1 else .ok false μ1
def tO (ma mb : Sl → Mem → R Bool) : Sl → Mem → R Bool := fun δ μ => (ma δ μ).bind fun b μ1 => if b then .ok true μ1 else mb δ μ1
def tN (ma : Sl → Mem → R Bool) : Sl → Mem → R Bool := fun δ μ => (ma δ μ).bind fun b μ1 => .ok (!b) μ1
def asB (x : W) (μ : Mem) : R Bool := match x with
  | .bl b => .ok b μ
  | _ => .stuck
def tBl (ma : Sl → Mem → R W) : Sl → Mem → R Bool := fun δ μ => (ma δ μ).bind asB
variable {ta tb : Sl → Mem → R Bool}
/-- any expression, by its truth -/
theorem mt_v (ha : ME X Wx a ma) (he : ∀ whole, isTrue a X.env whole = (do let v ← whole; standAt a.pos; holding [v] (truthy v)) := by intro _; rfl) : MT X Wx a (tV ma) :=
  ⟨(pt_truth ha.pe he).weak fun σ H Q ⟨ρ, δ, μ, hm, hs, q⟩ => tM_bind hm hs q fun x ρ1 H1 μ1 xv e1 m1 s1 rx q1 => by
    unfold bTru at q1
    cases e : truth μ1 x with
    | none => rw [e] at q1; exact q1.elim
    | some b =>
      rw [e] at q1
      exact ⟨b, truth_ok m1 rx e, res_ok q1 m1⟩⟩
theorem rw_bl {K : PySem.W.Frag} {ρ : List Addr} {H : Hp} {b : Bool} {v : V} (r : RW K ρ H (.bl b) v) : v = .bl b := by
  cases r; rfl
theorem rw_int {K : PySem.W.Frag} {ρ : List Addr} {H : Hp} {b : Int} {v : V} (r : RW K ρ H (.int b) v) : v = .int b := by
  cases r; rfl
theorem as_b {K : PySem.W.Frag} {E : XK} {ρ : List Addr} {H : Hp} {μ : Mem} {x : W} {xv : V} {Q : Bool → List Addr → Hp → Mem → Prop} (h : Res K E ρ H (asB x μ) Q) (m : RM K ρ H μ) (r : RW K ρ H x xv) : ∃ k, xv = .bl k ∧ Q k ρ H μ := by
  cases x with
  | bl b => exact ⟨b, rw_bl r, res_ok h m⟩
  | _ => exact h.elim
theorem tM_bl {K : PySem.W.Frag} {σ : L2.St} {H : Hp} {Q : Bool → Hp → Prop} (h : tMt K Wx (tBl ma) σ H Q) : tM K Wx ma σ H fun x H' => ∃ k, x = .bl k ∧ Q k H' := by
  obtain ⟨ρ, δ, μ, hm, hs, q⟩ := h
  exact tM_bind hm hs q fun x ρ1 H1 μ1 xv e1 m1 s1 rx q1 => as_b q1 m1 rx
/-- a comparison -/
theorem tOp_k {r : R2} {t u : TE} {σ : L2.St} {H : Hp} {Q : Bool → Hp → Prop} (h : tOp r t u σ H fun x H' => ∃ k, x = .bl k ∧ Q k H') : tTest (tOp r t u) σ H Q := h
theorem mt_cmp {op : CmpOp} {f : Op2} (ho : OpM X (compareOp op) f) (ha : ME X Wx a ma) (hb : ME X Wx b mb) (hm : behindInMarks op b = false := by first | exact nomark _ | rfl) : MT X Wx (.Compare a [op] [b] pos) (tBl (mBin f ma mb)) :=
  ⟨(pt_cmpR ho.op ha.pe hb.pe hm).weak fun σ H Q h => tOp_k (tM_bin (tM_bl h))⟩
def mChain (f g : Op2) (ma mb mc : Sl → Mem → R W) : Sl → Mem → R W := fun δ μ => (ma δ μ).bind fun x μ1 => (mb δ μ1).bind fun y μ2 => (R.ofO (f x y μ2)).bind fun z μ3 => (asB z μ3).bind fun k μ4 =>
  if k then (mc δ μ4).bind fun u μ5 => R.ofO (g y u μ5) else .ok (.bl false) μ4
theorem mt_and1 (ha : MT X Wx a ta) : PW X (.BoolOp .And [a] pos) (tMt X.K Wx ta) := pw_and1 ha.pt
theorem mt_or1 (ha : MT X Wx a ta) : PW X (.BoolOp .Or [a] pos) (tMt X.K Wx ta) := pw_or1 ha.pt
structure MW (X : Cx) (Wx : WX) (e : Expr) (m : Sl → Mem → R Bool) : Prop where
  pw : PW X e (tMt X.K Wx m)
theorem _root_.L2.PW.weak {X : Cx} {e : Expr} {t t' : TT} (h : PW X e t) (k : ∀ σ H Q, t' σ H Q → t σ H Q) : PW X e t' := ⟨fun whole pins s σ H Q I q => h.run whole pins s σ H Q I (k σ H Q q)⟩
theorem mw_and1 (ha : MT X Wx a ta) : MW X Wx (.BoolOp .And [a] pos) ta := ⟨pw_and1 ha.pt⟩
theorem mw_or1 (ha : MT X Wx a ta) : MW X Wx (.BoolOp .Or [a] pos) ta := ⟨pw_or1 ha.pt⟩
theorem mw_and {rest : List Expr} (ha : MT X Wx a ta) (hb : MW X Wx (.BoolOp .And (b :: rest) pos) tb) : MW X Wx (.BoolOp .And (a :: b :: rest) pos) (tAn ta tb) :=
  ⟨(pw_and ha.pt hb.pw).weak fun σ H Q ⟨ρ, δ, μ, hm, hs, q⟩ => tMt_bind hm hs q fun k ρ1 H1 μ1 e1 m1 s1 q1 => by
    cases k with
    | true => exact ⟨ρ1, δ, μ1, m1, s1, q1⟩
    | false => exact res_ok q1 m1⟩
theorem mw_or {rest : List Expr} (ha : MT X Wx a ta) (hb : MW X Wx (.BoolOp .Or (b :: rest) pos) tb) : MW X Wx (.BoolOp .Or (a :: b :: rest) pos) (tO ta tb) :=
  ⟨(pw_or ha.pt hb.pw).weak fun σ H Q ⟨ρ, δ, μ, hm, hs, q⟩ => tMt_bind hm hs q fun k ρ1 H1 μ1 e1 m1 s1 q1 => by
    cases k with
    | true => exact res_ok q1 m1
    | false => exact ⟨ρ1, δ, μ1, m1, s1, q1⟩⟩
theorem mt_w (h : MW X Wx e ta) : MT X Wx e ta := ⟨h.pw.pt⟩
theorem mt_not (ha : MT X Wx a ta) : MT X Wx (.UnaryOp .Not a pos) (tN ta) :=
  ⟨(pt_not ha.pt).weak fun σ H Q ⟨ρ, δ, μ, hm, hs, q⟩ => tMt_bind hm hs q fun k ρ1 H1 μ1 e1 m1 s1 q1 => res_ok q1 m1⟩
/-- a if t else b -/
def mIf (t : Sl → Mem → R Bool) (ma mb : Sl → Mem → R W) : Sl → Mem → R W := fun δ μ => (t δ μ).bind fun k μ1 => if k then ma δ μ1 else mb δ μ1
theorem me_if {t : Expr} (ht : MT X Wx t ta) (ha : ME X Wx a ma) (hb : ME X Wx b mb) : ME X Wx (.IfExp t a b pos) (mIf ta ma mb) :=
  ⟨(pe_ifExp ht.pt ha.pe hb.pe).weak fun σ H Q ⟨ρ, δ, μ, hm, hs, q⟩ => tMt_bind hm hs q fun k ρ1 H1 μ1 e1 m1 s1 q1 => by
    cases k with
    | true => exact ⟨ρ1, δ, μ1, m1, s1, q1⟩
    | false => exact ⟨ρ1, δ, μ1, m1, s1, q1⟩⟩

/-! ### arguments, displays, calls -/
def aNil : Sl → Mem → R (List W) := fun _ μ => .ok [] μ
def aCons (ma : Sl → Mem → R W) (ms : Sl → Mem → R (List W)) : Sl → Mem → R (List W) := fun δ μ => (ma δ μ).bind fun x μ1 => (ms δ μ1).bind fun xs μ2 => .ok (x :: xs) μ2
theorem ma_nil : MA X Wx [] aNil := ⟨pa_nil.weak fun σ H Q ⟨ρ, δ, μ, hm, hs, q⟩ => res_ok q hm [] .nil, fun δ μ ws μ' h => by cases h; rfl⟩
theorem bind_ok {α β : Type} {r : R α} {k : α → Mem → R β} {b : β} {μ' : Mem} (h : r.bind k = .ok b μ') : ∃ a μ1, r = .ok a μ1 ∧ k a μ1 = .ok b μ' := by
  cases r with
  | ok a μ => exact ⟨a, μ, rfl, h⟩
  | exc x μ => cases h
  | stuck => cases h
theorem ma_cons (ha : ME X Wx e m) (hr : MA X Wx es ms) (hs : starEach (e :: es) X.env = (false, eval e X.env) :: starEach es X.env := by rfl) : MA X Wx (e :: es) (aCons m ms) :=
  ⟨(pa_cons ha.pe hr.pa hs).weak fun σ H Q ⟨ρ, δ, μ, hm, hs, q⟩ => tM_bind hm hs q fun x ρ1 H1 μ1 xv e1 m1 s1 rx q1 => tMs_bind m1 s1 q1 fun xs ρ2 H2 μ2 xvs e2 m2 s2 rxs q2 => res_ok q2 m2 _ (.cons (rx.mono e2) rxs), fun δ μ ws μ' h => by
    obtain ⟨x, μ1, h1, h2⟩ := bind_ok h
    obtain ⟨xs, μ2, h3, h4⟩ := bind_ok h2
    cases h4
    exact congrArg Nat.succ (hr.len _ _ _ _ h3)⟩
def mTup (ms : Sl → Mem → R (List W)) : Sl → Mem → R W := fun δ μ => (ms δ μ).bind fun xs μ1 => if xs.length ≤ 1000000 then .ok (.tup xs) μ1 else .stuck
theorem me_tup {x1 : Nat} (h : MA X Wx es ms) : ME X Wx (.Tuple es x1 pos) (mTup ms) :=
  ⟨(pe_tup h.pa).weak fun σ H Q ⟨ρ, δ, μ, hm, hs, q⟩ => tMs_bind hm hs q fun xs ρ1 H1 μ1 xvs e1 m1 s1 rxs q1 => by
    by_cases hz : xs.length ≤ 1000000
    · rw [if_pos hz] at q1
      refine ⟨by rw [rxs.length]; exact lim_le hz, fun p hp => ?_⟩
      exact q1 ρ1 _ (Ext.newU m1 hp) (m1.newU hp) _ (.tup (SqT.of upd_same) (rxs.mono (Ext.newU m1 hp)))
    · rw [if_neg hz] at q1
      exact q1.elim⟩
def alloc (o : MO) (μ : Mem) : W × Mem := (.loc μ.length, μ ++ [o])
def mLst (ms : Sl → Mem → R (List W)) : Sl → Mem → R W := fun δ μ => (ms δ μ).bind fun xs μ1 => if xs.length ≤ 1000000 then .ok (.loc μ1.length) (μ1 ++ [.lst xs]) else .stuck
theorem me_lst (h : MA X Wx es ms) : ME X Wx (.List es pos) (mLst ms) :=
  ⟨(pe_lst h.pa).weak fun σ H Q ⟨ρ, δ, μ, hm, hs, q⟩ => tMs_bind hm hs q fun xs ρ1 H1 μ1 xvs e1 m1 s1 rxs q1 => by
    by_cases hz : xs.length ≤ 1000000
    · rw [if_pos hz] at q1
      refine ⟨by rw [rxs.length]; exact lim_le hz, fun p hp => ?_⟩
      exact q1 (ρ1 ++ [p]) _ (Ext.newT m1 hp) (m1.newT hp ⟨xvs, upd_same, rxs.mono (Ext.newT m1 hp)⟩) _ (.loc (RM.newLoc m1.len))
    · rw [if_neg hz] at q1
      exact q1.elim⟩

/-- a def's promise: the function g of the arguments and Mem -/
def spM (K : PySem.W.Frag) (n : Nat) (g : List W → Mem → R W) : Sp := fun vs H Q E => vs.length = n ∧ ∃ ρ ws μ, RM K ρ H μ ∧ RWs K ρ H ws vs ∧ Res K E ρ H (g ws μ) (QW K Q)
/-- room for k calls, and nothing is being shown -/
structure RoomG (k : Nat) (A : Around) : Prop where
  r : Room k A
  g : A.guards = some []
theorem RoomG.mono {j k : Nat} {A : Around} (r : RoomG k A) (h : j ≤ k) : RoomG j A := ⟨r.r.mono h, r.g⟩
/-- the def at f keeps the promise sp, by at most level k -/
def FnS (P : Program) (w : World) (K : PySem.W.Frag) (mg : Str → Option Value) (base : Heap) (k : Nat) (f : Addr) (fd : FuncData) (ps : List Str) (sp : Sp) : Prop :=
  ∀ (A : Around) (outer : List Env) (s : Shared) (H : Hp) (args : Args) (us : List Value) (vs : List V) (Q : VK) (E : XK), RoomG k A → Env0 P w K mg base A outer s H → BindsTo s fd args (ps.zip us) →
    Vals vs us → vs.length = ps.length → sp vs H Q E → codeAny (model P w) A (.call (.ref f) args) (CR (L2.CX P w) outer P w H s Q E) s
abbrev FnM (P : Program) (w : World) (K : PySem.W.Frag) (mg : Str → Option Value) (base : Heap) (k : Nat) (f : Addr) (fd : FuncData) (ps : List Str) (g : List W → Mem → R W) : Prop :=
  FnS P w K mg base k f fd ps (spM K ps.length g)
theorem FnS.lift {P : Program} {w : World} {K : PySem.W.Frag} {mg : Str → Option Value} {base : Heap} {j k : Nat} {f : Addr} {fd : FuncData} {ps : List Str} {sp : Sp} (F : FnS P w K mg base j f fd ps sp) (h : j ≤ k) : FnS P w K mg base k f fd ps sp :=
  fun A outer s H args us vs Q E hr => F A outer s H args us vs Q E (hr.mono h)
def mCall (g : List W → Mem → R W) (ms : Sl → Mem → R (List W)) : Sl → Mem → R W := fun δ μ => (ms δ μ).bind g
/-- the callee runs, what it raises is wished for at the caller's slots -/
theorem callS {k : Nat} {f : Addr} {fd : FuncData} {ps : List Str} {sp : Sp} {pins : List (Addr × Obj)} {σ : L2.St} {H : Hp} {s : Shared} {Q : VK} {us ds : List Value} {vs dvs : List V} (tk : Takes X Wx) (F : FnS X.prog X.w X.K X.mg X.base k f fd ps sp) (hr : RoomG k X.A)
    (hb : Binds X.K fd ps ds) (hd : Vals dvs ds) (I : Inv X pins σ H s) (r : Vals vs us) (hl : (vs ++ dvs).length = ps.length) (h : sp (vs ++ dvs) H Q (fun c d H' => Wx c d σ H')) : wpAny (model X.prog X.w) X.A (call (.ref f) us) (EP X pins σ Q) X.xe s := by
  have rr := r.append hd
  have run := F X.A X.stack s H ⟨us, []⟩ (us ++ ds) (vs ++ dvs) Q (fun c d H' => Wx c d σ H') hr I.env0 (hb s us I.kIn (by rw [← rr.length]; exact hl)) rr hl h
  refine wpAny_call (codeAny_mono run ?_)
  intro res s2 e2
  match res, e2 with
  | .error u, e2 => exact passAt tk σ pins H s u s2 I e2
  | .ok (.ret u), e2 => exact I.after e2
  | .ok .next, e2 => exact e2.elim
  | .ok .brk, e2 => exact e2.elim
  | .ok .cont, e2 => exact e2.elim
theorem me_call {k : Nat} {f : Addr} {fd : FuncData} {ps : List Str} {g : List W → Mem → R W} {x : Str} {p : Pos} (tk : Takes X Wx) (F : FnM X.prog X.w X.K X.mg X.base k f fd ps g) (hr : RoomG k X.A) (hg : Gl X x) (hm : X.mg x = some (.ref f)) (hk : PySem.W.keepIn X.K (.ref f) = true) (hb : Binds X.K fd ps [])
    (ha : MA X Wx (e :: es) ms) (hdb : (x == ("__debug__" : Str)) = false := by decide) (hse : starEach (e :: es) X.env = (false, eval e X.env) :: starEach es X.env := by rfl)
    (hsp : (backTo pos (starEach es X.env)).any (·.1) = false := by rfl) (hl : (e :: es).length = ps.length := by rfl) :
    ME X Wx (.Call (.Name x p) (e :: es) [] pos) (mCall g ms) := by
  refine ⟨⟨fun pins s σ H Q I ⟨ρ, δ, μ, hm', hs, q⟩ => ?_⟩⟩
  have args : tMs X.K Wx ms σ H (fun vs H1 => vs.length = ps.length ∧ spM X.K ps.length g vs H1 Q (fun c d H' => Wx c d σ H')) := by
    refine ⟨ρ, δ, μ, hm', hs, ?_⟩
    have q2 := Res.bind (show Res X.K (fun c d H' => Wx c d σ H') ρ H ((ms δ μ).bind g) (QW X.K Q) from q)
    cases hms : ms δ μ with
    | ok ws μ1 =>
      rw [hms] at q2
      intro ρ1 H1 e1 m1 vs rvs
      have l1 : vs.length = ps.length := by rw [rvs.length, ha.len δ μ ws μ1 hms, hl]
      exact ⟨l1, l1, ρ1, ws, μ1, m1, rvs, q2 ρ1 H1 e1 m1⟩
    | exc x μ1 => rw [hms] at q2; exact q2
    | stuck => rw [hms] at q2; exact q2
  have run := ha.pa.run pos pins s σ H _ I args
  refine wpAny_Call_Name_kw (ld_glob (u := .ref f) I hg hm
    (PySem.W.callWith_K (h₀ := X.base) I.ok.mod.kin hk (thn run ?_) hse hsp) hdb)
  intro us s1 ⟨vs, H1, I1, r1, l1, q1⟩
  exact ⟨I1.kIn, callS tk F hr hb .nil I1 r1 (by rw [List.append_nil]; exact l1) (by rw [List.append_nil]; exact q1)⟩
end
end Mi

set_option Elab.async false
set_option linter.all false
set_option maxRecDepth 100000
set_option maxHeartbeats 1000000
set_option autoImplicit false
namespace Mi
open PySem L2

/-! ### statements -/
section
variable {K : PySem.W.Frag} {Wx : WX} {D : Ends}
theorem ResS.from {ρ ρ1 : List Addr} {H H1 : Hp} {f : F} (e : Ext ρ H ρ1 H1) (h : ResS K Wx D ρ H f) : ResS K Wx D ρ1 H1 f := by
  cases f with
  | nx δ μ => exact fun ρ' H' σ' e' m s => h ρ' H' σ' (e.trans e') m s
  | rt w μ => exact fun ρ' H' x e' m s => h ρ' H' x (e.trans e') m s
  | bk δ μ => exact fun ρ' H' σ' e' m s => h ρ' H' σ' (e.trans e') m s
  | ct δ μ => exact fun ρ' H' σ' e' m s => h ρ' H' σ' (e.trans e') m s
  | exc x δ μ => exact fun ρ' H' σ' c d e' m s r => h ρ' H' σ' c d (e.trans e') m s r
  | stuck => exact h
/-- an expression within a statement -/
theorem ResS.toF {α : Type} {ρ : List Addr} {H : Hp} {r : R α} {δ : Sl} {σ : L2.St} {k : α → Mem → F} (hs : RS K ρ H δ σ) (h : ResS K Wx D ρ H (r.toF δ k)) :
    Res K (fun c d H' => Wx c d σ H') ρ H r (fun a ρ1 H1 μ1 => ResS K Wx D ρ1 H1 (k a μ1)) := by
  cases r with
  | ok a μ => exact fun ρ' H' e m => ResS.from e h
  | exc x μ => exact fun ρ' H' c d e m r => h ρ' H' σ c d e m (hs.mono e) r
  | stuck => exact h
theorem tM_toF {m : Sl → Mem → R W} {ρ : List Addr} {δ : Sl} {μ : Mem} {σ : L2.St} {H : Hp} {k : W → Mem → F} {Qv : VK} (hm : RM K ρ H μ) (hs : RS K ρ H δ σ) (h : ResS K Wx D ρ H ((m δ μ).toF δ k))
    (go : ∀ w ρ1 H1 μ1 x, Ext ρ H ρ1 H1 → RM K ρ1 H1 μ1 → RS K ρ1 H1 δ σ → RW K ρ1 H1 w x → ResS K Wx D ρ1 H1 (k w μ1) → Qv x H1) : tM K Wx m σ H Qv :=
  ⟨ρ, δ, μ, hm, hs, (ResS.toF hs h).imp fun w ρ1 H1 μ1 e m1 q x rx => go w ρ1 H1 μ1 x e m1 (hs.mono e) rx q⟩
theorem tMs_toF {m : Sl → Mem → R (List W)} {ρ : List Addr} {δ : Sl} {μ : Mem} {σ : L2.St} {H : Hp} {k : List W → Mem → F} {Qv : List V → Hp → Prop} (hm : RM K ρ H μ) (hs : RS K ρ H δ σ) (h : ResS K Wx D ρ H ((m δ μ).toF δ k))
    (go : ∀ w ρ1 H1 μ1 x, Ext ρ H ρ1 H1 → RM K ρ1 H1 μ1 → RS K ρ1 H1 δ σ → RWs K ρ1 H1 w x → ResS K Wx D ρ1 H1 (k w μ1) → Qv x H1) : tMs K Wx m σ H Qv :=
  ⟨ρ, δ, μ, hm, hs, (ResS.toF hs h).imp fun w ρ1 H1 μ1 e m1 q x rx => go w ρ1 H1 μ1 x e m1 (hs.mono e) rx q⟩
theorem tMt_toF {m : Sl → Mem → R Bool} {ρ : List Addr} {δ : Sl} {μ : Mem} {σ : L2.St} {H : Hp} {k : Bool → Mem → F} {Qv : Bool → Hp → Prop} (hm : RM K ρ H μ) (hs : RS K ρ H δ σ) (h : ResS K Wx D ρ H ((m δ μ).toF δ k))
    (go : ∀ w ρ1 H1 μ1, Ext ρ H ρ1 H1 → RM K ρ1 H1 μ1 → RS K ρ1 H1 δ σ → ResS K Wx D ρ1 H1 (k w μ1) → Qv w H1) : tMt K Wx m σ H Qv :=
  ⟨ρ, δ, μ, hm, hs, (ResS.toF hs h).imp fun w ρ1 H1 μ1 e m1 q => go w ρ1 H1 μ1 e m1 (hs.mono e) q⟩
theorem ress_nx {ρ : List Addr} {H : Hp} {δ : Sl} {μ : Mem} {σ : L2.St} (h : ResS K Wx D ρ H (.nx δ μ)) (m : RM K ρ H μ) (s : RS K ρ H δ σ) : D.nx σ H := h ρ H σ (Ext.refl ρ H) m s
theorem ress_rt {ρ : List Addr} {H : Hp} {w : W} {μ : Mem} {x : V} (h : ResS K Wx D ρ H (.rt w μ)) (m : RM K ρ H μ) (r : RW K ρ H w x) : D.rt x H := h ρ H x (Ext.refl ρ H) m r
/-- the next statement -/
theorem ResS.seq {ρ : List Addr} {H : Hp} {f : F} {k : Sl → Mem → F} {nx : L2.St → Hp → Prop} (h : ResS K Wx D ρ H (f.seq k))
    (go : ∀ ρ1 H1 δ μ σ, Ext ρ H ρ1 H1 → RM K ρ1 H1 μ → RS K ρ1 H1 δ σ → ResS K Wx D ρ1 H1 (k δ μ) → nx σ H1) : ResS K Wx { D with nx := nx } ρ H f := by
  cases f with
  | nx δ μ => exact fun ρ' H' σ' e m s => go ρ' H' δ μ σ' e m s (ResS.from e h)
  | rt w μ => exact h
  | bk δ μ => exact h
  | ct δ μ => exact h
  | exc x δ μ => exact h
  | stuck => exact h
end

section
variable {X : Cx} {Wx : WX} {a b c e : Expr} {pos : Pos} {ma mb mc m : Sl → Mem → R W} {ta tb : Sl → Mem → R Bool} {es : List Expr} {ms : Sl → Mem → R (List W)} {st : Stmt} {sts rest : List Stmt} {f g h : Sl → Mem → F}
def sSeq (f g : Sl → Mem → F) : Sl → Mem → F := fun δ μ => (f δ μ).seq g
def sNil : Sl → Mem → F := fun δ μ => .nx δ μ
def sBrk : Sl → Mem → F := fun δ μ => .bk δ μ
def sCnt : Sl → Mem → F := fun δ μ => .ct δ μ
def sStuck : Sl → Mem → F := fun _ _ => .stuck
theorem mss_nil : MSs X Wx [] sNil := ⟨pss_nil.weak fun D σ H ⟨ρ, δ, μ, hm, hs, q⟩ => ress_nx q hm hs⟩
theorem mss_cons (h1 : MS X Wx st f) (h2 : MSs X Wx rest g) : MSs X Wx (st :: rest) (sSeq f g) :=
  ⟨(pss_cons h1.ps h2.ps).weak fun D σ H ⟨ρ, δ, μ, hm, hs, q⟩ => ⟨ρ, δ, μ, hm, hs, ResS.seq q fun ρ1 H1 δ1 μ1 σ1 e m1 s1 q1 => ⟨ρ1, δ1, μ1, m1, s1, q1⟩⟩⟩
theorem mss_one (h1 : MS X Wx st f) : MSs X Wx [st] f := ⟨pss_one h1.ps⟩
theorem ms_pass : MS X Wx (.Pass pos) sNil := ⟨ps_pass.weak fun D σ H ⟨ρ, δ, μ, hm, hs, q⟩ => ress_nx q hm hs⟩
theorem ms_break : MS X Wx (.Break pos) sBrk := ⟨ps_break.weak fun D σ H ⟨ρ, δ, μ, hm, hs, q⟩ => q ρ H σ (Ext.refl ρ H) hm hs⟩
theorem ms_continue : MS X Wx (.Continue pos) sCnt := ⟨ps_continue.weak fun D σ H ⟨ρ, δ, μ, hm, hs, q⟩ => q ρ H σ (Ext.refl ρ H) hm hs⟩
theorem ms_never : MS X Wx st sStuck := ⟨ps_never.weak fun D σ H ⟨ρ, δ, μ, hm, hs, q⟩ => q⟩
theorem mss_never : MSs X Wx sts sStuck := ⟨pss_never.weak fun D σ H ⟨ρ, δ, μ, hm, hs, q⟩ => q⟩
def sExpr (m : Sl → Mem → R W) : Sl → Mem → F := fun δ μ => (m δ μ).toF δ fun _ μ1 => .nx δ μ1
theorem ms_expr (he : ME X Wx e m) (hs : swapsWith e none pos.line X.env = pure false := by rfl) : MS X Wx (.Expr e pos) (sExpr m) :=
  ⟨(ps_expr he.pe hs).weak fun D σ H ⟨ρ, δ, μ, hm, hs, q⟩ => tM_toF hm hs q fun w ρ1 H1 μ1 x e1 m1 s1 rx q1 => ress_nx q1 m1 s1⟩
def sRet (m : Sl → Mem → R W) : Sl → Mem → F := fun δ μ => (m δ μ).toF δ fun w μ1 => .rt w μ1
theorem ms_ret (he : ME X Wx e m) : MS X Wx (.Return (some e) pos) (sRet m) :=
  ⟨(ps_ret he.pe).weak fun D σ H ⟨ρ, δ, μ, hm, hs, q⟩ => tM_toF hm hs q fun w ρ1 H1 μ1 x e1 m1 s1 rx q1 => ress_rt q1 m1 rx⟩
def sRetN : Sl → Mem → F := fun _ μ => .rt .non μ
theorem ms_retN : MS X Wx (.Return none pos) sRetN := ⟨ps_retN.weak fun D σ H ⟨ρ, δ, μ, hm, hs, q⟩ => ress_rt q hm .non⟩
def sIf (t : Sl → Mem → R Bool) (f g : Sl → Mem → F) : Sl → Mem → F := fun δ μ => (t δ μ).toF δ fun b μ1 => if b then f δ μ1 else g δ μ1
theorem ms_if {sa sb : List Stmt} (hc : MT X Wx c ta) (ha : MSs X Wx sa f) (hb : MSs X Wx sb g) : MS X Wx (.If c sa sb pos) (sIf ta f g) :=
  ⟨(ps_if hc.pt ha.ps hb.ps).weak fun D σ H ⟨ρ, δ, μ, hm, hs, q⟩ => tMt_toF hm hs q fun b ρ1 H1 μ1 e1 m1 s1 q1 => by
    cases b with
    | true => exact ⟨ρ1, δ, μ1, m1, s1, q1⟩
    | false => exact ⟨ρ1, δ, μ1, m1, s1, q1⟩⟩
def sSet (i : Nat) (m : Sl → Mem → R W) : Sl → Mem → F := fun δ μ => (m δ μ).toF δ fun w μ1 => .nx (δ.set i (some w)) μ1
theorem ms_set {i : Nat} {x : Str} {pos' : Pos} (hN : X.N.Nodup) (hi : X.N[i]? = some x) (hx : Loc X.env.scope x) (he : ME X Wx e m) (hs : swapsWith e (some (.Name x pos')) pos.line X.env = pure false := by rfl)
    (hf : X.fn x = true ∨ X.env.scope.names.lookup x = some .local := by first | exact .inl rfl | exact .inr rfl | assumption) : MS X Wx (.Assign [.Name x pos'] e pos) (sSet i m) :=
  ⟨(ps_set hN hi hx he.pe hs hf).weak fun D σ H ⟨ρ, δ, μ, hm, hs, q⟩ => tM_toF hm hs q fun w ρ1 H1 μ1 x e1 m1 s1 rx q1 => q1 ρ1 H1 _ (Ext.refl _ _) m1 (s1.set rx i)⟩
def sPar (i j : Nat) (ms : Sl → Mem → R (List W)) : Sl → Mem → F := fun δ μ => (ms δ μ).toF δ fun ws μ1 => match ws with
  | [v, w] => .nx ((δ.set i (some v)).set j (some w)) μ1
  | _ => .stuck
theorem ms_par {i j : Nat} {x y : Str} {px py pt : Pos} {kt k2 : Nat} {pt2 : Pos} (hc : X.calm = true) (hN : X.N.Nodup) (hi : X.N[i]? = some x) (hj : X.N[j]? = some y) (hij : i ≠ j)
    (hx : X.env.scope.names.lookup x = some .local) (hy : X.env.scope.names.lookup y = some .local) (ha : MA X Wx [a, b] ms)
    (hw : swappedStores [.Tuple [.Name x px, .Name y py] kt pt] (.Tuple [a, b] k2 pt2) X.env = pure (some [x, y]) := by rfl)
    (hs : swapsWithSole [.Tuple [.Name x px, .Name y py] kt pt] (.Tuple [a, b] k2 pt2) pos.line X.env = pure false := by rfl) :
    MS X Wx (.Assign [.Tuple [.Name x px, .Name y py] kt pt] (.Tuple [a, b] k2 pt2) pos) (sPar i j ms) :=
  ⟨(ps_par hc hN hi hj hij hx hy ha.pa hw hs).weak fun D σ H ⟨ρ, δ, μ, hm, hs, q⟩ => tMs_toF hm hs q fun ws ρ1 H1 μ1 xs e1 m1 s1 rx q1 => by
    cases rx with
    | nil => exact q1.elim
    | cons r1 t1 =>
      cases t1 with
      | nil => exact q1.elim
      | cons r2 t2 =>
        cases t2 with
        | nil => exact ⟨_, _, rfl, q1 ρ1 H1 _ (Ext.refl _ _) m1 ((s1.set r1 i).set r2 j)⟩
        | cons r3 t3 => exact q1.elim⟩

/-! ### targets of names -/
inductive Tg where
  | nm (i : Nat)
  | tp (ts : List Tg)
mutual
def tgL (K : PySem.W.Frag) : Tg → TG
  | .nm i => gName i
  | .tp ts => gTup K ts.length (tgsL K ts)
def tgsL (K : PySem.W.Frag) : List Tg → TGs
  | [] => gNil
  | t :: ts => gCons (tgL K t) (tgsL K ts)
end
mutual
def bindT : Tg → W → Sl → Option Sl
  | .nm i, w, δ => some (δ.set i (some w))
  | .tp ts, .tup xs, δ => bindTs ts xs δ
  | .tp _, _, _ => none
def bindTs : List Tg → List W → Sl → Option Sl
  | [], [], δ => some δ
  | t :: ts, x :: xs, δ => (bindT t x δ).bind (bindTs ts xs)
  | _, _, _ => none
end
mutual
def slotsT : Tg → List Nat
  | .nm i => [i]
  | .tp ts => slotsTs ts
def slotsTs : List Tg → List Nat
  | [] => []
  | t :: ts => slotsT t ++ slotsTs ts
end
/-- all but some slots as they were -/
def Agree (is : List Nat) (σ σ' : L2.St) : Prop := σ'.length = σ.length ∧ ∀ k, k ∉ is → σ'[k]? = σ[k]?
theorem Agree.refl (is : List Nat) (σ : L2.St) : Agree is σ σ := ⟨rfl, fun _ _ => rfl⟩
theorem Agree.trans {is js : List Nat} {σ σ1 σ2 : L2.St} (a : Agree is σ σ1) (b : Agree js σ1 σ2) : Agree (is ++ js) σ σ2 :=
  ⟨b.1.trans a.1, fun k hk => (b.2 k fun z => hk (List.mem_append_right _ z)).trans (a.2 k fun z => hk (List.mem_append_left _ z))⟩
theorem bindTs_len : ∀ {ts : List Tg} {xs : List W} {δ δ' : Sl}, bindTs ts xs δ = some δ' → xs.length = ts.length
  | [], [], _, _, _ => rfl
  | [], _ :: _, _, _, h => by simp [bindTs] at h
  | _ :: _, [], _, _, h => by simp [bindTs] at h
  | t :: ts, x :: xs, δ, δ', h => by
    unfold bindTs at h
    cases e : bindT t x δ with
    | none => rw [e] at h; cases h
    | some δ1 => rw [e] at h; exact congrArg Nat.succ (bindTs_len (ts := ts) (xs := xs) h)
mutual
theorem bindT_ok {K : PySem.W.Frag} {ρ : List Addr} {H : Hp} : ∀ (T : Tg) {w : W} {v : V} {δ δ' : Sl} {σ : L2.St} {Q : L2.St → Hp → Prop}, RW K ρ H w v → RS K ρ H δ σ → bindT T w δ = some δ' → (∀ σ', RS K ρ H δ' σ' → Agree (slotsT T) σ σ' → Q σ' H) → tgL K T v σ H Q
  | .nm i, w, v, δ, δ', σ, Q, r, s, e, k => by
    unfold bindT at e
    cases e
    unfold tgL
    refine k _ (s.set r i) ⟨List.length_set .., fun j hj => ?_⟩
    rw [List.getElem?_set_ne]
    intro z
    exact hj (by unfold slotsT; rw [z]; exact List.mem_singleton_self _)
  | .tp ts, w, v, δ, δ', σ, Q, r, s, e, k => by
    cases r with
    | @tup xs vs a hq hr =>
      unfold bindT at e
      unfold tgL
      refine ⟨a, vs, rfl, hq, by rw [hr.length, bindTs_len e], bindTs_ok ts hr s e fun σ' s' ag => k σ' s' ?_⟩
      unfold slotsT
      exact ag
    | _ => unfold bindT at e; cases e
theorem bindTs_ok {K : PySem.W.Frag} {ρ : List Addr} {H : Hp} : ∀ (T : List Tg) {ws : List W} {vs : List V} {δ δ' : Sl} {σ : L2.St} {Q : L2.St → Hp → Prop}, RWs K ρ H ws vs → RS K ρ H δ σ → bindTs T ws δ = some δ' → (∀ σ', RS K ρ H δ' σ' → Agree (slotsTs T) σ σ' → Q σ' H) → tgsL K T vs σ H Q
  | [], ws, vs, δ, δ', σ, Q, r, s, e, k => by
    cases r with
    | nil =>
      unfold bindTs at e
      cases e
      unfold tgsL
      exact ⟨rfl, k _ s (Agree.refl _ _)⟩
    | cons _ _ => simp [bindTs] at e
  | t :: ts, ws, vs, δ, δ', σ, Q, r, s, e, k => by
    cases r with
    | nil => simp [bindTs] at e
    | @cons x v xs us r1 r2 =>
      unfold bindTs at e
      cases e1 : bindT t x δ with
      | none => rw [e1] at e; cases e
      | some δ1 =>
        rw [e1] at e
        unfold tgsL
        refine ⟨v, us, rfl, bindT_ok t r1 s e1 fun σ1 s1 a1 => bindTs_ok ts r2 s1 e fun σ2 s2 a2 => k σ2 s2 ?_⟩
        unfold slotsTs
        exact a1.trans a2
end
/-- the target's rule, its reading by its shape -/
structure MG (X : Cx) (tg : Expr) (T : Tg) : Prop where
  pg : PG X tg (tgL X.K T)
structure MGs (X : Cx) (tgs : List Expr) (T : List Tg) : Prop where
  pgs : PGs X tgs (tgsL X.K T)
  len : tgs.length = T.length
theorem mg_nm {i : Nat} {x : Str} (hN : X.N.Nodup) (hi : X.N[i]? = some x) (hx : Loc X.env.scope x) (hf : X.fn x = true ∨ X.env.scope.names.lookup x = some .local := by first | exact .inl rfl | exact .inr rfl | assumption) : MG X (.Name x pos) (.nm i) :=
  ⟨by unfold tgL; exact pg_name hN hi hx hf⟩
theorem mgs_nil : MGs X [] [] := ⟨by unfold tgsL; exact pgs_nil, rfl⟩
theorem mgs_cons {t : Tg} {ts : List Tg} (h1 : MG X e t) (h2 : MGs X es ts) (hs : (assignEach (e :: es) X.env).map (·.2) = assign e X.env :: (assignEach es X.env).map (·.2) := by rfl) : MGs X (e :: es) (t :: ts) :=
  ⟨by unfold tgsL; exact pgs_cons h1.pg h2.pgs hs, congrArg Nat.succ h2.len⟩
theorem mg_tp {k : Nat} {ts : List Tg} (hc : X.calm = true) (h : MGs X es ts) (hn : (assignEach es X.env).length = ts.length := by rfl) (hst : (assignEach es X.env).findIdx? (·.1) = none := by rfl) : MG X (.Tuple es k pos) (.tp ts) :=
  ⟨by unfold tgL; exact pg_tup hc h.pgs hn hst⟩
/-- a, b = e -/
def sAsg (T : Tg) (m : Sl → Mem → R W) : Sl → Mem → F := fun δ μ => (m δ μ).toF δ fun w μ1 => match bindT T w δ with
  | some δ' => .nx δ' μ1
  | none => .stuck
theorem ms_asg {tg : Expr} {T : Tg} (he : ME X Wx e m) (hg : MG X tg T) (hs : swapsWithSole [tg] e pos.line X.env = pure false := by rfl) (hw : swappedStores [tg] e X.env = pure none := by rfl)
    (h1 : (assignEach [tg] X.env).map (·.2) = [assign tg X.env] := by rfl) : MS X Wx (.Assign [tg] e pos) (sAsg T m) :=
  ⟨(ps_asg he.pe hg.pg hs hw h1).weak fun D σ H ⟨ρ, δ, μ, hm, hs, q⟩ => tM_toF hm hs q fun w ρ1 H1 μ1 x e1 m1 s1 rx q1 => by
    cases eb : bindT T w δ with
    | none => rw [eb] at q1; exact q1.elim
    | some δ' =>
      rw [eb] at q1
      exact bindT_ok T rx s1 eb fun σ' s' _ => q1 ρ1 H1 σ' (Ext.refl _ _) m1 s'⟩
/-- o[i] = e -/
abbrev Op3 := W → W → W → Mem → Option Mem
def rM3 (K : PySem.W.Frag) (f : Op3) : TSet := fun o i v H Q => ∃ ρ μ a b c μ', RM K ρ H μ ∧ RW K ρ H a o ∧ RW K ρ H b i ∧ RW K ρ H c v ∧ f a b c μ = some μ' ∧ ∀ ρ' H', Ext ρ H ρ' H' → RM K ρ' H' μ' → Q H'
def sSub (f : Op3) (m mo mi : Sl → Mem → R W) : Sl → Mem → F := fun δ μ => (m δ μ).toF δ fun w μ1 => (mo δ μ1).toF δ fun o μ2 => (mi δ μ2).toF δ fun i μ3 => match f o i w μ3 with
  | some μ4 => .nx δ μ4
  | none => .stuck
theorem ms_sub {o i : Expr} {p : Pos} {f : Op3} (hf : PSet X (rM3 X.K f)) (he : ME X Wx e m) (ho : ME X Wx o ma) (hi : ME X Wx i mb) (hpg : ∀ {to ti : TE} {t : TSet}, PE X o to → PE X i ti → PSet X t → PG X (.Subscript o i p) (gSub to ti t) := by intro _ _ _ h1 h2 h3; exact pg_sub h1 h2 h3)
    (hs : swapsWithSole [.Subscript o i p] e pos.line X.env = pure false := by rfl) (hw : swappedStores [.Subscript o i p] e X.env = pure none := by rfl)
    (h1 : (assignEach [.Subscript o i p] X.env).map (·.2) = [assign (.Subscript o i p) X.env] := by rfl) : MS X Wx (.Assign [.Subscript o i p] e pos) (sSub f m ma mb) :=
  ⟨(ps_asg he.pe (hpg ho.pe hi.pe hf) hs hw h1).weak fun D σ H ⟨ρ, δ, μ, hm, hs, q⟩ => tM_toF hm hs q fun w ρ1 H1 μ1 x e1 m1 s1 rx q1 =>
    tM_toF m1 s1 q1 fun wo ρ2 H2 μ2 xo e2 m2 s2 ro q2 => tM_toF m2 s2 q2 fun wi ρ3 H3 μ3 xi e3 m3 s3 ri q3 => by
      cases eb : f wo wi w μ3 with
      | none => rw [eb] at q3; exact q3.elim
      | some μ4 =>
        rw [eb] at q3
        exact ⟨ρ3, μ3, wo, wi, w, μ4, m3, ro.mono e3, ri, (rx.mono e2).mono e3, eb, fun ρ' H' e' m' => q3 ρ' H' σ e' m' (s3.mono e')⟩⟩
/-- x op= e -/
def sAug (i : Nat) (f : Op2) (m : Sl → Mem → R W) : Sl → Mem → F := fun δ μ => match δ[i]? with
  | some (some x) => (m δ μ).toF δ fun y μ1 => (R.ofO (f x y μ1)).toF δ fun z μ2 => .nx (δ.set i (some z)) μ2
  | _ => .stuck
theorem ms_aug {i : Nat} {x : Str} {op : Operator} {f : Op2} {pos' : Pos} (ho : PIp X op (rM2 X.K f)) (hN : X.N.Nodup) (hi : X.N[i]? = some x) (hx : Loc X.env.scope x) (he : ME X Wx e m)
    (hf : X.fn x = true ∨ X.env.scope.names.lookup x = some .local := by first | exact .inl rfl | exact .inr rfl | assumption) : MS X Wx (.AugAssign (.Name x pos') op e pos) (sAug i f m) :=
  ⟨(ps_aug hN hi hx he.pe ho hf).weak fun D σ H ⟨ρ, δ, μ, hm, hs, q⟩ => by
    unfold sAug at q
    cases ed : δ[i]? with
    | none => rw [ed] at q; exact q.elim
    | some o =>
      rw [ed] at q
      cases o with
      | none => exact q.elim
      | some x0 =>
        obtain ⟨v, h1, h2⟩ := hs.get ed
        refine ⟨v, h1, tM_toF hm hs q fun y ρ1 H1 μ1 yv e1 m1 s1 ry q1 => ⟨ρ1, μ1, x0, y, m1, h2.mono e1, ry, ?_⟩⟩
        cases er : f x0 y μ1 with
        | none => rw [er] at q1; exact q1.elim
        | some p =>
          obtain ⟨z, μ2⟩ := p
          rw [er] at q1
          exact ⟨z, μ2, rfl, fun ρ' H' zv e' m' rz => q1 ρ' H' _ e' m' ((s1.mono e').set rz i)⟩⟩

/-! ### for -/
/-- what is walked: items known ahead, whatever happens in between -/
def StW (K : PySem.W.Frag) (J : It) (xs : List W) (ρ0 : List Addr) (H0 : Hp) : Prop := ∀ ρ H μ, Ext ρ0 H0 ρ H → RM K ρ H μ →
  (∀ i x, xs[i]? = some x → J.go i H ∧ ∀ v H', J.yld i H v H' → Ext ρ H ρ H' ∧ RM K ρ H' μ ∧ RW K ρ H' x v) ∧ J.stop xs.length H
/-- items known ahead, or a list that is read at each turn -/
inductive Src where
  | items (xs : List W)
  | dyn (get : Mem → Nat → Option (Option W))
def Walks (K : PySem.W.Frag) (J : It) (ρ0 : List Addr) (H0 : Hp) : Src → Prop
  | .items xs => StW K J xs ρ0 H0
  | .dyn get => ∀ ρ H μ, Ext ρ0 H0 ρ H → RM K ρ H μ → ∀ i, (get μ i = some none → J.stop i H) ∧ ∀ x, get μ i = some (some x) → J.go i H ∧ ∀ v H', J.yld i H v H' → Ext ρ H ρ H' ∧ RM K ρ H' μ ∧ RW K ρ H' x v
def tMI (K : PySem.W.Frag) (Wx : WX) (m : Sl → Mem → R Src) : TI := fun σ H R => ∃ ρ δ μ, RM K ρ H μ ∧ RS K ρ H δ σ ∧ Res K (fun c d H' => Wx c d σ H') ρ H (m δ μ) (fun s ρ' H' _ => ∀ J, Walks K J ρ' H' s → R J H')
structure MI (X : Cx) (Wx : WX) (tg e : Expr) (m : Sl → Mem → R Src) : Prop where
  pi : PI X tg e (tMI X.K Wx m)
theorem _root_.L2.PI.weak {X : Cx} {tg e : Expr} {t t' : TI} (h : PI X tg e t) (k : ∀ σ H R, t' σ H R → t σ H R) : PI X tg e t' := ⟨fun pins s σ H R I q => h.run pins s σ H R I (k σ H R q)⟩
def F.loop (f : F) (k : Sl → Mem → F) : F := match f with
  | .nx δ μ => k δ μ
  | .ct δ μ => k δ μ
  | .bk δ μ => .nx δ μ
  | .rt w μ => .rt w μ
  | .exc x δ μ => .exc x δ μ
  | .stuck => .stuck
def forX (T : Tg) (body : Sl → Mem → F) : List W → Sl → Mem → F
  | [], δ, μ => .nx δ μ
  | x :: xs, δ, μ => match bindT T x δ with
    | none => .stuck
    | some δ1 => (body δ1 μ).loop (forX T body xs)
def forL (T : Tg) (body : Sl → Mem → F) (get : Mem → Nat → Option (Option W)) : Nat → Nat → Sl → Mem → F
  | 0, _, _, _ => .stuck
  | k + 1, i, δ, μ => match get μ i with
    | none => .stuck
    | some none => .nx δ μ
    | some (some x) => match bindT T x δ with
      | none => .stuck
      | some δ1 => (body δ1 μ).loop (forL T body get k (i + 1))
def sFor (m : Sl → Mem → R Src) (T : Tg) (body : Sl → Mem → F) : Sl → Mem → F := fun δ μ => (m δ μ).toF δ fun s μ1 => match s with
  | .items xs => forX T body xs δ μ1
  | .dyn get => forL T body get 1000000 0 δ μ1
/-- the body's ends in a loop -/
theorem ResS.loop {K : PySem.W.Frag} {D : Ends} {ρ : List Addr} {H : Hp} {f : F} {k : Sl → Mem → F} {N : L2.St → Hp → Prop} (h : ResS K Wx D ρ H (f.loop k))
    (go : ∀ ρ1 H1 δ μ σ, Ext ρ H ρ1 H1 → RM K ρ1 H1 μ → RS K ρ1 H1 δ σ → ResS K Wx D ρ1 H1 (k δ μ) → N σ H1) : ResS K Wx { D with nx := N, ct := N, bk := D.nx } ρ H f := by
  cases f with
  | nx δ μ => exact fun ρ' H' σ' e m s => go ρ' H' δ μ σ' e m s (ResS.from e h)
  | ct δ μ => exact fun ρ' H' σ' e m s => go ρ' H' δ μ σ' e m s (ResS.from e h)
  | rt w μ => exact h
  | bk δ μ => exact h
  | exc x δ μ => exact h
  | stuck => exact h
theorem SqL.inj0 {H : Hp} {a : Addr} {xs ys : List V} (h : H a = some (.lst xs)) (h' : Rd H a (.lst ys)) : xs = ys := by
  rcases h' with h' | ⟨o, h'⟩
  · rw [h] at h'; cases h'; rfl
  · rw [h] at h'; cases h'
theorem ms_for {tg it : Expr} {T : Tg} {mi : Sl → Mem → R Src} (hp : PassesOwn (model X.prog X.w) X.A X.env X.xe) (hc : X.calm = true) (hi : MI X Wx tg it mi) (hg : MG X tg T) (hb : MSs X Wx sts f)
    (hs : ∀ x, foldedSetIterable it X.env x = pure x := by intro _; rfl) : MS X Wx (.For tg it sts [] pos) (sFor mi T f) :=
  ⟨(ps_for hp hc hi.pi hg.pg hb.ps hs).weak fun D σ H ⟨ρ, δ, μ, hm, hs, q⟩ => by
    refine ⟨ρ, δ, μ, hm, hs, (ResS.toF hs q).imp fun src ρ1 H1 μ1 e1 m1 q1 J hJ => ?_⟩
    cases src with
    | items xs =>
      refine ⟨fun i mm σ' H' => mm = xs.length - i ∧ i ≤ xs.length ∧ ∃ ρ' δ' μ', Ext ρ1 H1 ρ' H' ∧ RM X.K ρ' H' μ' ∧ RS X.K ρ' H' δ' σ' ∧ ResS X.K Wx D ρ' H' (forX T f (xs.drop i) δ' μ'), ⟨xs.length, by simp, Nat.zero_le _, ρ1, δ, μ1, Ext.refl _ _, m1, hs.mono e1, q1⟩, ?_⟩
      rintro i mm σ' H' ⟨rfl, hi, ρ', δ', μ', e', m', s', q'⟩
      obtain ⟨go, stop⟩ := hJ ρ' H' μ' e' m'
      by_cases hlt : i < xs.length
      · have hx : xs[i]? = some xs[i] := List.getElem?_eq_some_iff.mpr ⟨hlt, rfl⟩
        obtain ⟨g1, g2⟩ := go i _ hx
        refine .inr ⟨g1, fun σ2 H2 => ∃ ρ2 δ2 μ2, Ext ρ1 H1 ρ2 H2 ∧ RM X.K ρ2 H2 μ2 ∧ RS X.K ρ2 H2 δ2 σ2 ∧ ResS X.K Wx D ρ2 H2 (forX T f (xs.drop (i + 1)) δ2 μ2), fun σ2 H2 n2 => ⟨xs.length - (i + 1), by omega, rfl, hlt, n2⟩, fun v H2 y => ?_⟩
        obtain ⟨e2, m2, rv⟩ := g2 v H2 y
        rw [List.drop_eq_getElem_cons hlt] at q'
        unfold forX at q'
        cases eb : bindT T xs[i] δ' with
        | none => rw [eb] at q'; exact q'.elim
        | some δ1 =>
          rw [eb] at q'
          refine bindT_ok T rv (s'.mono e2) eb fun σ3 s3 _ => ⟨ρ', δ1, μ', m2, s3, ResS.loop (ResS.from e2 q') fun ρ4 H4 δ4 μ4 σ4 e4 m4 s4 q4 => ⟨ρ4, δ4, μ4, (e'.trans e2).trans e4, m4, s4, q4⟩⟩
      · have ei : i = xs.length := by omega
        subst ei
        rw [List.drop_eq_nil_of_le (Nat.le_refl _)] at q'
        exact .inl ⟨stop, ress_nx q' m' s'⟩
    | dyn get =>
      refine ⟨fun i mm σ' H' => ∃ ρ' δ' μ', Ext ρ1 H1 ρ' H' ∧ RM X.K ρ' H' μ' ∧ RS X.K ρ' H' δ' σ' ∧ ResS X.K Wx D ρ' H' (forL T f get mm i δ' μ'), ⟨1000000, ρ1, δ, μ1, Ext.refl _ _, m1, hs.mono e1, q1⟩, ?_⟩
      rintro i mm σ' H' ⟨ρ', δ', μ', e', m', s', q'⟩
      cases mm with
      | zero => exact q'.elim
      | succ mm =>
        obtain ⟨w1, w2⟩ := hJ ρ' H' μ' e' m' i
        have q' : ResS X.K Wx D ρ' H' (match get μ' i with
          | none => .stuck
          | some none => .nx δ' μ'
          | some (some x) => match bindT T x δ' with
            | none => .stuck
            | some δ1 => (f δ1 μ').loop (forL T f get mm (i + 1))) := q'
        cases eg : get μ' i with
        | none => rw [eg] at q'; exact q'.elim
        | some o =>
          rw [eg] at q' w1 w2
          cases o with
          | none => exact .inl ⟨w1 rfl, ress_nx q' m' s'⟩
          | some x =>
            have q' : ResS X.K Wx D ρ' H' (match bindT T x δ' with
                | none => .stuck
                | some δ1 => (f δ1 μ').loop (forL T f get mm (i + 1))) := q'
            obtain ⟨g1, g2⟩ := w2 x rfl
            refine .inr ⟨g1, fun σ2 H2 => ∃ ρ2 δ2 μ2, Ext ρ1 H1 ρ2 H2 ∧ RM X.K ρ2 H2 μ2 ∧ RS X.K ρ2 H2 δ2 σ2 ∧ ResS X.K Wx D ρ2 H2 (forL T f get mm (i + 1) δ2 μ2), fun σ2 H2 n2 => ⟨mm, Nat.lt_succ_self _, n2⟩, fun v' H2 y => ?_⟩
            obtain ⟨e2, m2, rv⟩ := g2 v' H2 y
            cases eb : bindT T x δ' with
            | none => rw [eb] at q'; exact q'.elim
            | some δ1 =>
              rw [eb] at q'
              exact bindT_ok T rv (s'.mono e2) eb fun σ3 s3 _ => ⟨ρ', δ1, μ', m2, s3, ResS.loop (ResS.from e2 q') fun ρ4 H4 δ4 μ4 σ4 e4 m4 s4 q4 => ⟨ρ4, δ4, μ4, (e'.trans e2).trans e4, m4, s4, q4⟩⟩⟩

/-! ### what is walked -/
theorem rw_loc {K : PySem.W.Frag} {ρ : List Addr} {H : Hp} {n : Nat} {v : V} (r : RW K ρ H (.loc n) v) : ∃ a, v = .ref a ∧ ρ[n]? = some a := by
  cases r with
  | loc h => exact ⟨_, rfl, h⟩
theorem rw_tup {K : PySem.W.Frag} {ρ : List Addr} {H : Hp} {xs : List W} {v : V} (r : RW K ρ H (.tup xs) v) : ∃ a vs, v = .ref a ∧ SqT K H a vs ∧ RWs K ρ H xs vs := by
  cases r with
  | tup h1 h2 => exact ⟨_, _, rfl, h1, h2⟩
theorem rw_str {K : PySem.W.Frag} {ρ : List Addr} {H : Hp} {s : Str} {v : V} (r : RW K ρ H (.str s) v) : v = .str s ∧ PyData.strOk s = true := by
  cases r with
  | str h => exact ⟨rfl, h⟩
theorem pi_or {tg : Expr} {t u : TI} (h1 : PI X tg e t) (h2 : PI X tg e u) : PI X tg e (fun σ H R => t σ H R ∨ u σ H R) := ⟨fun pins s σ H R I q => q.elim (h1.run pins s σ H R I) (h2.run pins s σ H R I)⟩
theorem walkW_tup {K : PySem.W.Frag} {ρ : List Addr} {H : Hp} {a : Addr} {xs : List W} {vs : List V} (h1 : SqT K H a vs) (h2 : RWs K ρ H xs vs) : StW K (Itt K a) xs ρ H := fun ρ' H' μ' e m => by
  refine ⟨fun i x hx => ?_, ⟨vs, e.sqT h1, by rw [h2.length]; exact Nat.le_refl _⟩⟩
  obtain ⟨v, hv, rv⟩ := h2.get hx
  refine ⟨⟨vs, v, e.sqT h1, hv⟩, fun v' H2 y => ?_⟩
  obtain ⟨rfl, y⟩ := y
  have hv' := y vs (e.sqT h1)
  rw [hv] at hv'
  cases hv'
  exact ⟨Ext.refl _ _, m, rv.mono e⟩
/-- the signs of a text -/
def signs (s : Str) : List W := s.cps.toList.map fun c => .str ⟨#[c]⟩
theorem strOk_sign {s : Str} (h : PyData.strOk s = true) {c : Nat} (hc : c ∈ s.cps.toList) : PyData.strOk ⟨#[c]⟩ = true := by
  have h1 : s.cps.all (· < 0x110000) = true := h
  have h2 := Array.all_eq_true'.mp h1 c (by simpa using hc)
  show (#[c] : Array Nat).all (· < 0x110000) = true
  simpa using h2
theorem walkW_str {K : PySem.W.Frag} {ρ : List Addr} {H : Hp} {s : Str} (h : PyData.strOk s = true) : StW K (Its s) (signs s) ρ H := fun ρ' H' μ' e m => by
  have hl : (signs s).length = s.cps.size := by simp [signs]
  refine ⟨fun i x hx => ?_, by show s.cps.size ≤ _; rw [hl]; exact Nat.le_refl _⟩
  have hi : i < s.cps.size := by rw [← hl]; exact (List.getElem?_eq_some_iff.mp hx).1
  refine ⟨hi, fun v' H2 y => ?_⟩
  obtain ⟨rfl, c, hc, rfl⟩ := y
  have hx' : x = .str ⟨#[c]⟩ := by
    unfold signs at hx
    rw [List.getElem?_map, Array.getElem?_toList, hc] at hx
    exact (Option.some.inj hx).symm
  subst hx'
  refine ⟨Ext.refl _ _, m, .str (strOk_sign h ?_)⟩
  rw [← Array.getElem?_toList] at hc
  exact List.mem_of_getElem? hc
def getAt (n : Nat) : Mem → Nat → Option (Option W) := fun μ i => (getL μ n).map fun xs => xs[i]?
theorem walks_list {K : PySem.W.Frag} {ρ : List Addr} {H : Hp} {n : Nat} {a : Addr} (ha : ρ[n]? = some a) : Walks K (Itl K a) ρ H (.dyn (getAt n)) := fun ρ' H' μ' e m i => by
  unfold getAt
  cases eg : getL μ' n with
  | none => refine ⟨fun z => ?_, fun x z => ?_⟩ <;> cases z
  | some xs =>
    obtain ⟨vs, h1, h2⟩ := rm_lst m eg (e.get ha)
    refine ⟨fun z => ⟨vs, SqL.of h1, ?_⟩, fun x z => ?_⟩
    · rw [h2.length]
      exact List.getElem?_eq_none_iff.mp (Option.some.inj z)
    · obtain ⟨v, hv, rv⟩ := h2.get (Option.some.inj z)
      refine ⟨⟨vs, v, SqL.of h1, hv⟩, fun v' H2 y => ?_⟩
      obtain ⟨rfl, y⟩ := y
      have hv' := y vs (SqL.of h1)
      rw [hv] at hv'
      cases hv'
      exact ⟨Ext.refl _ _, m, rv⟩
theorem walkW_fl {K : PySem.W.Frag} {ρ : List Addr} {H : Hp} {a : Addr} {xs : List W} {vs : List V} (h1 : SqF K H a vs) (h2 : RWs K ρ H xs vs) : StW K (Itl K a) xs ρ H := fun ρ' H' μ' e m => by
  have q : SqL K H' a vs := (e.grow.sqF h1).sqL
  refine ⟨fun i x hx => ?_, ⟨vs, q, by rw [h2.length]; exact Nat.le_refl _⟩⟩
  obtain ⟨v, hv, rv⟩ := h2.get hx
  refine ⟨⟨vs, v, q, hv⟩, fun v' H2 y => ?_⟩
  obtain ⟨rfl, y⟩ := y
  have hv' := y vs q
  rw [hv] at hv'
  cases hv'
  exact ⟨Ext.refl _ _, m, rv.mono e⟩
theorem rw_fl {K : PySem.W.Frag} {ρ : List Addr} {H : Hp} {xs : List W} {v : V} (r : RW K ρ H (.fl xs) v) : ∃ a vs, v = .ref a ∧ SqF K H a vs ∧ RWs K ρ H xs vs := by
  cases r with
  | fl h1 h2 => exact ⟨_, _, rfl, h1, h2⟩
/-- the walk over a value -/
def iVal (ma : Sl → Mem → R W) : Sl → Mem → R Src := fun δ μ => (ma δ μ).bind fun x μ1 => match x with
  | .loc n => match getL μ1 n with
    | some _ => .ok (.dyn (getAt n)) μ1
    | none => .stuck
  | .tup xs => .ok (.items xs) μ1
  | .fl xs => .ok (.items xs) μ1
  | .str s => .ok (.items (signs s)) μ1
  | _ => .stuck
theorem mi_val {tg : Expr} (he : ME X Wx e ma) : MI X Wx tg e (iVal ma) :=
  ⟨(pi_or (pi_or (pi_list he.pe) (pi_tup he.pe)) (pi_str he.pe)).weak fun σ H R ⟨ρ, δ, μ, hm, hs, q⟩ => by
    unfold iVal at q
    have q2 := Res.bind q
    cases em : ma δ μ with
    | exc x μ1 => rw [em] at q2; exact .inl (.inl ⟨ρ, δ, μ, hm, hs, by rw [em]; exact q2⟩)
    | stuck => rw [em] at q2; exact q2.elim
    | ok x μ1 =>
      rw [em] at q2
      cases x with
      | loc n =>
        refine .inl (.inl ⟨ρ, δ, μ, hm, hs, ?_⟩)
        rw [em]
        intro ρ1 H1 e1 m1 v rv
        obtain ⟨a, rfl, ha⟩ := rw_loc rv
        have q3 := q2 ρ1 H1 e1 m1
        have q3 : Res X.K (fun c d H' => Wx c d σ H') ρ1 H1 (match getL μ1 n with
          | some _ => .ok (.dyn (getAt n)) μ1
          | none => .stuck) (fun s ρ' H' _ => ∀ J, Walks X.K J ρ' H' s → R J H') := q3
        cases eg : getL μ1 n with
        | none => rw [eg] at q3; exact q3.elim
        | some xs =>
          rw [eg] at q3
          obtain ⟨vs, h1, _⟩ := rm_lst m1 eg ha
          exact ⟨a, rfl, ⟨vs, SqL.of h1⟩, res_ok q3 m1 _ (walks_list ha)⟩
      | tup xs =>
        refine .inl (.inr ⟨ρ, δ, μ, hm, hs, ?_⟩)
        rw [em]
        intro ρ1 H1 e1 m1 v rv
        obtain ⟨a, vs, rfl, h1, h2⟩ := rw_tup rv
        exact ⟨a, rfl, ⟨vs, h1⟩, res_ok (q2 ρ1 H1 e1 m1) m1 _ (walkW_tup h1 h2)⟩
      | fl xs =>
        refine .inl (.inl ⟨ρ, δ, μ, hm, hs, ?_⟩)
        rw [em]
        intro ρ1 H1 e1 m1 v rv
        obtain ⟨a, vs, rfl, h1, h2⟩ := rw_fl rv
        exact ⟨a, rfl, ⟨vs, h1.sqL⟩, res_ok (q2 ρ1 H1 e1 m1) m1 _ (walkW_fl h1 h2)⟩
      | str s =>
        refine .inr ⟨ρ, δ, μ, hm, hs, ?_⟩
        rw [em]
        intro ρ1 H1 e1 m1 v rv
        obtain ⟨rfl, h1⟩ := rw_str rv
        exact ⟨s, rfl, res_ok (q2 ρ1 H1 e1 m1) m1 _ (walkW_str h1)⟩
      | _ =>
        refine .inl (.inl ⟨ρ, δ, μ, hm, hs, ?_⟩)
        rw [em]
        intro ρ1 H1 e1 m1 v rv
        exact (q2 ρ1 H1 e1 m1).elim⟩
end
end Mi

set_option Elab.async false
set_option linter.all false
set_option maxRecDepth 100000
set_option maxHeartbeats 1000000
set_option autoImplicit false
namespace Mi
open PySem L2

/-! ### ranges -/
section
variable {X : Cx} {Wx : WX} {a b c e tg : Expr} {pos : Pos} {ma mb mc m : Sl → Mem → R W} {ta tb : Sl → Mem → R Bool} {es : List Expr} {ms : Sl → Mem → R (List W)} {st : Stmt} {sts rest : List Stmt} {f g h : Sl → Mem → F}
def rangeW (lo : Int) (n : Nat) : List W := (List.range n).map fun (k : Nat) => W.int (lo + Int.ofNat k)
theorem rangeW_get {lo : Int} {n i : Nat} {x : W} (h : (rangeW lo n)[i]? = some x) : i < n ∧ x = .int (lo + (i : Int)) := by
  unfold rangeW at h
  rw [List.getElem?_map] at h
  by_cases hi : i < n
  · rw [List.getElem?_range hi] at h
    exact ⟨hi, (Option.some.inj h).symm⟩
  · rw [List.getElem?_eq_none (by simp; omega)] at h
    cases h
theorem rangeW_len {lo : Int} {n : Nat} : (rangeW lo n).length = n := by simp [rangeW]
theorem walkW_range {K : PySem.W.Frag} {ρ : List Addr} {H : Hp} {lo : Int} {n : Nat} : StW K (Itr lo n) (rangeW lo n) ρ H := fun ρ' H' μ' e m => by
  refine ⟨fun i x hx => ?_, by show n ≤ _; rw [rangeW_len]; exact Nat.le_refl _⟩
  obtain ⟨hi, rfl⟩ := rangeW_get hx
  refine ⟨hi, fun v H2 y => ?_⟩
  obtain ⟨rfl, rfl⟩ := y
  exact ⟨Ext.refl _ _, m, .int _⟩
def rng1 (ws : List W) (μ : Mem) : R Src := match ws with
  | [.int j] => if -4611686018427387904 ≤ j ∧ j < 4611686018427387904 then .ok (.items (rangeW 0 j.toNat)) μ else .stuck
  | _ => .stuck
def rng2 (ws : List W) (μ : Mem) : R Src := match ws with
  | [.int i, .int j] => if -4611686018427387904 ≤ i ∧ i < 4611686018427387904 ∧ -4611686018427387904 ≤ j ∧ j < 4611686018427387904 then .ok (.items (rangeW i (j - i).toNat)) μ else .stuck
  | _ => .stuck
def iArgs (g : List W → Mem → R Src) (ms : Sl → Mem → R (List W)) : Sl → Mem → R Src := fun δ μ => (ms δ μ).bind g
theorem rws_1 {K : PySem.W.Frag} {ρ : List Addr} {H : Hp} {x : W} {vs : List V} (r : RWs K ρ H [x] vs) : ∃ v, vs = [v] ∧ RW K ρ H x v := by
  cases r with
  | cons r t => cases t; exact ⟨_, rfl, r⟩
theorem rws_2 {K : PySem.W.Frag} {ρ : List Addr} {H : Hp} {x y : W} {vs : List V} (r : RWs K ρ H [x, y] vs) : ∃ v u, vs = [v, u] ∧ RW K ρ H x v ∧ RW K ρ H y u := by
  cases r with
  | cons r t =>
    obtain ⟨u, rfl, r2⟩ := rws_1 t
    exact ⟨_, u, rfl, r, r2⟩
theorem rws_3 {K : PySem.W.Frag} {ρ : List Addr} {H : Hp} {x y z : W} {vs : List V} (r : RWs K ρ H [x, y, z] vs) : ∃ v u t, vs = [v, u, t] ∧ RW K ρ H x v ∧ RW K ρ H y u ∧ RW K ρ H z t := by
  cases r with
  | cons r t =>
    obtain ⟨u, t2, rfl, r2, r3⟩ := rws_2 t
    exact ⟨_, u, t2, rfl, r, r2, r3⟩
theorem mi_range1 {p : Pos} (hg : Gl X "range") (hm : X.mg "range" = none) (ha : MA X Wx [a] ms) (hs : starEach [a] X.env = [(false, eval a X.env)] := by rfl) : MI X Wx tg (.Call (.Name "range" p) [a] [] pos) (iArgs rng1 ms) :=
  ⟨(pi_range1 hg hm ha.pa hs).weak fun σ H R ⟨ρ, δ, μ, hm, hs, q⟩ => by
    refine ⟨ρ, δ, μ, hm, hs, (Res.bind (show Res X.K _ ρ H ((ms δ μ).bind rng1) _ from q)).imp fun ws ρ1 H1 μ1 e1 m1 q1 vs rv => ?_⟩
    unfold rng1 at q1
    split at q1
    · rename_i j
      obtain ⟨v, rfl, r1⟩ := rws_1 rv
      cases rw_int r1
      split at q1
      · rename_i hb
        exact ⟨j, rfl, hb.1, hb.2, res_ok q1 m1 _ walkW_range⟩
      · exact q1.elim
    · exact q1.elim⟩
theorem mi_range2 {p : Pos} (hg : Gl X "range") (hm : X.mg "range" = none) (ha : MA X Wx [a, b] ms) (hs : starEach [a, b] X.env = [(false, eval a X.env), (false, eval b X.env)] := by rfl) (hs2 : starEach [b] X.env = [(false, eval b X.env)] := by rfl) :
    MI X Wx tg (.Call (.Name "range" p) [a, b] [] pos) (iArgs rng2 ms) :=
  ⟨(pi_range2 hg hm ha.pa hs hs2).weak fun σ H R ⟨ρ, δ, μ, hm, hs, q⟩ => by
    refine ⟨ρ, δ, μ, hm, hs, (Res.bind (show Res X.K _ ρ H ((ms δ μ).bind rng2) _ from q)).imp fun ws ρ1 H1 μ1 e1 m1 q1 vs rv => ?_⟩
    unfold rng2 at q1
    split at q1
    · rename_i i j
      obtain ⟨v, u, rfl, r1, r2⟩ := rws_2 rv
      cases rw_int r1
      cases rw_int r2
      split at q1
      · rename_i hb
        exact ⟨i, j, rfl, ⟨hb.1, hb.2.1, hb.2.2.1, hb.2.2.2⟩, res_ok q1 m1 _ walkW_range⟩
      · exact q1.elim
    · exact q1.elim⟩

/-! ### comprehensions -/
def wipeW (δ : Sl) : List Nat → Sl
  | [] => δ
  | v :: vs => (wipeW δ vs).set v none
theorem RS.wipe {K : PySem.W.Frag} {ρ : List Addr} {H : Hp} {δ : Sl} {σ : L2.St} (s : RS K ρ H δ σ) : ∀ vs : List Nat, RS K ρ H (wipeW δ vs) (L2.wipe σ vs)
  | [] => s
  | v :: vs => RS.wipe1 v none (RS.wipe s vs)
theorem wipe_agree : ∀ {vs : List Nat} {is : List Nat} {σ σ' : L2.St}, (∀ i ∈ is, i ∈ vs) → Agree is σ σ' → L2.wipe σ' vs = L2.wipe σ vs := fun {vs is σ σ'} hi ag => by
  have key : ∀ (vs : List Nat) (σ : L2.St) (k : Nat), (L2.wipe σ vs)[k]? = if k ∈ vs then (if k < σ.length then some none else none) else σ[k]? := by
    intro vs σ
    induction vs with
    | nil => intro k; simp [L2.wipe]
    | cons v vs ih =>
      intro k
      show ((L2.wipe σ vs).set v none)[k]? = _
      by_cases e : v = k
      · subst e
        rw [List.getElem?_set, if_pos rfl, L2.wipe_length]
        simp
      · rw [List.getElem?_set_ne e, ih k]
        have : k ≠ v := fun z => e z.symm
        simp [this]
  apply List.ext_getElem?
  intro k
  rw [key, key]
  by_cases hk : k ∈ vs
  · rw [if_pos hk, if_pos hk, ag.1]
  · rw [if_neg hk, if_neg hk]
    exact ag.2 k fun z => hk (hi k z)
theorem wipe_wipe {vs : List Nat} {σ : L2.St} : L2.wipe (L2.wipe σ vs) vs = L2.wipe σ vs := by
  have key : ∀ (vs : List Nat) (σ : L2.St) (k : Nat), (L2.wipe σ vs)[k]? = if k ∈ vs then (if k < σ.length then some none else none) else σ[k]? := by
    intro vs σ
    induction vs with
    | nil => intro k; simp [L2.wipe]
    | cons v vs ih =>
      intro k
      show ((L2.wipe σ vs).set v none)[k]? = _
      by_cases e : v = k
      · subst e
        rw [List.getElem?_set, if_pos rfl, L2.wipe_length]
        simp
      · rw [List.getElem?_set_ne e, ih k]
        have : k ≠ v := fun z => e z.symm
        simp [this]
  apply List.ext_getElem?
  intro k
  rw [key, key, L2.wipe_length]
  by_cases hk : k ∈ vs
  · rw [if_pos hk, if_pos hk]
  · rw [if_neg hk, if_neg hk]
def compX (T : Tg) (tt : Sl → Mem → R Bool) (te : Sl → Mem → R W) (δ : Sl) : List W → Mem → Option (List W × Mem)
  | [], μ => some ([], μ)
  | x :: xs, μ => match bindT T x δ with
    | none => none
    | some δ1 => match tt δ1 μ with
      | .ok true μ1 => match te δ1 μ1 with
        | .ok y μ2 => (compX T tt te δ xs μ2).map fun r => (y :: r.1, r.2)
        | _ => none
      | .ok false μ1 => compX T tt te δ xs μ1
      | _ => none
def compL (T : Tg) (tt : Sl → Mem → R Bool) (te : Sl → Mem → R W) (δ : Sl) (get : Mem → Nat → Option (Option W)) : Nat → Nat → Mem → Option (List W × Mem)
  | 0, _, _ => none
  | k + 1, i, μ => match get μ i with
    | none => none
    | some none => some ([], μ)
    | some (some x) => match bindT T x δ with
      | none => none
      | some δ1 => match tt δ1 μ with
        | .ok true μ1 => match te δ1 μ1 with
          | .ok y μ2 => (compL T tt te δ get k (i + 1) μ2).map fun r => (y :: r.1, r.2)
          | _ => none
        | .ok false μ1 => compL T tt te δ get k (i + 1) μ1
        | _ => none
def compS (T : Tg) (tt : Sl → Mem → R Bool) (te : Sl → Mem → R W) (δ : Sl) (s : Src) (μ : Mem) : Option (List W × Mem) := match s with
  | .items xs => compX T tt te δ xs μ
  | .dyn get => compL T tt te δ get 1000000 0 μ
def compEnd (r : Option (List W × Mem)) (acc : List W) : R W := match r with
  | some (ys, μ) => if (acc ++ ys).length ≤ 1000000 then .ok (.loc μ.length) (μ ++ [.lst (acc ++ ys)]) else .stuck
  | none => .stuck
def mLc (mi : Sl → Mem → R Src) (T : Tg) (tt : Sl → Mem → R Bool) (te : Sl → Mem → R W) (vs : List Nat) : Sl → Mem → R W := fun δ μ => (mi δ μ).bind fun s μ1 => compEnd (compS T tt te (wipeW δ vs) s μ1) []
structure MTs (X : Cx) (Wx : WX) (ifs : List Expr) (m : Sl → Mem → R Bool) : Prop where
  pts : PTs X ifs (tMt X.K Wx m)
def tYesM : Sl → Mem → R Bool := fun _ μ => .ok true μ
theorem mts_nil : MTs X Wx [] tYesM := ⟨⟨fun pins s σ H Q I ⟨ρ, δ, μ, hm, hs, q⟩ => pts_nil.run pins s σ H Q I (res_ok q hm)⟩⟩
theorem mts_one (h : MT X Wx c ta) : MTs X Wx [c] ta := ⟨pts_one h.pt⟩
abbrev W0 : WX := fun _ _ _ _ => False
/-- one turn of a comprehension: D holds the list so far -/
theorem comp_turn {K : PySem.W.Frag} {T : Tg} {tt : Sl → Mem → R Bool} {te : Sl → Mem → R W} {vs : List Nat} {σ : L2.St} {δ : Sl} {E : XK} {Q : VK} {ρ1 ρ' : List Addr} {H1 H' H2 : Hp} {μ' : Mem} {D : Addr} {acc : List W} {av : List V} {x : W} {v : V}
    {rest : Mem → Option (List W × Mem)} {Nx : Hp → Prop} (hT : ∀ i ∈ slotsT T, i ∈ vs) (hD1 : H1 D = none) (e' : Ext ρ1 H1 ρ' H') (hDn : D ∉ ρ') (hDv : H' D = some (.lst av)) (ra : RWs K ρ' H' acc av)
    (e2 : Ext ρ' H' ρ' H2) (m2 : RM K ρ' H2 μ') (rx : RW K ρ' H2 x v) (hs : RS K ρ' H2 δ (L2.wipe σ vs)) (nr : ∀ μ ys μ2, rest μ = some (ys, μ2) → True)
    (q : Res K E ρ1 H1 (compEnd (match bindT T x δ with
      | none => none
      | some δ1 => match tt δ1 μ' with
        | .ok true μ1 => match te δ1 μ1 with
          | .ok y μ2 => (rest μ2).map fun r => (y :: r.1, r.2)
          | _ => none
        | .ok false μ1 => rest μ1
        | _ => none) acc) (QW K Q))
    (go : ∀ ρ4 H4 μ4 acc' av', Ext ρ1 H1 ρ4 H4 → RM K ρ4 H4 μ4 → D ∉ ρ4 → H4 D = some (.lst av') → RWs K ρ4 H4 acc' av' → Res K E ρ1 H1 (compEnd (rest μ4) acc') (QW K Q) → Nx H4) :
    tgL K T v (L2.wipe σ vs) H2 fun σ2 H2 => L2.wipe σ2 vs = L2.wipe σ vs ∧ tMt K W0 tt σ2 H2 fun b H3 => if b = true then tM K W0 te σ2 H3 fun y H4 => ∃ acc, H4 D = some (.lst acc) ∧ acc.length < sizeLine ∧ Nx (upd H4 D (.lst (acc ++ [y]))) else Nx H3 := by
  cases eb : bindT T x δ with
  | none => rw [eb] at q; exact q.elim
  | some δ1 =>
    rw [eb] at q
    refine bindT_ok T rx hs eb fun σ2 s2 ag => ⟨(wipe_agree hT ag).trans wipe_wipe, ρ', δ1, μ', m2, s2, ?_⟩
    have q : Res K E ρ1 H1 (compEnd (match tt δ1 μ' with
        | .ok true μ1 => match te δ1 μ1 with
          | .ok y μ2 => (rest μ2).map fun r => (y :: r.1, r.2)
          | _ => none
        | .ok false μ1 => rest μ1
        | _ => none) acc) (QW K Q) := q
    cases et : tt δ1 μ' with
    | exc x μ => rw [et] at q; exact q.elim
    | stuck => rw [et] at q; exact q.elim
    | ok b μ3 =>
      rw [et] at q
      intro ρ3 H3 e3 m3
      have n3 : D ∉ ρ3 := fun z => by
        have := e3.new D z hDn
        rw [e2.keep D _ hDn hDv] at this
        cases this
      have d3 : H3 D = some (.lst av) := e3.keep D _ hDn (e2.keep D _ hDn hDv)
      have x3 : Ext ρ1 H1 ρ3 H3 := (e'.trans e2).trans e3
      cases b with
      | false => exact go ρ3 H3 μ3 acc av x3 m3 n3 d3 ((ra.mono e2).mono e3) q
      | true =>
        have q : Res K E ρ1 H1 (compEnd (match te δ1 μ3 with
          | .ok y μ2 => (rest μ2).map fun r => (y :: r.1, r.2)
          | _ => none) acc) (QW K Q) := q
        refine ⟨ρ3, δ1, μ3, m3, s2.mono e3, ?_⟩
        cases ee : te δ1 μ3 with
        | exc x μ => rw [ee] at q; exact q.elim
        | stuck => rw [ee] at q; exact q.elim
        | ok y μ4 =>
          rw [ee] at q
          intro ρ4 H4 e4 m4 yv ry
          have n4 : D ∉ ρ4 := fun z => by
            have := e4.new D z n3
            rw [d3] at this
            cases this
          have d4 : H4 D = some (.lst av) := e4.keep D _ n3 d3
          have x4 : Ext ρ1 H1 ρ4 H4 := x3.trans e4
          have ra4 : RWs K ρ4 H4 acc av := ((ra.mono e2).mono e3).mono e4
          have gr : Grow ρ4 H4 ρ4 (upd H4 D (.lst (av ++ [yv]))) := ⟨⟨[], (List.append_nil _).symm⟩, fun b xs h => by rw [upd_ne (ne_of h d4 (by intro z; cases z))]; exact h, fun b o u h => by rw [upd_ne (ne_of h d4 (by intro z; cases z))]; exact h⟩
          have q : Res K E ρ1 H1 (compEnd ((rest μ4).map fun r => (y :: r.1, r.2)) acc) (QW K Q) := q
          cases er : rest μ4 with
          | none => rw [er] at q; exact q.elim
          | some r =>
            obtain ⟨ys, μ5⟩ := r
            rw [er] at q
            have q : Res K E ρ1 H1 (if (acc ++ (y :: ys)).length ≤ 1000000 then .ok (.loc μ5.length) (μ5 ++ [.lst (acc ++ (y :: ys))]) else .stuck) (QW K Q) := q
            have eq1 : acc ++ (y :: ys) = (acc ++ [y]) ++ ys := by simp
            rw [eq1] at q
            have hz : ((acc ++ [y]) ++ ys).length ≤ 1000000 := by
              by_cases z : ((acc ++ [y]) ++ ys).length ≤ 1000000
              · exact z
              · rw [if_neg z] at q; exact q.elim
            refine ⟨av, d4, ?_, ?_⟩
            · rw [ra4.length]
              have : acc.length < 1000000 := by simp at hz; omega
              exact Nat.lt_of_lt_of_le this (by decide)
            · refine go ρ4 _ μ4 (acc ++ [y]) (av ++ [yv]) ?_ (m4.grow gr fun a ha => upd_ne fun z => n4 (z ▸ ha)) n4 upd_same ((ra4.append (.cons ry .nil)).grow gr) ?_
              · refine ⟨x4.pre, x4.new, fun b o nb h => ?_, fun b xs h => ?_, fun b o u h => ?_⟩
                · rw [upd_ne (ne_of_none h hD1)]; exact x4.keep b o nb h
                · rw [upd_ne (ne_of_none h hD1)]; exact x4.tup b xs h
                · rw [upd_ne (ne_of_none h hD1)]; exact x4.frz b o u h
              · rw [er]
                exact q
theorem comp_end {K : PySem.W.Frag} {E : XK} {Q : VK} {ρ1 ρ' : List Addr} {H1 H' : Hp} {μ' : Mem} {D : Addr} {acc : List W} {av : List V} (hD1 : H1 D = none) (e' : Ext ρ1 H1 ρ' H') (m' : RM K ρ' H' μ') (hDn : D ∉ ρ') (hDv : H' D = some (.lst av)) (ra : RWs K ρ' H' acc av)
    (q : Res K E ρ1 H1 (compEnd (some ([], μ')) acc) (QW K Q)) : Q (.ref D) H' := by
  have q : Res K E ρ1 H1 (if (acc ++ []).length ≤ 1000000 then .ok (.loc μ'.length) (μ' ++ [.lst (acc ++ [])]) else .stuck) (QW K Q) := q
  by_cases z : (acc ++ []).length ≤ 1000000
  · rw [if_pos z, List.append_nil] at q
    refine q (ρ' ++ [D]) H' ⟨?_, fun a h n => ?_, e'.keep, e'.tup, e'.frz⟩ (m'.track hDn ⟨av, hDv, ra.grow ⟨⟨[D], rfl⟩, fun _ _ h => h, fun _ _ _ h => h⟩⟩) _ (.loc (RM.newLoc m'.len))
    · obtain ⟨r, hr⟩ := e'.pre
      exact ⟨r ++ [D], by rw [hr, List.append_assoc]⟩
    · rcases List.mem_append.mp h with h | h
      · exact e'.new a h n
      · rw [List.mem_singleton.mp h]
        exact hD1
  · rw [if_neg z] at q
    exact q.elim
theorem tM_lc {T : Tg} {mi : Sl → Mem → R Src} {vs : List Nat} {σ : L2.St} {H : Hp} {Q : VK} {K : PySem.W.Frag} (hT : ∀ i ∈ slotsT T, i ∈ vs) (h : tM K Wx (mLc mi T ta ma vs) σ H Q) :
    tLc (tMI K Wx mi) (tgL K T) (tMt K W0 ta) (tM K W0 ma) vs σ H Q := by
  obtain ⟨ρ, δ, μ, hm, hs, q⟩ := h
  refine ⟨ρ, δ, μ, hm, hs, (Res.bind q).imp fun src ρ1 H1 μ1 e1 m1 q1 J hJ D hD => ?_⟩
  have w1 : RS K ρ1 H1 (wipeW δ vs) (L2.wipe σ vs) := (hs.mono e1).wipe vs
  have start : Ext ρ1 H1 ρ1 (upd H1 D (.lst [])) := Ext.newU m1 hD
  cases src with
  | items xs =>
    refine ⟨fun i mm H' => mm = xs.length - i ∧ i ≤ xs.length ∧ ∃ ρ' μ' acc av, Ext ρ1 H1 ρ' H' ∧ RM K ρ' H' μ' ∧ D ∉ ρ' ∧ H' D = some (.lst av) ∧ RWs K ρ' H' acc av ∧ Res K (fun c d H' => Wx c d σ H') ρ1 H1 (compEnd (compX T ta ma (wipeW δ vs) (xs.drop i) μ') acc) (QW K Q),
      ⟨xs.length, by simp, Nat.zero_le _, ρ1, μ1, [], [], start, m1.newU hD, m1.fresh hD, upd_same, .nil, q1⟩, ?_⟩
    rintro i mm H' ⟨rfl, hi, ρ', μ', acc, av, e', m', n', d', ra, q'⟩
    obtain ⟨gg, stop⟩ := hJ ρ' H' μ' e' m'
    by_cases hlt : i < xs.length
    · have hx : xs[i]? = some xs[i] := List.getElem?_eq_some_iff.mpr ⟨hlt, rfl⟩
      obtain ⟨g1, g2⟩ := gg i _ hx
      refine .inr ⟨g1, fun H2 => ∃ ρ2 μ2 acc av, Ext ρ1 H1 ρ2 H2 ∧ RM K ρ2 H2 μ2 ∧ D ∉ ρ2 ∧ H2 D = some (.lst av) ∧ RWs K ρ2 H2 acc av ∧ Res K (fun c d H' => Wx c d σ H') ρ1 H1 (compEnd (compX T ta ma (wipeW δ vs) (xs.drop (i + 1)) μ2) acc) (QW K Q),
        fun H2 n2 => ⟨xs.length - (i + 1), by omega, rfl, hlt, n2⟩, fun v H2 y => ?_⟩
      obtain ⟨e2, m2, rv⟩ := g2 v H2 y
      rw [List.drop_eq_getElem_cons hlt] at q'
      unfold compX at q'
      exact comp_turn (rest := compX T ta ma (wipeW δ vs) (xs.drop (i + 1))) hT hD e' n' d' ra e2 m2 rv ((w1.mono e').mono e2) (fun _ _ _ _ => True.intro) q' fun ρ4 H4 μ4 acc' av' a1 a2 a3 a4 a5 a6 => ⟨ρ4, μ4, acc', av', a1, a2, a3, a4, a5, a6⟩
    · have ei : i = xs.length := by omega
      subst ei
      rw [List.drop_eq_nil_of_le (Nat.le_refl _)] at q'
      exact .inl ⟨stop, comp_end hD e' m' n' d' ra q'⟩
  | dyn get =>
    refine ⟨fun i mm H' => ∃ ρ' μ' acc av, Ext ρ1 H1 ρ' H' ∧ RM K ρ' H' μ' ∧ D ∉ ρ' ∧ H' D = some (.lst av) ∧ RWs K ρ' H' acc av ∧ Res K (fun c d H' => Wx c d σ H') ρ1 H1 (compEnd (compL T ta ma (wipeW δ vs) get mm i μ') acc) (QW K Q),
      ⟨1000000, ρ1, μ1, [], [], start, m1.newU hD, m1.fresh hD, upd_same, .nil, q1⟩, ?_⟩
    rintro i mm H' ⟨ρ', μ', acc, av, e', m', n', d', ra, q'⟩
    cases mm with
    | zero => exact q'.elim
    | succ mm =>
      obtain ⟨w2, w3⟩ := hJ ρ' H' μ' e' m' i
      unfold compL at q'
      cases eg : get μ' i with
      | none => rw [eg] at q'; exact q'.elim
      | some o =>
        rw [eg] at q' w2 w3
        cases o with
        | none => exact .inl ⟨w2 rfl, comp_end hD e' m' n' d' ra q'⟩
        | some x =>
          obtain ⟨g1, g2⟩ := w3 x rfl
          refine .inr ⟨g1, fun H2 => ∃ ρ2 μ2 acc av, Ext ρ1 H1 ρ2 H2 ∧ RM K ρ2 H2 μ2 ∧ D ∉ ρ2 ∧ H2 D = some (.lst av) ∧ RWs K ρ2 H2 acc av ∧ Res K (fun c d H' => Wx c d σ H') ρ1 H1 (compEnd (compL T ta ma (wipeW δ vs) get mm (i + 1) μ2) acc) (QW K Q),
            fun H2 n2 => ⟨mm, Nat.lt_succ_self _, n2⟩, fun v H2 y => ?_⟩
          obtain ⟨e2, m2, rv⟩ := g2 v H2 y
          exact comp_turn (rest := compL T ta ma (wipeW δ vs) get mm (i + 1)) hT hD e' n' d' ra e2 m2 rv ((w1.mono e').mono e2) (fun _ _ _ _ => True.intro) q' fun ρ4 H4 μ4 acc' av' a1 a2 a3 a4 a5 a6 => ⟨ρ4, μ4, acc', av', a1, a2, a3, a4, a5, a6⟩
theorem me_lc {elt it : Expr} {ifs : List Expr} {scope : Scope} {own : List (Str × Nat)} {mi : Sl → Mem → R Src} {T : Tg} (hc : X.calm = true) (hN : X.N.Nodup) (hi : MI X Wx tg it mi) (ok : BlkOk X.N X.env.scope scope own) (hT : ∀ i ∈ slotsT T, i ∈ own.map (·.2))
    (hg : ∀ (s : Shared) (H : Hp) (C : Addr) (cl : List (Str × Addr)) (fp : List Addr), MG (X.blk s H scope (compEnvC scope cl C X.env) fp) tg T) (ht : ∀ (s : Shared) (H : Hp) (C : Addr) (cl : List (Str × Addr)) (fp : List Addr), MTs (X.blk s H scope (compEnvC scope cl C X.env) fp) W0 ifs ta)
    (he : ∀ (s : Shared) (H : Hp) (C : Addr) (cl : List (Str × Addr)) (fp : List Addr), ME (X.blk s H scope (compEnvC scope cl C X.env) fp) W0 elt ma) (hs : ∀ x, foldedSetIterable it X.env x = pure x := by intro _; rfl) :
    ME X Wx (.ListComp elt [⟨tg, it, ifs, 0⟩] scope pos) (mLc mi T ta ma (own.map (·.2))) :=
  ⟨(pe_lc hc hN hi.pi ok (fun s H C cl fp => (hg s H C cl fp).pg) (fun s H C cl fp => (ht s H C cl fp).pts) (fun s H C cl fp => (he s H C cl fp).pe) hs).weak fun σ H Q h => tM_lc hT h⟩
/-- name = [..] -/
theorem ms_setLc {i : Nat} {y : Str} {py spos : Pos} {elt it : Expr} {ifs : List Expr} {scope : Scope} {own : List (Str × Nat)} {mi : Sl → Mem → R Src} {T : Tg} (hc : X.calm = true) (hN : X.N.Nodup) (hy : X.N[i]? = some y) (hyl : X.env.scope.names.lookup y = some .local)
    (hsw : swapsWith (.ListComp elt [⟨tg, it, ifs, 0⟩] scope pos) (some (.Name y py)) spos.line X.env = pure true) (hi : MI X Wx tg it mi) (ok : BlkOk X.N X.env.scope scope own) (hT : ∀ i ∈ slotsT T, i ∈ own.map (·.2))
    (hg : ∀ (s : Shared) (H : Hp) (C : Addr) (cl : List (Str × Addr)) (fp : List Addr), MG (X.blk s H scope (compEnvC scope cl C X.env) fp) tg T) (ht : ∀ (s : Shared) (H : Hp) (C : Addr) (cl : List (Str × Addr)) (fp : List Addr), MTs (X.blk s H scope (compEnvC scope cl C X.env) fp) W0 ifs ta)
    (he : ∀ (s : Shared) (H : Hp) (C : Addr) (cl : List (Str × Addr)) (fp : List Addr), ME (X.blk s H scope (compEnvC scope cl C X.env) fp) W0 elt ma) (hs : ∀ x, foldedSetIterable it X.env x = pure x := by intro _; rfl) :
    MS X Wx (.Assign [.Name y py] (.ListComp elt [⟨tg, it, ifs, 0⟩] scope pos) spos) (sSet i (mLc mi T ta ma (own.map (·.2)))) :=
  ⟨(ps_setLc hc hN hy hyl hsw hi.pi ok (fun s H C cl fp => (hg s H C cl fp).pg) (fun s H C cl fp => (ht s H C cl fp).pts) (fun s H C cl fp => (he s H C cl fp).pe) hs).weak fun D σ H ⟨ρ, δ, μ, hm, hs, q⟩ =>
    tM_lc hT (tM_toF hm hs q fun w ρ1 H1 μ1 x e1 m1 s1 rx q1 => q1 ρ1 H1 _ (Ext.refl _ _) m1 (s1.set rx i))⟩
end

/-! ### a def -/
def startW (n : Nat) (ws : List W) : Sl := ws.map some ++ List.replicate (n - ws.length) none
def fnG (n : Nat) (mb : Sl → Mem → F) : List W → Mem → R W := fun ws μ => match mb (startW n ws) μ with
  | .nx _ μ' => .ok .non μ'
  | .rt w μ' => .ok w μ'
  | .exc x _ μ' => .exc x μ'
  | _ => .stuck
abbrev WE0 (E : XK) : WX := fun c d _ H => E c d H
section
variable {P : Program} {w : World} {K : PySem.W.Frag} {mg : Str → Option Value} {base : Heap}
/-- a def by its body, the body's reading chosen at each entry -/
theorem fnS {x qual : Str} {params : Arguments} {body : List Stmt} {scope : Scope} {dvs : List V} {kws : List (Str × V)} {f : Addr} {fd : FuncData} {N ps : List Str} {k : Nat} {sp : Sp} (F : FunD K x qual params body scope dvs kws f fd) (S : FnScope N ps scope)
    (hb : ∀ (cdv : Value) (A : Around) (outer : List Env) (s : Shared) (H : Hp) (vs : List V) (Q : VK) (E : XK), RoomG k (A.deeper (PyProof.Rows.envOfC qual scope s.heap.objs.size f cdv)) → vs.length = ps.length → sp vs H Q E →
      ∃ t, PSs (cxOf (L2.CX P w) P w K mg base N qual scope f cdv A outer s H E) body t ∧ t { nx := fun _ H' => Q .non H', rt := Q } (start N vs) H) : FnS P w K mg base (k + 1) f fd ps sp := by
  obtain ⟨oc, od, dV, kV, doc, pm, an, cdv, ct, osl, rfl, lk, hcd, _, _⟩ := F.ex
  intro A outer s H args us vs Q E hr e0 hbind rv hl hsp
  have KX : K.In s.heap := e0.mod.kin.keeps fun b o e => (e0.bs b o e).1
  have lim : s.heap.NoLimit := e0.mod.nolimit.keeps fun b o e => (e0.bs b o e).1
  have kinds : ∀ y ∈ ps.zip us, scope.names.lookup y.1 = some .local ∨
      (scope.names.lookup y.1 = some .cell ∧ ((cellsFrom (s.heap.objs.size + 1) scope.names []).lookup y.1).isSome = true) := by
    rintro ⟨n, v⟩ hy
    rcases S.par n (List.of_mem_zip hy).1 with z | z
    · exact Or.inl z
    · exact Or.inr ⟨z, PySem.W.cellsFrom_some _ _ _ (Or.inl z)⟩
  obtain ⟨t, ht, hq⟩ := hb cdv A outer s H vs Q E ⟨hr.r.deeper _, hr.g⟩ hl hsp
  have enter := PySem.codeAny_call_function (args := args) (prog := P) (w := w) (R := CR (L2.CX P w) outer P w H s Q E) hr.r.depth (KX _ _ lk) rfl S.co S.gen rfl (PySem.W.codeRec_of KX hcd)
  refine enter (hbind _ _ _ _ (PySem.wpAny_newFunctionEnv_cells S.kind kinds fun env he s1 x => ?_))
  subst he
  refine ⟨lim.keeps x.toInCall.keep, codeAny_func (wpAny_mono (ht.run [] s1 (start N vs) H _ (inv_start S hr.r.hd e0 hl rv x) hq) ?_ fun e s' hs => hs)⟩
  intro fl s' hs
  match fl, hs with
  | .ret u, ⟨v, σ', H', J, ru, q⟩ => exact ⟨v, H', J.os, J.bare, J.base, J.hok, ru, q⟩
  | .next, ⟨σ', H', J, q⟩ => exact ⟨V.non, H', J.os, J.bare, J.base, J.hok, rfl, q⟩
  | .brk, ⟨_, _, _, q⟩ => exact q.elim
  | .cont, ⟨_, _, _, q⟩ => exact q.elim
theorem fnM {x qual : Str} {params : Arguments} {body : List Stmt} {scope : Scope} {dvs : List V} {kws : List (Str × V)} {f : Addr} {fd : FuncData} {N ps : List Str} {k n : Nat} {mb : Sl → Mem → F} (F : FunD K x qual params body scope dvs kws f fd) (S : FnScope N ps scope) (hn : N.length = n)
    (hb : ∀ (cdv : Value) (A : Around) (outer : List Env) (s : Shared) (H : Hp) (E : XK), RoomG k (A.deeper (PyProof.Rows.envOfC qual scope s.heap.objs.size f cdv)) → MSs (cxOf (L2.CX P w) P w K mg base N qual scope f cdv A outer s H E) (WE0 E) body mb) :
    FnM P w K mg base (k + 1) f fd ps (fnG n mb) := by
  subst hn
  refine fnS F S fun cdv A outer s H vs Q E hr hlen h => ⟨_, (hb cdv A outer s H E hr).ps, ?_⟩
  obtain ⟨hl, ρ, ws, μ, hm, rv, q⟩ := h
  have el : vs.length = ws.length := rv.length
  refine ⟨ρ, startW N.length ws, μ, hm, ?_, ?_⟩
  · show RS K ρ H _ (vs.map some ++ List.replicate (N.length - vs.length) none)
    rw [el]
    exact RS.args _ rv
  · unfold fnG at q
    cases e : mb (startW N.length ws) μ with
    | nx δ μ' =>
      rw [e] at q
      exact fun ρ' H' σ' e' m' s' => q ρ' H' e' m' .non .non
    | rt u μ' =>
      rw [e] at q
      exact fun ρ' H' x e' m' r' => q ρ' H' e' m' x r'
    | exc y δ μ' =>
      rw [e] at q
      exact fun ρ' H' σ' c d e' m' s' r' => q ρ' H' c d e' m' r'
    | bk δ μ' => rw [e] at q; exact q.elim
    | ct δ μ' => rw [e] at q; exact q.elim
    | stuck => rw [e] at q; exact q.elim
end
end Mi

set_option Elab.async false
set_option linter.all false
set_option maxRecDepth 100000
set_option maxHeartbeats 1000000
set_option autoImplicit false
namespace Mi
open PySem L2

/-! ### operators on values -/
section
variable {X : Cx} {Wx : WX} {op : Value → Value → Sem Value}
theorem opM_of {f : Op2} (h : ∀ (pins : List (Addr × Obj)) (s : Shared) (σ : L2.St) (H : Hp) (x y : V) (v u : Value) (Q : VK) (ρ : List Addr) (μ : Mem) (a b w : W) (μ' : Mem), Inv X pins σ H s → RelV x v → RelV y u → RM X.K ρ H μ → RW X.K ρ H a x → RW X.K ρ H b y → f a b μ = some (w, μ') →
    (∀ ρ' H' v, Ext ρ H ρ' H' → RM X.K ρ' H' μ' → RW X.K ρ' H' w v → Q v H') → wpAny (model X.prog X.w) X.A (op v u) (EP X pins σ Q) X.xe s) : OpM X op f :=
  ⟨fun pins s σ H x y v u Q I rx ry ⟨ρ, μ, a, b, hm, ra, rb, w, μ', e, k⟩ => h pins s σ H x y v u Q ρ μ a b w μ' I rx ry hm ra rb e k⟩
theorem strOk_append {a b : Str} (h1 : PyData.strOk a = true) (h2 : PyData.strOk b = true) : PyData.strOk (a ++ b) = true := by
  have e : (a ++ b).cps = a.cps ++ b.cps := rfl
  unfold PyData.strOk at *
  rw [e, Array.all_append, h1, h2]
  rfl
/-- how an op may end: a new tuple, a new list, a plain value -/
theorem q_val {K : PySem.W.Frag} {ρ : List Addr} {H : Hp} {μ : Mem} {w : W} {Q : VK} {v : V} (hm : RM K ρ H μ) (k : ∀ ρ' H' v, Ext ρ H ρ' H' → RM K ρ' H' μ → RW K ρ' H' w v → Q v H') (r : RW K ρ H w v) : Q v H := k ρ H v (Ext.refl _ _) hm r
theorem q_tup {K : PySem.W.Frag} {ρ : List Addr} {H : Hp} {μ : Mem} {xs : List W} {vs : List V} {Q : VK} (hm : RM K ρ H μ) (k : ∀ ρ' H' v, Ext ρ H ρ' H' → RM K ρ' H' μ → RW K ρ' H' (.tup xs) v → Q v H') (r : RWs K ρ H xs vs) {p : Addr} (hp : H p = none) : Q (.ref p) (upd H p (.tup vs)) :=
  k ρ _ _ (Ext.newU hm hp) (hm.newU hp) (.tup (SqT.of upd_same) (r.mono (Ext.newU hm hp)))
theorem q_lst {K : PySem.W.Frag} {ρ : List Addr} {H : Hp} {μ : Mem} {xs : List W} {vs : List V} {Q : VK} (hm : RM K ρ H μ) (k : ∀ ρ' H' v, Ext ρ H ρ' H' → RM K ρ' H' (μ ++ [.lst xs]) → RW K ρ' H' (.loc μ.length) v → Q v H') (r : RWs K ρ H xs vs) {p : Addr} (hp : H p = none) : Q (.ref p) (upd H p (.lst vs)) :=
  k (ρ ++ [p]) _ _ (Ext.newT hm hp) (hm.newT hp ⟨vs, upd_same, r.mono (Ext.newT hm hp)⟩) (.loc (RM.newLoc hm.len))
theorem q_set {K : PySem.W.Frag} {ρ : List Addr} {H : Hp} {μ : Mem} {n : Nat} {a : Addr} {xs : List W} {vs us : List V} (hm : RM K ρ H μ) (ha : ρ[n]? = some a) (h : H a = some (.lst us)) (r : RWs K ρ H xs vs) : Ext ρ H ρ (upd H a (.lst vs)) ∧ RM K ρ (upd H a (.lst vs)) (μ.set n (.lst xs)) := by
  have e : Ext ρ H ρ (upd H a (.lst vs)) := Ext.write (List.mem_of_getElem? ha) h (by intro _ z; cases z) (by intro _ _ z; cases z)
  exact ⟨e, hm.write ha h (by intro _ z; cases z) (by intro _ _ z; cases z) ⟨vs, upd_same, r.mono e⟩⟩
def opAdd : Op2 := fun a b μ => match a, b with
  | .int i, .int j => some (.int (i + j), μ)
  | .str x, .str y => if x.length + y.length ≤ 1000000 then some (.str (x ++ y), μ) else none
  | .tup xs, .tup ys => if xs.length + ys.length ≤ 1000000 then some (.tup (xs ++ ys), μ) else none
  | .loc n, .loc m => match getL μ n, getL μ m with
    | some xs, some ys => if xs.length + ys.length ≤ 1000000 then some (.loc μ.length, μ ++ [.lst (xs ++ ys)]) else none
    | _, _ => none
  | _, _ => none
theorem op_add' : OpM X (binaryOp .Add) opAdd := opM_of fun pins s σ H x y v u Q ρ μ a b w μ' I rx ry hm ra rb e k => by
  unfold opAdd at e
  split at e
  · cases e; cases ra; cases rb
    exact op_add pins s σ H _ _ v u Q I rx ry ⟨_, _, rfl, rfl, q_val hm k (.int _)⟩
  · split at e
    · rename_i hz
      cases e
      obtain ⟨rfl, h1⟩ := rw_str ra
      obtain ⟨rfl, h2⟩ := rw_str rb
      exact op_add_str pins s σ H _ _ v u Q I rx ry ⟨_, _, rfl, rfl, lim_le hz, q_val hm k (.str (strOk_append h1 h2))⟩
    · cases e
  · split at e
    · rename_i xs ys hz
      cases e
      obtain ⟨p, vs, rfl, h1, r1⟩ := rw_tup ra
      obtain ⟨q, us, rfl, h2, r2⟩ := rw_tup rb
      refine op_catA pins s σ H _ _ v u Q I rx ry ⟨p, q, vs, us, rfl, rfl, h1, h2, by rw [r1.length, r2.length]; exact lim_le hz, fun z => ?_, fun z z2 => ?_, fun z z2 p2 hp => q_tup hm k (r1.append r2) hp⟩
      · subst z
        cases r1
        exact q_val hm k (.tup h2 r2)
      · subst z2
        cases r2
        exact q_val hm k (.tup h1 (by rw [List.append_nil]; exact r1))
    · cases e
  · rename_i n m
    split at e
    · rename_i xs ys e1 e2
      split at e
      · rename_i hz
        cases e
        obtain ⟨p, rfl, hp⟩ := rw_loc ra
        obtain ⟨q, rfl, hq⟩ := rw_loc rb
        obtain ⟨vs, h1, r1⟩ := rm_lst hm e1 hp
        obtain ⟨us, h2, r2⟩ := rm_lst hm e2 hq
        exact op_cat pins s σ H _ _ v u Q I rx ry ⟨p, q, vs, us, rfl, rfl, h1, h2, by rw [r1.length, r2.length]; exact lim_le hz, fun p2 hp2 => q_lst hm k (r1.append r2) hp2⟩
      · cases e
    · cases e
  · cases e
def opSub : Op2 := fun a b μ => match a, b with
  | .int i, .int j => some (.int (i - j), μ)
  | _, _ => none
theorem op_sub' : OpM X (binaryOp .Sub) opSub := opM_of fun pins s σ H x y v u Q ρ μ a b w μ' I rx ry hm ra rb e k => by
  unfold opSub at e
  split at e
  · cases e; cases ra; cases rb
    exact op_sub pins s σ H _ _ v u Q I rx ry ⟨_, _, rfl, rfl, q_val hm k (.int _)⟩
  · cases e
/-! ### data -/
def mapO {α β : Type} (f : α → Option β) : List α → Option (List β)
  | [] => some []
  | x :: xs => match f x, mapO f xs with
    | some y, some ys => some (y :: ys)
    | _, _ => none
def toD (μ : Mem) : Nat → W → Option PyData
  | _, .non => some .none
  | _, .bl b => some (.bool b)
  | _, .int i => some (.int i)
  | _, .str x => some (.str x)
  | n + 1, .tup xs => (mapO (toD μ n) xs).map .tuple
  | n + 1, .fl xs => (mapO (toD μ n) xs).map .list
  | n + 1, .loc k => match getL μ k with
    | some xs => (mapO (toD μ n) xs).map .list
    | none => none
  | _, _ => none
theorem toD_all {K : PySem.W.Frag} {ρ : List Addr} {H : Hp} {f : W → Option PyData} {n : Nat} (ih : ∀ w v d, RW K ρ H w v → f w = some d → Dp K H v d ∧ d.canLay0 = true ∧ d.depth ≤ n) : ∀ {xs : List W} {vs : List V} {ds : List PyData}, RWs K ρ H xs vs → mapO f xs = some ds → DpAll K H vs ds ∧ PyData.canLayAll0 ds = true ∧ PyData.depthAll ds ≤ n
  | [], _, _, r, h => by
    cases r
    cases h
    exact ⟨.nil, by simp [PyData.canLayAll0], by simp [PyData.depthAll]⟩
  | x :: xs, _, ds, r, h => by
    cases r with
    | cons r1 r2 =>
      unfold mapO at h
      cases e1 : f x with
      | none => rw [e1] at h; cases h
      | some d =>
        cases e2 : mapO f xs with
        | none => rw [e1, e2] at h; cases h
        | some ds' =>
          rw [e1, e2] at h
          cases h
          obtain ⟨a1, a2, a3⟩ := ih x _ d r1 e1
          obtain ⟨b1, b2, b3⟩ := toD_all ih r2 e2
          refine ⟨.cons a1 b1, by simp [PyData.canLayAll0, a2, b2], ?_⟩
          simp only [PyData.depthAll]
          omega
theorem toD_ok {K : PySem.W.Frag} {ρ : List Addr} {H : Hp} {μ : Mem} (m : RM K ρ H μ) : ∀ (n : Nat) (w : W) (v : V) (d : PyData), RW K ρ H w v → toD μ n w = some d → Dp K H v d ∧ d.canLay0 = true ∧ d.depth ≤ n := by
  intro n
  induction n with
  | zero =>
    intro w v d r h
    cases r with
    | non => cases h; exact ⟨.non, by simp [PyData.canLay0], by simp [PyData.depth]⟩
    | bl b => cases h; exact ⟨.bl b, by simp [PyData.canLay0], by simp [PyData.depth]⟩
    | int i => cases h; exact ⟨.int i, by simp [PyData.canLay0], by simp [PyData.depth]⟩
    | str hs => cases h; exact ⟨.str _, by simpa [PyData.canLay0] using hs, by simp [PyData.depth]⟩
    | _ => cases h
  | succ n ih =>
    intro w v d r h
    cases r with
    | non => cases h; exact ⟨.non, by simp [PyData.canLay0], by simp [PyData.depth]⟩
    | bl b => cases h; exact ⟨.bl b, by simp [PyData.canLay0], by simp [PyData.depth]⟩
    | int i => cases h; exact ⟨.int i, by simp [PyData.canLay0], by simp [PyData.depth]⟩
    | str hs => cases h; exact ⟨.str _, by simpa [PyData.canLay0] using hs, by simp [PyData.depth]⟩
    | @tup xs vs a h1 h2 =>
      have h : (mapO (toD μ n) xs).map .tuple = some d := h
      cases e : mapO (toD μ n) xs with
      | none => rw [e] at h; cases h
      | some ds =>
        rw [e] at h
        cases h
        obtain ⟨a1, a2, a3⟩ := toD_all ih h2 e
        exact ⟨.tup h1 a1, by simpa [PyData.canLay0] using a2, by simp only [PyData.depth]; omega⟩
    | @fl xs vs a h1 h2 =>
      have h : (mapO (toD μ n) xs).map .list = some d := h
      cases e : mapO (toD μ n) xs with
      | none => rw [e] at h; cases h
      | some ds =>
        rw [e] at h
        cases h
        obtain ⟨a1, a2, a3⟩ := toD_all ih h2 e
        exact ⟨.lst h1.sqL a1, by simpa [PyData.canLay0] using a2, by simp only [PyData.depth]; omega⟩
    | @loc k a ha =>
      have h : (match getL μ k with
        | some xs => (mapO (toD μ n) xs).map .list
        | none => none) = some d := h
      cases eg : getL μ k with
      | none => rw [eg] at h; cases h
      | some xs =>
        rw [eg] at h
        have h : (mapO (toD μ n) xs).map .list = some d := h
        obtain ⟨vs, h1, h2⟩ := rm_lst m eg ha
        cases e : mapO (toD μ n) xs with
        | none => rw [e] at h; cases h
        | some ds =>
          rw [e] at h
          cases h
          obtain ⟨a1, a2, a3⟩ := toD_all ih h2 e
          exact ⟨.lst (SqL.of h1) a1, by simpa [PyData.canLay0] using a2, by simp only [PyData.depth]; omega⟩
    | st v => cases h
theorem shaped_of {d : PyData} (h1 : d.canLay0 = true) (h2 : d.depth ≤ 40) : SeqAt.shaped d = true := by
  unfold SeqAt.shaped
  rw [h1, decide_eq_true (show d.depth ≤ 64 by omega)]
  rfl
/-- are two values equal -/
def eqM (μ : Mem) (a b : W) : Option Bool := match toD μ 40 a, toD μ 40 b with
  | some d, some e => some (PyData.eqv d e)
  | _, _ => none
def opEq : Op2 := fun a b μ => (eqM μ a b).map fun k => (.bl k, μ)
def opNe : Op2 := fun a b μ => (eqM μ a b).map fun k => (.bl (!k), μ)
theorem op_eq' {k : Nat} (hr : RoomG k X.A) : OpM X (compareOp .Eq) opEq := opM_of fun pins s σ H x y v u Q ρ μ a b w μ' I rx ry hm ra rb e k => by
  unfold opEq eqM at e
  cases ea : toD μ 40 a with
  | none => rw [ea] at e; cases e
  | some d =>
    cases eb : toD μ 40 b with
    | none => rw [ea, eb] at e; cases e
    | some d2 =>
      rw [ea, eb] at e
      cases e
      obtain ⟨a1, a2, a3⟩ := toD_ok hm 40 a x d ra ea
      obtain ⟨b1, b2, b3⟩ := toD_ok hm 40 b y d2 rb eb
      exact op_eqD hr.r.units pins s σ H x y v u Q I rx ry ⟨d, d2, a1, b1, shaped_of a2 a3, shaped_of b2 b3, q_val hm k (.bl _)⟩
theorem op_ne' {k : Nat} (hr : RoomG k X.A) : OpM X (compareOp .NotEq) opNe := opM_of fun pins s σ H x y v u Q ρ μ a b w μ' I rx ry hm ra rb e k => by
  unfold opNe eqM at e
  cases ea : toD μ 40 a with
  | none => rw [ea] at e; cases e
  | some d =>
    cases eb : toD μ 40 b with
    | none => rw [ea, eb] at e; cases e
    | some d2 =>
      rw [ea, eb] at e
      cases e
      obtain ⟨a1, a2, a3⟩ := toD_ok hm 40 a x d ra ea
      obtain ⟨b1, b2, b3⟩ := toD_ok hm 40 b y d2 rb eb
      exact op_neD hr.r.units pins s σ H x y v u Q I rx ry ⟨d, d2, a1, b1, shaped_of a2 a3, shaped_of b2 b3, q_val hm k (.bl _)⟩

/-! ### int operators -/
def opMul : Op2 := fun a b μ => match a, b with
  | .int i, .int j => if (-18446744073709551616 < i ∧ i < 18446744073709551616) ∨ (-18446744073709551616 < j ∧ j < 18446744073709551616) then some (.int (i * j), μ) else none
  | .tup xs, .int k => if xs.isEmpty = true then (if -1000 ≤ k ∧ k ≤ 1000 then some (.tup [], μ) else none) else if 2 ≤ k ∧ k ≤ 1000 ∧ xs.length ≤ 1000 then some (.tup (List.replicate k.toNat xs).flatten, μ) else if k = 1 then some (.tup xs, μ) else none
  | .loc n, .int k => match getL μ n with
    | some xs => if -1000000 ≤ k ∧ k ≤ 1000000 ∧ xs.length * k.toNat ≤ 1000000 then some (.loc μ.length, μ ++ [.lst (List.replicate k.toNat xs).flatten]) else none
    | none => none
  | _, _ => none
/-- a tuple that is itself when repeated -/
theorem tuple_same (l : Addr) (items : Array Value) (n : Nat) (dd : Option Addr) (sl : Array (Option Value)) (x : Int) (u : Tok) (c0 : (decide (x < -(2 ^ 63)) || decide (x ≥ 2 ^ 63)) = false) (c1 : (items.isEmpty || x == 1) = true) :
    Meets (Builtin.«tuple.__mul__» ⟨[.ref l, .int x u], []⟩) (fun _ R s => s.heap.get? l = some { cls := .type "tuple", dict := dd, data := .seq items n, slots := sl } ∧ R (.ok (.ret (Value.ref l))) s) :=
  .of_wp fun prog w A R s h => by
    obtain ⟨hp, g, d, tk, os⟩ := s
    obtain ⟨hl, h⟩ := h
    have f1 := AutoSeq1.idx_int
    wp_walk using AutoSeq1.wpAny_loadPart' hl
    repeat (first
      | (refine wpAny_ite_false (decide_eq_false (by rw [c0]; exact Bool.false_ne_true)) ?_; wp_walk using AutoSeq1.wpAny_loadPart' hl)
      | (refine wpAny_ite_true (decide_eq_true (by rw [c1])) ?_; wp_walk using AutoSeq1.wpAny_loadPart' hl))
    exact ⟨_, rfl, h⟩
def rSame (K : PySem.W.Frag) : R2 := fun x y H Q => ∃ l k xs, x = .ref l ∧ y = .int k ∧ SqT K H l xs ∧ (xs = [] ∨ k = 1) ∧ -1000 ≤ k ∧ k ≤ 1000 ∧ Q (.ref l) H
theorem op_same : OpR X (binaryOp .Mult) (rSame X.K) := by
  intro pins s σ H x y v u Q I rx ry h
  obtain ⟨l, k, xs, rfl, rfl, hT, hk, k1, k2, q⟩ := h
  cases rx
  obtain ⟨t, rfl⟩ := ry
  obtain ⟨its, r, ⟨⟨cls, dd, data, sl⟩, ho, hc, n, hd⟩, hs⟩ := I.tuple hT
  simp only at hc hd
  subst hc hd
  have c0 : (decide (k < -(2 ^ 63)) || decide (k ≥ 2 ^ 63)) = false := by
    rw [decide_eq_false (by omega), decide_eq_false (by omega)] <;> rfl
  have c1 : (its.toArray.isEmpty || k == 1) = true := by
    rcases hk with rfl | rfl
    · cases r; rfl
    · simp
  refine wpAny_binaryOp_repeat_ref (T := "tuple") (U := "int") (by decide) ⟨_, ho, rfl⟩ (fun s' => typeIs_int s' k t) noFill_tuple_mul F.fills_int_mul F.slot_int_rmul repeat_tuple F.slot_int_index.lookup ?_
  exact call_meets F.slot_int_rmul (typeIs_int s k t) F.entry_int_rmul (F.args_int_rmul_2 _ _) (int_rmul_tuple k t l its.toArray n dd sl)
      ⟨ho, rfl, ⟨_, ho, rfl⟩, call_meets F.slot_tuple_mul ⟨_, ho, rfl⟩ F.entry_tuple_mul (F.args_tuple_mul_2 _ _) (tuple_same l its.toArray n dd sl k t c0 c1) ⟨ho, .ref l, H, I, rfl, q⟩⟩
theorem op_mul' : OpM X (binaryOp .Mult) opMul := opM_of fun pins s σ H x y v u Q ρ μ a b w μ' I rx ry hm ra rb e k => by
  unfold opMul at e
  split at e
  · split at e
    · rename_i hz
      cases e; cases ra; cases rb
      exact op_mul pins s σ H _ _ v u Q I rx ry ⟨_, _, rfl, rfl, hz, q_val hm k (.int _)⟩
    · cases e
  · rename_i xs j
    obtain ⟨p, vs, rfl, h1, r1⟩ := rw_tup ra
    cases rw_int rb
    split at e
    · rename_i hz
      split at e
      · rename_i hb
        cases e
        have : xs = [] := List.isEmpty_iff.mp hz
        subst this
        cases r1
        exact op_same pins s σ H _ _ v u Q I rx ry ⟨p, j, [], rfl, rfl, h1, .inl rfl, hb.1, hb.2, q_val hm k (.tup h1 .nil)⟩
      · cases e
    · rename_i hz
      split at e
      · rename_i hb
        cases e
        refine op_repT pins s σ H _ _ v u Q I rx ry ⟨p, j, vs, rfl, rfl, h1, fun z => hz ?_, hb.1, hb.2.1, by rw [r1.length]; exact hb.2.2, fun p2 hp => q_tup hm k (r1.rep _) hp⟩
        subst z
        cases r1
        rfl
      · split at e
        · rename_i hb
          cases e
          subst hb
          exact op_same pins s σ H _ _ v u Q I rx ry ⟨p, 1, vs, rfl, rfl, h1, .inr rfl, by decide, by decide, q_val hm k (.tup h1 r1)⟩
        · cases e
  · rename_i n j
    split at e
    · rename_i xs eg
      split at e
      · rename_i hb
        cases e
        obtain ⟨p, rfl, hp⟩ := rw_loc ra
        cases rw_int rb
        obtain ⟨vs, h1, r1⟩ := rm_lst hm eg hp
        exact op_rep pins s σ H _ _ v u Q I rx ry ⟨p, j, vs, rfl, rfl, h1, by omega, by omega, by rw [r1.length]; exact lim_le hb.2.2, fun p2 hp2 => q_lst hm k (r1.rep _) hp2⟩
      · cases e
    · cases e
  · cases e
def opMod : Op2 := fun a b μ => match a, b with
  | .int i, .int j => if 0 < j then some (.int (i % j), μ) else none
  | _, _ => none
theorem op_mod' : OpM X (binaryOp .Mod) opMod := opM_of fun pins s σ H x y v u Q ρ μ a b w μ' I rx ry hm ra rb e k => by
  unfold opMod at e
  split at e
  · split at e
    · rename_i hz
      cases e; cases ra; cases rb
      exact op_mod pins s σ H _ _ v u Q I rx ry ⟨_, _, rfl, rfl, hz, q_val hm k (.int _)⟩
    · cases e
  · cases e
def opFdiv : Op2 := fun a b μ => match a, b with
  | .int i, .int j => if 0 < j ∧ j < 1073741824 then some (.int (i / j), μ) else none
  | _, _ => none
theorem op_fdiv' : OpM X (binaryOp .FloorDiv) opFdiv := opM_of fun pins s σ H x y v u Q ρ μ a b w μ' I rx ry hm ra rb e k => by
  unfold opFdiv at e
  split at e
  · split at e
    · rename_i hz
      cases e; cases ra; cases rb
      exact op_fdiv pins s σ H _ _ v u Q I rx ry ⟨_, _, rfl, rfl, hz, q_val hm k (.int _)⟩
    · cases e
  · cases e
def opPow : Op2 := fun a b μ => match a, b with
  | .int i, .int j => if 0 ≤ j ∧ j ≤ 1000 ∧ (Builtin.Int.intBits i : Int) * j ≤ 134217728 then some (.int (i ^ j.toNat), μ) else none
  | _, _ => none
theorem op_pow' : OpM X (binaryOp .Pow) opPow := opM_of fun pins s σ H x y v u Q ρ μ a b w μ' I rx ry hm ra rb e k => by
  unfold opPow at e
  split at e
  · split at e
    · rename_i hz
      cases e; cases ra; cases rb
      obtain ⟨t, rfl⟩ := rx
      obtain ⟨t', rfl⟩ := ry
      exact PyProof.Rows.pow_int hz.1 hz.2.2 ⟨.int _, H, I.tok _, ⟨_, rfl⟩, q_val hm k (.int _)⟩
    · cases e
  · cases e
def opNeg : Op1 := fun a μ => match a with
  | .int i => some (.int (-i), μ)
  | _ => none
theorem un_neg' : UnR X (unaryOp .USub) (rM1 X.K opNeg) := fun pins s σ H x v Q I rx ⟨ρ, μ, a, hm, ra, w, μ', e, k⟩ => by
  unfold opNeg at e
  split at e
  · cases e; cases ra
    exact un_neg pins s σ H _ v Q I rx ⟨_, rfl, q_val hm k (.int _)⟩
  · cases e
def opLt : Op2 := fun a b μ => match a, b with
  | .int i, .int j => some (.bl (decide (i < j)), μ)
  | .str i, .str j => some (.bl (decide (i.cps.toList < j.cps.toList)), μ)
  | _, _ => none
theorem op_lt' : OpM X (compareOp .Lt) opLt := opM_of fun pins s σ H x y v u Q ρ μ a b w μ' I rx ry hm ra rb e k => by
  unfold opLt at e
  split at e
  · cases e; cases ra; cases rb
    exact op_lt pins s σ H _ _ v u Q I rx ry ⟨_, _, rfl, rfl, q_val hm k (.bl _)⟩
  · cases e; cases ra; cases rb
    exact op_lt_str pins s σ H _ _ v u Q I rx ry ⟨_, _, rfl, rfl, q_val hm k (.bl _)⟩
  · cases e
def opLe : Op2 := fun a b μ => match a, b with
  | .int i, .int j => some (.bl (decide (i ≤ j)), μ)
  | _, _ => none
theorem op_le' : OpM X (compareOp .LtE) opLe := opM_of fun pins s σ H x y v u Q ρ μ a b w μ' I rx ry hm ra rb e k => by
  unfold opLe at e
  split at e
  · cases e; cases ra; cases rb
    exact op_le pins s σ H _ _ v u Q I rx ry ⟨_, _, rfl, rfl, q_val hm k (.bl _)⟩
  · cases e
def opGt : Op2 := fun a b μ => match a, b with
  | .int i, .int j => some (.bl (decide (j < i)), μ)
  | _, _ => none
theorem op_gt' : OpM X (compareOp .Gt) opGt := opM_of fun pins s σ H x y v u Q ρ μ a b w μ' I rx ry hm ra rb e k => by
  unfold opGt at e
  split at e
  · cases e; cases ra; cases rb
    exact op_gt pins s σ H _ _ v u Q I rx ry ⟨_, _, rfl, rfl, q_val hm k (.bl _)⟩
  · cases e
def opGe : Op2 := fun a b μ => match a, b with
  | .int i, .int j => some (.bl (decide (j ≤ i)), μ)
  | _, _ => none
theorem op_ge' : OpM X (compareOp .GtE) opGe := opM_of fun pins s σ H x y v u Q ρ μ a b w μ' I rx ry hm ra rb e k => by
  unfold opGe at e
  split at e
  · cases e; cases ra; cases rb
    exact op_ge pins s σ H _ _ v u Q I rx ry ⟨_, _, rfl, rfl, q_val hm k (.bl _)⟩
  · cases e
def isNon : W → Bool
  | .non => true
  | _ => false
theorem rw_non {K : PySem.W.Frag} {ρ : List Addr} {H : Hp} {w : W} {v : V} (r : RW K ρ H w v) (h : ∀ u, w ≠ .st u) : decide (v = .non) = isNon w := by
  cases r with
  | st v => exact absurd rfl (h v)
  | _ => simp [isNon]
def notSt : W → Bool
  | .st _ => false
  | _ => true
theorem notSt_ne {w : W} (h : notSt w = true) (u : V) : w ≠ .st u := fun z => by subst z; cases h
def opIsN : Op2 := fun a b μ => match b with
  | .non => if notSt a then some (.bl (isNon a), μ) else none
  | _ => none
theorem op_isN' : OpM X (compareOp .Is) opIsN := opM_of fun pins s σ H x y v u Q ρ μ a b w μ' I rx ry hm ra rb e k => by
  unfold opIsN at e
  split at e
  · split at e
    · rename_i hz
      cases e; cases rb
      exact op_isN pins s σ H _ _ v u Q I rx ry ⟨rfl, by rw [rw_non ra (notSt_ne hz)]; exact q_val hm k (.bl _)⟩
    · cases e
  · cases e
def opIsNot : Op2 := fun a b μ => match b with
  | .non => if notSt a then some (.bl (!isNon a), μ) else none
  | _ => none
theorem op_isNot' : OpM X (compareOp .IsNot) opIsNot := opM_of fun pins s σ H x y v u Q ρ μ a b w μ' I rx ry hm ra rb e k => by
  unfold opIsNot at e
  split at e
  · split at e
    · rename_i hz
      cases e; cases rb
      exact op_notN pins s σ H _ _ v u Q I rx ry ⟨rfl, by rw [rw_non ra (notSt_ne hz)]; exact q_val hm k (.bl _)⟩
    · cases e
  · cases e

/-! ### in -/
def inM (μ : Mem) (a b : W) : Option Bool := match b with
  | .str z => match a with
    | .str s => match s.cps.toList with
      | [c] => some (decide (c ∈ z.cps.toList))
      | _ => none
    | _ => none
  | .loc n => match μ[n]? with
    | some (.lst xs) => match toD μ 40 a, mapO (toD μ 39) xs with
      | some d, some ds => some (ds.any fun z => PyData.eqv z d)
      | _, _ => none
    | some (.rng lo hi) => match a with
      | .int i => some (decide (lo ≤ i ∧ i < hi))
      | _ => none
    | _ => none
  | .tup xs => match toD μ 40 a, mapO (toD μ 39) xs with
      | some d, some ds => some (ds.any fun z => PyData.eqv z d)
      | _, _ => none
  | _ => none
end
end Mi

set_option Elab.async false
set_option linter.all false
set_option maxRecDepth 100000
set_option maxHeartbeats 1000000
set_option autoImplicit false
namespace Mi
open PySem L2

section
variable {X : Cx} {Wx : WX} {op : Value → Value → Sem Value}
/-! ### in -/
def opIn : Op2 := fun a b μ => (inM μ a b).map fun k => (.bl k, μ)
def opNin : Op2 := fun a b μ => (inM μ a b).map fun k => (.bl (!k), μ)
theorem one_sign {s : Str} {c : Nat} (h : s.cps.toList = [c]) : s = ⟨#[c]⟩ := by
  obtain ⟨a⟩ := s
  congr 1
  exact Array.ext' h
theorem op_nin_rng : OpR X (compareOp .NotIn) (fun x y H Q => ∃ i a lo hi, x = V.int i ∧ y = V.ref a ∧ H a = some (.rng lo hi) ∧ Q (.bl (!decide (lo ≤ i ∧ i < hi))) H) := by
  intro pins s σ H x y v u Q I rx ry h
  obtain ⟨i, a, lo, hi, rfl, rfl, ha, q⟩ := h
  obtain ⟨k, rfl⟩ := rx
  obtain rfl : u = Value.ref a := ry
  obtain ⟨t1, t2, t3, ho⟩ := I.hok a _ ha
  have meets := q_contains a lo hi i t1 t2 t3 k
  show wpAny _ _ (do return Value.bool (!(← contains (Value.ref a) (Value.int i k)))) _ _ s
  have fin : EP X pins σ Q (Value.bool (!(Builtin.Range.rangePlace? lo hi 1 i).isSome)) s := ⟨.bl _, H, I, rfl, by rw [place1]; exact q⟩
  refine wpAny_bind (wpAny_contains_slot (T := "range") ⟨_, ho, rfl⟩ F.slot_range_contains ?_)
  exact call_meets F.slot_range_contains ⟨_, ho, rfl⟩ F.entry_range_contains (F.args_range_contains_2 _ _) meets ⟨ho, wpAny_truthy_bool (wpAny_pure fin)⟩
/-- both answers at once -/
theorem in_core {b : Bool} {cop : CmpOp} {k : Nat} (hr : RoomG k X.A) (hc : (b = false ∧ cop = .In) ∨ (b = true ∧ cop = .NotIn)) :
    OpM X (compareOp cop) (fun x y μ => (inM μ x y).map fun k => (.bl (xor b k), μ)) := opM_of fun pins s σ H x y v u Q ρ μ xa ya w μ' I rx ry hm ra rb e k => by
  have e : ((inM μ xa ya).map fun k => (W.bl (xor b k), μ)) = some (w, μ') := e
  cases ei : inM μ xa ya with
  | none => rw [ei] at e; cases e
  | some t =>
    rw [ei] at e
    cases e
    have qq : Q (.bl (xor b t)) H := q_val hm k (.bl _)
    unfold inM at ei
    split at ei
    · split at ei
      · rename_i z _ sg
        split at ei
        · rename_i c hcs
          cases ei
          cases one_sign hcs
          obtain ⟨rfl, _⟩ := rw_str ra
          obtain ⟨rfl, _⟩ := rw_str rb
          rcases hc with ⟨rfl, rfl⟩ | ⟨rfl, rfl⟩
          · exact op_in_sign pins s σ H _ _ v u Q I rx ry ⟨c, z, rfl, rfl, by simpa using qq⟩
          · exact op_notIn_sign pins s σ H _ _ v u Q I rx ry ⟨c, z, rfl, rfl, by simpa using qq⟩
        · cases ei
      · cases ei
    · rename_i n
      obtain ⟨p, rfl, hp⟩ := rw_loc rb
      split at ei
      · rename_i xs hx
        split at ei
        · rename_i d ds ed eds
          cases ei
          obtain ⟨a1, a2, a3⟩ := toD_ok hm 40 xa x d ra ed
          obtain ⟨vs, h1, h2⟩ := hm.at_ n p _ hp hx
          obtain ⟨b1, b2, b3⟩ := toD_all (fun w v d => toD_ok hm 39 w v d) h2 eds
          obtain ⟨as, r1⟩ := Dp.reads I d x v a1 rx
          obtain ⟨bs, r2⟩ := Dp.reads I (.list ds) _ u (.lst (SqL.of h1) b1) ry
          have room : X.A.units + 1 + min (PyData.depthAll ds) d.depth < cLine := by
            have h1 := hr.r.un
            have : min (PyData.depthAll ds) d.depth ≤ 40 := by omega
            omega
          rcases hc with ⟨rfl, rfl⟩ | ⟨rfl, rfl⟩
          · exact SeqAt.in_list_reads r2 r1 b2 a2 room ⟨.bl _, H, I, rfl, by simpa using qq⟩
          · exact SeqAt.notIn_list_reads r2 r1 b2 a2 room ⟨.bl _, H, I, rfl, by simpa using qq⟩
        · cases ei
      · rename_i lo hi hx
        split at ei
        · rename_i i
          cases ei
          have h1 : H p = some (.rng lo hi) := hm.at_ n p _ hp hx
          cases rw_int ra
          rcases hc with ⟨rfl, rfl⟩ | ⟨rfl, rfl⟩
          · exact op_in_rng pins s σ H _ _ v u Q I rx ry ⟨i, p, lo, hi, rfl, rfl, h1, by simpa using qq⟩
          · exact op_nin_rng pins s σ H _ _ v u Q I rx ry ⟨i, p, lo, hi, rfl, rfl, h1, by simpa using qq⟩
        · cases ei
      · cases ei
    · rename_i xs
      split at ei
      · rename_i d ds ed eds
        cases ei
        obtain ⟨a1, a2, a3⟩ := toD_ok hm 40 xa x d ra ed
        obtain ⟨p, vs, rfl, h1, h2⟩ := rw_tup rb
        obtain ⟨b1, b2, b3⟩ := toD_all (fun w v d => toD_ok hm 39 w v d) h2 eds
        obtain ⟨as, r1⟩ := Dp.reads I d x v a1 rx
        obtain ⟨bs, r2⟩ := Dp.reads I (.tuple ds) _ u (.tup h1 b1) ry
        have room : X.A.units + 1 + min (PyData.depthAll ds) d.depth < cLine := by
          have h1 := hr.r.un
          have : min (PyData.depthAll ds) d.depth ≤ 40 := by omega
          omega
        rcases hc with ⟨rfl, rfl⟩ | ⟨rfl, rfl⟩
        · exact SeqAt.in_tuple_reads r2 r1 b2 a2 room ⟨.bl _, H, I, rfl, by simpa using qq⟩
        · exact SeqAt.notIn_tuple_reads r2 r1 b2 a2 room ⟨.bl _, H, I, rfl, by simpa using qq⟩
      · cases ei
    · cases ei
theorem op_in' {k : Nat} (hr : RoomG k X.A) : OpM X (compareOp .In) opIn := by
  have h := in_core (b := false) hr (.inl ⟨rfl, rfl⟩)
  have e : (fun x y μ => (inM μ x y).map fun k => (W.bl (xor false k), μ)) = opIn := by funext x y μ; simp [opIn]
  rw [e] at h
  exact h
theorem op_nin' {k : Nat} (hr : RoomG k X.A) : OpM X (compareOp .NotIn) opNin := by
  have h := in_core (b := true) hr (.inr ⟨rfl, rfl⟩)
  have e : (fun x y μ => (inM μ x y).map fun k => (W.bl (xor true k), μ)) = opNin := by funext x y μ; simp [opNin]
  rw [e] at h
  exact h

/-! ### items -/
def opIx : Op2 := fun a b μ => match b with
  | .int i => match a with
    | .tup xs => (atI xs i).map fun w => (w, μ)
    | .str z => if z.length ≤ 1000000 then (atI z.cps.toList i).map fun c => (.str ⟨#[c]⟩, μ) else none
    | a => match readL μ a with
      | some xs => (atI xs i).map fun w => (w, μ)
      | none => none
  | _ => none
theorem atI_rws {K : PySem.W.Frag} {ρ : List Addr} {H : Hp} {xs : List W} {vs : List V} {i : Int} {w : W} (r : RWs K ρ H xs vs) (h : atI xs i = some w) : ∃ v, atI vs i = some v ∧ RW K ρ H w v := by
  unfold atI at *
  rw [r.length]
  cases e : ixN xs.length i with
  | none => rw [e] at h; cases h
  | some j =>
    rw [e] at h
    exact r.get h
theorem atI_mem {α : Type} {xs : List α} {i : Int} {x : α} (h : atI xs i = some x) : x ∈ xs := by
  unfold atI at h
  cases e : ixN xs.length i with
  | none => rw [e] at h; cases h
  | some j =>
    rw [e] at h
    exact List.mem_of_getElem? h
theorem ix' : IxR X (rM2 X.K opIx) := by
  intro value slice pins s σ H x y v u Q I rx ry ⟨ρ, μ, a, b, hm, ra, rb, w, μ', e, k⟩ hsub
  unfold opIx at e
  split at e
  · rename_i i
    cases rw_int rb
    split at e
    · rename_i xs
      cases ea : atI xs i with
      | none => rw [ea] at e; cases e
      | some w0 =>
        rw [ea] at e
        cases e
        obtain ⟨p, vs, rfl, h1, h2⟩ := rw_tup ra
        obtain ⟨v1, h3, h4⟩ := atI_rws h2 ea
        exact ix_tup value slice pins s σ H _ _ v u Q I rx ry ⟨p, vs, i, v1, rfl, rfl, h1, h3, q_val hm k h4⟩ hsub
    · rename_i z
      split at e
      · rename_i hz
        cases ea : atI z.cps.toList i with
        | none => rw [ea] at e; cases e
        | some c =>
          rw [ea] at e
          cases e
          obtain ⟨rfl, hs⟩ := rw_str ra
          exact ix_str value slice pins s σ H _ _ v u Q I rx ry ⟨z, i, c, rfl, rfl, lim_le hz, ea, q_val hm k (.str (strOk_sign hs (atI_mem ea)))⟩ hsub
      · cases e
    · split at e
      · rename_i xs eg
        cases ea : atI xs i with
        | none => rw [ea] at e; cases e
        | some w0 =>
          rw [ea] at e
          cases e
          obtain ⟨p, vs, rfl, h1, h2⟩ := rd_lst hm eg ra
          obtain ⟨v1, h3, h4⟩ := atI_rws h2 ea
          exact ix_list value slice pins s σ H _ _ v u Q I rx ry ⟨p, vs, i, v1, rfl, rfl, h1, h3, q_val hm k h4⟩ hsub
      · cases e
  · cases e
/-- xs[i] = v -/
def opSetL : Op3 := fun a b c μ => match a, b with
  | .loc n, .int i => match getL μ n with
    | some xs => (ixN xs.length i).map fun j => μ.set n (.lst (xs.set j c))
    | none => none
  | _, _ => none
theorem setL' : PSet X (rM3 X.K opSetL) := by
  intro pins s σ H o i v ov iv u Q I ro ri rv ⟨ρ, μ, a, b, c, μ', hm, ra, rb, rc, e, k⟩
  unfold opSetL at e
  split at e
  · rename_i n j
    split at e
    · rename_i xs eg
      cases ej : ixN xs.length j with
      | none => rw [ej] at e; cases e
      | some m =>
        rw [ej] at e
        cases e
        obtain ⟨p, rfl, hp⟩ := rw_loc ra
        cases rw_int rb
        obtain ⟨vs, h1, r1⟩ := rm_lst hm eg hp
        have h2 : ixN vs.length j = some m := by rw [r1.length]; exact ej
        obtain ⟨q1, q2⟩ := q_set hm hp h1 (r1.set rc m)
        exact set_list pins s σ H _ _ v ov iv u Q I ro ri rv ⟨p, vs, j, m, rfl, rfl, h1, h2, k ρ _ q1 q2⟩
    · cases e
  · cases e

/-! ### slices -/
def mOpt (o : Option (Sl → Mem → R W)) : Sl → Mem → R (Option Int) := match o with
  | none => fun _ μ => .ok none μ
  | some m => fun δ μ => (m δ μ).bind fun w μ1 => match w with
    | .int i => .ok (some i) μ1
    | _ => .stuck
def tMo (K : PySem.W.Frag) (Wx : WX) (m : Sl → Mem → R (Option Int)) : TO := fun σ H Q => ∃ ρ δ μ, RM K ρ H μ ∧ RS K ρ H δ σ ∧ Res K (fun c d H' => Wx c d σ H') ρ H (m δ μ) (fun o _ H' _ => Q o H')
structure MO' (X : Cx) (Wx : WX) (e : Option Expr) (m : Sl → Mem → R (Option Int)) : Prop where
  po : PO X e (tMo X.K Wx m)
theorem _root_.L2.PO.weak {X : Cx} {e : Option Expr} {t t' : TO} (h : PO X e t) (k : ∀ σ H Q, t' σ H Q → t σ H Q) : PO X e t' := ⟨fun pins s σ H Q I q => h.run pins s σ H Q I (k σ H Q q)⟩
theorem mo_none : MO' X Wx none (mOpt none) := ⟨po_none.weak fun σ H Q ⟨ρ, δ, μ, hm, hs, q⟩ => res_ok q hm⟩
theorem mo_some {e : Expr} {m : Sl → Mem → R W} (h : ME X Wx e m) : MO' X Wx (some e) (mOpt (some m)) := ⟨(po_some h.pe).weak fun σ H Q ⟨ρ, δ, μ, hm, hs, q⟩ => tM_bind hm hs q fun w ρ1 H1 μ1 x e1 m1 s1 rx q1 => by
  cases w with
  | int i =>
    cases rw_int rx
    exact ⟨i, rfl, res_ok q1 m1⟩
  | _ => exact q1.elim⟩
abbrev OpS := W → Option Int → Option Int → Mem → Option (W × Mem)
def rMS (K : PySem.W.Frag) (f : OpS) : V → Option Int → Option Int → Hp → VK → Prop := fun x lo hi H Q => ∃ ρ μ a, RM K ρ H μ ∧ RW K ρ H a x ∧ QO K ρ H (f a lo hi μ) Q
def mSl (f : OpS) (m : Sl → Mem → R W) (ml mh : Sl → Mem → R (Option Int)) : Sl → Mem → R W := fun δ μ => (m δ μ).bind fun x μ1 => (ml δ μ1).bind fun lo μ2 => (mh δ μ2).bind fun hi μ3 => R.ofO (f x lo hi μ3)
theorem me_sl {e : Expr} {lo hi : Option Expr} {f : OpS} {m : Sl → Mem → R W} {ml mh : Sl → Mem → R (Option Int)} {p2 pos : Pos} (hf : SlR X (rMS X.K f)) (he : ME X Wx e m) (hl : MO' X Wx lo ml) (hh : MO' X Wx hi mh) : ME X Wx (.Subscript e (.Slice lo hi none p2) pos) (mSl f m ml mh) :=
  ⟨(pe_slice hf he.pe hl.po hh.po).weak fun σ H Q ⟨ρ, δ, μ, hm, hs, q⟩ => tM_bind hm hs q fun w ρ1 H1 μ1 x e1 m1 s1 rx q1 =>
    ⟨ρ1, δ, μ1, m1, s1, (Res.bind q1).imp fun lo ρ2 H2 μ2 e2 m2 q2 => ⟨ρ2, δ, μ2, m2, s1.mono e2, (Res.bind q2).imp fun hi ρ3 H3 μ3 e3 m3 q3 => ⟨ρ3, μ3, w, m3, (rx.mono e2).mono e3, qo_of q3⟩⟩⟩⟩
def cutW {α : Type} (xs : List α) (lo hi : Option Int) : List α := (xs.drop (HT.sIx xs.length 0 lo)).take (HT.sIx xs.length xs.length hi - HT.sIx xs.length 0 lo)
theorem cut_rws {K : PySem.W.Frag} {ρ : List Addr} {H : Hp} {xs : List W} {vs : List V} (r : RWs K ρ H xs vs) (lo hi : Option Int) : RWs K ρ H (cutW xs lo hi) (cutV vs lo hi) := by
  unfold cutW cutV
  rw [r.length]
  exact (r.drop _).take _
def opCut : OpS := fun a lo hi μ => match a with
  | .tup xs => some (.tup (cutW xs lo hi), μ)
  | .str z => if z.length ≤ 1000000 then some (.str ⟨(cutW z.cps.toList lo hi).toArray⟩, μ) else none
  | a => match readL μ a with
    | some xs => some (.loc μ.length, μ ++ [.lst (cutW xs lo hi)])
    | none => none
theorem strOk_cut {z : Str} (h : PyData.strOk z = true) (lo hi : Option Int) : PyData.strOk ⟨(cutW z.cps.toList lo hi).toArray⟩ = true := by
  have h1 : z.cps.all (· < 0x110000) = true := h
  show (cutW z.cps.toList lo hi).toArray.all (· < 0x110000) = true
  rw [List.all_toArray, List.all_eq_true]
  intro c hc
  exact Array.all_eq_true'.mp h1 c (by simpa using List.mem_of_mem_drop (List.mem_of_mem_take hc))
theorem sl' : SlR X (rMS X.K opCut) := by
  intro pins s σ H x v vl vu lo hi sl Q I rx hs pl pu ⟨ρ, μ, a, hm, ra, w, μ', e, k⟩
  unfold opCut at e
  split at e
  · cases e
    obtain ⟨p, vs, rfl, h1, h2⟩ := rw_tup ra
    refine sl_tupA pins s σ H _ v vl vu lo hi sl Q I rx hs pl pu ⟨p, vs, rfl, h1, fun hw => ?_, fun _ p2 hp => q_tup hm k (cut_rws h2 lo hi) hp⟩
    refine q_val hm k ?_
    have e1 : cutV vs lo hi = vs := by
      unfold cutV
      rw [hw.1, hw.2]
      simp
    have e2 : RWs X.K ρ H (cutW _ lo hi) (cutV vs lo hi) := cut_rws h2 lo hi
    rw [e1] at e2
    exact .tup h1 e2
  · split at e
    · rename_i z hz
      cases e
      obtain ⟨rfl, h1⟩ := rw_str ra
      exact sl_str pins s σ H _ v vl vu lo hi sl Q I rx hs pl pu ⟨z, rfl, lim_le hz, q_val hm k (.str (strOk_cut h1 lo hi))⟩
    · cases e
  · split at e
    · rename_i xs eg
      cases e
      obtain ⟨p, vs, rfl, h1, h2⟩ := rd_lst hm eg ra
      exact sl_list pins s σ H _ v vl vu lo hi sl Q I rx hs pl pu ⟨p, vs, rfl, h1, fun p2 hp => q_lst hm k (cut_rws h2 lo hi) hp⟩
    · cases e
/-! ### t[::-1] -/
open PySem.Spec PyProof.Rows
theorem rev_applied {prog : Program} {w : World} {A : Around} {E : Value → Shared → Prop} {s : Shared} {sl : Addr} {vs : Value} {n : Nat} {Q : Int × Int × Nat → Shared → Prop} (hs : s.heap.IsSliceOf sl .none .none vs) (ps : IsPart vs (some (-1)))
    (h : Q ((n : Int) - 1, -1, n) s) : wpAny (model prog w) A (Builtin.Slice.sliceApplied (.ref sl) (pure (n : Int))) Q E s := by
  obtain ⟨os, hos, hcs, hds⟩ := id hs
  have part : ∀ {R : Option Int → Shared → Prop}, R (some (-1)) s → wpAny (model prog w) A (Builtin.Slice.slicePartIndex vs) R E s := fun {R} r => HT.slicePart_ ps r
  have pn : ∀ {R : Option Int → Shared → Prop}, R none s → wpAny (model prog w) A (Builtin.Slice.slicePartIndex .none) R E s := fun {R} r => HT.slicePart_ .none r
  unfold Builtin.Slice.sliceApplied Builtin.Slice.sliceFields
  refine wpAny_bind (wpAny_bind (wpAny_field hos hds (x := .none) rfl ?_))
  refine wpAny_bind (wpAny_field hos hds (x := .none) rfl ?_)
  refine wpAny_bind (wpAny_field hos hds (x := vs) rfl (wpAny_pure ?_))
  refine wpAny_bind (part ?_)
  show wpAny _ _ (if ((-1 : Int) == 0) = true then _ else _) _ _ s
  rw [if_neg (by decide)]
  refine wpAny_bind (pn (wpAny_bind (pn ?_)))
  refine wpAny_bind (wpAny_pure ?_)
  have e : Builtin.Slice.slicePlaces ((n : Int) - 1) (-1) (-1) = n := by
    unfold Builtin.Slice.slicePlaces
    rw [if_neg (by decide)]
    by_cases hn : n = 0
    · subst hn; decide
    · rw [if_pos (by omega)]
      show (((n : Int) - 1 - -1 - 1) / 1 + 1).toNat = n
      omega
  show wpAny _ _ (pure ((n : Int) - 1, (-1 : Int), Builtin.Slice.slicePlaces ((n : Int) - 1) (-1) (-1))) _ _ s
  rw [e]
  exact wpAny_pure h
theorem rev_pick (xs : Array Value) : ((List.range xs.size).filterMap fun (m : Nat) => xs[((xs.size : Int) - 1 + (m : Int) * -1).toNat]?).toArray = xs.toList.reverse.toArray := by
  have e : (fun (m : Nat) => xs[((xs.size : Int) - 1 + (m : Int) * -1).toNat]?) = (fun k => xs[k]?) ∘ fun k => xs.size - 1 - k := by
    funext m
    have e1 : ((xs.size : Int) - 1 + (m : Int) * -1).toNat = xs.size - 1 - m := by omega
    simp only [Function.comp]
    rw [e1]
  rw [e, ← List.filterMap_map, PySem.W.krv_range, List.filterMap_reverse, PySem.W.krv_all]
theorem getItem_rev {prog : Program} {w : World} {A : Around} {E : Value → Shared → Prop} {s : Shared} {t sl : Addr} {items : Array Value} {vs : Value} {Q : Value → Shared → Prop} (ht : IsTup s.heap t items) (hs : s.heap.IsSliceOf sl .none .none vs) (ps : IsPart vs (some (-1)))
    (h : Q (.ref s.heap.objs.size) { s with heap := s.heap.push { cls := .type "tuple", data := .seq items.toList.reverse.toArray } }) (hsz : items.size ≤ sizeLine) : wpAny (model prog w) A (getItem (.ref t) (.ref sl)) Q E s := by
  obtain ⟨os, hos, hcs, hds⟩ := id hs
  have isSl : s.TypeIs (.ref sl) "slice" := ⟨os, hos, hcs⟩
  have fits : sizeOk (.seq items.toList.reverse.toArray) := by
    show items.toList.reverse.toArray.size ≤ sizeLine
    simpa using hsz
  unfold getItem
  try with_reducible refine wpAny_holding ?_
  first | refine wpAny_bind (wpAny_pure ?_) | skip
  refine wpAny_bind (wpAny_sequenceKey ht.typeIs (by decide) (wpAny_bind (wpAny_callSpecial?_slot (name := Str.ofString "__getitem__") ht.typeIs PyProof.Rows.slot_tuple_getitem ?_)))
  refine wpAny_call_entry PyProof.Rows.slot_tuple_getitem ht.typeIs PyProof.Rows.entry_tuple_getitem ?_ (PyProof.Rows.args_tuple_getitem _ _)
  show wpAny _ _ (Builtin.Tuple.tupleItemsOf (.ref t) >>= _) _ _ s
  refine wpAny_bind (PyProof.Rows.tupleItemsOf_ ht (wpAny_bind (wpAny_typeOf isSl ?_)))
  rw [if_pos (by decide)]
  refine wpAny_bind (rev_applied (n := items.size) hs ps ?_)
  show wpAny _ _ (if (((items.size : Int) - 1) == 0 && (-1 : Int) == 1 && items.size == items.size) = true then _ else _) _ _ s
  rw [if_neg (by simp), rev_pick]
  have new : wpAny (model prog w) A (Builtin.Tuple.tupleExact items.toList.reverse.toArray) (fun v s' => Q v s') E s := wpAny_newObj_type h fits
  first
    | exact wpAny_bind (m := Builtin.Tuple.tupleExact _) (wpAny_newObj_type (wpAny_pure ⟨_, rfl, wpAny_pure h⟩) fits)
    | exact wpAny_bind (m := Builtin.Tuple.tupleExact _) (wpAny_newObj_type (wpAny_bind (wpAny_pure (wpAny_pure ⟨_, rfl, wpAny_pure h⟩))) fits)
    | exact wpAny_bind (wpAny_bind (m := Builtin.Tuple.tupleExact _) (wpAny_newObj_type (wpAny_pure (wpAny_pure ⟨_, rfl, wpAny_pure h⟩)) fits))
def opRev : Op1 := fun a μ => match a with
  | .tup xs => some (.tup xs.reverse, μ)
  | _ => none
theorem me_revT {Wx : WX} {e : Expr} {m : Sl → Mem → R W} {k : Nat} {p1 p2 p3 pos : Pos} (he : ME X Wx e m) : ME X Wx (.Subscript e (.Slice none none (some (.UnaryOp .USub (.Constant (.int 1) k p1) p2)) p3) pos) (mUn opRev m) := by
  refine ⟨⟨fun pins s σ H Q I ⟨ρ, δ, μ, hm, hs, q⟩ => ?_⟩⟩
  have run := he.pe.run pins s σ H (fun v H1 => ∃ ρ1 μ1 xs, RM X.K ρ1 H1 μ1 ∧ RW X.K ρ1 H1 (.tup xs) v ∧ QO X.K ρ1 H1 (opRev (.tup xs) μ1) Q) I (tM_bind hm hs q fun w ρ1 H1 μ1 x e1 m1 s1 rx q1 => by
    cases w with
    | tup xs => exact ⟨ρ1, μ1, xs, m1, rx, qo_of q1⟩
    | _ => exact q1.elim)
  refine PyProof.Rows.Subscript_ (thn run fun v s1 ⟨x, H1, I1, r1, ρ1, μ1, xs, m1, rx, w, μ', ew, kq⟩ => ?_)
  cases ew
  obtain ⟨a, vs, rfl, h1, h2⟩ := rw_tup rx
  cases r1
  have hst : PO X (some (.UnaryOp .USub (.Constant (.int 1) k p1) p2)) (tPart (tUn (rU fun i => .int (-i)) (tC (.int 1)))) := po_some (pe_un un_neg pe_int)
  refine wpAny_Slice (thn (po_none.run pins s1 σ H1 (fun o H2 => o = none ∧ H2 = H1) I1 ⟨rfl, rfl⟩) ?_)
  rintro vl s2 ⟨l, H2, I2, pl, el, e2⟩
  subst el e2
  refine thn (po_none.run pins s2 σ H2 (fun o H3 => o = none ∧ H3 = H2) I2 ⟨rfl, rfl⟩) ?_
  rintro vu s3 ⟨u, H3, I3, pu, eu, e3⟩
  subst eu e3
  refine thn (hst.run pins s3 σ H3 (fun o H4 => o = some (-1) ∧ H4 = H3) I3 ⟨1, rfl, -1, rfl, rfl, rfl⟩) ?_
  rintro vst s4 ⟨o, H4, I4, ps, eo, e4⟩
  subst eo e4
  have vl0 : vl = .none := by cases pl; rfl
  have vu0 : vu = .none := by cases pu; rfl
  subst vl0 vu0
  have I5 : Inv X pins σ H4 { s4 with heap := s4.heap.push { cls := .type "slice", data := .fields #[.none, .none, vst] } } := I4.kept (t' := s4.toks) fun b ob q => Heap.get?_push_of_some _ q
  obtain ⟨its, r, ht, hz⟩ := I5.tuple h1
  have hlen := r.length
  show wpAny (model X.prog X.w) X.A (subscriptTail e (.Slice none none (some (.UnaryOp .USub (.Constant (.int 1) k p1) p2)) p3) (.ref a) (.ref s4.heap.objs.size)) (EP X pins σ Q) X.xe _
  refine tail_any (ops := [.ref a, .ref s4.heap.objs.size]) ht.typeIs PyProof.Rows.slot_tuple_getitem.lookup ?_ (by with_unfolding_all rfl)
  refine getItem_rev ht (Heap.IsSliceOf.new _ .none .none vst) ps ?_ (by rw [List.size_toArray]; omega)
  refine ⟨.ref _, _, I5.laid (t' := s4.toks) (o := .tup vs.reverse) (fun b ob q => Heap.get?_push_of_some _ q) (Nat.le_refl _) ?_, rfl, q_tup m1 kq h2.reverse (I5.hok.fresh (Nat.le_refl _))⟩
  exact ⟨by rw [List.length_reverse]; exact hz, _, r.reverse, IsTup.new _ _⟩
end
end Mi

set_option Elab.async false
set_option linter.all false
set_option maxRecDepth 100000
set_option maxHeartbeats 1000000
set_option autoImplicit false
namespace Mi
open PySem L2

section
variable {X : Cx} {Wx : WX} {a b c e : Expr} {pos : Pos} {ma mb mc m : Sl → Mem → R W} {ta tb : Sl → Mem → R Bool} {es : List Expr} {ms : Sl → Mem → R (List W)}
/-! ### chains -/
theorem tM_chain {f g : Op2} {K : PySem.W.Frag} {σ : L2.St} {H : Hp} {Q : VK} (h : tM K Wx (mChain f g ma mb mc) σ H Q) : tChain (rM2 K f) (rM2 K g) (tM K Wx ma) (tM K Wx mb) (tM K Wx mc) σ H Q := by
  obtain ⟨ρ, δ, μ, hm, hs, q⟩ := h
  refine tM_bind hm hs q fun x ρ1 H1 μ1 xv e1 m1 s1 rx q1 => tM_bind m1 s1 q1 fun y ρ2 H2 μ2 yv e2 m2 s2 ry q2 => ?_
  refine ⟨ρ2, μ2, x, y, m2, rx.mono e2, ry, ?_⟩
  cases ef : f x y μ2 with
  | none => rw [ef] at q2; exact q2.elim
  | some r =>
    obtain ⟨z, μ3⟩ := r
    rw [ef] at q2
    refine ⟨z, μ3, rfl, fun ρ3 H3 zv e3 m3 rz => ?_⟩
    have q3 := (Res.bind q2) ρ3 H3 e3 m3
    cases z with
    | bl k =>
      cases rw_bl rz
      have q3 := Res.bind (show Res K _ ρ3 H3 ((R.ok k μ3).bind _) _ from q3)
      have q4 := q3 ρ3 H3 (Ext.refl _ _) m3
      refine ⟨k, rfl, ?_⟩
      cases k with
      | false => exact res_ok q4 m3 _ (.bl _)
      | true => exact tM_bind m3 (s2.mono e3) q4 fun u ρ4 H4 μ4 uv e4 m4 s4 ru q5 => ⟨ρ4, μ4, y, u, m4, (ry.mono e3).mono e4, ru, qo_of q5⟩
    | _ => exact q3.elim
theorem me_chain {op op' : CmpOp} {f g : Op2} (ho : OpM X (compareOp op) f) (ho' : OpM X (compareOp op') g) (ha : ME X Wx a ma) (hb : ME X Wx b mb) (hc : ME X Wx c mc) (hm : lastMarks [op, op'] [b, c] = false := by with_unfolding_all rfl) :
    ME X Wx (.Compare a [op, op'] [b, c] pos) (mChain f g ma mb mc) := ⟨(pe_chain ho.op ho'.op ha.pe hb.pe hc.pe hm).weak fun σ H Q h => tM_chain h⟩
theorem mt_chain {op op' : CmpOp} {f g : Op2} (ho : OpM X (compareOp op) f) (ho' : OpM X (compareOp op') g) (ha : ME X Wx a ma) (hb : ME X Wx b mb) (hc : ME X Wx c mc) (hm : lastMarks [op, op'] [b, c] = false := by with_unfolding_all rfl) :
    MT X Wx (.Compare a [op, op'] [b, c] pos) (tBl (mChain f g ma mb mc)) := ⟨(pt_chain ho.op ho'.op ha.pe hb.pe hc.pe hm).weak fun σ H Q h => tM_chain (tM_bl h)⟩

/-! ### built-in functions -/
abbrev OpC := List W → Mem → Option (W × Mem)
def rMC (K : PySem.W.Frag) (f : OpC) : List V → Hp → VK → Prop := fun vs H Q => ∃ ρ μ ws, RM K ρ H μ ∧ RWs K ρ H ws vs ∧ QO K ρ H (f ws μ) Q
def mCb (f : OpC) (ms : Sl → Mem → R (List W)) : Sl → Mem → R W := fun δ μ => (ms δ μ).bind fun ws μ1 => R.ofO (f ws μ1)
theorem tM_cb {f : OpC} {K : PySem.W.Frag} {σ : L2.St} {H : Hp} {Q : VK} (h : tM K Wx (mCb f ms) σ H Q) : tCB (rMC K f) (tMs K Wx ms) σ H Q := by
  obtain ⟨ρ, δ, μ, hm, hs, q⟩ := h
  exact tMs_bind hm hs q fun ws ρ1 H1 μ1 vs e1 m1 s1 rv q1 => ⟨ρ1, μ1, ws, m1, rv, qo_of q1⟩
theorem me_cb {id : String} {x : Str} {p : Pos} {f : OpC} (hc : CallR X (.builtin id) (rMC X.K f)) (hg : Gl X x) (hm : X.mg x = none) (hv : bootBuiltins x = some (.builtin id)) (ha : MA X Wx (e :: es) ms) (hn : x ≠ "__name__" := by decide) (hdb : (x == ("__debug__" : Str)) = false := by decide)
    (he : starEach (e :: es) X.env = (false, eval e X.env) :: starEach es X.env := by rfl) (hpl : (backTo pos (starEach es X.env)).any (·.1) = false := by rfl) : ME X Wx (.Call (.Name x p) (e :: es) [] pos) (mCb f ms) :=
  ⟨(pe_callB hc hg hm hv ha.pa hn hdb he hpl).weak fun σ H Q h => tM_cb h⟩
theorem me_ct {T : String} {x : Str} {p : Pos} {f : OpC} (hc : CallR X (.type T) (rMC X.K f)) (hg : Gl X x) (hm : X.mg x = none) (hv : bootBuiltins x = some (.type T)) (ha : MA X Wx (e :: es) ms) (hn : x ≠ "__name__" := by decide) (hdb : (x == ("__debug__" : Str)) = false := by decide)
    (he : starEach (e :: es) X.env = (false, eval e X.env) :: starEach es X.env := by rfl) (hpl : (backTo pos (starEach es X.env)).any (·.1) = false := by rfl) : ME X Wx (.Call (.Name x p) (e :: es) [] pos) (mCb f ms) :=
  ⟨(pe_callTy hc hg hm hv ha.pa hn hdb he hpl).weak fun σ H Q h => tM_cb h⟩
theorem callM_of {u : Value} {f : OpC} (h : ∀ (pins : List (Addr × Obj)) (s : Shared) (σ : L2.St) (H : Hp) (xs : List V) (us : List Value) (Q : VK) (ρ : List Addr) (μ : Mem) (ws : List W) (w : W) (μ' : Mem), Inv X pins σ H s → Vals xs us → RM X.K ρ H μ → RWs X.K ρ H ws xs → f ws μ = some (w, μ') →
    (∀ ρ' H' v, Ext ρ H ρ' H' → RM X.K ρ' H' μ' → RW X.K ρ' H' w v → Q v H') → wpAny (model X.prog X.w) X.A (call u us) (EP X pins σ Q) X.xe s) : CallR X u (rMC X.K f) :=
  fun pins s σ H xs us Q I rv ⟨ρ, μ, ws, hm, rw, w, μ', e, k⟩ => h pins s σ H xs us Q ρ μ ws w μ' I rv hm rw e k
def cLen : OpC := fun ws μ => match ws with
  | [.str z] => if z.length ≤ 1000000 then some (.int (z.length : Nat), μ) else none
  | [.tup xs] => some (.int (xs.length : Nat), μ)
  | [.loc n] => match μ[n]? with
    | some (.lst xs) => some (.int (xs.length : Nat), μ)
    | some (.dct kvs) => some (.int (kvs.length : Nat), μ)
    | _ => none
  | [.fl xs] => some (.int (xs.length : Nat), μ)
  | _ => none
theorem c_len : CallR X (.builtin "len") (rMC X.K cLen) := callM_of fun pins s σ H xs us Q ρ μ ws w μ' I rv hm rw e k => by
  unfold cLen at e
  split at e
  · split at e
    · rename_i z hz
      cases e
      obtain ⟨v, rfl, r1⟩ := rws_1 rw
      obtain ⟨rfl, _⟩ := rw_str r1
      exact call_len_str pins s σ H _ us Q I rv ⟨z, rfl, lim_le hz, q_val hm k (.int _)⟩
    · cases e
  · cases e
    obtain ⟨v, rfl, r1⟩ := rws_1 rw
    obtain ⟨p, vs, rfl, h1, h2⟩ := rw_tup r1
    exact call_len_seq pins s σ H _ us Q I rv ⟨p, vs, rfl, .inr h1, by rw [h2.length]; exact q_val hm k (.int _)⟩
  · obtain ⟨v, rfl, r1⟩ := rws_1 rw
    obtain ⟨p, rfl, hp⟩ := rw_loc r1
    split at e
    · rename_i xs hx
      cases e
      obtain ⟨vs, h1, h2⟩ := hm.at_ _ p _ hp hx
      exact call_len_seq pins s σ H _ us Q I rv ⟨p, vs, rfl, .inl (SqL.of h1), by rw [h2.length]; exact q_val hm k (.int _)⟩
    · rename_i kvs hx
      cases e
      obtain ⟨vs, h1, h2⟩ := hm.at_ _ p _ hp hx
      have hl : vs.length = kvs.length := by
        have := congrArg List.length h2.1
        simpa using this.symm
      exact call_lenD pins s σ H _ us Q I rv ⟨p, vs, rfl, h1, by rw [hl]; exact q_val hm k (.int _)⟩
    · cases e
  · cases e
    obtain ⟨v, rfl, r1⟩ := rws_1 rw
    obtain ⟨p, vs, rfl, h1, h2⟩ := rw_fl r1
    exact call_len_seq pins s σ H _ us Q I rv ⟨p, vs, rfl, .inl h1.sqL, by rw [h2.length]; exact q_val hm k (.int _)⟩
  · cases e
def cAbs : OpC := fun ws μ => match ws with
  | [.int i] => some (.int (if i < 0 then -i else i), μ)
  | _ => none
theorem c_abs : CallR X (.builtin "abs") (rMC X.K cAbs) := callM_of fun pins s σ H xs us Q ρ μ ws w μ' I rv hm rw e k => by
  unfold cAbs at e
  split at e
  · cases e
    obtain ⟨v, rfl, r1⟩ := rws_1 rw
    cases rw_int r1
    exact call_abs pins s σ H _ us Q I rv ⟨_, rfl, q_val hm k (.int _)⟩
  · cases e
def cMax : OpC := fun ws μ => match ws with
  | [.int i, .int j] => some (.int (if j > i then j else i), μ)
  | _ => none
theorem c_max (hc : X.calm = true) : CallR X (.builtin "max") (rMC X.K cMax) := callM_of fun pins s σ H xs us Q ρ μ ws w μ' I rv hm rw e k => by
  unfold cMax at e
  split at e
  · cases e
    obtain ⟨v, u, rfl, r1, r2⟩ := rws_2 rw
    cases rw_int r1
    cases rw_int r2
    exact call_max2 hc pins s σ H _ us Q I rv ⟨_, _, rfl, q_val hm k (.int _)⟩
  · cases e
def cMin : OpC := fun ws μ => match ws with
  | [.int i, .int j] => some (.int (if j < i then j else i), μ)
  | _ => none
theorem c_min (hc : X.calm = true) : CallR X (.builtin "min") (rMC X.K cMin) := callM_of fun pins s σ H xs us Q ρ μ ws w μ' I rv hm rw e k => by
  unfold cMin at e
  split at e
  · cases e
    obtain ⟨v, u, rfl, r1, r2⟩ := rws_2 rw
    cases rw_int r1
    cases rw_int r2
    exact call_min2 hc pins s σ H _ us Q I rv ⟨_, _, rfl, q_val hm k (.int _)⟩
  · cases e
def cInt : OpC := fun ws μ => match ws with
  | [.int i] => some (.int i, μ)
  | [.bl b] => some (.int (if b then 1 else 0), μ)
  | _ => none
theorem c_int : CallR X (.type "int") (rMC X.K cInt) := callM_of fun pins s σ H xs us Q ρ μ ws w μ' I rv hm rw e k => by
  unfold cInt at e
  split at e
  · cases e
    obtain ⟨v, rfl, r1⟩ := rws_1 rw
    cases rw_int r1
    exact call_int1 pins s σ H _ us Q I rv (.inl ⟨_, rfl, q_val hm k (.int _)⟩)
  · cases e
    obtain ⟨v, rfl, r1⟩ := rws_1 rw
    cases rw_bl r1
    exact call_int1 pins s σ H _ us Q I rv (.inr ⟨_, rfl, q_val hm k (.int _)⟩)
  · cases e
def cTuple : OpC := fun ws μ => match ws with
  | [.tup xs] => some (.tup xs, μ)
  | [.loc n] => (getL μ n).map fun xs => (.tup xs, μ)
  | [.fl xs] => some (.tup xs, μ)
  | _ => none
theorem c_tuple : CallR X (.type "tuple") (rMC X.K cTuple) := callM_of fun pins s σ H xs us Q ρ μ ws w μ' I rv hm rw e k => by
  unfold cTuple at e
  split at e
  · cases e
    obtain ⟨v, rfl, r1⟩ := rws_1 rw
    obtain ⟨p, vs, rfl, h1, h2⟩ := rw_tup r1
    exact call_tuple_of pins s σ H _ us Q I rv ⟨p, vs, rfl, .inr ⟨h1, q_val hm k r1⟩⟩
  · rename_i n
    cases eg : getL μ n with
    | none => rw [eg] at e; cases e
    | some ys =>
      rw [eg] at e
      cases e
      obtain ⟨v, rfl, r1⟩ := rws_1 rw
      obtain ⟨p, rfl, hp⟩ := rw_loc r1
      obtain ⟨vs, h1, h2⟩ := rm_lst hm eg hp
      exact call_tuple_of pins s σ H _ us Q I rv ⟨p, vs, rfl, .inl ⟨SqL.of h1, fun l hl => q_tup hm k h2 hl⟩⟩
  · cases e
    obtain ⟨v, rfl, r1⟩ := rws_1 rw
    obtain ⟨p, vs, rfl, h1, h2⟩ := rw_fl r1
    exact call_tuple_of pins s σ H _ us Q I rv ⟨p, vs, rfl, .inl ⟨h1.sqL, fun l hl => q_tup hm k h2 hl⟩⟩
  · cases e
def cList : OpC := fun ws μ => match ws with
  | [.tup xs] => some (.loc μ.length, μ ++ [.lst xs])
  | [.loc n] => (getL μ n).map fun xs => (.loc μ.length, μ ++ [.lst xs])
  | [.fl xs] => some (.loc μ.length, μ ++ [.lst xs])
  | _ => none
theorem c_list : CallR X (.type "list") (rMC X.K cList) := callM_of fun pins s σ H xs us Q ρ μ ws w μ' I rv hm rw e k => by
  unfold cList at e
  split at e
  · cases e
    obtain ⟨v, rfl, r1⟩ := rws_1 rw
    obtain ⟨p, vs, rfl, h1, h2⟩ := rw_tup r1
    exact call_list_of pins s σ H _ us Q I rv ⟨p, vs, rfl, .inr h1, fun l hl => q_lst hm k h2 hl⟩
  · rename_i n
    cases eg : getL μ n with
    | none => rw [eg] at e; cases e
    | some ys =>
      rw [eg] at e
      cases e
      obtain ⟨v, rfl, r1⟩ := rws_1 rw
      obtain ⟨p, rfl, hp⟩ := rw_loc r1
      obtain ⟨vs, h1, h2⟩ := rm_lst hm eg hp
      exact call_list_of pins s σ H _ us Q I rv ⟨p, vs, rfl, .inl (SqL.of h1), fun l hl => q_lst hm k h2 hl⟩
  · cases e
    obtain ⟨v, rfl, r1⟩ := rws_1 rw
    obtain ⟨p, vs, rfl, h1, h2⟩ := rw_fl r1
    exact call_list_of pins s σ H _ us Q I rv ⟨p, vs, rfl, .inl h1.sqL, fun l hl => q_lst hm k h2 hl⟩
  · cases e
/-- a list of bools -/
def asBl : W → Option Bool
  | .bl b => some b
  | _ => none
def bools (xs : List W) : Option (List Bool) := mapO asBl xs
theorem bools_rws {K : PySem.W.Frag} {ρ : List Addr} {H : Hp} : ∀ {xs : List W} {vs : List V} {bs : List Bool}, RWs K ρ H xs vs → bools xs = some bs → vs = bs.map V.bl
  | [], _, _, r, h => by cases r; cases h; rfl
  | x :: xs, _, bs, r, h => by
    cases r with
    | cons r1 r2 =>
      cases x with
      | bl b =>
        cases rw_bl r1
        simp only [bools, mapO, asBl] at h
        cases e : mapO asBl xs with
        | none => rw [e] at h; cases h
        | some bs' =>
          rw [e] at h
          cases h
          rw [bools_rws r2 e]
          rfl
      | _ => cases h
def cAll : OpC := fun ws μ => match ws with
  | [.loc n] => match getL μ n with
    | some xs => (bools xs).map fun bs => (.bl (bs.all id), μ)
    | none => none
  | _ => none
theorem c_all (hc : X.calm = true) : CallR X (.builtin "all") (rMC X.K cAll) := callM_of fun pins s σ H xs us Q ρ μ ws w μ' I rv hm rw e k => by
  unfold cAll at e
  split at e
  · split at e
    · rename_i n _ xs eg
      cases eb : bools xs with
      | none => rw [eb] at e; cases e
      | some bs =>
        rw [eb] at e
        cases e
        obtain ⟨v, rfl, r1⟩ := rws_1 rw
        obtain ⟨p, rfl, hp⟩ := rw_loc r1
        obtain ⟨vs, h1, h2⟩ := rm_lst hm eg hp
        have e2 := bools_rws h2 eb
        subst e2
        exact cr_all hc pins s σ H _ us Q I rv ⟨p, bs, rfl, SqL.of h1, q_val hm k (.bl _)⟩
    · cases e
  · cases e
def cAny : OpC := fun ws μ => match ws with
  | [.loc n] => match getL μ n with
    | some xs => (bools xs).map fun bs => (.bl (bs.any id), μ)
    | none => none
  | _ => none
theorem c_any (hc : X.calm = true) : CallR X (.builtin "any") (rMC X.K cAny) := callM_of fun pins s σ H xs us Q ρ μ ws w μ' I rv hm rw e k => by
  unfold cAny at e
  split at e
  · split at e
    · rename_i n _ xs eg
      cases eb : bools xs with
      | none => rw [eb] at e; cases e
      | some bs =>
        rw [eb] at e
        cases e
        obtain ⟨v, rfl, r1⟩ := rws_1 rw
        obtain ⟨p, rfl, hp⟩ := rw_loc r1
        obtain ⟨vs, h1, h2⟩ := rm_lst hm eg hp
        have e2 := bools_rws h2 eb
        subst e2
        exact cr_any hc pins s σ H _ us Q I rv ⟨p, bs, rfl, SqL.of h1, q_val hm k (.bl _)⟩
    · cases e
  · cases e
def cRange : OpC := fun ws μ => match ws with
  | [.int i, .int j] => some (.loc μ.length, μ ++ [.rng i j])
  | _ => none
theorem c_range : CallR X (.type "range") (rMC X.K cRange) := callM_of fun pins s σ H xs us Q ρ μ ws w μ' I rv hm rw e k => by
  unfold cRange at e
  split at e
  · cases e
    obtain ⟨v, u, rfl, r1, r2⟩ := rws_2 rw
    cases rw_int r1
    cases rw_int r2
    exact cr_range2 pins s σ H _ us Q I rv ⟨_, _, rfl, fun p hp => k (ρ ++ [p]) _ _ (Ext.newT hm hp) (hm.newT hp upd_same) (.loc (RM.newLoc hm.len))⟩
  · cases e
/-! isinstance -/
/-- a value's class, as far as it is a built-in one -/
def clsOf (μ : Mem) : W → Option String
  | .non => some "NoneType"
  | .bl _ => some "bool"
  | .int _ => some "int"
  | .str _ => some "str"
  | .tup _ => some "tuple"
  | .fl _ => some "list"
  | .loc n => match μ[n]? with
    | some (.lst _) => some "list"
    | some (.dct _) => some "dict"
    | _ => none
  | .st _ => none
theorem sqT_ty {K : PySem.W.Frag} {H : Hp} {a : Addr} {xs : List V} (h : SqT K H a xs) : TyX K H (.ref a) (.type "tuple") := by
  rcases h with (h | ⟨o, h⟩) | ⟨o, its, n, h, hc, _⟩
  · exact .base (.tup h)
  · exact .fTuple h
  · exact .kTuple h hc
theorem sqF_ty {K : PySem.W.Frag} {H : Hp} {a : Addr} {xs : List V} (h : SqF K H a xs) : TyX K H (.ref a) (.type "list") := by
  rcases h with ⟨o, h⟩ | (h | ⟨o, h⟩) | ⟨o, its, n, h, hc, _⟩
  · exact .base (.frz h)
  · cases h
  · cases h
  · exact .kList h hc
theorem cls_ty {K : PySem.W.Frag} {ρ : List Addr} {H : Hp} {μ : Mem} (m : RM K ρ H μ) {w : W} {v : V} {t : String} (r : RW K ρ H w v) (h : clsOf μ w = some t) : TyX K H v (.type t) := by
  cases r with
  | non => cases h; exact .base .non
  | bl b => cases h; exact .base (.bl b)
  | int i => cases h; exact .base (.int i)
  | str _ => cases h; exact .base (.str _)
  | tup h1 h2 => cases h; exact sqT_ty h1
  | fl h1 h2 => cases h; exact sqF_ty h1
  | @loc n a ha =>
    have h : (match μ[n]? with
      | some (.lst _) => some "list"
      | some (.dct _) => some "dict"
      | _ => none) = some t := h
    split at h
    · rename_i hx
      cases h
      obtain ⟨vs, h1, _⟩ := m.at_ n a _ ha hx
      exact .base (.lst h1)
    · rename_i hx
      cases h
      obtain ⟨vs, h1, _⟩ := m.at_ n a _ ha hx
      exact .base (.dK h1)
    · cases h
  | st v => cases h
/-- isinstance of two built-in classes -/
def isiB (t c : String) : Option Bool :=
  if t = c then some true else if t = "bool" ∧ c = "int" then some true else
    if (c = "int" ∨ c = "bool" ∨ c = "str" ∨ c = "tuple" ∨ c = "list" ∨ c = "dict") ∧ (t = "NoneType" ∨ t = "bool" ∨ t = "int" ∨ t = "str" ∨ t = "tuple" ∨ t = "list" ∨ t = "dict") then some false else none
theorem isi_ok {K : PySem.W.Frag} {t c : String} {b : Bool} (h : isiB t c = some b) : PySem.W.kitOne K (.type t) (.type c) = some b := by
  unfold isiB at h
  split at h
  · rename_i e
    cases h
    subst e
    refine kit_ty ?_
    unfold kitB
    rw [if_pos (by simp)]
  · split at h
    · rename_i e
      cases h
      obtain ⟨rfl, rfl⟩ := e
      exact kit_ty (by decide +kernel)
    · rename_i ne nb
      split at h
      · rename_i e
        cases h
        obtain ⟨e1, e2⟩ := e
        refine kit_ty ?_
        rcases e1 with rfl | rfl | rfl | rfl | rfl | rfl <;> rcases e2 with rfl | rfl | rfl | rfl | rfl | rfl | rfl <;> first | exact absurd rfl ne | exact absurd ⟨rfl, rfl⟩ nb | decide +kernel
      · cases h
def cIsi : OpC := fun ws μ => match ws with
  | [w, .st (.ty c)] => match clsOf μ w with
    | some t => (isiB t c).map fun b => (.bl b, μ)
    | none => none
  | _ => none
theorem c_isi : CallR X (.builtin "isinstance") (rMC X.K cIsi) := callM_of fun pins s σ H xs us Q ρ μ ws w μ' I rv hm rw e k => by
  unfold cIsi at e
  split at e
  · split at e
    · rename_i x c _ t et
      cases eb : isiB t c with
      | none => rw [eb] at e; cases e
      | some b =>
        rw [eb] at e
        cases e
        obtain ⟨v, u, rfl, r1, r2⟩ := rws_2 rw
        cases r2
        exact call_isi pins s σ H _ us Q I rv ⟨v, .ty c, .type t, .type c, b, rfl, .ty c, cls_ty hm r1 et, isi_ok eb, q_val hm k (.bl _)⟩
    · cases e
  · cases e
/-! repr -/
def cRepr : OpC := fun ws μ => match ws with
  | [.loc n] => match toD μ 40 (.loc n) with
    | some d => if d.showable = true ∧ d.hasDict = false ∧ d.shown.length ≤ 1000000 ∧ PyData.strOk d.shown = true then some (.str d.shown, μ) else none
    | none => none
  | _ => none
theorem c_repr {k0 : Nat} (hr : RoomG k0 X.A) : CallR X (.builtin "repr") (rMC X.K cRepr) := callM_of fun pins s σ H xs us Q ρ μ ws w μ' I rv hm rw e k => by
  unfold cRepr at e
  split at e
  · split at e
    · rename_i n _ d ed
      split at e
      · rename_i hd
        cases e
        obtain ⟨v, rfl, r1⟩ := rws_1 rw
        obtain ⟨d1, d2, d3⟩ := toD_ok hm 40 _ v d r1 ed
        obtain ⟨u, rfl, ru⟩ := vals1 rv
        obtain ⟨p, rfl, hp⟩ := rw_loc r1
        cases ru
        obtain ⟨as, rd⟩ := Dp.reads I d _ _ d1 rfl
        have hun := hr.r.un
        refine repr_of_reads' rd hd.1 (fun z => by rw [hd.2.1] at z; cases z) hr.g (by omega) (fun _ _ z => z) (fun h' u tk kk => ?_) (lim_le hd.2.2.1)
        exact ⟨.str d.shown, H, I.kept (t' := tk) kk, ⟨u, rfl⟩, q_val hm k (.str hd.2.2.2)⟩
      · cases e
    · cases e
  · cases e

/-! ### methods of built-in classes -/
abbrev OpMt := W → List W → Mem → Option (W × Mem)
def rMm (K : PySem.W.Frag) (T : String) (f : OpMt) : V → List V → Hp → VK → Prop := fun x vs H Q => ∃ ρ μ a ws, RM K ρ H μ ∧ RW K ρ H a x ∧ RWs K ρ H ws vs ∧ QO K ρ H (f a ws μ) Q
/-- the receiver is of the class T -/
def isT (T : String) (x : W) (μ : Mem) : Bool := clsOf μ x == some T && match x with
  | .str _ => true
  | .int _ => true
  | .fl _ => true
  | .loc _ => true
  | _ => false
def mMt (T : String) (f : OpMt) (mo : Sl → Mem → R W) (ms : Sl → Mem → R (List W)) : Sl → Mem → R W := fun δ μ => (mo δ μ).bind fun x μ1 => if isT T x μ1 then (ms δ μ1).bind fun ws μ2 => R.ofO (f x ws μ2) else .stuck
theorem isT_ok {K : PySem.W.Frag} {ρ : List Addr} {H : Hp} {μ : Mem} (m : RM K ρ H μ) {w : W} {v : V} {T : String} (r : RW K ρ H w v) (h : isT T w μ = true) : tyV K T v H := by
  unfold isT at h
  rw [Bool.and_eq_true] at h
  obtain ⟨h, h2⟩ := h
  have h : clsOf μ w = some T := eq_of_beq h
  cases r with
  | non => cases h2
  | bl b => cases h2
  | int i => cases h; rfl
  | str _ => cases h; rfl
  | tup h1 _ => cases h2
  | fl h1 _ => cases h; exact .inl ⟨rfl, _, h1.sqL⟩
  | @loc n a ha =>
    have h : (match μ[n]? with
      | some (.lst _) => some "list"
      | some (.dct _) => some "dict"
      | _ => none) = some T := h
    split at h
    · rename_i hx
      cases h
      obtain ⟨vs, h1, _⟩ := m.at_ n a _ ha hx
      exact .inl ⟨rfl, vs, SqL.of h1⟩
    · rename_i hx
      cases h
      obtain ⟨vs, h1, _⟩ := m.at_ n a _ ha hx
      exact .inr (.inr (.inl ⟨rfl, .inl ⟨vs, h1⟩⟩))
    · cases h
  | st v => cases h
theorem tM_bm {T : String} {f : OpMt} {K : PySem.W.Frag} {σ : L2.St} {H : Hp} {Q : VK} (h : tM K Wx (mMt T f m ms) σ H Q) : tBM K T (rMm K T f) (tM K Wx m) (tMs K Wx ms) σ H Q := by
  obtain ⟨ρ, δ, μ, hm, hs, q⟩ := h
  refine tM_bind hm hs q fun x ρ1 H1 μ1 xv e1 m1 s1 rx q1 => ?_
  have q1 : Res K _ ρ1 H1 (if isT T x μ1 then (ms δ μ1).bind fun ws μ2 => R.ofO (f x ws μ2) else .stuck) _ := q1
  cases ht : isT T x μ1 with
  | false => rw [ht] at q1; exact q1.elim
  | true =>
    rw [ht] at q1
    exact ⟨isT_ok m1 rx ht, tMs_bind m1 s1 q1 fun ws ρ2 H2 μ2 vs e2 m2 s2 rv q2 => ⟨ρ2, μ2, x, ws, m2, rx.mono e2, rv, qo_of q2⟩⟩
theorem tM_bm0 {T : String} {f : OpMt} {K : PySem.W.Frag} {σ : L2.St} {H : Hp} {Q : VK} (h : tM K Wx (mMt T f m aNil) σ H Q) : tBM0 K T (rMm K T f) (tM K Wx m) σ H Q := by
  obtain ⟨ρ, δ, μ, hm, hs, q⟩ := h
  refine tM_bind hm hs q fun x ρ1 H1 μ1 xv e1 m1 s1 rx q1 => ?_
  have q1 : Res K _ ρ1 H1 (if isT T x μ1 then (aNil δ μ1).bind fun ws μ2 => R.ofO (f x ws μ2) else .stuck) _ := q1
  cases ht : isT T x μ1 with
  | false => rw [ht] at q1; exact q1.elim
  | true =>
    rw [ht] at q1
    exact ⟨isT_ok m1 rx ht, ρ1, μ1, x, [], m1, rx, .nil, qo_of q1⟩
theorem me_bm {o : Expr} {name : Str} {apos cpos : Pos} {T id : String} {f : OpMt} (pa : PlainAttrs T) (slot : Slot T name id) (hty : typeOf (.builtin id) = pure (.type "method_descriptor")) (hm : MtR X id (rMm X.K T f)) (ho : ME X Wx o m) (ha : MA X Wx (e :: es) ms)
    (hbase : attributeBase o name X.env (eval o X.env) = eval o X.env := by rfl)
    (hfew : ((backTo cpos (starEach (e :: es) X.env)).all (fun x => !x.1) && (backToKw cpos (keywordEach [] X.env)).all (fun x => x.1.isSome) && decide ((e :: es).length + ([] : List Keyword).length + (if ([] : List Keyword).isEmpty then 0 else 1) < 30)) = true := by rfl)
    (hline : (apos.endLine == cpos.line) = true := by rfl) (hs : starEach (e :: es) X.env = (false, eval e X.env) :: starEach es X.env := by rfl) (hplain : (backTo cpos (starEach es X.env)).any (·.1) = false := by rfl) :
    ME X Wx (.Call (.Attribute o name apos) (e :: es) [] cpos) (mMt T f m ms) := ⟨(pe_bm pa slot hty hm ho.pe ha.pa hbase hfew hline hs hplain).weak fun σ H Q h => tM_bm h⟩
theorem me_bm0 {o : Expr} {name : Str} {apos cpos : Pos} {T id : String} {f : OpMt} (pa : PlainAttrs T) (slot : Slot T name id) (hty : typeOf (.builtin id) = pure (.type "method_descriptor")) (hm : MtR X id (rMm X.K T f)) (ho : ME X Wx o m)
    (hbase : attributeBase o name X.env (eval o X.env) = eval o X.env := by rfl) (hline : (apos.endLine == cpos.line) = true := by rfl) : ME X Wx (.Call (.Attribute o name apos) [] [] cpos) (mMt T f m aNil) :=
  ⟨(pe_bm0 pa slot hty hm ho.pe hbase hline).weak fun σ H Q h => tM_bm0 h⟩
def lAppend : OpMt := fun x ws μ => match x, ws with
  | .loc n, [w] => match getL μ n with
    | some xs => if xs.length < 1000000 then some (.non, μ.set n (.lst (xs ++ [w]))) else none
    | none => none
  | _, _ => none
theorem l_append : MtR X "list.append" (rMm X.K "list" lAppend) := by
  intro pins s σ H x vs v us Q I rx rvs ⟨ρ, μ, a, ws, hm, ra, rw, w, μ', e, k⟩
  unfold lAppend at e
  split at e
  · rename_i n w0
    split at e
    · rename_i xs eg
      split at e
      · rename_i hz
        cases e
        obtain ⟨p, rfl, hp⟩ := rw_loc ra
        obtain ⟨y, rfl, ry⟩ := rws_1 rw
        obtain ⟨us', h1, r1⟩ := rm_lst hm eg hp
        obtain ⟨e1, m1⟩ := q_set hm hp h1 (r1.append (.cons ry .nil))
        exact mt_append pins s σ H _ _ v us Q I rx rvs ⟨p, us', y, rfl, rfl, h1, by rw [r1.length]; exact Nat.lt_of_lt_of_le hz (by decide), k ρ _ _ e1 m1 .non⟩
      · cases e
    · cases e
  · cases e
def lPop : OpMt := fun x ws μ => match x, ws with
  | .loc n, [] => match getL μ n with
    | some xs => (xs[xs.length - 1]?).map fun w => (w, μ.set n (.lst xs.dropLast))
    | none => none
  | _, _ => none
theorem RWs.dropLast {K : PySem.W.Frag} {ρ : List Addr} {H : Hp} {xs : List W} {vs : List V} (r : RWs K ρ H xs vs) : RWs K ρ H xs.dropLast vs.dropLast := by
  rw [List.dropLast_eq_take, List.dropLast_eq_take, r.length]
  exact r.take _
theorem l_pop : MtR X "list.pop" (rMm X.K "list" lPop) := by
  intro pins s σ H x vs v us Q I rx rvs ⟨ρ, μ, a, ws, hm, ra, rw, w, μ', e, k⟩
  unfold lPop at e
  split at e
  · rename_i n
    split at e
    · rename_i xs eg
      cases ex : xs[xs.length - 1]? with
      | none => rw [ex] at e; cases e
      | some w0 =>
        rw [ex] at e
        cases e
        obtain ⟨p, rfl, hp⟩ := rw_loc ra
        cases rw
        obtain ⟨us', h1, r1⟩ := rm_lst hm eg hp
        obtain ⟨y, hy, ry⟩ := r1.get ex
        obtain ⟨e1, m1⟩ := q_set hm hp h1 r1.dropLast
        exact mt_pop pins s σ H _ _ v us Q I rx rvs ⟨p, us', y, rfl, rfl, h1, by rw [r1.length]; exact hy, k ρ _ _ e1 m1 (ry.mono e1)⟩
    · cases e
  · cases e
def ixP (n : Nat) (i : Int) : Option Nat := if -4611686018427387904 ≤ i ∧ i < 4611686018427387904 then seqIndex? i n else none
def lPopAt : OpMt := fun x ws μ => match x, ws with
  | .loc n, [.int i] => match getL μ n with
    | some xs => match ixP xs.length i with
      | some j => (xs[j]?).map fun w => (w, μ.set n (.lst (xs.eraseIdx j)))
      | none => none
    | none => none
  | _, _ => none
theorem RWs.erase {K : PySem.W.Frag} {ρ : List Addr} {H : Hp} : ∀ {xs : List W} {vs : List V} (i : Nat), RWs K ρ H xs vs → RWs K ρ H (xs.eraseIdx i) (vs.eraseIdx i)
  | _, _, _, .nil => .nil
  | _, _, 0, .cons _ t => t
  | _, _, i + 1, .cons h t => .cons h (RWs.erase i t)
theorem l_popAt : MtR X "list.pop" (rMm X.K "list" lPopAt) := by
  intro pins s σ H x vs v us Q I rx rvs ⟨ρ, μ, a, ws, hm, ra, rw, w, μ', e, k⟩
  unfold lPopAt at e
  split at e
  · rename_i n i
    split at e
    · rename_i xs eg
      split at e
      · rename_i j ej
        cases ex : xs[j]? with
        | none => rw [ex] at e; cases e
        | some w0 =>
          rw [ex] at e
          cases e
          unfold ixP at ej
          split at ej
          · rename_i hb
            obtain ⟨p, rfl, hp⟩ := rw_loc ra
            obtain ⟨z, rfl, rz⟩ := rws_1 rw
            cases rw_int rz
            obtain ⟨us', h1, r1⟩ := rm_lst hm eg hp
            obtain ⟨y, hy, ry⟩ := r1.get ex
            obtain ⟨e1, m1⟩ := q_set hm hp h1 (r1.erase j)
            exact mt_popAt pins s σ H _ _ v us Q I rx rvs ⟨p, us', i, j, y, rfl, rfl, h1, by omega, by omega, by rw [r1.length]; exact ej, hy, k ρ _ _ e1 m1 (ry.mono e1)⟩
          · cases ej
      · cases e
    · cases e
  · cases e
/-! ### dicts -/
def toKey : W → Option Key
  | .int i => some (.inl i)
  | .str x => some (.inr x)
  | _ => none
theorem toKey_ok {K : PySem.W.Frag} {ρ : List Addr} {H : Hp} {w : W} {v : V} {k : Key} (r : RW K ρ H w v) (h : toKey w = some k) : v = kV k := by
  cases w with
  | int i => cases h; exact rw_int r
  | str x => cases h; exact (rw_str r).1
  | _ => cases h
section
variable {κ : Type} [DecidableEq κ]
def valW (kvs : List (κ × W)) (k : κ) : Option W := (kvs.find? fun kv => decide (kv.1 = k)).map (·.2)
def putW (kvs : List (κ × W)) (k : κ) (v : W) : List (κ × W) := if (kvs.any fun kv => decide (kv.1 = k)) = true then kvs.map (fun kv => if kv.1 = k then (kv.1, v) else kv) else kvs ++ [(k, v)]
def dropW (kvs : List (κ × W)) (k : κ) : List (κ × W) := kvs.filter fun kv => decide (kv.1 ≠ k)
theorem rkv_nil {K : PySem.W.Frag} {ρ : List Addr} {H : Hp} {kvs : List (κ × V)} (r : RKv K ρ H ([] : List (κ × W)) kvs) : kvs = [] := by
  have := r.1
  simpa using this.symm
theorem rkv_cons {K : PySem.W.Frag} {ρ : List Addr} {H : Hp} {p : κ × W} {kws : List (κ × W)} {kvs : List (κ × V)} (r : RKv K ρ H (p :: kws) kvs) : ∃ v kvs', kvs = (p.1, v) :: kvs' ∧ RW K ρ H p.2 v ∧ RKv K ρ H kws kvs' := by
  obtain ⟨h1, h2⟩ := r
  cases kvs with
  | nil => simp at h1
  | cons q kvs =>
    simp only [List.map_cons, List.cons.injEq] at h1
    simp only [List.map_cons] at h2
    cases h2 with
    | cons a b => exact ⟨q.2, kvs, by rw [h1.1], a, h1.2, b⟩
theorem val_rkv {K : PySem.W.Frag} {ρ : List Addr} {H : Hp} (k : κ) : ∀ {kws : List (κ × W)} {kvs : List (κ × V)}, RKv K ρ H kws kvs → (valW kws k = none ∧ valV kvs k = none) ∨ ∃ w v, valW kws k = some w ∧ valV kvs k = some v ∧ RW K ρ H w v
  | [], kvs, r => by
    rw [rkv_nil r]
    exact .inl ⟨rfl, rfl⟩
  | p :: kws, kvs, r => by
    obtain ⟨v, kvs', rfl, h1, h2⟩ := rkv_cons r
    by_cases e : p.1 = k
    · exact .inr ⟨p.2, v, by simp [valW, List.find?_cons, e], by simp [valV, List.find?_cons, e], h1⟩
    · have e1 : valW (p :: kws) k = valW kws k := by simp [valW, List.find?_cons, e]
      have e2 : valV ((p.1, v) :: kvs') k = valV kvs' k := by simp [valV, List.find?_cons, e]
      rw [e1, e2]
      exact val_rkv k h2
theorem rkv_any {K : PySem.W.Frag} {ρ : List Addr} {H : Hp} (k : κ) : ∀ {kws : List (κ × W)} {kvs : List (κ × V)}, RKv K ρ H kws kvs → (kws.any fun kv => decide (kv.1 = k)) = kvs.any fun kv => decide (kv.1 = k)
  | [], kvs, r => by rw [rkv_nil r]; rfl
  | p :: kws, kvs, r => by
    obtain ⟨v, kvs', rfl, h1, h2⟩ := rkv_cons r
    rw [List.any_cons, List.any_cons, rkv_any k h2]
theorem rkv_set {K : PySem.W.Frag} {ρ : List Addr} {H : Hp} (k : κ) {w : W} {u : V} (q : RW K ρ H w u) : ∀ {kws : List (κ × W)} {kvs : List (κ × V)}, RKv K ρ H kws kvs → RKv K ρ H (kws.map fun kv => if kv.1 = k then (kv.1, w) else kv) (kvs.map fun kv => if kv.1 = k then (kv.1, u) else kv)
  | [], kvs, r => by rw [rkv_nil r]; exact ⟨rfl, .nil⟩
  | p :: kws, kvs, r => by
    obtain ⟨v, kvs', rfl, h1, h2⟩ := rkv_cons r
    obtain ⟨a, b⟩ := rkv_set k q h2
    by_cases e : p.1 = k
    · simp only [List.map_cons, if_pos e]
      exact ⟨by simp only [List.map_cons]; rw [a], .cons q b⟩
    · simp only [List.map_cons, if_neg e]
      exact ⟨by simp only [List.map_cons]; rw [a], .cons h1 b⟩
theorem put_rkv {K : PySem.W.Frag} {ρ : List Addr} {H : Hp} {k : κ} {w : W} {u : V} {kws : List (κ × W)} {kvs : List (κ × V)} (r : RKv K ρ H kws kvs) (q : RW K ρ H w u) : RKv K ρ H (putW kws k w) (putK kvs k u) := by
  unfold putW putK
  rw [rkv_any k r]
  split
  · exact rkv_set k q r
  · refine ⟨by simp only [List.map_append, List.map_cons, List.map_nil]; rw [r.1], ?_⟩
    simp only [List.map_append, List.map_cons, List.map_nil]
    exact r.2.append (.cons q .nil)
theorem drop_rkv {K : PySem.W.Frag} {ρ : List Addr} {H : Hp} (k : κ) : ∀ {kws : List (κ × W)} {kvs : List (κ × V)}, RKv K ρ H kws kvs → RKv K ρ H (dropW kws k) (dropK kvs k)
  | [], kvs, r => by rw [rkv_nil r]; exact ⟨rfl, .nil⟩
  | p :: kws, kvs, r => by
    obtain ⟨v, kvs', rfl, h1, h2⟩ := rkv_cons r
    obtain ⟨a, b⟩ := drop_rkv k h2
    unfold dropW dropK at *
    by_cases e : p.1 = k
    · simp only [List.filter_cons, e, ne_eq, not_true_eq_false, decide_false]
      exact ⟨a, b⟩
    · simp only [List.filter_cons, e, ne_eq, not_false_eq_true, decide_true, if_true]
      exact ⟨by simp only [List.map_cons]; rw [a], .cons h1 b⟩
end
def mergeW (kws more : List (Key × W)) : List (Key × W) := more.foldl (fun acc kv => putW acc kv.1 kv.2) kws
theorem merge_rkv {K : PySem.W.Frag} {ρ : List Addr} {H : Hp} : ∀ {more : List (Key × W)} {morv : List (Key × V)} {kws : List (Key × W)} {kvs : List (Key × V)}, RKv K ρ H more morv → RKv K ρ H kws kvs → RKv K ρ H (mergeW kws more) (mergeK kvs morv)
  | [], morv, kws, kvs, r, q => by rw [rkv_nil r]; exact q
  | p :: more, morv, kws, kvs, r, q => by
    obtain ⟨v, morv', rfl, h1, h2⟩ := rkv_cons r
    exact merge_rkv (more := more) (morv := morv') h2 (put_rkv q h1)
/-- the pairs of a display -/
def pairsM : List ((Sl → Mem → R W) × (Sl → Mem → R W)) → Sl → Mem → R (List (W × W))
  | [], _, μ => .ok [] μ
  | (mk, mv) :: r, δ, μ => (mk δ μ).bind fun k μ1 => (mv δ μ1).bind fun v μ2 => (pairsM r δ μ2).bind fun ps μ3 => .ok ((k, v) :: ps) μ3
def keysM (ps : List (W × W)) : Option (List (Key × W)) := mapO (fun p => (toKey p.1).map fun k => (k, p.2)) ps
def mDict (prs : List ((Sl → Mem → R W) × (Sl → Mem → R W))) : Sl → Mem → R W := fun δ μ => (pairsM prs δ μ).bind fun ps μ1 => match keysM ps with
  | some kvs => if kvs.length ≤ 15 then .ok (.loc μ1.length) (μ1 ++ [.dct (mergeW [] kvs)]) else .stuck
  | none => .stuck
inductive MPs (X : Cx) (Wx : WX) (pos : Pos) : List (Option Expr) → List Expr → List ((Sl → Mem → R W) × (Sl → Mem → R W)) → Prop
  | nil : MPs X Wx pos [] [] []
  | cons {k v : Expr} {ks : List (Option Expr)} {vs : List Expr} {mk mv : Sl → Mem → R W} {r : List ((Sl → Mem → R W) × (Sl → Mem → R W))} : ME X Wx k mk → ME X Wx v mv → MPs X Wx pos ks vs r → MPs X Wx pos (some k :: ks) (v :: vs) ((mk, mv) :: r)
theorem MPs.pps {keys : List (Option Expr)} {vals : List Expr} {prs : List ((Sl → Mem → R W) × (Sl → Mem → R W))} (h : MPs X Wx pos keys vals prs) : PPs X pos keys vals (prs.map fun p => (tM X.K Wx p.1, tM X.K Wx p.2)) := by
  induction h with
  | nil => exact pps_nil
  | cons h1 h2 _ ih => exact pps_cons h1.pe h2.pe ih
/-- pairs related -/
def RPs (K : PySem.W.Frag) (ρ : List Addr) (H : Hp) (ps : List (W × W)) (vs : List (V × V)) : Prop := RWs K ρ H (ps.map (·.1)) (vs.map (·.1)) ∧ RWs K ρ H (ps.map (·.2)) (vs.map (·.2))
theorem pairs_ok {K : PySem.W.Frag} {σ : L2.St} : ∀ (prs : List ((Sl → Mem → R W) × (Sl → Mem → R W))) {ρ : List Addr} {δ : Sl} {μ : Mem} {H : Hp} {Qp : List (V × V) → Hp → Prop} {Q : List (W × W) → List Addr → Hp → Mem → Prop}, RM K ρ H μ → RS K ρ H δ σ →
    Res K (fun c d H' => Wx c d σ H') ρ H (pairsM prs δ μ) Q → (∀ ps ρ' H' μ' vs, Ext ρ H ρ' H' → RM K ρ' H' μ' → RPs K ρ' H' ps vs → Q ps ρ' H' μ' → Qp vs H') → tPairs (prs.map fun p => (tM K Wx p.1, tM K Wx p.2)) σ H Qp
  | [], ρ, δ, μ, H, Qp, Q, hm, hs, q, go => go [] ρ H μ [] (Ext.refl _ _) hm ⟨.nil, .nil⟩ (res_ok q hm)
  | (mk, mv) :: r, ρ, δ, μ, H, Qp, Q, hm, hs, q, go => by
    refine tM_bind hm hs q fun k ρ1 H1 μ1 kv e1 m1 s1 rk q1 => tM_bind m1 s1 q1 fun v ρ2 H2 μ2 vv e2 m2 s2 rv q2 => ?_
    refine pairs_ok r m2 s2 (Res.bind q2) fun ps ρ3 H3 μ3 vs e3 m3 rp q3 => ?_
    exact go ((k, v) :: ps) ρ3 H3 μ3 ((kv, vv) :: vs) ((e1.trans e2).trans e3) m3 ⟨.cons ((rk.mono e2).mono e3) rp.1, .cons (rv.mono e3) rp.2⟩ (res_ok q3 m3)
theorem keys_ok {K : PySem.W.Frag} {ρ : List Addr} {H : Hp} : ∀ {ps : List (W × W)} {vs : List (V × V)} {kws : List (Key × W)}, RPs K ρ H ps vs → keysM ps = some kws → ∃ kvs : List (Key × V), vs = kvs.map (fun kv => (kV kv.1, kv.2)) ∧ RKv K ρ H kws kvs ∧ kvs.length = kws.length
  | [], vs, kws, r, h => by
    cases h
    cases vs with
    | nil => exact ⟨[], rfl, ⟨rfl, .nil⟩, rfl⟩
    | cons a b => cases r.1
  | p :: ps, vs, kws, r, h => by
    cases vs with
    | nil => cases r.1
    | cons a vs =>
      obtain ⟨r1, r2⟩ := r
      cases r1 with
      | cons r1 t1 =>
        cases r2 with
        | cons r2 t2 =>
          simp only [keysM, mapO] at h
          cases ek : toKey p.1 with
          | none => rw [ek] at h; cases h
          | some k =>
            cases em : mapO (fun p => (toKey p.1).map fun k => (k, p.2)) ps with
            | none => rw [ek, em] at h; cases h
            | some kws' =>
              rw [ek, em] at h
              cases h
              obtain ⟨kvs, e1, ⟨e2, e3⟩, e4⟩ := keys_ok ⟨t1, t2⟩ em
              refine ⟨(k, a.2) :: kvs, ?_, ⟨by simp only [List.map_cons]; rw [e2], .cons r2 e3⟩, congrArg Nat.succ e4⟩
              rw [List.map_cons, ← e1, ← toKey_ok r1 ek]
theorem me_dict {keys : List (Option Expr)} {vals : List Expr} {prs : List ((Sl → Mem → R W) × (Sl → Mem → R W))} (h : MPs X Wx pos keys vals prs) (hall : keys.all (·.isSome) = true := by rfl) (hl : keys.length = vals.length := by rfl) (h0 : keys ≠ [] := by exact List.cons_ne_nil _ _) (h15 : keys.length ≤ 15 := by decide) :
    ME X Wx (.Dict keys vals pos) (mDict prs) := ⟨(pe_disp h.pps hall hl h0 h15).weak fun σ H Q ⟨ρ, δ, μ, hm, hs, q⟩ p hp => by
  have q : Res X.K (fun c d H' => Wx c d σ H') ρ H ((pairsM prs δ μ).bind fun ps μ1 => match keysM ps with
    | some kvs => if kvs.length ≤ 15 then .ok (.loc μ1.length) (μ1 ++ [.dct (mergeW [] kvs)]) else .stuck
    | none => .stuck) (QW X.K Q) := q
  cases er : pairsM prs δ μ with
  | stuck => rw [er] at q; exact q.elim
  | exc x μ1 =>
    rw [er] at q
    have q2 : Res X.K (fun c d H' => Wx c d σ H') ρ H (R.exc (α := List (W × W)) x μ1) (fun _ _ _ _ => False) := q
    exact pairs_ok prs (hm.newU hp) (hs.mono (Ext.newU hm hp)) (by rw [er]; exact Res.from (Ext.newU hm hp) q2) fun ps ρ1 H1 μ1 vs e1 m1 rp q1 => False.elim q1
  | ok ps μ1 =>
    rw [er] at q
    have q2 : Res X.K (fun c d H' => Wx c d σ H') ρ (upd H p (.dK [])) (R.ok ps μ1) (fun ps' _ _ μ' => ps' = ps ∧ μ' = μ1) := fun _ _ _ _ => ⟨rfl, rfl⟩
    refine pairs_ok prs (hm.newU hp) (hs.mono (Ext.newU hm hp)) (by rw [er]; exact q2) fun ps' ρ1 H1 μ1' vs e1 m1 rp eqs => ?_
    obtain ⟨rfl, rfl⟩ := eqs
    have np : p ∉ ρ := hm.fresh hp
    have np1 : p ∉ ρ1 := fun z => by
      have := e1.new p z np
      rw [upd_same] at this
      cases this
    have hp1 : H1 p = some (.dK []) := e1.keep p _ np upd_same
    have q : Res X.K (fun c d H' => Wx c d σ H') ρ H (match keysM ps' with
      | some kvs => if kvs.length ≤ 15 then .ok (.loc μ1'.length) (μ1' ++ [.dct (mergeW [] kvs)]) else .stuck
      | none => .stuck) (QW X.K Q) := q
    cases ek : keysM ps' with
    | none => rw [ek] at q; exact q.elim
    | some kws =>
      rw [ek] at q
      have q : Res X.K (fun c d H' => Wx c d σ H') ρ H (if kws.length ≤ 15 then .ok (.loc μ1'.length) (μ1' ++ [.dct (mergeW [] kws)]) else .stuck) (QW X.K Q) := q
      by_cases hz : kws.length ≤ 15
      · rw [if_pos hz] at q
        obtain ⟨kvs, e2, e3, e4⟩ := keys_ok rp ek
        refine ⟨hp1, kvs, e2, by rw [e4]; exact hz, ?_⟩
        have upd0 : ∀ b o, H b = some o → upd H p (.dK []) b = some o := fun b o h => by rw [upd_ne (ne_of_none h hp)]; exact h
        have gr : Grow ρ1 H1 (ρ1 ++ [p]) (upd H1 p (.dK (mergeK [] kvs))) := ⟨⟨[p], rfl⟩, fun b xs h => by rw [upd_ne (ne_of h hp1 (by intro z; cases z))]; exact h, fun b o u h => by rw [upd_ne (ne_of h hp1 (by intro z; cases z))]; exact h⟩
        have gr0 : Grow ρ1 H1 ρ1 (upd H1 p (.dK (mergeK [] kvs))) := ⟨⟨[], (List.append_nil _).symm⟩, gr.tup, gr.frz⟩
        have back : ∀ b o, H b = some o → b ∉ ρ → upd H1 p (.dK (mergeK [] kvs)) b = some o := fun b o h n => by
          rw [upd_ne (ne_of_none h hp)]
          exact e1.keep b o n (upd0 b o h)
        refine q (ρ1 ++ [p]) _ ⟨?_, fun a h n => ?_, fun b o n h => back b o h n, fun b xs h => gr.tup b xs (e1.tup b xs (upd0 b _ h)), fun b o u h => gr.frz b o u (e1.frz b o u (upd0 b _ h))⟩
          ((m1.grow gr0 fun a ha => upd_ne fun z => np1 (z ▸ ha)).track np1 ⟨_, upd_same, (merge_rkv e3 ⟨rfl, .nil⟩).grow gr⟩) _ (.loc (RM.newLoc m1.len))
        · obtain ⟨r, hr⟩ := e1.pre
          exact ⟨r ++ [p], by rw [hr, List.append_assoc]⟩
        · rcases List.mem_append.mp h with h | h
          · have z := e1.new a h n
            by_cases ea : a = p
            · rw [ea]; exact hp
            · rw [upd_ne ea] at z
              exact z
          · rw [List.mem_singleton.mp h]
            exact hp
      · rw [if_neg hz] at q
        exact q.elim⟩
/-! d.get(k, x) -/
def isDct (x : W) (μ : Mem) : Bool := match x with
  | .loc n => match μ[n]? with
    | some (.dct _) => true
    | _ => false
  | _ => false
theorem isDct_ok {K : PySem.W.Frag} {ρ : List Addr} {H : Hp} {μ : Mem} (m : RM K ρ H μ) {w : W} {v : V} (r : RW K ρ H w v) (h : isDct w μ = true) : ∃ a, v = .ref a ∧ IsD H a := by
  unfold isDct at h
  split at h
  · split at h
    · rename_i hx
      obtain ⟨a, rfl, ha⟩ := rw_loc r
      obtain ⟨vs, h1, _⟩ := m.at_ _ a _ ha hx
      exact ⟨a, rfl, .inl ⟨vs, .inl h1⟩⟩
    · cases h
  · cases h
def getD (μ : Mem) (x k : W) : Option (Option W) := match x with
  | .loc n => match μ[n]? with
    | some (.dct kvs) => (toKey k).map fun k => valW kvs k
    | _ => none
  | _ => none
theorem getD_ok {K : PySem.W.Frag} {ρ : List Addr} {H : Hp} {μ : Mem} (m : RM K ρ H μ) {x k : W} {a : Addr} {kv : V} {o : Option W} (r : RW K ρ H x (.ref a)) (rk : RW K ρ H k kv) (h : getD μ x k = some o) : ∃ ov, DGet H a kv ov ∧ ((o = none ∧ ov = none) ∨ ∃ w v, o = some w ∧ ov = some v ∧ RW K ρ H w v) := by
  unfold getD at h
  split at h
  · split at h
    · rename_i kvs hx
      obtain ⟨a', e, ha⟩ := rw_loc r
      cases e
      obtain ⟨vs, h1, h2⟩ := m.at_ _ a _ ha hx
      cases ek : toKey k with
      | none => rw [ek] at h; cases h
      | some key =>
        rw [ek] at h
        cases h
        have := toKey_ok rk ek
        subst this
        exact ⟨valV vs key, DGet.k h1, val_rkv key h2⟩
    · cases h
  · cases h
def mGet2 (md mk mx : Sl → Mem → R W) : Sl → Mem → R W := fun δ μ => (md δ μ).bind fun d μ1 => if isDct d μ1 then (mk δ μ1).bind fun k μ2 => (mx δ μ2).bind fun x μ3 => match getD μ3 d k with
  | some o => .ok (o.getD x) μ3
  | none => .stuck
  else .stuck
theorem me_get2 {k0 : Nat} {o f : Expr} {apos cpos : Pos} (hr : RoomG k0 X.A) (ho : ME X Wx o ma) (he : ME X Wx e mb) (hf : ME X Wx f mc) (m : M2 X o "get" apos e f cpos) : ME X Wx (.Call (.Attribute o "get" apos) [e, f] [] cpos) (mGet2 ma mb mc) :=
  ⟨(pe_dget2 (hu_of hr.r) ho.pe he.pe hf.pe m).weak fun σ H Q ⟨ρ, δ, μ, hm, hs, q⟩ => tM_bind hm hs q fun d ρ1 H1 μ1 dv e1 m1 s1 rd q1 => by
    cases hd : isDct d μ1 with
    | false => rw [hd] at q1; exact q1.elim
    | true =>
      rw [hd] at q1
      obtain ⟨a, rfl, da⟩ := isDct_ok m1 rd hd
      refine ⟨a, rfl, da, tM_bind m1 s1 q1 fun k ρ2 H2 μ2 kv e2 m2 s2 rk q2 => tM_bind m2 s2 q2 fun x ρ3 H3 μ3 xv e3 m3 s3 rx q3 => ?_⟩
      cases eg : getD μ3 d k with
      | none => rw [eg] at q3; exact q3.elim
      | some o =>
        rw [eg] at q3
        obtain ⟨ov, g1, g2⟩ := getD_ok m3 ((rd.mono e2).mono e3) (rk.mono e3) eg
        refine ⟨ov, g1, ?_⟩
        rcases g2 with ⟨rfl, rfl⟩ | ⟨w, v, rfl, rfl, r⟩
        · exact res_ok q3 m3 xv rx
        · exact res_ok q3 m3 v r⟩
end
end Mi

set_option Elab.async false
set_option linter.all false
set_option maxRecDepth 100000
set_option maxHeartbeats 2000000
set_option autoImplicit false
namespace Mi
open PySem PySem.Spec PyProof.Rows L2

/-! ### enumerate of a tuple -/
def IteT (K : PySem.W.Frag) (a : Addr) : It :=
  ⟨fun i H => ∃ (xs : List V) (x : V), SqT K H a xs ∧ xs[i]? = some x,
   fun i H v H' => ∃ T x, v = .ref T ∧ H T = none ∧ H' = upd H T (.tup [.int (i : Nat), x]) ∧ ∀ xs, SqT K H a xs → xs[i]? = some x,
   fun i H => ∃ xs : List V, SqT K H a xs ∧ xs.length ≤ i⟩
theorem iter_ne {h : Heap} {it a : Addr} {i : Nat} {items : Array Value} (h1 : h.IsTupleIter it a i) (h2 : IsTup h a items) : a ≠ it := fun e => by
  subst e
  obtain ⟨o, ho, hc, _⟩ := h1
  obtain ⟨o2, ho2, hc2, _⟩ := h2
  rw [ho] at ho2
  cases ho2
  rw [hc] at hc2
  exact absurd hc2 (by simp)
theorem turn_enumT {P : Program} {w : World} {K : PySem.W.Frag} {elts : List Expr} {kk : Nat} {tpos : Pos} (a e it : Addr) :
    Turn P w K (.Tuple elts kk tpos) (IteT K a) [e, it] e (fun i h => (∃ old, IsEnum h e it ((i : Nat) : Int) old) ∧ h.IsTupleIter it a i ∧ e ≠ it) where
  mem := List.mem_cons_self ..
  obj := fun i h st b hb => by
    obtain ⟨⟨old, he⟩, ⟨o, ho, hc, hd⟩, _⟩ := st
    rcases List.mem_cons.mp hb with z | hb
    · rw [z]
      exact ⟨_, he, fun v q => nomatch q⟩
    · rw [List.mem_singleton.mp hb]
      exact ⟨o, ho, fun v q => by rw [hd] at q; cases q⟩
  keep := fun i h h' st k => by
    obtain ⟨⟨old, he⟩, hi, hne⟩ := st
    exact ⟨⟨old, k e (by simp) _ he⟩, hi.at fun o q => k it (by simp) o q, hne⟩
  item := by
    intro X hP hw hK hc i pins s σ H E I hf st hg
    subst hP hw hK
    obtain ⟨⟨old, he⟩, hit, hne⟩ := st
    obtain ⟨xs, x, hq, hx⟩ := hg
    obtain ⟨its, rv, p, hz⟩ := I.tuple hq
    have hi : i < its.toArray.size := by
      rw [List.size_toArray, ← rv.length]
      exact (List.getElem?_eq_some_iff.mp hx).1
    have lte : e < s.heap.objs.size := Heap.lt_size he
    have lti : it < s.heap.objs.size := by obtain ⟨o, ho, _⟩ := hit; exact Heap.lt_size ho
    have nea : e ≠ a := fun z => by
      obtain ⟨o, ho, hc, _⟩ := p
      rw [← z, he] at ho
      cases ho
      exact absurd hc (by simp)
    have D := Draws.tuple (prog := X.prog) (w := X.w) (A := X.A.in1) (I.ok.hd hc) it a (iter_ne hit p) its.toArray
    refine wpAny_pyNext_enum_itemD D he ⟨hit, p⟩ hi hne (by simp [hne, nea]) fun u h1 tk hu ho st1 hT hsz hk => ?_
    refine ⟨_, rfl, wpAny_letOwnedTupleGo_enum (s := { s with heap := h1, toks := tk + 1 }) ho fun h2 he2 sb => ?_⟩
    have hT2 := (sb.2 _ (Nat.ne_of_gt lte)).trans hT
    obtain ⟨u', hu', ru⟩ := rv.get hx
    have eu : u' = u := by
      have hu : its.toArray[i]? = some u := hu
      rw [List.getElem?_toArray, hu'] at hu
      exact Option.some.inj hu
    subst eu
    have new : ObjOk X.prog X.w (upd H s.heap.objs.size (.tup [.int (i : Nat), x])) h2 s.heap.objs.size (.tup [.int (i : Nat), x]) :=
      ⟨lim_le (by show 2 ≤ 1000000; decide), [.int i tk, u'], .cons ⟨_, rfl⟩ (.cons ru .nil), ⟨_, hT2, rfl, _, rfl⟩⟩
    have keeps : ∀ b o, b ∉ [e, it] → s.heap.get? b = some o → h2.get? b = some o := fun b o hb q => by
      have h1 : b ≠ e := fun z => hb (by simp [z])
      have h3 : b ≠ it := fun z => hb (by simp [z])
      exact (sb.2 b h1).trans (hk b o h1 h3 q)
    have I1 := I.turnedNew (t' := tk + 1) (ch := [e, it]) keeps hf (Nat.le_refl _) new
    refine ⟨.ref s.heap.objs.size, _, I1, rfl, ⟨_, x, rfl, I.hok.fresh (Nat.le_refl _), rfl, fun ys hy => by rw [I.tuple_inj hy hq]; exact hx⟩, ⟨⟨u', ?_⟩, ?_, hne⟩, fun b hb => ?_⟩
    · have e1 : ((i + 1 : Nat) : Int) = (i : Int) + 1 := by omega
      rw [e1]
      exact he2
    · exact st1.1.at fun o q => (sb.2 it (Ne.symm hne)).trans q
    · have lt : b < s.heap.objs.size := by
        rcases List.mem_cons.mp hb with z | z
        · rw [z]; exact lte
        · rw [List.mem_singleton.mp z]; exact lti
      rw [upd_ne (Nat.ne_of_lt lt)]
      exact (hf b hb).1
  done := by
    intro X hP hw hK hc i pins s σ H E I hf st hg
    subst hP hw hK
    obtain ⟨⟨old, he⟩, hit, hne⟩ := st
    obtain ⟨xs, hq, hx⟩ := hg
    obtain ⟨its, rv, p, hz⟩ := I.tuple hq
    obtain ⟨f0, f1, f2, f3, f4, f5⟩ := hf it (by simp)
    have hT : s.TypeIs (.ref e) "enumerate" := ⟨_, he, rfl⟩
    have stops : its.toArray[i]? = none := by
      rw [List.getElem?_toArray]
      exact List.getElem?_eq_none (by rw [← rv.length]; exact hx)
    unfold pyNext
    refine wpAny_bind (wpAny_attempt (wpAny_callSpecial?_slot (name := Str.ofString "__next__") hT F.slot_enumerate_next ?_))
    refine wpAny_call_entry F.slot_enumerate_next hT F.entry_enumerate_next ?_ (F.args_enumerate_next_1 _)
    show wpAny _ _ (field (.ref e) 2 >>= _) _ _ _
    refine wpAny_bind (wpAny_field he rfl (x := .ref it) rfl (wpAny_bind (wpAny_nextOf_tuple_end (I.ok.hd hc) hit p stops fun h' ex hx' hy => ?_)))
    obtain ⟨o, ho, hcl⟩ := hy
    refine wpAny_bind (wpAny_isInstance (T := "StopIteration") (b := true) ⟨o, ho, hcl⟩ isSubtype_stop (wpAny_pure ?_))
    exact ⟨rfl, I.turned (t' := s.toks) (fun b o hb q => hx' b o hb q) f0 f1 f3 f4 f5⟩
  self := fun A i s Q E st h => by
    obtain ⟨⟨_, he⟩, _⟩ := st
    exact wpAny_pyIter_enum he h
/-- its making -/
theorem enum_newT (l : Addr) (items : Array Value) (n : Nat) (dct : Option Addr) (sl : Array (Option Value)) :
    Meets (Builtin.«enumerate.__new__» ⟨[.type "enumerate", .ref l], []⟩) (fun _ R s => s.heap.get? l = some { cls := .type "tuple", dict := dct, data := .seq items n, slots := sl } ∧
      R (.ok (.ret (.ref (s.heap.objs.size + 1))))
        { s with heap := (s.heap.push { cls := .type "tuple_iterator", data := .fields #[.ref l, .int 0 0] }).push { cls := .type "enumerate", data := .fields #[.none, .bool false, .ref s.heap.objs.size, rawInt 0, .none, .none] } }) :=
  .of_wp fun prog w A R s h => by
    obtain ⟨hp, g, d, tk, os⟩ := s
    obtain ⟨hl, h⟩ := h
    have hsub := sub_enumerate
    have hL : Heap.IsTuple (Shared.heap ⟨hp, g, d, tk, os⟩) l items := ⟨_, hl, rfl, n, rfl⟩
    have hz : (hp.push { cls := .type "tuple_iterator", data := .fields #[.ref l, .int 0 0] }).objs.size = hp.objs.size + 1 := Heap.size_push ..
    wp_walk using AutoSeq1.wpAny_loadPart' hl
    refine wpAny_stack_any fun st => wpAny_pure ?_
    rw [← hz] at h
    split
    · rename_i c _ _ _ _ _
      cases (c == Value.type "enumerate")
      · wp_walk using AutoSeq1.wpAny_loadPart' hl, wpAny_pyIter_tuple hL
        exact ⟨_, rfl, h⟩
      · wp_walk using AutoSeq1.wpAny_loadPart' hl, wpAny_pyIter_tuple hL
        exact ⟨_, rfl, h⟩
    · wp_walk using AutoSeq1.wpAny_loadPart' hl, wpAny_pyIter_tuple hL
      exact ⟨_, rfl, h⟩
def iEnumT (K : PySem.W.Frag) (ta : TA) : TI := fun σ H R => ta σ H fun vs H1 => ∃ a xs, vs = [.ref a] ∧ SqT K H1 a xs ∧ R (IteT K a) H1
theorem pi_enumT {X : Cx} {e : Expr} {ta : TA} {p pos tpos : Pos} {elts : List Expr} {kk : Nat} (hg : Gl X "enumerate") (hm : X.mg "enumerate" = none) (ha : PA X [e] ta) (hs : starEach [e] X.env = [(false, eval e X.env)] := by rfl) :
    PI X (.Tuple elts kk tpos) (.Call (.Name "enumerate" p) [e] [] pos) (iEnumT X.K ta) := by
  refine ⟨fun pins s σ H R I h => Call_ (ld_blt I hg hm boot_enumerate (PyProof.Rows.callWith_type1 (thn (ha.run pos pins s σ H _ I h) ?_) hs rfl))⟩
  rintro us s1 ⟨vs, H1, I1, r1, a, xs, rfl, hq, q⟩
  obtain ⟨u, rfl, ru⟩ := vals1 r1
  cases ru
  obtain ⟨its, rv, ⟨⟨c, dd, dt, sl⟩, hl, hc, n, hd⟩, hz⟩ := I1.tuple hq
  simp only at hc hd
  subst hc hd
  have hz2 : (s1.heap.push { cls := .type "tuple_iterator", data := .fields #[.ref a, .int 0 0] }).objs.size = s1.heap.objs.size + 1 := Heap.size_push ..
  refine callType_new F.called_enumerate (by decide) (F.typeCall_enumerate_1 _) (F.newCall_enumerate_1 _) (fun obj => F.args_object_init_2 obj _) F.entry_enumerate_new (enum_newT a its.toArray n dd sl) ⟨hl, ?_⟩
  have he : IsEnum ((s1.heap.push { cls := .type "tuple_iterator", data := .fields #[.ref a, .int 0 0] }).push
      { cls := .type "enumerate", data := .fields #[.none, .bool false, .ref s1.heap.objs.size, rawInt 0, .none, .none] }) (s1.heap.objs.size + 1) s1.heap.objs.size 0 .none := by
    have := Heap.get?_push_size (s1.heap.push { cls := .type "tuple_iterator", data := .fields #[.ref a, .int 0 0] })
      (o := { cls := .type "enumerate", data := .fields #[.none, .bool false, .ref s1.heap.objs.size, rawInt 0, .none, .none] }) rfl
    rw [hz2] at this
    exact this
  have hk : ∀ b o, s1.heap.get? b = some o → ((s1.heap.push { cls := .type "tuple_iterator", data := .fields #[.ref a, .int 0 0] }).push
      { cls := .type "enumerate", data := .fields #[.none, .bool false, .ref s1.heap.objs.size, rawInt 0, .none, .none] }).get? b = some o := fun b o x => Heap.get?_push_of_some _ (Heap.get?_push_of_some _ x)
  have hit : ((s1.heap.push { cls := .type "tuple_iterator", data := .fields #[.ref a, .int 0 0] }).push
      { cls := .type "enumerate", data := .fields #[.none, .bool false, .ref s1.heap.objs.size, rawInt 0, .none, .none] }).IsTupleIter s1.heap.objs.size a 0 := ⟨_, Heap.get?_push_of_some _ (Heap.get?_push_size _ rfl), rfl, rfl⟩
  have I2 := I1.kept (t' := s1.toks) hk
  refine ⟨⟨_, he, rfl⟩, wpAny_pyIter_enum he ?_⟩
  refine ⟨s1.heap.objs.size + 1, [s1.heap.objs.size + 1, s1.heap.objs.size], _, _, H1, rfl, I2, turn_enumT a (s1.heap.objs.size + 1) s1.heap.objs.size, ⟨⟨.none, he⟩, hit, Nat.succ_ne_self _⟩, fun b hb => ?_, q⟩
  have hle : s1.heap.objs.size ≤ b := by
    rcases List.mem_cons.mp hb with z | z
    · rw [z]
      exact Nat.le_succ _
    · rw [List.mem_singleton.mp z]
      exact Nat.le_refl _
  exact I1.fpOk hle (I1.hok.fresh hle)
section
variable {X : Cx} {Wx : WX} {e : Expr} {pos tpos p : Pos} {ms : Sl → Mem → R (List W)} {elts : List Expr} {kk : Nat}
def enumFrom (i : Nat) : List W → List W
  | [] => []
  | x :: xs => .tup [.int (i : Nat), x] :: enumFrom (i + 1) xs
theorem enum_len : ∀ (i : Nat) (xs : List W), (enumFrom i xs).length = xs.length
  | _, [] => rfl
  | i, _ :: xs => congrArg Nat.succ (enum_len (i + 1) xs)
theorem enum_get : ∀ (i : Nat) (xs : List W) (j : Nat) (y : W), (enumFrom i xs)[j]? = some y → ∃ x, xs[j]? = some x ∧ y = .tup [.int ((i + j : Nat) : Int), x]
  | _, [], j, y, h => by simp [enumFrom] at h
  | i, x :: xs, 0, y, h => by
    simp only [enumFrom, List.getElem?_cons_zero, Option.some.injEq] at h
    exact ⟨x, rfl, h.symm⟩
  | i, x :: xs, j + 1, y, h => by
    simp only [enumFrom, List.getElem?_cons_succ] at h
    obtain ⟨z, h1, h2⟩ := enum_get (i + 1) xs j y h
    exact ⟨z, by simpa using h1, by rw [h2]; congr 3; omega⟩
def enumAt (n : Nat) : Mem → Nat → Option (Option W) := fun μ i => (getL μ n).map fun xs => (xs[i]?).map fun x => .tup [.int (i : Nat), x]
def enumS (ws : List W) (μ : Mem) : R Src := match ws with
  | [.tup xs] => .ok (.items (enumFrom 0 xs)) μ
  | [.loc n] => match getL μ n with
    | some _ => .ok (.dyn (enumAt n)) μ
    | none => .stuck
  | _ => .stuck
theorem new_pair {K : PySem.W.Frag} {ρ : List Addr} {H : Hp} {μ : Mem} (m : RM K ρ H μ) {x : W} {v : V} (r : RW K ρ H x v) (i : Nat) {T : Addr} (hT : H T = none) :
    Ext ρ H ρ (upd H T (.tup [.int (i : Nat), v])) ∧ RM K ρ (upd H T (.tup [.int (i : Nat), v])) μ ∧ RW K ρ (upd H T (.tup [.int (i : Nat), v])) (.tup [.int (i : Nat), x]) (.ref T) :=
  ⟨Ext.newU m hT, m.newU hT, .tup (SqT.of upd_same) (.cons (.int _) (.cons (r.mono (Ext.newU m hT)) .nil))⟩
theorem mi_enum (hg : Gl X "enumerate") (hm : X.mg "enumerate" = none) (ha : MA X Wx [e] ms) (hs : starEach [e] X.env = [(false, eval e X.env)] := by rfl) : MI X Wx (.Tuple elts kk tpos) (.Call (.Name "enumerate" p) [e] [] pos) (iArgs enumS ms) :=
  ⟨(pi_or (pi_enum hg hm ha.pa hs) (pi_enumT hg hm ha.pa hs)).weak fun σ H R ⟨ρ, δ, μ, hm, hs, q⟩ => by
    have q2 := Res.bind (show Res X.K (fun c d H' => Wx c d σ H') ρ H ((ms δ μ).bind enumS) _ from q)
    cases em : ms δ μ with
    | exc x μ1 => rw [em] at q2; exact .inl ⟨ρ, δ, μ, hm, hs, by rw [em]; exact q2⟩
    | stuck => rw [em] at q2; exact q2.elim
    | ok ws μ1 =>
      rw [em] at q2
      have bad : (∀ ρ' H', Ext ρ H ρ' H' → RM X.K ρ' H' μ1 → False) → iEnum X.K (tMs X.K Wx ms) σ H R ∨ iEnumT X.K (tMs X.K Wx ms) σ H R := fun h => .inl ⟨ρ, δ, μ, hm, hs, by rw [em]; exact fun ρ' H' e' m' => (h ρ' H' e' m').elim⟩
      match ws with
      | [.tup xs] =>
        refine .inr ⟨ρ, δ, μ, hm, hs, ?_⟩
        rw [em]
        intro ρ1 H1 e1 m1 vs rv
        obtain ⟨v, rfl, r1⟩ := rws_1 rv
        obtain ⟨a, vs, rfl, h1, h2⟩ := rw_tup r1
        refine ⟨a, vs, rfl, h1, res_ok (q2 ρ1 H1 e1 m1) m1 _ fun ρ2 H2 μ2 e2 m2 => ⟨fun i y hy => ?_, vs, e2.sqT h1, by rw [enum_len, h2.length]; exact Nat.le_refl _⟩⟩
        obtain ⟨x, hx, rfl⟩ := enum_get 0 xs i y hy
        obtain ⟨v, hv, rx⟩ := h2.get hx
        refine ⟨⟨vs, v, e2.sqT h1, hv⟩, fun v' H3 y => ?_⟩
        obtain ⟨T, z, rfl, hT, rfl, hz⟩ := y
        have := hz vs (e2.sqT h1)
        rw [hv] at this
        cases this
        rw [Nat.zero_add]
        exact new_pair m2 (rx.mono e2) i hT
      | [.loc n] =>
        cases eg : getL μ1 n with
        | none => exact bad fun ρ' H' e' m' => by have z := q2 ρ' H' e' m'; simp only [enumS, eg] at z; exact z
        | some xs0 =>
          refine .inl ⟨ρ, δ, μ, hm, hs, ?_⟩
          rw [em]
          intro ρ1 H1 e1 m1 vs rv
          obtain ⟨v, rfl, r1⟩ := rws_1 rv
          obtain ⟨a, rfl, hp⟩ := rw_loc r1
          obtain ⟨vs0, h1, h2⟩ := rm_lst m1 eg hp
          have z := q2 ρ1 H1 e1 m1
          simp only [enumS, eg] at z
          refine ⟨a, vs0, rfl, SqL.of h1, res_ok z m1 _ fun ρ2 H2 μ2 e2 m2 i => ?_⟩
          unfold enumAt
          cases eg2 : getL μ2 n with
          | none => refine ⟨fun z => ?_, fun x z => ?_⟩ <;> cases z
          | some xs =>
            obtain ⟨vs, g1, g2⟩ := rm_lst m2 eg2 (e2.get hp)
            refine ⟨fun z => ⟨vs, SqL.of g1, ?_⟩, fun y z => ?_⟩
            · rw [g2.length]
              have z := Option.some.inj z
              rw [Option.map_eq_none_iff] at z
              exact List.getElem?_eq_none_iff.mp z
            · have z := Option.some.inj z
              obtain ⟨x, hx, rfl⟩ := Option.map_eq_some_iff.mp z
              obtain ⟨v, hv, rx⟩ := g2.get hx
              refine ⟨⟨vs, v, SqL.of g1, hv⟩, fun v' H3 y => ?_⟩
              obtain ⟨T, z, rfl, hT, rfl, hz⟩ := y
              have := hz vs (SqL.of g1)
              rw [hv] at this
              cases this
              exact new_pair m2 rx i hT
      | [] => exact bad fun ρ' H' e' m' => q2 ρ' H' e' m'
      | [.non] => exact bad fun ρ' H' e' m' => q2 ρ' H' e' m'
      | [.bl _] => exact bad fun ρ' H' e' m' => q2 ρ' H' e' m'
      | [.int _] => exact bad fun ρ' H' e' m' => q2 ρ' H' e' m'
      | [.str _] => exact bad fun ρ' H' e' m' => q2 ρ' H' e' m'
      | [.fl _] => exact bad fun ρ' H' e' m' => q2 ρ' H' e' m'
      | [.st _] => exact bad fun ρ' H' e' m' => q2 ρ' H' e' m'
      | y :: _ :: _ => exact bad fun ρ' H' e' m' => by have z := q2 ρ' H' e' m'; cases y <;> exact z⟩
end
end Mi

set_option Elab.async false
set_option linter.all false
set_option maxRecDepth 100000
set_option maxHeartbeats 2000000
set_option autoImplicit false
/-! Mi8: the law's end over FnM. -/
namespace Mi
open PySem PySem.Spec PyProof.Rows L2
theorem rws_ints {K : PySem.W.Frag} {ρ : List Addr} {H : Hp} : ∀ ns : List Int, RWs K ρ H (ns.map W.int) (ns.map V.int)
  | [] => .nil
  | n :: ns => .cons (.int n) (rws_ints ns)
theorem law_guards : (callerA).guards = some [] := rfl
theorem rm_nil {K : PySem.W.Frag} {H : Hp} : RM K [] H [] := ⟨rfl, List.nodup_nil, fun n a o h => by simp at h⟩
section
variable {P : Program} {w : World} {K : PySem.W.Frag} {mg mb : Str → Option Value} {k : Nat} {fa a : Addr} {fd : FuncData} {x : Str} {g : List W → Mem → R W} {s : Shared} {us : List Value} {ns : List Int}
/-- what the law's call must end with -/
abbrev LawQ (s : Shared) : Except Value Flow → Shared → Prop := fun r z => r = .ok (.ret (.bool true)) ∧ OldK s.heap z.heap ∧ z.os = s.os ∧ AllBare z.gens
/-- from a heap in which at most the script stands, frozen -/
theorem law_from (H : Hp) (O : Obj) (kin : K.In s.heap) (nsm : s.heap.Ns mainGlobals mg) (nsb : s.heap.Ns builtinsNs mb) (bo : ∀ y : Str, y ≠ "__name__" → mb y = bootBuiltins y) (nl : s.heap.NoLimit) (gz : s.gens = #[])
    (get : s.heap.get? a = some O) (dat : ∀ es ep, O.data ≠ .dict es ep) (ok : HOk P w H s.heap) (own : ∀ b u, H b = some u → b = a ∧ ∃ xs, u = .frz O (.lst xs)) (notK : H a ≠ none → K.lookup a = none) (sq : SqF K H a (ns.map V.int)) (room : Room k callerA)
    (F : ∀ base : Heap, K.In base → base.Ns mainGlobals mg → FnM P w K mg base k fa fd [x] g) (bind : ∀ (z : Shared) (u : Value), BindsTo z fd ⟨[u], []⟩ [(x, u)]) (pure : ∃ μ, g [.fl (ns.map W.int)] [] = .ok (.bl true) μ) :
    codeAny (model P w) callerA (.call (.ref fa) ⟨[.ref a], []⟩) (LawQ s) s := by
  have free : ∀ {b : Addr}, b ≠ a → H b = none := fun {b} h => by
    cases e : H b with
    | none => rfl
    | some u => exact absurd (own b u e).1 h
  have down : ∀ {b : Addr} {o : Obj}, H b = none → s.heap.get? b = some o → (hidT s.heap H).get? b = some o := fun n e => hidT_get e n
  have names : ∀ {b : Addr} {m : Str → Option Value}, s.heap.Ns b m → (hidT s.heap H).Ns b m := fun {b m} y => by
    obtain ⟨o, es, ep, e, d, r⟩ := y
    refine ⟨o, es, ep, down (free fun z => ?_) e, d, r⟩
    subst z
    rw [get] at e
    cases e
    exact dat es ep d
  have kinB : K.In (hidT s.heap H) := fun b o e => by
    refine down ?_ (kin b o e)
    cases q : H b with
    | none => rfl
    | some u =>
      obtain ⟨z, _⟩ := own b u q
      subst z
      have := notK (by rw [q]; simp)
      rw [e] at this
      cases this
  have nlB : (hidT s.heap H).NoLimit := by
    obtain ⟨mc, l1, l2⟩ := nl
    exact ⟨mc, names l1, l2⟩
  have md : Mod K mg (hidT s.heap H) := ⟨kinB, names nsm, ⟨mb, names nsb, bo⟩, nlB⟩
  have e0 : Env0 P w K mg (hidT s.heap H) callerA [] s H := ⟨rfl, md, fun b o e => of_hidT e, Nat.le_of_eq (hidT_size _ _), trivial, fun b hb => absurd (show b ∈ ([] : List Addr) from hb) (by simp), ok, .of_eq gz⟩
  obtain ⟨μ, hμ⟩ := pure
  have sp : spM K 1 g [.ref a] H (fun v _ => v = .bl true) fun _ _ _ => False := by
    refine ⟨rfl, [], [.fl (ns.map W.int)], [], rm_nil, .cons (.fl sq (rws_ints ns)) .nil, ?_⟩
    rw [hμ]
    intro ρ' H' e' m' v r
    cases r
    rfl
  have run := F _ kinB (names nsm) callerA [] s H ⟨[.ref a], []⟩ [.ref a] [.ref a] (fun v _ => v = .bl true) (fun _ _ _ => False) ⟨room, law_guards⟩ e0 (bind s (.ref a)) (.cons rfl .nil) rfl sp
  refine codeAny_mono run fun r z q => ?_
  match r, q with
  | .ok (.ret u), ⟨v, H', os, bare, un, hok', ru, qv⟩ =>
    have qv : v = .bl true := qv
    subst qv
    have ru : u = Value.bool true := ru
    subst ru
    refine ⟨rfl, OldK.of_keep fun b o e => ?_, os, bare⟩
    cases q : H b with
    | none => exact un.keep b o e q (by intro z; exact absurd (show b ∈ ([] : List Addr) from z) (by simp)) (by simp)
    | some u =>
      obtain ⟨rfl, xs, rfl⟩ := own b u q
      rw [get] at e
      cases e
      exact (hok' b _ (un.frzs b O _ q)).1
  | .ok .next, q => exact q.elim
  | .ok .brk, q => exact q.elim
  | .ok .cont, q => exact q.elim
  | .error e, ⟨_, _, _, _, _, _, _, _, _, _, _, _, z⟩ => exact z.elim
theorem law_run (kin : K.In s.heap) (nsm : s.heap.Ns mainGlobals mg) (nsb : s.heap.Ns builtinsNs mb) (bo : ∀ y : Str, y ≠ "__name__" → mb y = bootBuiltins y) (nl : s.heap.NoLimit) (gz : s.gens = #[])
    (get : s.heap.get? a = some { cls := .type "list", data := .seq us.toArray }) (are : IntsAre us ns) (len : ns.length ≤ sizeLine) (room : Room k callerA)
    (F : ∀ base : Heap, K.In base → base.Ns mainGlobals mg → FnM P w K mg base k fa fd [x] g) (bind : ∀ (z : Shared) (u : Value), BindsTo z fd ⟨[u], []⟩ [(x, u)]) (pure : ∃ μ, g [.fl (ns.map W.int)] [] = .ok (.bl true) μ) :
    codeAny (model P w) callerA (.call (.ref fa) ⟨[.ref a], []⟩) (LawQ s) s := by
  have rv := vals_ints are
  cases hk : K.lookup a with
  | some o =>
    have e := kin a o hk
    rw [get] at e
    cases e
    refine law_from (fun _ => none) _ kin nsm nsb bo nl gz get (fun es ep z => by cases z) (fun b u z => by have z : (none : Option HO) = some u := z; cases z) (fun b u z => by have z : (none : Option HO) = some u := z; cases z) (fun z => absurd rfl z) (.inr ?_) room F bind pure
    exact .inr ⟨_, us.toArray, _, hk, rfl, rfl, rfl, by rw [List.size_toArray, are.length]; exact len, by simpa using rv⟩
  | none =>
    refine law_from (fun b => if b = a then some (.frz { cls := .type "list", data := .seq us.toArray } (.lst (ns.map V.int))) else none) _ kin nsm nsb bo nl gz get (fun es ep z => by cases z) ?_ ?_ (fun _ => hk) (.inl ⟨_, if_pos rfl⟩) room F bind pure
    · intro b u z
      try dsimp only at z
      by_cases hb : b = a
      · rw [if_pos hb] at z
        cases z
        subst hb
        exact ⟨get, by rw [List.length_map]; exact len, us, _, rv, get⟩
      · rw [if_neg hb] at z
        cases z
    · intro b u z
      try dsimp only at z
      by_cases hb : b = a
      · rw [if_pos hb] at z
        cases z
        exact ⟨hb, _, rfl⟩
      · rw [if_neg hb] at z
        cases z
end
/-- what the row's own part shows of the law's def -/
def LawM (l : PySem.W.OpenLaw) (w : World) (k n : Nat) (x : Str) (mg : Str → Option Value) (fa : Addr) (h : Heap) : Prop :=
  ∃ (K : PySem.W.Frag) (fd : FuncData) (g : List W → Mem → R W), K.In h ∧ (∀ (z : Shared) (u : Value), BindsTo z fd ⟨[u], []⟩ [(x, u)]) ∧
    (∀ ns : List Int, ns.length ≤ n → (∀ z ∈ ns, Builtin.Int.intBits z ≤ 1048576) → ∃ μ, g [.fl (ns.map W.int)] [] = .ok (.bl true) μ) ∧
    ∀ base : Heap, K.In base → base.Ns mainGlobals mg → FnM l.prog w K mg base k fa fd [x] g
theorem walk_M {l : PySem.W.OpenLaw} {n k : Nat} {q : Program} {loose : List Str} {XP : (Str → Option Value) → Heap → Prop} {YP : World → Heap → Prop} {d : DefRec} {x : Str}
    (hn : l.most = some n) (hn2 : n ≤ sizeLine) (hdf : d.params.defaults = []) (hr : Room k callerA)
    (F : ∀ (w : World) (mg : Str → Option Value) (fa : Addr) (h : Heap), YP w h → h.Ns mainGlobals mg → mg d.name = some (.ref fa) → LawM l w k n x mg fa h) :
    PySem.W.WalkO q loose XP YP l.row.toRowW d [] (fun f vs => PySem.call f vs) := by
  refine Att.attach_callB hn hdf fun w s₀ s₁ mg mb fa o pm cd doc a vs ns G Y _ _ _ hmg hobj hints hlen hbits hg => ?_
  obtain ⟨K, fd, g, KX, hb, hp, hF⟩ := F w mg fa _ Y G.T.g hmg
  exact law_run KX G.T.g G.T.b G.T.builtins G.T.nolimit hg hobj hints (Nat.le_trans hlen hn2) hr hF hb (hp ns hlen hbits)
end Mi

set_option Elab.async false
set_option linter.all false
set_option maxRecDepth 100000
set_option maxHeartbeats 2000000
set_option autoImplicit false
/-! Mi9: small rules behind the rest. -/
namespace Mi
open PySem L2
section
variable {X : Cx} {Wx : WX} {pos : Pos}
def ipAdd : Op2 := fun x y μ => match x, y with
  | .int i, .int j => some (.int (i + j), μ)
  | _, _ => none
def ipSub : Op2 := fun x y μ => match x, y with
  | .int i, .int j => some (.int (i - j), μ)
  | _, _ => none
theorem ip_add' : PIp X .Add (rM2 X.K ipAdd) := fun pins s σ H x y v u Q I r1 r2 ⟨ρ, μ, a, b, hm, ra, rb, w, μ', e, k⟩ => by
  unfold ipAdd at e
  split at e
  · cases e; cases ra; cases rb
    exact ip_add pins s σ H _ _ v u Q I r1 r2 ⟨_, _, rfl, rfl, q_val hm k (.int _)⟩
  · cases e
theorem ip_sub' : PIp X .Sub (rM2 X.K ipSub) := fun pins s σ H x y v u Q I r1 r2 ⟨ρ, μ, a, b, hm, ra, rb, w, μ', e, k⟩ => by
  unfold ipSub at e
  split at e
  · cases e; cases ra; cases rb
    exact ip_sub pins s σ H _ _ v u Q I r1 r2 ⟨_, _, rfl, rfl, q_val hm k (.int _)⟩
  · cases e
def mDict0 : Sl → Mem → R W := fun _ μ => .ok (.loc μ.length) (μ ++ [.dct []])
theorem me_dict0 : ME X Wx (.Dict [] [] pos) mDict0 := ⟨pe_dnewK.weak fun σ H Q ⟨ρ, δ, μ, hm, hs, q⟩ p hp =>
  q (ρ ++ [p]) _ (Ext.newT hm hp) (hm.newT hp ⟨[], upd_same, rfl, .nil⟩) _ (.loc (RM.newLoc hm.len))⟩
theorem tk_blk {s : Shared} {H : Hp} {scope : Scope} {cenv : Env} {fp : List Addr} : Takes (X.blk s H scope cenv fp) W0 := fun u s' ⟨_, _, _, _, _, _, _, _, _, _, _, _, _, _, _, _, z⟩ => z
end
end Mi

set_option Elab.async false
set_option linter.all false
set_option maxRecDepth 100000
set_option maxHeartbeats 2000000
set_option autoImplicit false
/-! Mi10: what a mirror does, by what is to hold behind it. -/
namespace Mi
open PySem L2
def RwD {α : Type} (r : R α) (Q : α → Mem → Prop) : Prop := match r with
  | .ok a μ => Q a μ
  | _ => False
structure Rw {α : Type} (r : R α) (Q : α → Mem → Prop) : Prop where
  is : RwD r Q
/-- what is to hold where the flow goes -/
structure En where
  nx : Sl → Mem → Prop
  rt : W → Mem → Prop := fun _ _ => False
  bk : Sl → Mem → Prop := fun _ _ => False
  ct : Sl → Mem → Prop := fun _ _ => False
def FwD (f : F) (D : En) : Prop := match f with
  | .nx δ μ => D.nx δ μ
  | .rt w μ => D.rt w μ
  | .bk δ μ => D.bk δ μ
  | .ct δ μ => D.ct δ μ
  | _ => False
structure Fw (f : F) (D : En) : Prop where
  is : FwD f D
theorem rw_is {α : Type} {r : R α} {Q : α → Mem → Prop} : Rw r Q = RwD r Q := propext ⟨fun h => h.is, fun h => ⟨h⟩⟩
theorem fw_is {f : F} {D : En} : Fw f D = FwD f D := propext ⟨fun h => h.is, fun h => ⟨h⟩⟩
theorem wp_ok {α : Type} {Q : α → Mem → Prop} {a : α} {μ : Mem} : Rw (.ok a μ) Q = Q a μ := rw_is
theorem wp_exc {α : Type} {Q : α → Mem → Prop} {x : Exn} {μ : Mem} : Rw (.exc x μ) Q = False := rw_is
theorem wp_stuck {α : Type} {Q : α → Mem → Prop} : Rw .stuck Q = False := rw_is
theorem fw_nx {D : En} {δ : Sl} {μ : Mem} : Fw (.nx δ μ) D = D.nx δ μ := fw_is
theorem fw_rt {D : En} {w : W} {μ : Mem} : Fw (.rt w μ) D = D.rt w μ := fw_is
theorem fw_bk {D : En} {δ : Sl} {μ : Mem} : Fw (.bk δ μ) D = D.bk δ μ := fw_is
theorem fw_ct {D : En} {δ : Sl} {μ : Mem} : Fw (.ct δ μ) D = D.ct δ μ := fw_is
theorem fw_exc {D : En} {x : Exn} {δ : Sl} {μ : Mem} : Fw (.exc x δ μ) D = False := fw_is
theorem fw_stuck {D : En} : Fw .stuck D = False := fw_is
section
variable {α β : Type} {Q : α → Mem → Prop} {D : En}
theorem wp_bind {r : R β} {k : β → Mem → R α} : Rw (r.bind k) Q = Rw r fun b μ => Rw (k b μ) Q := by cases r <;> first | (simp only [R.bind, R.toF, wp_ok, wp_exc, wp_stuck, fw_exc, fw_stuck])
theorem wp_toF {r : R β} {δ : Sl} {k : β → Mem → F} : Fw (r.toF δ k) D = Rw r fun b μ => Fw (k b μ) D := by cases r <;> first | (simp only [R.bind, R.toF, wp_ok, wp_exc, wp_stuck, fw_exc, fw_stuck])
theorem fw_seq {f : F} {k : Sl → Mem → F} : Fw (f.seq k) D = Fw f { D with nx := fun δ μ => Fw (k δ μ) D } := by cases f <;> simp only [F.seq, F.loop, fw_nx, fw_rt, fw_bk, fw_ct, fw_exc, fw_stuck]
theorem fw_loop {f : F} {k : Sl → Mem → F} : Fw (f.loop k) D = Fw f { nx := fun δ μ => Fw (k δ μ) D, rt := D.rt, bk := D.nx, ct := fun δ μ => Fw (k δ μ) D } := by cases f <;> simp only [F.seq, F.loop, fw_nx, fw_rt, fw_bk, fw_ct, fw_exc, fw_stuck]
theorem wp_ofO {o : Option (α × Mem)} : Rw (R.ofO o) Q = ∃ p, o = some p ∧ Q p.1 p.2 := by
  cases o with
  | none => simp [R.ofO, wp_ok, wp_exc, wp_stuck, fw_nx, fw_rt, fw_bk, fw_ct, fw_exc, fw_stuck]
  | some p => obtain ⟨a, μ⟩ := p; simp [R.ofO, wp_ok, wp_exc, wp_stuck, fw_nx, fw_rt, fw_bk, fw_ct, fw_exc, fw_stuck]
theorem wp_some {a : α} {μ : Mem} : Rw (R.ofO (some (a, μ))) Q = Q a μ := wp_ok
theorem Rw.imp {r : R α} {Q' : α → Mem → Prop} (h : Rw r Q) (k : ∀ a μ, Q a μ → Q' a μ) : Rw r Q' := by
  cases r with
  | ok a μ =>
    rw [wp_ok] at h ⊢
    exact k a μ h
  | exc x μ =>
    rw [wp_exc] at h
    exact h.elim
  | stuck =>
    rw [wp_stuck] at h
    exact h.elim
theorem Fw.imp {f : F} {D' : En} (h : Fw f D) (k1 : ∀ δ μ, D.nx δ μ → D'.nx δ μ) (k2 : ∀ w μ, D.rt w μ → D'.rt w μ) (k3 : ∀ δ μ, D.bk δ μ → D'.bk δ μ) (k4 : ∀ δ μ, D.ct δ μ → D'.ct δ μ) : Fw f D' := by
  rw [fw_is] at h ⊢
  cases f with
  | nx δ μ => exact k1 _ _ h
  | rt w μ => exact k2 _ _ h
  | bk δ μ => exact k3 _ _ h
  | ct δ μ => exact k4 _ _ h
  | exc x δ μ => exact h.elim
  | stuck => exact h.elim
theorem Rw.ok {r : R α} (h : Rw r Q) : ∃ a μ, r = .ok a μ ∧ Q a μ := by
  rw [rw_is] at h
  cases r with
  | ok a μ => exact ⟨a, μ, rfl, h⟩
  | _ => exact h.elim
theorem wp_of_eq {r : R α} {a : α} {μ : Mem} (h : r = .ok a μ) (q : Q a μ) : Rw r Q := by
  rw [h, wp_ok]
  exact q
variable {Qw : W → Mem → Prop} {δ : Sl} {μ : Mem}
theorem wp_fn {n : Nat} {mb : Sl → Mem → F} {ws : List W} : Rw (fnG n mb ws μ) Qw = Fw (mb (startW n ws) μ) { nx := fun _ μ' => Qw .non μ', rt := Qw } := by
  unfold fnG
  cases mb (startW n ws) μ <;> simp only [wp_ok, wp_exc, wp_stuck, fw_nx, fw_rt, fw_bk, fw_ct, fw_exc, fw_stuck]
theorem wp_call {g : List W → Mem → R W} {ms : Sl → Mem → R (List W)} : Rw (mCall g ms δ μ) Qw = Rw (ms δ μ) fun ws μ1 => Rw (g ws μ1) Qw := wp_bind
theorem wp_V {i : Nat} : Rw (mV i δ μ) Qw = ∃ w, δ[i]? = some (some w) ∧ Qw w μ := by
  unfold mV
  split
  · rename_i w h
    rw [h]
    simp [wp_ok, wp_exc, wp_stuck, fw_nx, fw_rt, fw_bk, fw_ct, fw_exc, fw_stuck]
  · rename_i h
    simp only [wp_stuck, false_iff, eq_iff_iff]
    rintro ⟨w, h2, _⟩
    exact h w h2
theorem wp_C {w : W} : Rw (mC w δ μ) Qw = Qw w μ := rw_is
theorem wp_bin {f : Op2} {ma mb : Sl → Mem → R W} : Rw (mBin f ma mb δ μ) Qw = Rw (ma δ μ) fun x μ1 => Rw (mb δ μ1) fun y μ2 => Rw (R.ofO (f x y μ2)) Qw := by
  unfold mBin
  simp only [wp_bind]
theorem wp_un {f : Op1} {ma : Sl → Mem → R W} : Rw (mUn f ma δ μ) Qw = Rw (ma δ μ) fun x μ1 => Rw (R.ofO (f x μ1)) Qw := by
  unfold mUn
  simp only [wp_bind]
theorem wp_tru {x : W} {Qb : Bool → Mem → Prop} : Rw (bTru x μ) Qb = ∃ b, truth μ x = some b ∧ Qb b μ := by
  unfold bTru
  cases truth μ x <;> simp [wp_ok, wp_exc, wp_stuck, fw_nx, fw_rt, fw_bk, fw_ct, fw_exc, fw_stuck]
theorem wp_and {ma mb : Sl → Mem → R W} : Rw (mAnd ma mb δ μ) Qw = Rw (ma δ μ) fun x μ1 => ∃ b, truth μ1 x = some b ∧ Rw (if b then mb δ μ1 else .ok x μ1) Qw := by
  unfold mAnd
  simp only [wp_bind, wp_tru]
theorem wp_or {ma mb : Sl → Mem → R W} : Rw (mOr ma mb δ μ) Qw = Rw (ma δ μ) fun x μ1 => ∃ b, truth μ1 x = some b ∧ Rw (if b then .ok x μ1 else mb δ μ1) Qw := by
  unfold mOr
  simp only [wp_bind, wp_tru]
theorem wp_not {ma : Sl → Mem → R W} : Rw (mNot ma δ μ) Qw = Rw (ma δ μ) fun x μ1 => ∃ b, truth μ1 x = some b ∧ Qw (.bl (!b)) μ1 := by
  unfold mNot
  simp only [wp_bind, wp_tru, wp_ok]
variable {Qb : Bool → Mem → Prop}
theorem rt_V {ma : Sl → Mem → R W} : Rw (tV ma δ μ) Qb = Rw (ma δ μ) fun x μ1 => ∃ b, truth μ1 x = some b ∧ Qb b μ1 := by
  unfold tV
  simp only [wp_bind, wp_tru]
theorem rt_and {ta tb : Sl → Mem → R Bool} : Rw (tAn ta tb δ μ) Qb = Rw (ta δ μ) fun b μ1 => Rw (if b then tb δ μ1 else .ok false μ1) Qb := by
  unfold tAn
  simp only [wp_bind]
theorem rt_or {ta tb : Sl → Mem → R Bool} : Rw (tO ta tb δ μ) Qb = Rw (ta δ μ) fun b μ1 => Rw (if b then .ok true μ1 else tb δ μ1) Qb := by
  unfold tO
  simp only [wp_bind]
theorem rt_not {ta : Sl → Mem → R Bool} : Rw (tN ta δ μ) Qb = Rw (ta δ μ) fun b μ1 => Qb (!b) μ1 := by
  unfold tN
  simp only [wp_bind, wp_ok]
theorem rt_asB {x : W} : Rw (asB x μ) Qb = ∃ b, x = .bl b ∧ Qb b μ := by
  cases x <;> simp [asB, wp_ok, wp_exc, wp_stuck, fw_nx, fw_rt, fw_bk, fw_ct, fw_exc, fw_stuck]
theorem rt_bl {ma : Sl → Mem → R W} : Rw (tBl ma δ μ) Qb = Rw (ma δ μ) fun x μ1 => ∃ b, x = .bl b ∧ Qb b μ1 := by
  unfold tBl
  simp only [wp_bind, rt_asB]
theorem rt_yes : Rw (tYesM δ μ) Qb = Qb true μ := rw_is
theorem wp_if {t : Sl → Mem → R Bool} {ma mb : Sl → Mem → R W} : Rw (mIf t ma mb δ μ) Qw = Rw (t δ μ) fun b μ1 => Rw (if b then ma δ μ1 else mb δ μ1) Qw := by
  unfold mIf
  simp only [wp_bind]
theorem wp_chain {f g : Op2} {ma mb mc : Sl → Mem → R W} : Rw (mChain f g ma mb mc δ μ) Qw = Rw (ma δ μ) fun x μ1 => Rw (mb δ μ1) fun y μ2 => Rw (R.ofO (f x y μ2)) fun z μ3 => ∃ k, z = .bl k ∧ Rw (if k then (mc δ μ3).bind fun u μ5 => R.ofO (g y u μ5) else .ok (.bl false) μ3) Qw := by
  unfold mChain
  simp only [wp_bind, rt_asB]
variable {Qs : List W → Mem → Prop}
theorem ra_nil : Rw (aNil δ μ) Qs = Qs [] μ := rw_is
theorem ra_cons {ma : Sl → Mem → R W} {ms : Sl → Mem → R (List W)} : Rw (aCons ma ms δ μ) Qs = Rw (ma δ μ) fun x μ1 => Rw (ms δ μ1) fun xs μ2 => Qs (x :: xs) μ2 := by
  unfold aCons
  simp only [wp_bind, wp_ok]
theorem wp_tup {ms : Sl → Mem → R (List W)} : Rw (mTup ms δ μ) Qw = Rw (ms δ μ) fun xs μ1 => xs.length ≤ 1000000 ∧ Qw (.tup xs) μ1 := by
  unfold mTup
  simp only [wp_bind]
  congr 1
  funext xs μ1
  by_cases h : xs.length ≤ 1000000 <;> simp [h, wp_ok, wp_exc, wp_stuck, fw_nx, fw_rt, fw_bk, fw_ct, fw_exc, fw_stuck]
theorem wp_lst {ms : Sl → Mem → R (List W)} : Rw (mLst ms δ μ) Qw = Rw (ms δ μ) fun xs μ1 => xs.length ≤ 1000000 ∧ Qw (.loc μ1.length) (μ1 ++ [.lst xs]) := by
  unfold mLst
  simp only [wp_bind]
  congr 1
  funext xs μ1
  by_cases h : xs.length ≤ 1000000 <;> simp [h, wp_ok, wp_exc, wp_stuck, fw_nx, fw_rt, fw_bk, fw_ct, fw_exc, fw_stuck]
theorem wp_cb {f : OpC} {ms : Sl → Mem → R (List W)} : Rw (mCb f ms δ μ) Qw = Rw (ms δ μ) fun ws μ1 => Rw (R.ofO (f ws μ1)) Qw := by
  unfold mCb
  simp only [wp_bind]
theorem wp_mt {T : String} {f : OpMt} {mo : Sl → Mem → R W} {ms : Sl → Mem → R (List W)} : Rw (mMt T f mo ms δ μ) Qw = Rw (mo δ μ) fun x μ1 => isT T x μ1 = true ∧ Rw (ms δ μ1) fun ws μ2 => Rw (R.ofO (f x ws μ2)) Qw := by
  unfold mMt
  simp only [wp_bind]
  congr 1
  funext x μ1
  cases h : isT T x μ1 with
  | true => simp [wp_bind]
  | false => simp [wp_ok, wp_exc, wp_stuck, fw_nx, fw_rt, fw_bk, fw_ct, fw_exc, fw_stuck]
theorem wp_dict0 : Rw (mDict0 δ μ) Qw = Qw (.loc μ.length) (μ ++ [.dct []]) := rw_is
theorem wp_sl {f : OpS} {m : Sl → Mem → R W} {ml mh : Sl → Mem → R (Option Int)} : Rw (mSl f m ml mh δ μ) Qw = Rw (m δ μ) fun x μ1 => Rw (ml δ μ1) fun lo μ2 => Rw (mh δ μ2) fun hi μ3 => Rw (R.ofO (f x lo hi μ3)) Qw := by
  unfold mSl
  simp only [wp_bind]
variable {Qo : Option Int → Mem → Prop}
theorem ro_none : Rw (mOpt none δ μ) Qo = Qo none μ := rw_is
theorem ro_some {m : Sl → Mem → R W} : Rw (mOpt (some m) δ μ) Qo = Rw (m δ μ) fun w μ1 => ∃ i, w = .int i ∧ Qo (some i) μ1 := by
  show Rw ((m δ μ).bind _) Qo = _
  rw [wp_bind]
  congr 1
  funext w μ1
  cases w <;> simp [wp_ok, wp_exc, wp_stuck, fw_nx, fw_rt, fw_bk, fw_ct, fw_exc, fw_stuck]
/-! statements -/
theorem fs_seq {f g : Sl → Mem → F} : Fw (sSeq f g δ μ) D = Fw (f δ μ) { D with nx := fun δ μ => Fw (g δ μ) D } := fw_seq
theorem fs_nil : Fw (sNil δ μ) D = D.nx δ μ := fw_is
theorem fs_brk : Fw (sBrk δ μ) D = D.bk δ μ := fw_is
theorem fs_cnt : Fw (sCnt δ μ) D = D.ct δ μ := fw_is
theorem fs_expr {m : Sl → Mem → R W} : Fw (sExpr m δ μ) D = Rw (m δ μ) fun _ μ1 => D.nx δ μ1 := by simp only [sExpr, wp_toF, fw_nx, fw_rt]
theorem fs_ret {m : Sl → Mem → R W} : Fw (sRet m δ μ) D = Rw (m δ μ) fun w μ1 => D.rt w μ1 := by simp only [sRet, wp_toF, fw_nx, fw_rt]
theorem fs_retN : Fw (sRetN δ μ) D = D.rt .non μ := fw_is
theorem fs_if {t : Sl → Mem → R Bool} {f g : Sl → Mem → F} : Fw (sIf t f g δ μ) D = Rw (t δ μ) fun b μ1 => Fw (if b then f δ μ1 else g δ μ1) D := wp_toF
theorem fs_set {i : Nat} {m : Sl → Mem → R W} : Fw (sSet i m δ μ) D = Rw (m δ μ) fun w μ1 => D.nx (δ.set i (some w)) μ1 := by simp only [sSet, wp_toF, fw_nx, fw_rt]
def two (ws : List W) (f : W → W → Prop) : Prop := ∃ v w, ws = [v, w] ∧ f v w
theorem two_eq {v w : W} {f : W → W → Prop} : two [v, w] f = f v w := by
  apply propext
  constructor
  · rintro ⟨v', w', e, h⟩
    cases e
    exact h
  · exact fun h => ⟨v, w, rfl, h⟩
theorem fs_par {i j : Nat} {ms : Sl → Mem → R (List W)} : Fw (sPar i j ms δ μ) D = Rw (ms δ μ) fun ws μ1 => two ws fun v w => D.nx ((δ.set i (some v)).set j (some w)) μ1 := by
  unfold sPar two
  rw [wp_toF]
  congr 1
  funext ws μ1
  match ws with
  | [] => simp [wp_ok, wp_exc, wp_stuck, fw_nx, fw_rt, fw_bk, fw_ct, fw_exc, fw_stuck]
  | [_] => simp [wp_ok, wp_exc, wp_stuck, fw_nx, fw_rt, fw_bk, fw_ct, fw_exc, fw_stuck]
  | [v, w] =>
    apply propext
    constructor
    · exact fun h => ⟨v, w, rfl, h.is⟩
    · rintro ⟨v', w', e, h⟩
      cases e
      exact ⟨h⟩
  | _ :: _ :: _ :: _ => simp [wp_ok, wp_exc, wp_stuck, fw_nx, fw_rt, fw_bk, fw_ct, fw_exc, fw_stuck]
theorem fs_asg {T : Tg} {m : Sl → Mem → R W} : Fw (sAsg T m δ μ) D = Rw (m δ μ) fun w μ1 => ∃ δ', bindT T w δ = some δ' ∧ D.nx δ' μ1 := by
  unfold sAsg
  rw [wp_toF]
  congr 1
  funext w μ1
  cases bindT T w δ <;> simp [wp_ok, wp_exc, wp_stuck, fw_nx, fw_rt, fw_bk, fw_ct, fw_exc, fw_stuck]
theorem fs_sub {f : Op3} {m mo mi : Sl → Mem → R W} : Fw (sSub f m mo mi δ μ) D = Rw (m δ μ) fun w μ1 => Rw (mo δ μ1) fun o μ2 => Rw (mi δ μ2) fun i μ3 => ∃ μ4, f o i w μ3 = some μ4 ∧ D.nx δ μ4 := by
  unfold sSub
  simp only [wp_toF]
  congr 1
  funext w μ1
  congr 1
  funext o μ2
  congr 1
  funext i μ3
  cases f o i w μ3 <;> simp [wp_ok, wp_exc, wp_stuck, fw_nx, fw_rt, fw_bk, fw_ct, fw_exc, fw_stuck]
theorem fs_aug {i : Nat} {f : Op2} {m : Sl → Mem → R W} : Fw (sAug i f m δ μ) D = ∃ x, δ[i]? = some (some x) ∧ Rw (m δ μ) fun y μ1 => Rw (R.ofO (f x y μ1)) fun z μ2 => D.nx (δ.set i (some z)) μ2 := by
  unfold sAug
  split
  · rename_i x h
    rw [h]
    simp only [wp_toF, Option.some.injEq, exists_eq_left', fw_nx]
  · rename_i h
    simp only [fw_stuck, false_iff, eq_iff_iff]
    rintro ⟨x, h2, _⟩
    exact h x h2
/-! loops -/
theorem forX_w {T : Tg} {body : Sl → Mem → F} (I : Nat → Sl → Mem → Prop) {xs : List W} (h0 : I 0 δ μ)
    (step : ∀ i x δ μ, xs[i]? = some x → I i δ μ → ∃ δ1, bindT T x δ = some δ1 ∧ Fw (body δ1 μ) { nx := I (i + 1), rt := D.rt, bk := D.nx, ct := I (i + 1) })
    (fin : ∀ δ μ, I xs.length δ μ → D.nx δ μ) : Fw (forX T body xs δ μ) D := by
  induction xs generalizing I δ μ with
  | nil => exact ⟨fin _ _ h0⟩
  | cons x xs ih =>
    obtain ⟨δ1, e, q⟩ := step 0 x δ μ rfl h0
    unfold forX
    rw [e]
    show Fw ((body δ1 μ).loop _) D
    rw [fw_loop]
    have go : ∀ δ μ, I 1 δ μ → Fw (forX T body xs δ μ) D := fun δ μ h => ih (fun i => I (i + 1)) h (fun i y δ μ hy h => step (i + 1) y δ μ hy h) fin
    exact q.imp go (fun _ _ h => h) (fun _ _ h => h) go
theorem forL_w {T : Tg} {body : Sl → Mem → F} {n : Nat} {xs : List W} (I : Nat → Sl → Mem → Prop) (hl : ∀ i δ μ, I i δ μ → getL μ n = some xs) (hz : xs.length < 1000000) (h0 : I 0 δ μ)
    (step : ∀ i x δ μ, xs[i]? = some x → I i δ μ → ∃ δ1, bindT T x δ = some δ1 ∧ Fw (body δ1 μ) { nx := I (i + 1), rt := D.rt, bk := D.nx, ct := I (i + 1) })
    (fin : ∀ δ μ, I xs.length δ μ → D.nx δ μ) : Fw (forL T body (getAt n) 1000000 0 δ μ) D := by
  have key : ∀ (k i : Nat) (δ : Sl) (μ : Mem), i ≤ xs.length → xs.length < i + k → I i δ μ → Fw (forL T body (getAt n) k i δ μ) D := by
    intro k
    induction k with
    | zero => intro i δ μ h1 h2 _; omega
    | succ k ih =>
      intro i δ μ h1 h2 h
      unfold forL getAt
      rw [hl i δ μ h]
      cases hx : xs[i]? with
      | none =>
        have : i = xs.length := by
          have := List.getElem?_eq_none_iff.mp hx
          omega
        subst this
        simp only [Option.map_some, hx]
        exact ⟨fin _ _ h⟩
      | some x =>
        simp only [Option.map_some, hx]
        obtain ⟨δ1, e, q⟩ := step i x δ μ hx h
        rw [e]
        show Fw ((body δ1 μ).loop _) D
        rw [fw_loop]
        have lt := (List.getElem?_eq_some_iff.mp hx).1
        have go : ∀ δ μ, I (i + 1) δ μ → Fw (forL T body (getAt n) k (i + 1) δ μ) D := fun δ μ h => ih (i + 1) δ μ (by omega) (by omega) h
        exact q.imp go (fun _ _ h => h) (fun _ _ h => h) go
  exact key 1000000 0 δ μ (by omega) (by omega) h0
def Srcw (s : Src) (xs : List W) (ok : Mem → Prop) : Prop := match s with
  | .items ys => ys = xs
  | .dyn get => ∃ n, get = getAt n ∧ ∀ μ, ok μ → getL μ n = some xs
theorem fs_for {m : Sl → Mem → R Src} {T : Tg} {body : Sl → Mem → F} : Fw (sFor m T body δ μ) D = Rw (m δ μ) fun s μ1 => match s with
    | .items xs => Fw (forX T body xs δ μ1) D
    | .dyn get => Fw (forL T body get 1000000 0 δ μ1) D := by
  unfold sFor
  rw [wp_toF]
  congr 1
  funext s μ1
  cases s <;> rfl
variable {Qr : Src → Mem → Prop}
theorem ri_val {ma : Sl → Mem → R W} : Rw (iVal ma δ μ) Qr = Rw (ma δ μ) fun x μ1 => match x with
    | .loc n => (∃ xs, getL μ1 n = some xs) ∧ Qr (.dyn (getAt n)) μ1
    | .tup xs => Qr (.items xs) μ1
    | .fl xs => Qr (.items xs) μ1
    | .str s => Qr (.items (signs s)) μ1
    | _ => False := by
  unfold iVal
  rw [wp_bind]
  congr 1
  funext x μ1
  cases x with
  | loc n => cases h : getL μ1 n <;> simp [wp_ok, wp_exc, wp_stuck, fw_nx, fw_rt, fw_bk, fw_ct, fw_exc, fw_stuck, h]
  | _ => simp [wp_ok, wp_exc, wp_stuck, fw_nx, fw_rt, fw_bk, fw_ct, fw_exc, fw_stuck]
theorem ri_args {g : List W → Mem → R Src} {ms : Sl → Mem → R (List W)} : Rw (iArgs g ms δ μ) Qr = Rw (ms δ μ) fun ws μ1 => Rw (g ws μ1) Qr := by
  unfold iArgs
  rw [wp_bind]
/-! comprehensions -/
theorem compX_w {T : Tg} {tt : Sl → Mem → R Bool} {te : Sl → Mem → R W} {xs : List W} (I : Nat → List W → Mem → Prop) (h0 : I 0 [] μ)
    (step : ∀ i x acc μ, xs[i]? = some x → I i acc μ → ∃ δ1, bindT T x δ = some δ1 ∧ Rw (tt δ1 μ) fun b μ1 => if b = true then Rw (te δ1 μ1) fun y μ2 => I (i + 1) (acc ++ [y]) μ2 else I (i + 1) acc μ1) :
    ∃ ys μ', compX T tt te δ xs μ = some (ys, μ') ∧ I xs.length ys μ' := by
  have key : ∀ (xs : List W) (I : Nat → List W → Mem → Prop) (acc : List W) (μ : Mem), I 0 acc μ → (∀ i x acc μ, xs[i]? = some x → I i acc μ → ∃ δ1, bindT T x δ = some δ1 ∧ Rw (tt δ1 μ) fun b μ1 => if b = true then Rw (te δ1 μ1) fun y μ2 => I (i + 1) (acc ++ [y]) μ2 else I (i + 1) acc μ1) →
      ∃ ys μ', compX T tt te δ xs μ = some (ys, μ') ∧ I xs.length (acc ++ ys) μ' := by
    intro xs
    induction xs with
    | nil => intro I acc μ h _; exact ⟨[], μ, rfl, by simpa using h⟩
    | cons x xs ih =>
      intro I acc μ h st
      obtain ⟨δ1, e, q⟩ := st 0 x acc μ rfl h
      obtain ⟨b, μ1, e1, q1⟩ := q.ok
      unfold compX
      rw [e]
      simp only [e1]
      cases b with
      | false =>
        obtain ⟨ys, μ', r1, r2⟩ := ih (fun i => I (i + 1)) acc μ1 q1 fun i y acc μ hy h => st (i + 1) y acc μ hy h
        exact ⟨ys, μ', r1, r2⟩
      | true =>
        have q1 : Rw (te δ1 μ1) fun y μ2 => I (0 + 1) (acc ++ [y]) μ2 := q1
        obtain ⟨y, μ2, e2, q2⟩ := q1.ok
        obtain ⟨ys, μ', r1, r2⟩ := ih (fun i => I (i + 1)) (acc ++ [y]) μ2 q2 fun i y acc μ hy h => st (i + 1) y acc μ hy h
        simp only [e2, r1]
        exact ⟨y :: ys, μ', rfl, by simpa using r2⟩
  obtain ⟨ys, μ', r1, r2⟩ := key xs I [] μ h0 step
  exact ⟨ys, μ', r1, r2⟩
theorem compL_w {T : Tg} {tt : Sl → Mem → R Bool} {te : Sl → Mem → R W} {n : Nat} {xs : List W} (I : Nat → List W → Mem → Prop) (hl : ∀ i acc μ, I i acc μ → getL μ n = some xs) (hz : xs.length < 1000000) (h0 : I 0 [] μ)
    (step : ∀ i x acc μ, xs[i]? = some x → I i acc μ → ∃ δ1, bindT T x δ = some δ1 ∧ Rw (tt δ1 μ) fun b μ1 => if b = true then Rw (te δ1 μ1) fun y μ2 => I (i + 1) (acc ++ [y]) μ2 else I (i + 1) acc μ1) :
    ∃ ys μ', compL T tt te δ (getAt n) 1000000 0 μ = some (ys, μ') ∧ I xs.length ys μ' := by
  have key : ∀ (k i : Nat) (acc : List W) (μ : Mem), i ≤ xs.length → xs.length < i + k → I i acc μ → ∃ ys μ', compL T tt te δ (getAt n) k i μ = some (ys, μ') ∧ I xs.length (acc ++ ys) μ' := by
    intro k
    induction k with
    | zero => intro i acc μ h1 h2 _; omega
    | succ k ih =>
      intro i acc μ h1 h2 h
      unfold compL getAt
      rw [hl i acc μ h]
      cases hx : xs[i]? with
      | none =>
        have : i = xs.length := by
          have := List.getElem?_eq_none_iff.mp hx
          omega
        subst this
        simp only [Option.map_some, hx]
        exact ⟨[], μ, rfl, by simpa using h⟩
      | some x =>
        simp only [Option.map_some, hx]
        have lt := (List.getElem?_eq_some_iff.mp hx).1
        obtain ⟨δ1, e, q⟩ := step i x acc μ hx h
        obtain ⟨b, μ1, e1, q1⟩ := q.ok
        rw [e]
        simp only [e1]
        cases b with
        | false =>
          obtain ⟨ys, μ', r1, r2⟩ := ih (i + 1) acc μ1 (by omega) (by omega) q1
          exact ⟨ys, μ', r1, r2⟩
        | true =>
          have q1 : Rw (te δ1 μ1) fun y μ2 => I (i + 1) (acc ++ [y]) μ2 := q1
          obtain ⟨y, μ2, e2, q2⟩ := q1.ok
          obtain ⟨ys, μ', r1, r2⟩ := ih (i + 1) (acc ++ [y]) μ2 (by omega) (by omega) q2
          simp only [e2]
          unfold getAt at r1
          rw [r1]
          exact ⟨y :: ys, μ', rfl, by simpa using r2⟩
  obtain ⟨ys, μ', r1, r2⟩ := key 1000000 0 [] μ (by omega) (by omega) h0
  exact ⟨ys, μ', r1, r2⟩
theorem wp_lc {mi : Sl → Mem → R Src} {T : Tg} {tt : Sl → Mem → R Bool} {te : Sl → Mem → R W} {vs : List Nat} : Rw (mLc mi T tt te vs δ μ) Qw = Rw (mi δ μ) fun s μ1 => ∃ ys μ2, compS T tt te (wipeW δ vs) s μ1 = some (ys, μ2) ∧ ys.length ≤ 1000000 ∧ Qw (.loc μ2.length) (μ2 ++ [.lst ys]) := by
  unfold mLc
  rw [wp_bind]
  congr 1
  funext s μ1
  cases h : compS T tt te (wipeW δ vs) s μ1 with
  | none => simp [compEnd, wp_ok, wp_exc, wp_stuck, fw_nx, fw_rt, fw_bk, fw_ct, fw_exc, fw_stuck]
  | some p =>
    obtain ⟨ys, μ2⟩ := p
    apply propext
    simp only [compEnd, List.nil_append]
    by_cases hz : ys.length ≤ 1000000
    · rw [if_pos hz]
      constructor
      · exact fun h => ⟨ys, μ2, rfl, hz, h.is⟩
      · rintro ⟨_, _, e, _, q⟩
        cases e
        exact ⟨q⟩
    · rw [if_neg hz]
      constructor
      · exact fun h => h.is.elim
      · rintro ⟨_, _, e, q, _⟩
        cases e
        exact absurd q hz
end
/-! ### what stays -/
structure Fr (S : List Nat) (μ μ' : Mem) : Prop where
  len : μ.length ≤ μ'.length
  at_ : ∀ i o, μ[i]? = some o → i ∉ S → μ'[i]? = some o
section
variable {S : List Nat} {μ μ' μ2 : Mem}
theorem Fr.refl (S : List Nat) (μ : Mem) : Fr S μ μ := ⟨Nat.le_refl _, fun _ _ h _ => h⟩
theorem Fr.trans (a : Fr S μ μ') (b : Fr S μ' μ2) : Fr S μ μ2 := ⟨Nat.le_trans a.len b.len, fun i o h n => b.at_ i o (a.at_ i o h n) n⟩
theorem Fr.mono {S' : List Nat} (a : Fr S μ μ') (h : ∀ i ∈ S, i ∈ S') : Fr S' μ μ' := ⟨a.len, fun i o e n => a.at_ i o e fun z => n (h i z)⟩
theorem Fr.up (a : Fr [] μ μ') : Fr S μ μ' := a.mono fun _ h => nomatch h
theorem Fr.app (S : List Nat) (μ j : Mem) : Fr S μ (μ ++ j) := ⟨by simp, fun i o h _ => by rw [List.getElem?_append_left (List.getElem?_eq_some_iff.mp h).1]; exact h⟩
theorem Fr.set {n : Nat} {o : MO} (h : n ∈ S) : Fr S μ (μ.set n o) := ⟨by simp, fun i o e z => by
  rw [List.getElem?_set_ne (fun q => z (by rw [← q]; exact h))]
  exact e⟩
/-- a write at a place that was not there -/
theorem Fr.setF {n : Nat} {o : MO} (a : Fr S μ μ') (h : μ.length ≤ n) : Fr S μ (μ'.set n o) := ⟨by simpa using a.len, fun i o' e z => by
  have := (List.getElem?_eq_some_iff.mp e).1
  rw [List.getElem?_set_ne (by omega)]
  exact a.at_ i o' e z⟩
theorem Fr.getL {n : Nat} {xs : List W} (a : Fr S μ μ') (h : getL μ n = some xs) (hn : n ∉ S) : getL μ' n = some xs := by
  have := a.at_ n _ (getL_some h) hn
  unfold Mi.getL
  rw [this]
theorem getL_lt {n : Nat} {xs : List W} (h : getL μ n = some xs) : n < μ.length := (List.getElem?_eq_some_iff.mp (getL_some h)).1
theorem getL_new {xs : List W} : getL (μ ++ [.lst xs]) μ.length = some xs := by
  unfold getL
  simp
theorem getL_app {n : Nat} {xs : List W} {j : Mem} (h : getL μ n = some xs) : getL (μ ++ j) n = some xs := (Fr.app [] μ j).getL h (List.not_mem_nil)
theorem getL_set {n : Nat} {xs ys : List W} (h : getL μ n = some xs) : getL (μ.set n (.lst ys)) n = some ys := by
  unfold getL
  rw [List.getElem?_set_self (getL_lt h)]
theorem getL_setN {n m : Nat} {o : MO} {ys : List W} (h : getL μ m = some ys) (hn : n ≠ m) : getL (μ.set n o) m = some ys := by
  unfold getL at *
  rw [List.getElem?_set_ne hn]
  exact h
/-- data stays data -/
theorem mapO_imp {α β : Type} {f g : α → Option β} : ∀ {xs : List α} {ys : List β}, (∀ x ∈ xs, ∀ y, f x = some y → g x = some y) → mapO f xs = some ys → mapO g xs = some ys
  | [], _, _, h => h
  | x :: xs, ys, k, h => by
    unfold mapO at h ⊢
    cases ex : f x with
    | none => rw [ex] at h; cases h
    | some y =>
      cases es : mapO f xs with
      | none => rw [ex, es] at h; cases h
      | some zs =>
        rw [ex, es] at h
        rw [k x (List.mem_cons_self ..) y ex, mapO_imp (fun z hz => k z (List.mem_cons_of_mem _ hz)) es]
        exact h
/-- every list of μ is one of μ' -/
def Sub (μ μ' : Mem) : Prop := ∀ n xs, getL μ n = some xs → getL μ' n = some xs
theorem Fr.sub (a : Fr [] μ μ') : Sub μ μ' := fun n xs h => a.getL h List.not_mem_nil
theorem toD_sub (a : Sub μ μ') : ∀ (k : Nat) (w : W) (d : PyData), toD μ k w = some d → toD μ' k w = some d := by
  intro k
  induction k with
  | zero =>
    intro w d h
    cases w <;> simp_all [toD]
  | succ k ih =>
    intro w d h
    cases w with
    | tup xs =>
      simp only [toD, Option.map_eq_some_iff] at h ⊢
      obtain ⟨ds, h1, h2⟩ := h
      exact ⟨ds, mapO_imp (fun x _ y hy => ih x y hy) h1, h2⟩
    | fl xs =>
      simp only [toD, Option.map_eq_some_iff] at h ⊢
      obtain ⟨ds, h1, h2⟩ := h
      exact ⟨ds, mapO_imp (fun x _ y hy => ih x y hy) h1, h2⟩
    | loc n =>
      simp only [toD] at h ⊢
      cases e : getL μ n with
      | none => rw [e] at h; cases h
      | some xs =>
        rw [e] at h
        rw [a n xs e]
        simp only [Option.map_eq_some_iff] at h ⊢
        obtain ⟨ds, h1, h2⟩ := h
        exact ⟨ds, mapO_imp (fun x _ y hy => ih x y hy) h1, h2⟩
    | _ => simp_all [toD]
/-- μ with the list at n hidden -/
def hide (n : Nat) (μ : Mem) : Mem := μ.set n (.rng 0 0)
theorem hide_sub {n : Nat} : Sub (hide n μ) μ := fun m xs h => by
  by_cases e : n = m
  · subst e
    unfold hide getL at h
    by_cases lt : n < μ.length
    · rw [List.getElem?_set_self lt] at h
      cases h
    · rw [List.getElem?_eq_none (by simp; omega)] at h
      cases h
  · unfold hide getL at h
    rw [List.getElem?_set_ne e] at h
    exact h
theorem hide_fr {n : Nat} (a : Fr [n] μ μ') : Sub (hide n μ) (hide n μ') := fun m xs h => by
  by_cases e : n = m
  · subst e
    unfold hide getL at h
    by_cases lt : n < μ.length
    · rw [List.getElem?_set_self lt] at h
      cases h
    · rw [List.getElem?_eq_none (by simp; omega)] at h
      cases h
  · have h2 : getL μ m = some xs := hide_sub m xs h
    have h3 := a.getL h2 (by simpa using fun z => e z.symm)
    unfold hide getL
    rw [List.getElem?_set_ne e]
    exact h3
end
end Mi

set_option Elab.async false
set_option linter.all false
set_option maxRecDepth 100000
set_option maxHeartbeats 2000000
set_option autoImplicit false
/-! Mi11: what an operator gives, value by value. -/
namespace Mi
open PySem L2
section
variable {μ : Mem} {i j m x : Int} {n : Nat} {xs ys : List W} {w : W}
theorem v_addI : opAdd (.int i) (.int j) μ = some (.int (i + j), μ) := id rfl
theorem v_addT (h : xs.length + ys.length ≤ 1000000) : opAdd (.tup xs) (.tup ys) μ = some (.tup (xs ++ ys), μ) := if_pos h
theorem v_addL {k : Nat} (h1 : getL μ n = some xs) (h2 : getL μ k = some ys) (h : xs.length + ys.length ≤ 1000000) : opAdd (.loc n) (.loc k) μ = some (.loc μ.length, μ ++ [.lst (xs ++ ys)]) := by
  unfold opAdd
  simp only [h1, h2]
  exact if_pos h
theorem v_subI : opSub (.int i) (.int j) μ = some (.int (i - j), μ) := id rfl
theorem v_mulL (h : -18446744073709551616 < i ∧ i < 18446744073709551616) : opMul (.int i) (.int j) μ = some (.int (i * j), μ) := if_pos (.inl h)
theorem v_mulR (h : -18446744073709551616 < j ∧ j < 18446744073709551616) : opMul (.int i) (.int j) μ = some (.int (i * j), μ) := if_pos (.inr h)
theorem v_mulM (h : 0 < m ∧ m < 18446744073709551616) : opMul (.int (x % m)) (.int j) μ = some (.int (x % m * j), μ) := by
  have h1 := Int.emod_nonneg x (show m ≠ 0 by omega)
  have h2 := Int.emod_lt_of_pos x h.1
  exact v_mulL (by omega)
theorem v_mulN (h : 0 < m ∧ m < 18446744073709551616) : opMul (.int i) (.int (x % m)) μ = some (.int (i * (x % m)), μ) := by
  have h1 := Int.emod_nonneg x (show m ≠ 0 by omega)
  have h2 := Int.emod_lt_of_pos x h.1
  exact v_mulR (by omega)
theorem v_mulT (h : 2 ≤ i ∧ i ≤ 1000 ∧ xs.length ≤ 1000) : opMul (.tup xs) (.int i) μ = some (.tup (List.replicate i.toNat xs).flatten, μ) := by
  cases xs with
  | nil =>
    unfold opMul
    simp only [List.isEmpty_nil, if_true]
    rw [if_pos (by omega)]
    have : (List.replicate i.toNat ([] : List W)).flatten = [] := by simp
    rw [this]
  | cons x r =>
    unfold opMul
    simp only [List.isEmpty_cons, Bool.false_eq_true, if_false]
    exact if_pos h
theorem v_mod (h : 0 < j) : opMod (.int i) (.int j) μ = some (.int (i % j), μ) := if_pos h
theorem v_fdiv (h : 0 < j ∧ j < 1073741824) : opFdiv (.int i) (.int j) μ = some (.int (i / j), μ) := if_pos h
theorem v_pow (h : 0 ≤ j ∧ j ≤ 1000 ∧ (Builtin.Int.intBits i : Int) * j ≤ 134217728) : opPow (.int i) (.int j) μ = some (.int (i ^ j.toNat), μ) := if_pos h
theorem v_neg : opNeg (.int i) μ = some (.int (-i), μ) := id rfl
theorem v_lt : opLt (.int i) (.int j) μ = some (.bl (decide (i < j)), μ) := id rfl
theorem v_le : opLe (.int i) (.int j) μ = some (.bl (decide (i ≤ j)), μ) := id rfl
theorem v_gt : opGt (.int i) (.int j) μ = some (.bl (decide (j < i)), μ) := id rfl
theorem v_ge : opGe (.int i) (.int j) μ = some (.bl (decide (j ≤ i)), μ) := id rfl
theorem v_cint : cInt [.int i] μ = some (.int i, μ) := id rfl
theorem v_cintB {b : Bool} : cInt [.bl b] μ = some (.int (if b then 1 else 0), μ) := id rfl
theorem v_cabs : cAbs [.int i] μ = some (.int (if i < 0 then -i else i), μ) := id rfl
theorem v_cmax : cMax [.int i, .int j] μ = some (.int (if j > i then j else i), μ) := id rfl
theorem v_cmin : cMin [.int i, .int j] μ = some (.int (if j < i then j else i), μ) := id rfl
theorem v_lenT : cLen [.tup xs] μ = some (.int (xs.length : Nat), μ) := id rfl
theorem v_lenF : cLen [.fl xs] μ = some (.int (xs.length : Nat), μ) := by
  first
    | rfl
    | simp [cLen, readL]
theorem v_lenL (h : getL μ n = some xs) : cLen [.loc n] μ = some (.int (xs.length : Nat), μ) := by
  have := getL_some h
  simp [cLen, this]
theorem v_lenS {z : Str} (h : z.length ≤ 1000000) : cLen [.str z] μ = some (.int (z.length : Nat), μ) := if_pos h
theorem v_tupT : cTuple [.tup xs] μ = some (.tup xs, μ) := id rfl
theorem v_tupL (h : getL μ n = some xs) : cTuple [.loc n] μ = some (.tup xs, μ) := by simp [cTuple, h]
theorem v_listT : cList [.tup xs] μ = some (.loc μ.length, μ ++ [.lst xs]) := id rfl
theorem v_listL (h : getL μ n = some xs) : cList [.loc n] μ = some (.loc μ.length, μ ++ [.lst xs]) := by simp [cList, h]
theorem atI_nat {α : Type} {l : List α} {k : Nat} : atI l (k : Int) = l[k]? := by
  unfold atI ixN
  rw [if_pos (by omega)]
  by_cases h : k < l.length
  · rw [if_pos (by omega)]
    simp
  · rw [if_neg (by omega), List.getElem?_eq_none (by omega)]
    rfl
theorem atI_int {α : Type} {l : List α} (h : 0 ≤ i) : atI l i = l[i.toNat]? := by
  have := atI_nat (l := l) (k := i.toNat)
  rw [Int.toNat_of_nonneg h] at this
  exact this
theorem atI_neg1 {α : Type} {l : List α} : atI l (-1) = l.getLast? := by
  unfold atI ixN
  rw [if_neg (by omega), List.getLast?_eq_getElem?]
  by_cases h : l.length = 0
  · have : l = [] := List.length_eq_zero_iff.mp h
    subst this
    rfl
  · rw [if_pos (by omega)]
    show l[(-1 + (l.length : Int)).toNat]? = _
    congr 1
    omega
theorem v_ixT : opIx (.tup xs) (.int i) μ = (atI xs i).map fun w => (w, μ) := id rfl
theorem v_ixF : opIx (.fl xs) (.int i) μ = (atI xs i).map fun w => (w, μ) := id rfl
theorem v_ixL (h : getL μ n = some xs) : opIx (.loc n) (.int i) μ = (atI xs i).map fun w => (w, μ) := by
  show (match readL μ (.loc n) with
    | some xs => (atI xs i).map fun w => (w, μ)
    | none => none) = _
  unfold readL
  simp only [h]
theorem v_setL (h : getL μ n = some xs) : opSetL (.loc n) (.int i) w μ = (ixN xs.length i).map fun j => μ.set n (.lst (xs.set j w)) := by simp [opSetL, h]
theorem v_append (h : getL μ n = some xs) (hz : xs.length < 1000000) : lAppend (.loc n) [w] μ = some (.non, μ.set n (.lst (xs ++ [w]))) := by
  unfold lAppend
  simp only [h]
  exact if_pos hz
theorem v_pop (h : getL μ n = some (xs ++ [w])) : lPop (.loc n) [] μ = some (w, μ.set n (.lst xs)) := by
  unfold lPop
  simp only [h]
  simp
theorem v_isTL (h : getL μ n = some xs) : isT "list" (.loc n) μ = true := by
  have := getL_some h
  simp [isT, clsOf, this]
theorem v_revT : opRev (.tup xs) μ = some (.tup xs.reverse, μ) := id rfl
theorem v_cutT {lo hi : Option Int} : opCut (.tup xs) lo hi μ = some (.tup (cutW xs lo hi), μ) := id rfl
theorem cut_to {α : Type} {l : List α} {k : Nat} : cutW l none (some (k : Int)) = l.take k := by
  unfold cutW
  rw [HT.sIx_none, HT.sIx_nat]
  simp only [List.drop_zero, Nat.sub_zero]
  by_cases h : k ≤ l.length
  · rw [Nat.min_eq_left h]
  · rw [Nat.min_eq_right (by omega), List.take_of_length_le (Nat.le_refl _), List.take_of_length_le (by omega)]
theorem cut_from {α : Type} {l : List α} {k : Nat} : cutW l (some (k : Int)) none = l.drop k := by
  unfold cutW
  rw [HT.sIx_none, HT.sIx_nat]
  by_cases h : k ≤ l.length
  · rw [Nat.min_eq_left h, List.take_of_length_le (by simp)]
  · rw [Nat.min_eq_right (by omega), List.drop_of_length_le (Nat.le_refl _), List.drop_of_length_le (by omega)]
    simp
theorem cut_mid {α : Type} {l : List α} {a b : Nat} : cutW l (some (a : Int)) (some (b : Int)) = (l.take b).drop a := by
  unfold cutW
  rw [HT.sIx_nat, HT.sIx_nat]
  apply List.ext_getElem?
  intro k
  simp only [List.getElem?_take, List.getElem?_drop]
  by_cases h : k < min b l.length - min a l.length
  · rw [if_pos h, if_pos (by omega)]
    congr 1
    omega
  · rw [if_neg h]
    by_cases h2 : a + k < b
    · rw [if_pos h2, List.getElem?_eq_none (by omega)]
    · rw [if_neg h2]
theorem v_isi {t c : String} {b : Bool} (h : clsOf μ w = some t) (hb : isiB t c = some b) : cIsi [w, .st (.ty c)] μ = some (.bl b, μ) := by
  unfold cIsi
  simp only [h, hb, Option.map_some]
theorem truth_bl {b : Bool} : truth μ (.bl b) = some b := id rfl
theorem truth_int : truth μ (.int i) = some (i != 0) := id rfl
theorem truth_tup : truth μ (.tup xs) = some (!xs.isEmpty) := id rfl
theorem truth_lst (h : getL μ n = some xs) : truth μ (.loc n) = some (!xs.isEmpty) := by
  have := getL_some h
  simp [truth, this]
theorem bools_bl {bs : List Bool} : bools (bs.map .bl) = some bs := by
  unfold bools
  induction bs with
  | nil => rfl
  | cons b bs ih => simp [mapO, asBl, ih]
theorem v_all {bs : List Bool} (h : getL μ n = some (bs.map .bl)) : cAll [.loc n] μ = some (.bl (bs.all id), μ) := by
  unfold cAll
  simp only [h, bools_bl, Option.map_some]
theorem v_any {bs : List Bool} (h : getL μ n = some (bs.map .bl)) : cAny [.loc n] μ = some (.bl (bs.any id), μ) := by
  unfold cAny
  simp only [h, bools_bl, Option.map_some]
/-! equality -/
theorem v_eq {a b : W} {d e : PyData} (h1 : toD μ 40 a = some d) (h2 : toD μ 40 b = some e) : opEq a b μ = some (.bl (PyData.eqv d e), μ) := by
  simp [opEq, eqM, h1, h2]
theorem v_ne {a b : W} {d e : PyData} (h1 : toD μ 40 a = some d) (h2 : toD μ 40 b = some e) : opNe a b μ = some (.bl (!PyData.eqv d e), μ) := by
  simp [opNe, eqM, h1, h2]
theorem v_eqI : opEq (.int i) (.int j) μ = some (.bl (i == j), μ) := by
  rw [v_eq (d := .int i) (e := .int j) rfl rfl]
  simp [PyData.eqv]
theorem v_neI : opNe (.int i) (.int j) μ = some (.bl (!(i == j)), μ) := by
  rw [v_ne (d := .int i) (e := .int j) rfl rfl]
  simp [PyData.eqv]
theorem v_eqS {y z : Str} : opEq (.str y) (.str z) μ = some (.bl (y == z), μ) := by
  rw [v_eq (d := .str y) (e := .str z) rfl rfl]
  simp [PyData.eqv]
theorem v_neS {y z : Str} : opNe (.str y) (.str z) μ = some (.bl (!(y == z)), μ) := by
  rw [v_ne (d := .str y) (e := .str z) rfl rfl]
  simp [PyData.eqv]
theorem v_isN (h : notSt w = true) : opIsN w .non μ = some (.bl (isNon w), μ) := if_pos h
theorem v_isNot (h : notSt w = true) : opIsNot w .non μ = some (.bl (!isNon w), μ) := if_pos h
theorem mapO_len {α β : Type} {f : α → Option β} : ∀ {l : List α} {r : List β}, mapO f l = some r → r.length = l.length
  | [], _, h => by cases h; rfl
  | x :: l, r, h => by
    unfold mapO at h
    cases e1 : f x with
    | none => rw [e1] at h; cases h
    | some y =>
      cases e2 : mapO f l with
      | none => rw [e1, e2] at h; cases h
      | some ys =>
        rw [e1, e2] at h
        cases h
        simp [mapO_len e2]
/-- against the empty list -/
theorem v_eq0 {k : Nat} (h : getL μ n = some xs) (hd : ∃ ds, mapO (toD μ 39) xs = some ds) (h2 : getL μ k = some []) : opEq (.loc n) (.loc k) μ = some (.bl xs.isEmpty, μ) := by
  obtain ⟨ds, hd⟩ := hd
  rw [v_eq (d := .list ds) (e := .list []) (by simp [toD, h, hd]) (by simp [toD, h2, mapO])]
  have := mapO_len hd
  congr 2
  cases ds with
  | nil =>
    cases xs with
    | nil => rfl
    | cons _ _ => simp at this
  | cons d ds =>
    cases xs with
    | nil => simp at this
    | cons _ _ => rfl
theorem v_ne0 {k : Nat} (h : getL μ n = some xs) (hd : ∃ ds, mapO (toD μ 39) xs = some ds) (h2 : getL μ k = some []) : opNe (.loc n) (.loc k) μ = some (.bl (!xs.isEmpty), μ) := by
  have e := v_eq0 h hd h2
  unfold opEq at e
  unfold opNe
  cases q : eqM μ (.loc n) (.loc k) with
  | none => rw [q] at e; cases e
  | some b => rw [q] at e; cases e; rfl
end
end Mi

set_option Elab.async false
set_option linter.all false
set_option maxRecDepth 100000
set_option maxHeartbeats 2000000
set_option autoImplicit false
/-! Mi12: small data, and the state of the draws. -/
namespace Mi
open PySem L2
/-- small data without dicts, of some depth -/
def Gd (μ : Mem) : Nat → W → Prop
  | _, .non => True
  | _, .bl _ => True
  | _, .int _ => True
  | _, .str s => s.length ≤ 1000000
  | k + 1, .tup xs => xs.length < 1000000 ∧ ∀ x ∈ xs, Gd μ k x
  | k + 1, .loc n => ∃ xs, getL μ n = some xs ∧ xs.length < 1000000 ∧ ∀ x ∈ xs, Gd μ k x
  | _, _ => False
section
variable {μ μ' : Mem}
theorem Gd.sub (a : Sub μ μ') : ∀ {k : Nat} {w : W}, Gd μ k w → Gd μ' k w := by
  intro k
  induction k with
  | zero => intro w h; cases w <;> first | exact h | exact h.elim
  | succ k ih =>
    intro w h
    cases w with
    | tup xs => exact ⟨h.1, fun x hx => ih (h.2 x hx)⟩
    | loc n =>
      obtain ⟨xs, h1, h2, h3⟩ := h
      exact ⟨xs, a n xs h1, h2, fun x hx => ih (h3 x hx)⟩
    | fl xs => exact h.elim
    | st v => exact h.elim
    | _ => exact h
theorem Gd.up : ∀ {k : Nat} {w : W}, Gd μ k w → ∀ {j : Nat}, k ≤ j → Gd μ j w := by
  intro k
  induction k with
  | zero => intro w h j _; cases j <;> cases w <;> first | exact h | exact h.elim
  | succ k ih =>
    intro w h j hj
    obtain ⟨j, rfl⟩ : ∃ i, j = i + 1 := ⟨j - 1, by omega⟩
    cases w with
    | tup xs => exact ⟨h.1, fun x hx => ih (h.2 x hx) (by omega)⟩
    | loc n =>
      obtain ⟨xs, h1, h2, h3⟩ := h
      exact ⟨xs, h1, h2, fun x hx => ih (h3 x hx) (by omega)⟩
    | fl xs => exact h.elim
    | st v => exact h.elim
    | _ => exact h
theorem mapO_all {α β : Type} {f : α → Option β} : ∀ {l : List α}, (∀ x ∈ l, ∃ y, f x = some y) → ∃ r, mapO f l = some r
  | [], _ => ⟨[], rfl⟩
  | x :: l, h => by
    obtain ⟨y, e1⟩ := h x (List.mem_cons_self ..)
    obtain ⟨r, e2⟩ := mapO_all fun z hz => h z (List.mem_cons_of_mem _ hz)
    exact ⟨y :: r, by simp [mapO, e1, e2]⟩
theorem Gd.toD : ∀ {k : Nat} {w : W}, Gd μ k w → ∃ d, Mi.toD μ k w = some d := by
  intro k
  induction k with
  | zero => intro w h; cases w <;> first | exact ⟨_, rfl⟩ | exact h.elim
  | succ k ih =>
    intro w h
    cases w with
    | tup xs =>
      obtain ⟨r, e⟩ := mapO_all fun x hx => ih (h.2 x hx)
      exact ⟨.tuple r, by simp [Mi.toD, e]⟩
    | loc n =>
      obtain ⟨xs, h1, h2, h3⟩ := h
      obtain ⟨r, e⟩ := mapO_all fun x hx => ih (h3 x hx)
      exact ⟨.list r, by simp [Mi.toD, h1, e]⟩
    | fl xs => exact h.elim
    | st v => exact h.elim
    | _ => exact ⟨_, rfl⟩
theorem Gd.mapO {k j : Nat} {xs : List W} (h : ∀ x ∈ xs, Gd μ k x) (hj : k ≤ j) : ∃ ds, Mi.mapO (Mi.toD μ j) xs = some ds := mapO_all fun x hx => ((h x hx).up hj).toD
/-! the draws' state at n -/
structure Jar (n : Nat) (μ : Mem) : Prop where
  is : ∃ a b c : Int, getL μ n = some [.int a, .int b, .int c]
/-- what a draw may do -/
structure Jw (n : Nat) (μ μ' : Mem) : Prop where
  jar : Jar n μ'
  fr : Fr [n] μ μ'
theorem Jw.trans {μ2 : Mem} {n : Nat} (a : Jw n μ μ') (b : Jw n μ' μ2) : Jw n μ μ2 := ⟨b.jar, a.fr.trans b.fr⟩
theorem Jw.refl {n : Nat} (j : Jar n μ) : Jw n μ μ := ⟨j, Fr.refl _ _⟩
theorem Jar.app {n : Nat} (j : Jar n μ) (r : Mem) : Jar n (μ ++ r) := by
  obtain ⟨a, b, c, h⟩ := j.is
  exact ⟨a, b, c, getL_app h⟩
theorem Jw.app {n : Nat} (a : Jw n μ μ') (r : Mem) : Jw n μ (μ' ++ r) := ⟨a.jar.app r, a.fr.trans (Fr.app _ _ _)⟩
theorem Jar.lt {n : Nat} (j : Jar n μ) : n < μ.length := by
  obtain ⟨a, b, c, h⟩ := j.is
  exact getL_lt h
theorem Jar.fr {n : Nat} (j : Jar n μ) (f : Fr [] μ μ') : Jar n μ' := by
  obtain ⟨a, b, c, h⟩ := j.is
  exact ⟨a, b, c, f.getL h List.not_mem_nil⟩
theorem Jw.then_ {μ2 : Mem} {n : Nat} (a : Jw n μ μ') (f : Fr [] μ' μ2) : Jw n μ μ2 := ⟨a.jar.fr f, a.fr.trans f.up⟩
theorem Jw.setF {n k : Nat} {o : MO} (a : Jw n μ μ') (h : μ.length ≤ k) (j : Jar n μ) : Jw n μ (μ'.set k o) := by
  obtain ⟨x, y, z, e⟩ := a.jar.is
  have := j.lt
  exact ⟨⟨x, y, z, getL_setN e (by omega)⟩, a.fr.setF h⟩
theorem Jw.getL {n k : Nat} {xs : List W} (a : Jw n μ μ') (h : getL μ k = some xs) (hk : k ≠ n) : Mi.getL μ' k = some xs := a.fr.getL h (by simpa using hk)
/-- small data that does not lead to the draws' state -/
def Gj (n : Nat) (μ : Mem) (k : Nat) (w : W) : Prop := Gd (hide n μ) k w
theorem Gj.gd {n k : Nat} {w : W} (h : Gj n μ k w) : Gd μ k w := Gd.sub hide_sub h
theorem Gj.mv {n k : Nat} {w : W} (h : Gj n μ k w) (f : Fr [n] μ μ') : Gj n μ' k w := Gd.sub (hide_fr f) h
theorem Gj.loc {n k j : Nat} {xs : List W} (h : getL μ j = some xs) (hj : j ≠ n) (hz : xs.length < 1000000) (hx : ∀ x ∈ xs, Gj n μ k x) : Gj n μ (k + 1) (.loc j) := by
  refine ⟨xs, ?_, hz, hx⟩
  unfold hide getL
  rw [List.getElem?_set_ne (fun z => hj z.symm)]
  unfold getL at h
  exact h
theorem Gj.tup {n k : Nat} {xs : List W} (hz : xs.length < 1000000) (hx : ∀ x ∈ xs, Gj n μ k x) : Gj n μ (k + 1) (.tup xs) := ⟨hz, hx⟩
theorem Gj.up {n k j : Nat} {w : W} (h : Gj n μ k w) (hj : k ≤ j) : Gj n μ j w := Gd.up h hj
/-! ### kinds -/
/-- small data, or a dict -/
def Vl (μ : Mem) (w : W) : Prop := Gd μ 20 w ∨ ∃ k kvs, w = .loc k ∧ μ[k]? = some (.dct kvs)
def isStr : W → Bool
  | .str _ => true
  | _ => false
def isTup : W → Bool
  | .tup _ => true
  | _ => false
def isInt : W → Bool
  | .int _ => true
  | .bl _ => true
  | _ => false
def isBool : W → Bool
  | .bl _ => true
  | _ => false
theorem Vl.cls {w : W} (h : Vl μ w) : (∃ n, w = .loc n ∧ (clsOf μ w = some "list" ∨ clsOf μ w = some "dict")) ∨ (w = .non) ∨ (∃ b, w = .bl b) ∨ (∃ i, w = .int i) ∨ (∃ s, w = .str s) ∨ ∃ xs, w = .tup xs := by
  rcases h with h | ⟨k, kvs, rfl, h⟩
  · cases w with
    | loc n =>
      obtain ⟨xs, h1, _⟩ := h
      exact .inl ⟨n, rfl, .inl (by simp [clsOf, getL_some h1])⟩
    | fl xs => exact h.elim
    | st v => exact h.elim
    | _ => simp
  · exact .inl ⟨k, rfl, .inr (by simp [clsOf, h])⟩
theorem isi_str {w : W} (h : Vl μ w) : cIsi [w, .st (.ty "str")] μ = some (.bl (isStr w), μ) := by
  rcases h.cls with ⟨n, rfl, e | e⟩ | rfl | ⟨b, rfl⟩ | ⟨i, rfl⟩ | ⟨z, rfl⟩ | ⟨xs, rfl⟩
  · exact v_isi e rfl
  · exact v_isi e rfl
  all_goals exact v_isi rfl rfl
theorem isi_tup {w : W} (h : Vl μ w) : cIsi [w, .st (.ty "tuple")] μ = some (.bl (isTup w), μ) := by
  rcases h.cls with ⟨n, rfl, e | e⟩ | rfl | ⟨b, rfl⟩ | ⟨i, rfl⟩ | ⟨z, rfl⟩ | ⟨xs, rfl⟩
  · exact v_isi e rfl
  · exact v_isi e rfl
  all_goals exact v_isi rfl rfl
theorem isi_int {w : W} (h : Vl μ w) : cIsi [w, .st (.ty "int")] μ = some (.bl (isInt w), μ) := by
  rcases h.cls with ⟨n, rfl, e | e⟩ | rfl | ⟨b, rfl⟩ | ⟨i, rfl⟩ | ⟨z, rfl⟩ | ⟨xs, rfl⟩
  · exact v_isi e rfl
  · exact v_isi e rfl
  all_goals exact v_isi rfl rfl
theorem isi_bool {w : W} (h : Vl μ w) : cIsi [w, .st (.ty "bool")] μ = some (.bl (isBool w), μ) := by
  rcases h.cls with ⟨n, rfl, e | e⟩ | rfl | ⟨b, rfl⟩ | ⟨i, rfl⟩ | ⟨z, rfl⟩ | ⟨xs, rfl⟩
  · exact v_isi e rfl
  · exact v_isi e rfl
  all_goals exact v_isi rfl rfl
theorem Vl.fr {w : W} (h : Vl μ w) (f : Fr [] μ μ') : Vl μ' w := by
  rcases h with h | ⟨k, kvs, rfl, h⟩
  · exact .inl (h.sub f.sub)
  · exact .inr ⟨k, kvs, rfl, f.at_ _ _ h List.not_mem_nil⟩
theorem Vl.item {xs : List W} (h : Vl μ (.tup xs)) {x : W} (hx : x ∈ xs) : Vl μ x := by
  rcases h with h | ⟨k, kvs, e, h⟩
  · exact .inl ((h.2 x hx).up (by decide))
  · cases e
theorem Vl.len {xs : List W} (h : Vl μ (.tup xs)) : xs.length < 1000000 := by
  rcases h with h | ⟨k, kvs, e, h⟩
  · exact h.1
  · cases e
theorem Vl.str {z : Str} (h : Vl μ (.str z)) : z.length ≤ 1000000 := by
  rcases h with h | ⟨k, kvs, e, h⟩
  · exact h
  · cases e
/-! ### loops and comprehensions that change nothing old -/
def SrcIs (s : Src) (xs : List W) (μ : Mem) : Prop := s = .items xs ∨ ∃ n, s = .dyn (getAt n) ∧ getL μ n = some xs
variable {T : Tg} {tt : Sl → Mem → R Bool} {te : Sl → Mem → R W} {δ : Sl} {xs : List W} {vs : List Nat} {mi : Sl → Mem → R Src}
theorem comp_pure {s : Src} (p : W → Bool) (f : W → W) (hs : SrcIs s xs μ) (hz : xs.length < 1000000)
    (h : ∀ x ∈ xs, ∀ μ1, Fr [] μ μ1 → ∃ δ1, bindT T x δ = some δ1 ∧ Rw (tt δ1 μ1) fun b μ2 => Fr [] μ1 μ2 ∧ b = p x ∧ (b = true → Rw (te δ1 μ2) fun y μ3 => Fr [] μ2 μ3 ∧ y = f x)) :
    ∃ μ', compS T tt te δ s μ = some ((xs.filter p).map f, μ') ∧ Fr [] μ μ' := by
  have st : ∀ i x acc μ1, xs[i]? = some x → (acc = ((xs.take i).filter p).map f ∧ Fr [] μ μ1) → ∃ δ1, bindT T x δ = some δ1 ∧ Rw (tt δ1 μ1) fun b μ2 => if b = true then Rw (te δ1 μ2) fun y μ3 => (acc ++ [y] = ((xs.take (i + 1)).filter p).map f ∧ Fr [] μ μ3) else (acc = ((xs.take (i + 1)).filter p).map f ∧ Fr [] μ μ2) := by
    rintro i x acc μ1 hx ⟨rfl, fr⟩
    obtain ⟨δ1, e, q⟩ := h x (List.mem_of_getElem? hx) μ1 fr
    refine ⟨δ1, e, q.imp fun b μ2 ⟨f2, hb, q2⟩ => ?_⟩
    have tk : xs.take (i + 1) = xs.take i ++ [x] := by
      rw [List.take_succ, hx]
      rfl
    cases b with
    | false =>
      rw [if_neg (by simp)]
      refine ⟨?_, fr.trans f2⟩
      rw [tk, List.filter_append, List.filter_cons, ← hb]
      simp
    | true =>
      rw [if_pos rfl]
      refine (q2 rfl).imp fun y μ3 ⟨f3, hy⟩ => ⟨?_, (fr.trans f2).trans f3⟩
      rw [tk, List.filter_append, List.filter_cons, ← hb, hy]
      simp
  have last : xs.take xs.length = xs := List.take_of_length_le (Nat.le_refl _)
  rcases hs with rfl | ⟨n, rfl, hn⟩
  · obtain ⟨ys, μ', e, hy, fr⟩ := compX_w (I := fun i acc μ1 => acc = ((xs.take i).filter p).map f ∧ Fr [] μ μ1) ⟨by simp, Fr.refl _ _⟩ st
    rw [last] at hy
    exact ⟨μ', by rw [← hy]; exact e, fr⟩
  · obtain ⟨ys, μ', e, hy, fr⟩ := compL_w (n := n) (xs := xs) (I := fun i acc μ1 => acc = ((xs.take i).filter p).map f ∧ Fr [] μ μ1) (fun i acc μ1 ⟨_, fr⟩ => fr.getL hn List.not_mem_nil) hz ⟨by simp, Fr.refl _ _⟩ st
    rw [last] at hy
    exact ⟨μ', by rw [← hy]; exact e, fr⟩
theorem lc_pure (xs : List W) (p : W → Bool) (f : W → W) (hm : Rw (mi δ μ) fun s μ1 => SrcIs s xs μ1 ∧ Fr [] μ μ1) (hz : xs.length < 1000000)
    (h : ∀ x ∈ xs, ∀ μ1, Fr [] μ μ1 → ∃ δ1, bindT T x (wipeW δ vs) = some δ1 ∧ Rw (tt δ1 μ1) fun b μ2 => Fr [] μ1 μ2 ∧ b = p x ∧ (b = true → Rw (te δ1 μ2) fun y μ3 => Fr [] μ2 μ3 ∧ y = f x)) :
    Rw (mLc mi T tt te vs δ μ) fun w μ' => ∃ k, w = .loc k ∧ getL μ' k = some ((xs.filter p).map f) ∧ Fr [] μ μ' ∧ μ.length ≤ k := by
  rw [wp_lc]
  refine hm.imp fun s μ1 ⟨hs, fr⟩ => ?_
  obtain ⟨μ2, e, f2⟩ := comp_pure p f hs hz fun x hx μ2 f2 => h x hx μ2 (fr.trans f2)
  refine ⟨_, μ2, e, ?_, _, rfl, getL_new, (fr.trans f2).trans (Fr.app _ _ _), Nat.le_trans fr.len f2.len⟩
  rw [List.length_map]
  have := List.length_filter_le p xs
  omega
theorem for_w {body : Sl → Mem → F} {D : En} (xs : List W) (I : Nat → Sl → Mem → Prop) (hm : Rw (mi δ μ) fun s μ1 => (s = .items xs ∨ ∃ n, s = .dyn (getAt n) ∧ ∀ i δ μ, I i δ μ → getL μ n = some xs) ∧ I 0 δ μ1) (hz : xs.length < 1000000)
    (step : ∀ i x δ μ, xs[i]? = some x → I i δ μ → ∃ δ1, bindT T x δ = some δ1 ∧ Fw (body δ1 μ) { nx := I (i + 1), rt := D.rt, bk := D.nx, ct := I (i + 1) })
    (fin : ∀ δ μ, I xs.length δ μ → D.nx δ μ) : Fw (sFor mi T body δ μ) D := by
  rw [fs_for]
  refine hm.imp fun s μ1 ⟨hs, h0⟩ => ?_
  rcases hs with rfl | ⟨n, rfl, hn⟩
  · exact forX_w I h0 step fin
  · exact forL_w I hn hz h0 step fin
end
end Mi
namespace Mi
open PySem L2
/-- data without places, told by computing -/
def gdB : Nat → W → Bool
  | _, .non => true
  | _, .bl _ => true
  | _, .int _ => true
  | _, .str s => decide (s.length ≤ 1000000)
  | k + 1, .tup xs => decide (xs.length < 1000000) && xs.all (gdB k)
  | _, _ => false
theorem gdB_gd {μ : Mem} : ∀ {k : Nat} {w : W}, gdB k w = true → Gd μ k w := by
  intro k
  induction k with
  | zero =>
    intro w h
    cases w with
    | str s => exact of_decide_eq_true (p := s.length ≤ 1000000) h
    | tup xs => cases h
    | fl xs => cases h
    | loc n => cases h
    | st v => cases h
    | _ => trivial
  | succ k ih =>
    intro w h
    cases w with
    | tup xs =>
      have h : (decide (xs.length < 1000000) && xs.all (gdB k)) = true := h
      rw [Bool.and_eq_true, List.all_eq_true] at h
      exact ⟨of_decide_eq_true h.1, fun x hx => ih (h.2 x hx)⟩
    | str s => exact of_decide_eq_true (p := s.length ≤ 1000000) h
    | fl xs => cases h
    | loc n => cases h
    | st v => cases h
    | _ => trivial
theorem gdB_gj {μ : Mem} {n k : Nat} {w : W} (h : gdB k w = true) : Gj n μ k w := gdB_gd h
def VlJ (n : Nat) (μ : Mem) (w : W) : Prop := Gj n μ 19 w ∨ ∃ k kvs, k ≠ n ∧ w = .loc k ∧ μ[k]? = some (.dct kvs)
theorem VlJ.vl {n : Nat} {μ : Mem} {w : W} (h : VlJ n μ w) : Vl μ w := by
  rcases h with h | ⟨k, kvs, _, e, h⟩
  · exact .inl (h.gd.up (by decide))
  · exact .inr ⟨k, kvs, e, h⟩
theorem VlJ.mv {n : Nat} {μ μ' : Mem} {w : W} (h : VlJ n μ w) (f : Fr [n] μ μ') : VlJ n μ' w := by
  rcases h with h | ⟨k, kvs, hn, e, h⟩
  · exact .inl (h.mv f)
  · exact .inr ⟨k, kvs, hn, e, f.at_ _ _ h (by simpa using hn)⟩
end Mi

set_option Elab.async false
set_option linter.all false
set_option maxRecDepth 100000
set_option maxHeartbeats 2000000
set_option autoImplicit false
/-! Mi13: dicts, enumerate, ranges in the calculus. -/
namespace Mi
open PySem L2
section
variable {μ : Mem} {δ : Sl} {Qw : W → Mem → Prop}
theorem wp_get2 {md mk mx : Sl → Mem → R W} : Rw (mGet2 md mk mx δ μ) Qw = Rw (md δ μ) fun d μ1 => isDct d μ1 = true ∧ Rw (mk δ μ1) fun k μ2 => Rw (mx δ μ2) fun x μ3 => ∃ o, getD μ3 d k = some o ∧ Qw (o.getD x) μ3 := by
  unfold mGet2
  rw [wp_bind]
  congr 1
  funext d μ1
  cases h : isDct d μ1 with
  | false => simp [wp_ok, wp_exc, wp_stuck, fw_nx, fw_rt, fw_bk, fw_ct, fw_exc, fw_stuck]
  | true =>
    simp only [if_true, wp_bind, true_and]
    congr 1
    funext k μ2
    congr 1
    funext x μ3
    cases getD μ3 d k <;> simp [wp_ok, wp_exc, wp_stuck, fw_nx, fw_rt, fw_bk, fw_ct, fw_exc, fw_stuck]
variable {Qp : List (W × W) → Mem → Prop}
theorem rp_nil : Rw (pairsM [] δ μ) Qp = Qp [] μ := rw_is
theorem rp_cons {mk mv : Sl → Mem → R W} {r : List ((Sl → Mem → R W) × (Sl → Mem → R W))} : Rw (pairsM ((mk, mv) :: r) δ μ) Qp = Rw (mk δ μ) fun k μ1 => Rw (mv δ μ1) fun v μ2 => Rw (pairsM r δ μ2) fun ps μ3 => Qp ((k, v) :: ps) μ3 := by
  simp only [pairsM, wp_bind, wp_ok]
theorem wp_dict {prs : List ((Sl → Mem → R W) × (Sl → Mem → R W))} : Rw (mDict prs δ μ) Qw = Rw (pairsM prs δ μ) fun ps μ1 => ∃ kvs, keysM ps = some kvs ∧ kvs.length ≤ 15 ∧ Qw (.loc μ1.length) (μ1 ++ [.dct (mergeW [] kvs)]) := by
  unfold mDict
  rw [wp_bind]
  congr 1
  funext ps μ1
  cases h : keysM ps with
  | none => simp [wp_ok, wp_exc, wp_stuck, fw_nx, fw_rt, fw_bk, fw_ct, fw_exc, fw_stuck]
  | some kvs => by_cases hz : kvs.length ≤ 15 <;> simp [hz, wp_ok, wp_exc, wp_stuck, fw_nx, fw_rt, fw_bk, fw_ct, fw_exc, fw_stuck]
theorem isDct_new {kvs : List (Key × W)} : isDct (.loc μ.length) (μ ++ [.dct kvs]) = true := by simp [isDct]
variable {Qr : Src → Mem → Prop}
theorem ri_enumT {xs : List W} : Rw (enumS [.tup xs] μ) Qr = Qr (.items (enumFrom 0 xs)) μ := rw_is
theorem ri_enumL {n : Nat} {xs : List W} (h : getL μ n = some xs) : Rw (enumS [.loc n] μ) Qr = Qr (.dyn (enumAt n)) μ := by simp [enumS, h, wp_ok, wp_exc, wp_stuck, fw_nx, fw_rt, fw_bk, fw_ct, fw_exc, fw_stuck]
theorem ri_rng1 {j : Int} (h : -4611686018427387904 ≤ j ∧ j < 4611686018427387904) : Rw (rng1 [.int j] μ) Qr = Qr (.items (rangeW 0 j.toNat)) μ := by
  unfold rng1
  simp only [if_pos h]
  exact rw_is
theorem ri_rng2 {i j : Int} (h : -4611686018427387904 ≤ i ∧ i < 4611686018427387904 ∧ -4611686018427387904 ≤ j ∧ j < 4611686018427387904) : Rw (rng2 [.int i, .int j] μ) Qr = Qr (.items (rangeW i (j - i).toNat)) μ := by
  unfold rng2
  simp only [if_pos h]
  exact rw_is
theorem enum_get? {xs : List W} {i : Nat} {y : W} (h : (enumFrom 0 xs)[i]? = some y) : ∃ x, xs[i]? = some x ∧ y = .tup [.int (i : Nat), x] := by
  obtain ⟨x, h1, h2⟩ := enum_get 0 xs i y h
  exact ⟨x, h1, by rw [h2, Nat.zero_add]⟩
theorem v_eqT0 {xs : List W} (hd : ∃ ds, mapO (toD μ 39) xs = some ds) : opEq (.tup xs) (.tup []) μ = some (.bl xs.isEmpty, μ) := by
  obtain ⟨ds, hd⟩ := hd
  rw [v_eq (d := .tuple ds) (e := .tuple []) (by simp [toD, hd]) (by simp [toD, mapO])]
  have := mapO_len hd
  congr 2
  cases ds with
  | nil =>
    cases xs with
    | nil => rfl
    | cons _ _ => simp at this
  | cons d ds =>
    cases xs with
    | nil => simp at this
    | cons _ _ => rfl
theorem v_eqN {n : Nat} {xs : List W} (h : getL μ n = some xs) (hd : ∃ ds, mapO (toD μ 39) xs = some ds) : opEq .non (.loc n) μ = some (.bl false, μ) := by
  obtain ⟨ds, hd⟩ := hd
  rw [v_eq (d := .none) (e := .list ds) rfl (by simp [toD, h, hd])]
  rfl
theorem wo_addT {xs ys : List W} : Rw (R.ofO (opAdd (.tup xs) (.tup ys) μ)) Qw = (xs.length + ys.length ≤ 1000000 ∧ Qw (.tup (xs ++ ys)) μ) := by
  by_cases h : xs.length + ys.length ≤ 1000000
  · rw [v_addT h]
    simp [h, R.ofO, wp_ok, wp_exc, wp_stuck, fw_nx, fw_rt, fw_bk, fw_ct, fw_exc, fw_stuck]
  · have : opAdd (.tup xs) (.tup ys) μ = none := if_neg h
    rw [this]
    simp [h, R.ofO, wp_ok, wp_exc, wp_stuck, fw_nx, fw_rt, fw_bk, fw_ct, fw_exc, fw_stuck]
theorem eqv_strs : ∀ ns : List Str, PyData.eqvAll (ns.map .str) (ns.map .str) = true
  | [] => rfl
  | n :: ns => by
    simp only [List.map_cons, PyData.eqvAll, PyData.eqv, beq_self_eq_true, Bool.true_and]
    exact eqv_strs ns
theorem mapO_strs {k : Nat} : ∀ ns : List Str, mapO (toD μ k) (ns.map W.str) = some (ns.map .str)
  | [] => rfl
  | n :: ns => by
    have : toD μ k (.str n) = some (.str n) := by cases k <;> rfl
    simp [mapO, this, mapO_strs ns]
theorem v_neTS {ns : List Str} : opNe (.tup (ns.map .str)) (.tup (ns.map .str)) μ = some (.bl false, μ) := by
  have e : toD μ 40 (.tup (ns.map .str)) = some (.tuple (ns.map .str)) := by simp [toD, mapO_strs]
  rw [v_ne e e]
  simp only [PyData.eqv, eqv_strs]
  rfl
theorem v_repr4 {n : Nat} {a b c d : Bool} (h : getL μ n = some [.bl a, .bl b, .bl c, .bl d]) : cRepr [.loc n] μ = some (.str (PyData.shown (.list [.bool a, .bool b, .bool c, .bool d])), μ) := by
  have e : toD μ 40 (.loc n) = some (.list [.bool a, .bool b, .bool c, .bool d]) := by simp [toD, h, mapO]
  have k : (PyData.list [.bool a, .bool b, .bool c, .bool d]).showable = true ∧ (PyData.list [.bool a, .bool b, .bool c, .bool d]).hasDict = false ∧ (PyData.list [.bool a, .bool b, .bool c, .bool d]).shown.length ≤ 1000000 ∧ PyData.strOk (PyData.list [.bool a, .bool b, .bool c, .bool d]).shown = true := by
    cases a <;> cases b <;> cases c <;> cases d <;> decide +kernel
  unfold cRepr
  simp only [e]
  exact if_pos k
theorem v_ipAdd {i j : Int} : ipAdd (.int i) (.int j) μ = some (.int (i + j), μ) := id rfl
theorem v_ipSub {i j : Int} : ipSub (.int i) (.int j) μ = some (.int (i - j), μ) := id rfl
theorem v_isNN : opIsN .non .non μ = some (.bl true, μ) := id rfl
theorem v_isNL {n : Nat} : opIsN (.loc n) .non μ = some (.bl false, μ) := id rfl
theorem v_isNotN : opIsNot .non .non μ = some (.bl false, μ) := id rfl
theorem v_isNotL {n : Nat} : opIsNot (.loc n) .non μ = some (.bl true, μ) := id rfl
end
end Mi

set_option Elab.async false
set_option linter.all false
set_option maxRecDepth 100000
set_option maxHeartbeats 4000000
set_option autoImplicit false
namespace Ex
open PySem L2 Mi
def b__law_jar : Sl → Mem → F :=
    sSeq (sSet 2 (mIf (tBl (mBin opLt (mV 1) (mCb cLen (aCons (mV 0) (aNil))))) (mBin opIx (mV 0) (mV 1)) (mBin opAdd (mBin opMul (mC (.int 59)) (mV 1)) (mC (.int 31)))))
    (sSeq (sSet 3 (mBin opMod (mCb cInt (aCons (mCb cAbs (aCons (mV 2) (aNil))) (aNil))) (mBin opPow (mBin opPow (mC (.int 10)) (mC (.int 59))) (mC (.int 9)))))
    (sSeq (sSet 4 (mBin opAdd (mBin opAdd (mBin opAdd (mBin opMul (mBin opMod (mCb cInt (aCons (mV 3) (aNil))) (mC (.int 2305843009213693921))) (mC (.int 60013))) (mBin opMul (mC (.int 8849)) (mV 1))) (mBin opMul (mC (.int 37)) (mCb cInt (aCons (mBin opLt (mV 2) (mC (.int 0))) (aNil))))) (mC (.int 19))))
    (sRet (mLst (aCons (mCb cMax (aCons (mC (.int 0)) (aCons (mBin opSub (mV 3) (mBin opPow (mC (.int 10)) (mC (.int 18)))) (aNil)))) (aCons (mBin opMod (mCb cInt (aCons (mV 4) (aNil))) (mC (.int 2305843009213693907))) (aCons (mC (.int 0)) (aNil))))))))
def g__law_jar : List W → Mem → R W := fnG 5 b__law_jar
def b__law_toss : Sl → Mem → F :=
    sSeq (sIf (tBl (mBin opGt (mBin opIx (mV 0) (mC (.int 0))) (mC (.int 0))))
    (sSeq (sSet 4 (mBin opMod (mCb cInt (aCons (mBin opIx (mV 0) (mC (.int 0))) (aNil))) (mV 1)))
    (sSeq (sSub opSetL (mBin opFdiv (mBin opIx (mV 0) (mC (.int 0))) (mV 1)) (mV 0) (mC (.int 0)))
    (sRet (mV 4))))
    (sNil))
    (sSeq (sSub opSetL (mBin opAdd (mBin opIx (mV 0) (mC (.int 2))) (mC (.int 1))) (mV 0) (mC (.int 2)))
    (sSeq (sSet 2 (mBin opMod (mCb cInt (aCons (mBin opAdd (mBin opIx (mV 0) (mC (.int 1))) (mBin opMul (mC (.int 1000151)) (mBin opIx (mV 0) (mC (.int 2))))) (aNil))) (mC (.int 2305843009213693951))))
    (sSeq (sSet 3 (mBin opAdd (mBin opMul (mBin opMod (mCb cInt (aCons (mBin opMul (mV 2) (mV 2)) (aNil))) (mC (.int 2305843009213693921))) (mV 2)) (mBin opMul (mC (.int 7919)) (mBin opIx (mV 0) (mC (.int 2))))))
    (sRet (mBin opMod (mCb cInt (aCons (mBin opFdiv (mBin opMod (mCb cInt (aCons (mV 3) (aNil))) (mC (.int 2305843009213693907))) (mC (.int 32768))) (aNil))) (mV 1))))))
def g__law_toss : List W → Mem → R W := fnG 5 b__law_toss
def b__law_pick : Sl → Mem → F :=
    sRet (mBin opIx (mV 1) (mCall g__law_toss (aCons (mV 0) (aCons (mCb cLen (aCons (mV 1) (aNil))) (aNil)))))
def g__law_pick : List W → Mem → R W := fnG 2 b__law_pick
def b__law_lines : Sl → Mem → F :=
    sSeq (sPar 3 4 (aCons (mLst (aNil)) (aCons (mLst (aNil)) (aNil))))
    (sSeq (sFor (iArgs rng1 (aCons (mV 1) (aNil))) (.nm 2)
    (sSeq (sPar 5 6 (aCons (mCall g__law_toss (aCons (mV 0) (aCons (mC (.int 8)) (aNil)))) (aCons (mCall g__law_pick (aCons (mV 0) (aCons (mLst (aCons (mC (.str "p")) (aCons (mC (.str "q")) (aCons (mC (.str "abcdefgh")) (aNil))))) (aNil)))) (aNil))))
    (sIf (tBl (mBin opLt (mV 5) (mC (.int 3))))
    (sSeq (sExpr (mMt "list" lAppend (mV 3) (aCons (mTup (aCons (mC (.str "in")) (aCons (mV 6) (aNil)))) (aNil))))
    (sExpr (mMt "list" lAppend (mV 4) (aCons (mV 6) (aNil)))))
    (sIf (tAn (tBl (mBin opLt (mV 5) (mC (.int 6)))) (tBl (mBin opNe (mV 4) (mLst (aNil)))))
    (sExpr (mMt "list" lAppend (mV 3) (aCons (mTup (aCons (mC (.str "out")) (aCons (mMt "list" lPop (mV 4) aNil) (aNil)))) (aNil))))
    (sExpr (mMt "list" lAppend (mV 3) (aCons (mTup (aCons (mIf (tAn (tBl (mBin opEq (mV 5) (mC (.int 7)))) (tBl (mBin opEq (mCall g__law_toss (aCons (mV 0) (aCons (mC (.int 6)) (aNil)))) (mC (.int 0))))) (mC (.str "out")) (mC (.str "say"))) (aCons (mV 6) (aNil)))) (aNil))))))))
    (sRet (mTup (aCons (mCb cTuple (aCons (mV 3) (aNil))) (aCons (mV 4) (aNil))))))
def g__law_lines : List W → Mem → R W := fnG 7 b__law_lines
def b__law_odd : Sl → Mem → F :=
    sSeq (sSet 2 (mCall g__law_toss (aCons (mV 0) (aCons (mBin opAdd (mCb cLen (aCons (mV 1) (aNil))) (mC (.int 1))) (aNil)))))
    (sSeq (sSet 3 (mLst (aCons (mC .non) (aCons (mTup (aNil)) (aCons (mTup (aCons (mC (.str "say")) (aNil))) (aCons (mTup (aCons (mC (.str "say")) (aCons (mC (.str "A")) (aNil)))) (aCons (mTup (aCons (mC (.str "say")) (aCons (mC (.str "abcdefghi")) (aNil)))) (aCons (mTup (aCons (mC (.str "tell")) (aCons (mC (.str "p")) (aNil)))) (aCons (mLst (aCons (mC (.str "say")) (aCons (mC (.str "p")) (aNil)))) (aCons (mTup (aCons (mC (.str "in")) (aCons (mC (.int 1)) (aNil)))) (aCons (mC (.str "say")) (aCons (mC (.int 0)) (aNil)))))))))))))
    (sSeq (sSet 4 (mLst (aCons (mSl opCut (mV 1) (mOpt none) (mOpt (some (mV 2)))) (aCons (mSl opCut (mV 1) (mOpt (some (mV 2))) (mOpt none)) (aCons (mBin opAdd (mSl opCut (mV 1) (mOpt none) (mOpt (some (mV 2)))) (mSl opCut (mV 1) (mOpt (some (mBin opAdd (mV 2) (mC (.int 1))))) (mOpt none))) (aCons (mBin opAdd (mBin opAdd (mSl opCut (mV 1) (mOpt none) (mOpt (some (mV 2)))) (mBin opMul (mSl opCut (mV 1) (mOpt (some (mV 2))) (mOpt (some (mBin opAdd (mV 2) (mC (.int 1)))))) (mC (.int 2)))) (mSl opCut (mV 1) (mOpt (some (mBin opAdd (mV 2) (mC (.int 1))))) (mOpt none))) (aNil)))))))
    (sSeq (sSet 4 (mBin opAdd (mV 4) (mLst (aCons (mUn opRev (mV 1)) (aCons (mCb cList (aCons (mV 1) (aNil))) (aCons (mBin opAdd (mBin opAdd (mSl opCut (mV 1) (mOpt none) (mOpt (some (mV 2)))) (mTup (aCons (mCall g__law_pick (aCons (mV 0) (aCons (mV 3) (aNil)))) (aNil)))) (mSl opCut (mV 1) (mOpt (some (mV 2))) (mOpt none))) (aCons (mCall g__law_pick (aCons (mV 0) (aCons (mV 3) (aNil)))) (aNil))))))))
    (sRet (mCall g__law_pick (aCons (mV 0) (aCons (mBin opAdd (mV 4) (mLst (aCons (mBin opAdd (mTup (aCons (mTup (aCons (mC (.str "in")) (aCons (mC (.str "p")) (aNil)))) (aNil))) (mV 1)) (aCons (mBin opAdd (mV 1) (mTup (aCons (mTup (aCons (mC (.str "out")) (aCons (mC (.str "p")) (aNil)))) (aNil)))) (aCons (mDict0) (aCons (mC (.bl true)) (aCons (mC (.str "abc")) (aNil)))))))) (aNil))))))))
def g__law_odd : List W → Mem → R W := fnG 5 b__law_odd
def b__law_is_name : Sl → Mem → F :=
    sSeq (sIf (tO (tN (tV (mCb cIsi (aCons (mV 0) (aCons (mC (.st (.ty "str"))) (aNil)))))) (tBl (mBin opNin (mCb cLen (aCons (mV 0) (aNil))) (mCb cRange (aCons (mC (.int 1)) (aCons (mC (.int 9)) (aNil)))))))
    (sRet (mC (.bl false)))
    (sNil))
    (sRet (mBin opEq (mLc (iVal (mV 0)) (.nm 1) (tBl (mBin opNin (mV 1) (mC (.str "abcdefghijklmnopqrstuvwxyz")))) (mV 1) [1]) (mLst (aNil))))
def g__law_is_name : List W → Mem → R W := fnG 2 b__law_is_name
def b__law_is_line : Sl → Mem → F :=
    sSeq (sIf (tO (tN (tV (mCb cIsi (aCons (mV 0) (aCons (mC (.st (.ty "tuple"))) (aNil)))))) (tO (tBl (mBin opNe (mCb cLen (aCons (mV 0) (aNil))) (mC (.int 2)))) (tN (tV (mCb cIsi (aCons (mBin opIx (mV 0) (mC (.int 1))) (aCons (mC (.st (.ty "str"))) (aNil))))))))
    (sRet (mC (.bl false)))
    (sNil))
    (sRet (mAnd (mBin opIn (mBin opIx (mV 0) (mC (.int 0))) (mTup (aCons (mC (.str "in")) (aCons (mC (.str "out")) (aCons (mC (.str "say")) (aNil)))))) (mCall g__law_is_name (aCons (mBin opIx (mV 0) (mC (.int 1))) (aNil)))))
def g__law_is_line : List W → Mem → R W := fnG 1 b__law_is_line
def b__law_are_lines : Sl → Mem → F :=
    sRet (mAnd (mCb cIsi (aCons (mV 0) (aCons (mC (.st (.ty "tuple"))) (aNil)))) (mBin opEq (mLc (iVal (mV 0)) (.nm 1) (tN (tV (mCall g__law_is_line (aCons (mV 1) (aNil))))) (mV 1) [1]) (mLst (aNil))))
def g__law_are_lines : List W → Mem → R W := fnG 2 b__law_are_lines
def b_is_name : Sl → Mem → F :=
    sSeq (sIf (tO (tN (tV (mCb cIsi (aCons (mV 0) (aCons (mC (.st (.ty "str"))) (aNil)))))) (tN (tBl (mChain opLt opLe (mC (.int 0)) (mCb cLen (aCons (mV 0) (aNil))) (mC (.int 8))))))
    (sRet (mC (.bl false)))
    (sNil))
    (sRet (mCb cAll (aCons (mLc (iVal (mV 0)) (.nm 1) (tYesM) (mBin opIn (mV 1) (mC (.str "abcdefghijklmnopqrstuvwxyz"))) [1]) (aNil))))
def g_is_name : List W → Mem → R W := fnG 2 b_is_name
def b_is_line : Sl → Mem → F :=
    sSeq (sIf (tO (tN (tV (mCb cIsi (aCons (mV 0) (aCons (mC (.st (.ty "tuple"))) (aNil)))))) (tO (tBl (mBin opNe (mCb cLen (aCons (mV 0) (aNil))) (mC (.int 2)))) (tN (tV (mCb cIsi (aCons (mBin opIx (mV 0) (mC (.int 0))) (aCons (mC (.st (.ty "str"))) (aNil))))))))
    (sRet (mC (.bl false)))
    (sNil))
    (sRet (mAnd (mBin opIn (mBin opIx (mV 0) (mC (.int 0))) (mTup (aCons (mC (.str "in")) (aCons (mC (.str "out")) (aCons (mC (.str "say")) (aNil)))))) (mCall g_is_name (aCons (mBin opIx (mV 0) (mC (.int 1))) (aNil)))))
def g_is_line : List W → Mem → R W := fnG 1 b_is_line
def b_are_lines : Sl → Mem → F :=
    sRet (mAnd (mCb cIsi (aCons (mV 0) (aCons (mC (.st (.ty "tuple"))) (aNil)))) (mCb cAll (aCons (mLc (iVal (mV 0)) (.nm 1) (tYesM) (mCall g_is_line (aCons (mV 1) (aNil))) [1]) (aNil))))
def g_are_lines : List W → Mem → R W := fnG 2 b_are_lines
def b_open_in : Sl → Mem → F :=
    sSeq (sSet 1 (mLst (aNil)))
    (sSeq (sFor (iVal (mV 0)) (.tp [.nm 2, .nm 3])
    (sIf (tBl (mBin opEq (mV 2) (mC (.str "in"))))
    (sExpr (mMt "list" lAppend (mV 1) (aCons (mV 3) (aNil))))
    (sIf (tAn (tBl (mBin opEq (mV 2) (mC (.str "out")))) (tO (tBl (mBin opEq (mV 1) (mLst (aNil)))) (tBl (mBin opNe (mMt "list" lPop (mV 1) aNil) (mV 3)))))
    (sRet (mC .non))
    (sNil))))
    (sRet (mV 1)))
def g_open_in : List W → Mem → R W := fnG 4 b_open_in
def b_is_piece : Sl → Mem → F :=
    sRet (mAnd (mCall g_are_lines (aCons (mV 0) (aNil))) (mBin opEq (mCall g_open_in (aCons (mV 0) (aNil))) (mLst (aNil))))
def g_is_piece : List W → Mem → R W := fnG 1 b_is_piece
def b_is_log : Sl → Mem → F :=
    sSeq (sIf (tO (tN (tV (mCall g_are_lines (aCons (mV 0) (aNil))))) (tO (tBl (mBin opEq (mV 0) (mTup (aNil)))) (tO (tBl (mBin opNe (mBin opIx (mBin opIx (mV 0) (mC (.int 0))) (mC (.int 0))) (mC (.str "in")))) (tBl (mBin opIsN (mCall g_open_in (aCons (mV 0) (aNil))) (mC .non))))))
    (sRet (mC (.bl false)))
    (sNil))
    (sSeq (sSet 1 (mC (.int 0)))
    (sSeq (sFor (iArgs enumS (aCons (mV 0) (aNil))) (.tp [.nm 2, .tp [.nm 3, .nm 4]])
    (sSeq (sIf (tAn (tBl (mBin opGt (mV 2) (mC (.int 0)))) (tBl (mBin opEq (mV 1) (mC (.int 0)))))
    (sRet (mC (.bl false)))
    (sNil))
    (sAug 1 ipAdd (mGet2 (mDict [(mC (.str "in"), mC (.int 1)), (mC (.str "out"), mUn opNeg (mC (.int 1)))]) (mV 3) (mC (.int 0))))))
    (sRet (mC (.bl true)))))
def g_is_log : List W → Mem → R W := fnG 5 b_is_log
def b__law_opened : Sl → Mem → F :=
    sSeq (sSet 1 (mLst (aNil)))
    (sSeq (sFor (iVal (mV 0)) (.tp [.nm 2, .nm 3])
    (sSeq (sIf (tBl (mBin opEq (mV 2) (mC (.str "in"))))
    (sExpr (mMt "list" lAppend (mV 1) (aCons (mV 3) (aNil))))
    (sNil))
    (sIf (tAn (tBl (mBin opEq (mV 2) (mC (.str "out")))) (tO (tBl (mBin opEq (mV 1) (mLst (aNil)))) (tBl (mBin opNe (mMt "list" lPop (mV 1) aNil) (mV 3)))))
    (sRet (mC .non))
    (sNil))))
    (sRet (mV 1)))
def g__law_opened : List W → Mem → R W := fnG 4 b__law_opened
def b__law_is_log : Sl → Mem → F :=
    sSeq (sIf (tO (tN (tV (mCall g__law_are_lines (aCons (mV 0) (aNil))))) (tO (tBl (mBin opEq (mV 0) (mTup (aNil)))) (tBl (mBin opNe (mBin opIx (mBin opIx (mV 0) (mC (.int 0))) (mC (.int 0))) (mC (.str "in"))))))
    (sRet (mC (.bl false)))
    (sNil))
    (sSeq (sSet 1 (mLc (iArgs rng2 (aCons (mC (.int 1)) (aCons (mCb cLen (aCons (mV 0) (aNil))) (aNil)))) (.nm 2) (tBl (mBin opIn (mCall g__law_opened (aCons (mSl opCut (mV 0) (mOpt none) (mOpt (some (mV 2)))) (aNil))) (mTup (aCons (mLst (aNil)) (aCons (mC .non) (aNil)))))) (mV 2) [2]))
    (sRet (mAnd (mBin opEq (mV 1) (mLst (aNil))) (mBin opIsNot (mCall g__law_opened (aCons (mV 0) (aNil))) (mC .non)))))
def g__law_is_log : List W → Mem → R W := fnG 3 b__law_is_log
def b_require_log : Sl → Mem → F :=
    sIf (tN (tV (mCall g_is_log (aCons (mV 0) (aNil)))))
    (sStuck)
    (sNil)
def g_require_log : List W → Mem → R W := fnG 1 b_require_log
def b_open_calls : Sl → Mem → F :=
    sSeq (sExpr (mCall g_require_log (aCons (mV 0) (aNil))))
    (sRet (mCb cTuple (aCons (mCall g_open_in (aCons (mV 0) (aNil))) (aNil))))
def g_open_calls : List W → Mem → R W := fnG 1 b_open_calls
def b__law_right : Sl → Mem → F :=
    sSeq (sAsg (.tp [.nm 2, .nm 3]) (mCall g__law_lines (aCons (mV 0) (aCons (mCall g__law_toss (aCons (mV 0) (aCons (mC (.int 12)) (aNil)))) (aNil)))))
    (sSeq (sFor (iVal (mBin opAdd (mLst (aCons (mV 2) (aCons (mBin opAdd (mTup (aCons (mTup (aCons (mC (.str "in")) (aCons (mC (.str "p")) (aNil)))) (aNil))) (mV 2)) (aNil)))) (mLc (iArgs rng1 (aCons (mC (.int 8)) (aNil))) (.nm 7) (tYesM) (mCall g__law_odd (aCons (mV 0) (aCons (mV 2) (aNil)))) [7]))) (.nm 1)
    (sSeq (sSet 4 (mCall g__law_are_lines (aCons (mV 1) (aNil))))
    (sSeq (sSet 5 (mLst (aCons (mCall g_is_log (aCons (mV 1) (aNil))) (aCons (mCall g_is_piece (aCons (mV 1) (aNil))) (aCons (mCall g_is_line (aCons (mV 1) (aNil))) (aCons (mCall g_is_name (aCons (mV 1) (aNil))) (aNil)))))))
    (sSeq (sSet 6 (mLst (aCons (mCall g__law_is_log (aCons (mV 1) (aNil))) (aCons (mAnd (mV 4) (mBin opEq (mCall g__law_opened (aCons (mV 1) (aNil))) (mLst (aNil)))) (aCons (mCall g__law_is_line (aCons (mV 1) (aNil))) (aCons (mCall g__law_is_name (aCons (mV 1) (aNil))) (aNil)))))))
    (sIf (tO (tBl (mBin opNe (mCb cRepr (aCons (mV 5) (aNil))) (mCb cRepr (aCons (mV 6) (aNil))))) (tAn (tV (mBin opIx (mV 6) (mC (.int 0)))) (tBl (mBin opNe (mCall g_open_calls (aCons (mV 1) (aNil))) (mCb cTuple (aCons (mCall g__law_opened (aCons (mV 1) (aNil))) (aNil)))))))
    (sRet (mC (.bl false)))
    (sNil))))))
    (sRet (mC (.bl true))))
def g__law_right : List W → Mem → R W := fnG 8 b__law_right
def b_law : Sl → Mem → F :=
    sSeq (sFor (iArgs rng1 (aCons (mCb cMax (aCons (mC (.int 1)) (aCons (mCb cMin (aCons (mC (.int 8)) (aCons (mCb cLen (aCons (mV 0) (aNil))) (aNil)))) (aNil)))) (aNil))) (.nm 1)
    (sIf (tN (tV (mCall g__law_right (aCons (mCall g__law_jar (aCons (mV 0) (aCons (mV 1) (aNil)))) (aNil)))))
    (sRet (mC (.bl false)))
    (sNil)))
    (sSeq (sSet 2 (mTup (aCons (mTup (aCons (mC (.str "in")) (aCons (mC (.str "main")) (aNil)))) (aCons (mTup (aCons (mC (.str "out")) (aCons (mC (.str "main")) (aNil)))) (aNil)))))
    (sSeq (sSet 3 (mLst (aCons (mCall g_is_log (aCons (mV 2) (aNil))) (aCons (mCall g_is_log (aCons (mBin opAdd (mV 2) (mV 2)) (aNil))) (aCons (mCall g_is_piece (aCons (mBin opAdd (mV 2) (mV 2)) (aNil))) (aCons (mCall g_is_piece (aCons (mTup (aNil)) (aNil))) (aCons (mCall g_is_log (aCons (mTup (aNil)) (aNil))) (aNil))))))))
    (sRet (mAnd (mBin opEq (mBin opAdd (mV 3) (mLst (aCons (mCall g_is_log (aCons (mBin opAdd (mV 2) (mTup (aCons (mTup (aCons (mC (.str "say")) (aCons (mC (.str "a")) (aNil)))) (aNil)))) (aNil))) (aNil)))) (mLst (aCons (mC (.bl true)) (aCons (mC (.bl false)) (aCons (mC (.bl true)) (aCons (mC (.bl true)) (aCons (mC (.bl false)) (aCons (mC (.bl false)) (aNil))))))))) (mBin opEq (mCall g_open_calls (aCons (mV 2) (aNil))) (mTup (aNil)))))))
def g_law : List W → Mem → R W := fnG 4 b_law
end Ex

set_option Elab.async false
set_option linter.all false
set_option maxRecDepth 100000
set_option maxHeartbeats 4000000
set_option autoImplicit false
namespace Ex
open PySem PySem.Spec PyProof.Rows L2 Mi
def top (i : Nat) : Stmt := PySem.Challenge.pw_waystolog_k01_names_lines_logs_and_piece.main.body.getD i (.Pass ⟨0, 0, 0, 0⟩)
abbrev s__law_jar : Stmt := top 15
abbrev s__law_toss : Stmt := top 16
abbrev s__law_pick : Stmt := top 17
abbrev s__law_lines : Stmt := top 18
abbrev s__law_odd : Stmt := top 24
abbrev s__law_is_name : Stmt := top 21
abbrev s__law_is_line : Stmt := top 20
abbrev s__law_are_lines : Stmt := top 22
abbrev s_is_name : Stmt := top 6
abbrev s_is_line : Stmt := top 7
abbrev s_are_lines : Stmt := top 8
abbrev s_open_in : Stmt := top 9
abbrev s_is_piece : Stmt := top 10
abbrev s_is_log : Stmt := top 11
abbrev s__law_opened : Stmt := top 19
abbrev s__law_is_log : Stmt := top 23
abbrev s_require_log : Stmt := top 12
abbrev s_open_calls : Stmt := top 13
abbrev s__law_right : Stmt := top 25
abbrev s_law : Stmt := top 26
abbrev FnP (K : PySem.W.Frag) (x : Str) (st : Stmt) (f : Addr) (fd : FuncData) : Prop := FunD K x x (defArgs st) (defBody st) (defScope st) [] [] f fd
/-! ### facts -/
structure Fx (K : PySem.W.Frag) (mg : Str → Option Value) where
  fd__law_jar : FuncData
  F__law_jar : FnP K "_law_jar" s__law_jar (He.ga K "_law_jar") fd__law_jar
  m__law_jar : mg "_law_jar" = some (.ref (He.ga K "_law_jar"))
  fd__law_toss : FuncData
  F__law_toss : FnP K "_law_toss" s__law_toss (He.ga K "_law_toss") fd__law_toss
  m__law_toss : mg "_law_toss" = some (.ref (He.ga K "_law_toss"))
  fd__law_pick : FuncData
  F__law_pick : FnP K "_law_pick" s__law_pick (He.ga K "_law_pick") fd__law_pick
  m__law_pick : mg "_law_pick" = some (.ref (He.ga K "_law_pick"))
  fd__law_lines : FuncData
  F__law_lines : FnP K "_law_lines" s__law_lines (He.ga K "_law_lines") fd__law_lines
  m__law_lines : mg "_law_lines" = some (.ref (He.ga K "_law_lines"))
  fd__law_odd : FuncData
  F__law_odd : FnP K "_law_odd" s__law_odd (He.ga K "_law_odd") fd__law_odd
  m__law_odd : mg "_law_odd" = some (.ref (He.ga K "_law_odd"))
  fd__law_is_name : FuncData
  F__law_is_name : FnP K "_law_is_name" s__law_is_name (He.ga K "_law_is_name") fd__law_is_name
  m__law_is_name : mg "_law_is_name" = some (.ref (He.ga K "_law_is_name"))
  fd__law_is_line : FuncData
  F__law_is_line : FnP K "_law_is_line" s__law_is_line (He.ga K "_law_is_line") fd__law_is_line
  m__law_is_line : mg "_law_is_line" = some (.ref (He.ga K "_law_is_line"))
  fd__law_are_lines : FuncData
  F__law_are_lines : FnP K "_law_are_lines" s__law_are_lines (He.ga K "_law_are_lines") fd__law_are_lines
  m__law_are_lines : mg "_law_are_lines" = some (.ref (He.ga K "_law_are_lines"))
  fd_is_name : FuncData
  F_is_name : FnP K "is_name" s_is_name (He.ga K "is_name") fd_is_name
  m_is_name : mg "is_name" = some (.ref (He.ga K "is_name"))
  fd_is_line : FuncData
  F_is_line : FnP K "is_line" s_is_line (He.ga K "is_line") fd_is_line
  m_is_line : mg "is_line" = some (.ref (He.ga K "is_line"))
  fd_are_lines : FuncData
  F_are_lines : FnP K "are_lines" s_are_lines (He.ga K "are_lines") fd_are_lines
  m_are_lines : mg "are_lines" = some (.ref (He.ga K "are_lines"))
  fd_open_in : FuncData
  F_open_in : FnP K "open_in" s_open_in (He.ga K "open_in") fd_open_in
  m_open_in : mg "open_in" = some (.ref (He.ga K "open_in"))
  fd_is_piece : FuncData
  F_is_piece : FnP K "is_piece" s_is_piece (He.ga K "is_piece") fd_is_piece
  m_is_piece : mg "is_piece" = some (.ref (He.ga K "is_piece"))
  fd_is_log : FuncData
  F_is_log : FnP K "is_log" s_is_log (He.ga K "is_log") fd_is_log
  m_is_log : mg "is_log" = some (.ref (He.ga K "is_log"))
  fd__law_opened : FuncData
  F__law_opened : FnP K "_law_opened" s__law_opened (He.ga K "_law_opened") fd__law_opened
  m__law_opened : mg "_law_opened" = some (.ref (He.ga K "_law_opened"))
  fd__law_is_log : FuncData
  F__law_is_log : FnP K "_law_is_log" s__law_is_log (He.ga K "_law_is_log") fd__law_is_log
  m__law_is_log : mg "_law_is_log" = some (.ref (He.ga K "_law_is_log"))
  fd_require_log : FuncData
  F_require_log : FnP K "require_log" s_require_log (He.ga K "require_log") fd_require_log
  m_require_log : mg "require_log" = some (.ref (He.ga K "require_log"))
  fd_open_calls : FuncData
  F_open_calls : FnP K "open_calls" s_open_calls (He.ga K "open_calls") fd_open_calls
  m_open_calls : mg "open_calls" = some (.ref (He.ga K "open_calls"))
  fd__law_right : FuncData
  F__law_right : FnP K "_law_right" s__law_right (He.ga K "_law_right") fd__law_right
  m__law_right : mg "_law_right" = some (.ref (He.ga K "_law_right"))
  fd_law : FuncData
  F_law : FnP K "law" s_law (He.ga K "law") fd_law
  m_law : mg "law" = some (.ref (He.ga K "law"))
  b_str : mg "str" = none
  b_isinstance : mg "isinstance" = none
  b_len : mg "len" = none
  b_all : mg "all" = none
  b_tuple : mg "tuple" = none
  b_enumerate : mg "enumerate" = none
  b_abs : mg "abs" = none
  b_int : mg "int" = none
  b_max : mg "max" = none
  b_range : mg "range" = none
  b_list : mg "list" = none
  b_repr : mg "repr" = none
  b_min : mg "min" = none
  c_MAX_LETTERS : ∃ t, mg "MAX_LETTERS" = some (.int 8 t)
  c_LETTERS : ∃ t, mg "LETTERS" = some (.str "abcdefghijklmnopqrstuvwxyz" t)
section
variable {P : Program} {w : World} {K : PySem.W.Frag} {mg : Str → Option Value} {base : Heap}
theorem Fx.bi__law_jar (x : Fx K mg) : Binds K x.fd__law_jar ["script", "at"] [] := x.F__law_jar.bindsN fun _ _ _ _ _ _ us hl => match us, hl with | [_, _], _ => rfl
theorem Fx.bi__law_toss (x : Fx K mg) : Binds K x.fd__law_toss ["jar", "total"] [] := x.F__law_toss.bindsN fun _ _ _ _ _ _ us hl => match us, hl with | [_, _], _ => rfl
theorem Fx.bi__law_pick (x : Fx K mg) : Binds K x.fd__law_pick ["jar", "items"] [] := x.F__law_pick.bindsN fun _ _ _ _ _ _ us hl => match us, hl with | [_, _], _ => rfl
theorem Fx.bi__law_lines (x : Fx K mg) : Binds K x.fd__law_lines ["jar", "size"] [] := x.F__law_lines.bindsN fun _ _ _ _ _ _ us hl => match us, hl with | [_, _], _ => rfl
theorem Fx.bi__law_odd (x : Fx K mg) : Binds K x.fd__law_odd ["jar", "value"] [] := x.F__law_odd.bindsN fun _ _ _ _ _ _ us hl => match us, hl with | [_, _], _ => rfl
theorem Fx.bi__law_is_name (x : Fx K mg) : Binds K x.fd__law_is_name ["value"] [] := x.F__law_is_name.bindsN fun _ _ _ _ _ _ us hl => match us, hl with | [_], _ => rfl
theorem Fx.bi__law_is_line (x : Fx K mg) : Binds K x.fd__law_is_line ["value"] [] := x.F__law_is_line.bindsN fun _ _ _ _ _ _ us hl => match us, hl with | [_], _ => rfl
theorem Fx.bi__law_are_lines (x : Fx K mg) : Binds K x.fd__law_are_lines ["value"] [] := x.F__law_are_lines.bindsN fun _ _ _ _ _ _ us hl => match us, hl with | [_], _ => rfl
theorem Fx.bi_is_name (x : Fx K mg) : Binds K x.fd_is_name ["value"] [] := x.F_is_name.bindsN fun _ _ _ _ _ _ us hl => match us, hl with | [_], _ => rfl
theorem Fx.bi_is_line (x : Fx K mg) : Binds K x.fd_is_line ["value"] [] := x.F_is_line.bindsN fun _ _ _ _ _ _ us hl => match us, hl with | [_], _ => rfl
theorem Fx.bi_are_lines (x : Fx K mg) : Binds K x.fd_are_lines ["value"] [] := x.F_are_lines.bindsN fun _ _ _ _ _ _ us hl => match us, hl with | [_], _ => rfl
theorem Fx.bi_open_in (x : Fx K mg) : Binds K x.fd_open_in ["lines"] [] := x.F_open_in.bindsN fun _ _ _ _ _ _ us hl => match us, hl with | [_], _ => rfl
theorem Fx.bi_is_piece (x : Fx K mg) : Binds K x.fd_is_piece ["value"] [] := x.F_is_piece.bindsN fun _ _ _ _ _ _ us hl => match us, hl with | [_], _ => rfl
theorem Fx.bi_is_log (x : Fx K mg) : Binds K x.fd_is_log ["value"] [] := x.F_is_log.bindsN fun _ _ _ _ _ _ us hl => match us, hl with | [_], _ => rfl
theorem Fx.bi__law_opened (x : Fx K mg) : Binds K x.fd__law_opened ["value"] [] := x.F__law_opened.bindsN fun _ _ _ _ _ _ us hl => match us, hl with | [_], _ => rfl
theorem Fx.bi__law_is_log (x : Fx K mg) : Binds K x.fd__law_is_log ["value"] [] := x.F__law_is_log.bindsN fun _ _ _ _ _ _ us hl => match us, hl with | [_], _ => rfl
theorem Fx.bi_require_log (x : Fx K mg) : Binds K x.fd_require_log ["value"] [] := x.F_require_log.bindsN fun _ _ _ _ _ _ us hl => match us, hl with | [_], _ => rfl
theorem Fx.bi_open_calls (x : Fx K mg) : Binds K x.fd_open_calls ["log"] [] := x.F_open_calls.bindsN fun _ _ _ _ _ _ us hl => match us, hl with | [_], _ => rfl
theorem Fx.bi__law_right (x : Fx K mg) : Binds K x.fd__law_right ["jar"] [] := x.F__law_right.bindsN fun _ _ _ _ _ _ us hl => match us, hl with | [_], _ => rfl
theorem Fx.bi_law (x : Fx K mg) : Binds K x.fd_law ["script"] [] := x.F_law.bindsN fun _ _ _ _ _ _ us hl => match us, hl with | [_], _ => rfl
theorem sc__law_jar : FnScope ["script", "at", "cell", "great", "mixed"] ["script", "at"] (defScope s__law_jar) := ⟨rfl, rfl, rfl, by decide +kernel, rfl, by decide +kernel, by decide +kernel⟩
theorem ok__law_jar (x : Fx K mg) : FnM P w K mg base 1 (He.ga K "_law_jar") x.fd__law_jar ["script", "at"] g__law_jar := fnM x.F__law_jar sc__law_jar rfl fun cdv A outer s H E hr =>
    mss_cons (ms_set (i := 2) sc__law_jar.nd rfl (by first | exact .inl rfl | exact .inr rfl) (me_if (mt_cmp op_lt' (me_v (pv 1)) (me_cb c_len rfl x.b_len boot_len (ma_cons (me_v (pv 0)) (ma_nil)))) (me_ix ix' (me_v (pv 0)) (me_v (pv 1))) (me_op op_add' (me_op op_mul' (me_int) (me_v (pv 1))) (me_int))))
    (mss_cons (ms_set (i := 3) sc__law_jar.nd rfl (by first | exact .inl rfl | exact .inr rfl) (me_op op_mod' (me_ct c_int rfl x.b_int boot_int (ma_cons (me_cb c_abs rfl x.b_abs boot_abs (ma_cons (me_v (pv 2)) (ma_nil))) (ma_nil))) (me_op op_pow' (me_op op_pow' (me_int) (me_int)) (me_int))))
    (mss_cons (ms_set (i := 4) sc__law_jar.nd rfl (by first | exact .inl rfl | exact .inr rfl) (me_op op_add' (me_op op_add' (me_op op_add' (me_op op_mul' (me_op op_mod' (me_ct c_int rfl x.b_int boot_int (ma_cons (me_v (pv 3)) (ma_nil))) (me_int)) (me_int)) (me_op op_mul' (me_int) (me_v (pv 1)))) (me_op op_mul' (me_int) (me_ct c_int rfl x.b_int boot_int (ma_cons (me_cmp op_lt' (me_v (pv 2)) (me_int)) (ma_nil))))) (me_int)))
    (mss_one (ms_ret (me_lst (ma_cons (me_cb (c_max rfl) rfl x.b_max boot_max (ma_cons (me_int) (ma_cons (me_op op_sub' (me_v (pv 3)) (me_op op_pow' (me_int) (me_int))) (ma_nil)))) (ma_cons (me_op op_mod' (me_ct c_int rfl x.b_int boot_int (ma_cons (me_v (pv 4)) (ma_nil))) (me_int)) (ma_cons (me_int) (ma_nil)))))))))
theorem sc__law_toss : FnScope ["jar", "total", "one", "two", "found"] ["jar", "total"] (defScope s__law_toss) := ⟨rfl, rfl, rfl, by decide +kernel, rfl, by decide +kernel, by decide +kernel⟩
theorem ok__law_toss (x : Fx K mg) : FnM P w K mg base 1 (He.ga K "_law_toss") x.fd__law_toss ["jar", "total"] g__law_toss := fnM x.F__law_toss sc__law_toss rfl fun cdv A outer s H E hr =>
    mss_cons (ms_if (mt_cmp op_gt' (me_ix ix' (me_v (pv 0)) (me_int)) (me_int))
    (mss_cons (ms_set (i := 4) sc__law_toss.nd rfl (by first | exact .inl rfl | exact .inr rfl) (me_op op_mod' (me_ct c_int rfl x.b_int boot_int (ma_cons (me_ix ix' (me_v (pv 0)) (me_int)) (ma_nil))) (me_v (pv 1))))
    (mss_cons (ms_sub setL' (me_op op_fdiv' (me_ix ix' (me_v (pv 0)) (me_int)) (me_v (pv 1))) (me_v (pv 0)) (me_int))
    (mss_one (ms_ret (me_v (pv 4))))))
    (mss_nil))
    (mss_cons (ms_sub setL' (me_op op_add' (me_ix ix' (me_v (pv 0)) (me_int)) (me_int)) (me_v (pv 0)) (me_int))
    (mss_cons (ms_set (i := 2) sc__law_toss.nd rfl (by first | exact .inl rfl | exact .inr rfl) (me_op op_mod' (me_ct c_int rfl x.b_int boot_int (ma_cons (me_op op_add' (me_ix ix' (me_v (pv 0)) (me_int)) (me_op op_mul' (me_int) (me_ix ix' (me_v (pv 0)) (me_int)))) (ma_nil))) (me_int)))
    (mss_cons (ms_set (i := 3) sc__law_toss.nd rfl (by first | exact .inl rfl | exact .inr rfl) (me_op op_add' (me_op op_mul' (me_op op_mod' (me_ct c_int rfl x.b_int boot_int (ma_cons (me_op op_mul' (me_v (pv 2)) (me_v (pv 2))) (ma_nil))) (me_int)) (me_v (pv 2))) (me_op op_mul' (me_int) (me_ix ix' (me_v (pv 0)) (me_int)))))
    (mss_one (ms_ret (me_op op_mod' (me_ct c_int rfl x.b_int boot_int (ma_cons (me_op op_fdiv' (me_op op_mod' (me_ct c_int rfl x.b_int boot_int (ma_cons (me_v (pv 3)) (ma_nil))) (me_int)) (me_int)) (ma_nil))) (me_v (pv 1))))))))
theorem sc__law_pick : FnScope ["jar", "items"] ["jar", "items"] (defScope s__law_pick) := ⟨rfl, rfl, rfl, by decide +kernel, rfl, by decide +kernel, by decide +kernel⟩
theorem ok__law_pick (x : Fx K mg) : FnM P w K mg base 2 (He.ga K "_law_pick") x.fd__law_pick ["jar", "items"] g__law_pick := fnM x.F__law_pick sc__law_pick rfl fun cdv A outer s H E hr =>
    mss_one (ms_ret (me_ix ix' (me_v (pv 1)) (me_call (takes_of rfl rfl rfl rfl) ((ok__law_toss x).lift (by decide)) hr rfl x.m__law_toss x.F__law_toss.kp x.bi__law_toss (ma_cons (me_v (pv 0)) (ma_cons (me_cb c_len rfl x.b_len boot_len (ma_cons (me_v (pv 1)) (ma_nil))) (ma_nil))))))
theorem sc__law_lines : FnScope ["jar", "size", "turn", "found", "heap", "way", "name"] ["jar", "size"] (defScope s__law_lines) := ⟨rfl, rfl, rfl, by decide +kernel, rfl, by decide +kernel, by decide +kernel⟩
theorem ok__law_lines (x : Fx K mg) : FnM P w K mg base 3 (He.ga K "_law_lines") x.fd__law_lines ["jar", "size"] g__law_lines := fnM x.F__law_lines sc__law_lines rfl fun cdv A outer s H E hr =>
    mss_cons (ms_par (i := 3) (j := 4) rfl sc__law_lines.nd rfl rfl (by decide) rfl rfl (ma_cons (me_lst (ma_nil)) (ma_cons (me_lst (ma_nil)) (ma_nil))))
    (mss_cons (ms_for (passes_of rfl) rfl (mi_range1 rfl x.b_range (ma_cons (me_v (pv 1)) (ma_nil))) (mg_nm sc__law_lines.nd rfl (by first | exact .inl rfl | exact .inr rfl))
    (mss_cons (ms_par (i := 5) (j := 6) rfl sc__law_lines.nd rfl rfl (by decide) rfl rfl (ma_cons (me_call (takes_of rfl rfl rfl rfl) ((ok__law_toss x).lift (by decide)) hr rfl x.m__law_toss x.F__law_toss.kp x.bi__law_toss (ma_cons (me_v (pv 0)) (ma_cons (me_int) (ma_nil)))) (ma_cons (me_call (takes_of rfl rfl rfl rfl) ((ok__law_pick x).lift (by decide)) hr rfl x.m__law_pick x.F__law_pick.kp x.bi__law_pick (ma_cons (me_v (pv 0)) (ma_cons (me_lst (ma_cons (me_str) (ma_cons (me_str) (ma_cons (me_str) (ma_nil))))) (ma_nil)))) (ma_nil))))
    (mss_one (ms_if (mt_cmp op_lt' (me_v (pv 5)) (me_int))
    (mss_cons (ms_expr (me_bm PySem.F.plainAttrs_list PySem.F.slot_list_append PySem.F.type_list_append l_append (me_v (pv 3)) (ma_cons (me_tup (ma_cons (me_str) (ma_cons (me_v (pv 6)) (ma_nil)))) (ma_nil))))
    (mss_one (ms_expr (me_bm PySem.F.plainAttrs_list PySem.F.slot_list_append PySem.F.type_list_append l_append (me_v (pv 4)) (ma_cons (me_v (pv 6)) (ma_nil))))))
    (mss_one (ms_if (mt_w (mw_and (mt_cmp op_lt' (me_v (pv 5)) (me_int)) (mw_and1 (mt_cmp (op_ne' hr) (me_v (pv 4)) (me_lst (ma_nil))))))
    (mss_one (ms_expr (me_bm PySem.F.plainAttrs_list PySem.F.slot_list_append PySem.F.type_list_append l_append (me_v (pv 3)) (ma_cons (me_tup (ma_cons (me_str) (ma_cons (me_bm0 PySem.F.plainAttrs_list PySem.F.slot_list_pop PySem.F.type_list_pop l_pop (me_v (pv 4))) (ma_nil)))) (ma_nil)))))
    (mss_one (ms_expr (me_bm PySem.F.plainAttrs_list PySem.F.slot_list_append PySem.F.type_list_append l_append (me_v (pv 3)) (ma_cons (me_tup (ma_cons (me_if (mt_w (mw_and (mt_cmp (op_eq' hr) (me_v (pv 5)) (me_int)) (mw_and1 (mt_cmp (op_eq' hr) (me_call (takes_of rfl rfl rfl rfl) ((ok__law_toss x).lift (by decide)) hr rfl x.m__law_toss x.F__law_toss.kp x.bi__law_toss (ma_cons (me_v (pv 0)) (ma_cons (me_int) (ma_nil)))) (me_int))))) (me_str) (me_str)) (ma_cons (me_v (pv 6)) (ma_nil)))) (ma_nil)))))))))))
    (mss_one (ms_ret (me_tup (ma_cons (me_ct c_tuple rfl x.b_tuple boot_tuple (ma_cons (me_v (pv 3)) (ma_nil))) (ma_cons (me_v (pv 4)) (ma_nil)))))))
theorem sc__law_odd : FnScope ["jar", "value", "at", "bad", "some"] ["jar", "value"] (defScope s__law_odd) := ⟨rfl, rfl, rfl, by decide +kernel, rfl, by decide +kernel, by decide +kernel⟩
theorem ok__law_odd (x : Fx K mg) : FnM P w K mg base 3 (He.ga K "_law_odd") x.fd__law_odd ["jar", "value"] g__law_odd := fnM x.F__law_odd sc__law_odd rfl fun cdv A outer s H E hr =>
    mss_cons (ms_set (i := 2) sc__law_odd.nd rfl (by first | exact .inl rfl | exact .inr rfl) (me_call (takes_of rfl rfl rfl rfl) ((ok__law_toss x).lift (by decide)) hr rfl x.m__law_toss x.F__law_toss.kp x.bi__law_toss (ma_cons (me_v (pv 0)) (ma_cons (me_op op_add' (me_cb c_len rfl x.b_len boot_len (ma_cons (me_v (pv 1)) (ma_nil))) (me_int)) (ma_nil)))))
    (mss_cons (ms_set (i := 3) sc__law_odd.nd rfl (by first | exact .inl rfl | exact .inr rfl) (me_lst (ma_cons (me_non) (ma_cons (me_tup (ma_nil)) (ma_cons (me_tup (ma_cons (me_str) (ma_nil))) (ma_cons (me_tup (ma_cons (me_str) (ma_cons (me_str) (ma_nil)))) (ma_cons (me_tup (ma_cons (me_str) (ma_cons (me_str) (ma_nil)))) (ma_cons (me_tup (ma_cons (me_str) (ma_cons (me_str) (ma_nil)))) (ma_cons (me_lst (ma_cons (me_str) (ma_cons (me_str) (ma_nil)))) (ma_cons (me_tup (ma_cons (me_str) (ma_cons (me_int) (ma_nil)))) (ma_cons (me_str) (ma_cons (me_int) (ma_nil)))))))))))))
    (mss_cons (ms_set (i := 4) sc__law_odd.nd rfl (by first | exact .inl rfl | exact .inr rfl) (me_lst (ma_cons (me_sl sl' (me_v (pv 1)) (mo_none) (mo_some (me_v (pv 2)))) (ma_cons (me_sl sl' (me_v (pv 1)) (mo_some (me_v (pv 2))) (mo_none)) (ma_cons (me_op op_add' (me_sl sl' (me_v (pv 1)) (mo_none) (mo_some (me_v (pv 2)))) (me_sl sl' (me_v (pv 1)) (mo_some (me_op op_add' (me_v (pv 2)) (me_int))) (mo_none))) (ma_cons (me_op op_add' (me_op op_add' (me_sl sl' (me_v (pv 1)) (mo_none) (mo_some (me_v (pv 2)))) (me_op op_mul' (me_sl sl' (me_v (pv 1)) (mo_some (me_v (pv 2))) (mo_some (me_op op_add' (me_v (pv 2)) (me_int)))) (me_int))) (me_sl sl' (me_v (pv 1)) (mo_some (me_op op_add' (me_v (pv 2)) (me_int))) (mo_none))) (ma_nil)))))))
    (mss_cons (ms_set (i := 4) sc__law_odd.nd rfl (by first | exact .inl rfl | exact .inr rfl) (me_op op_add' (me_v (pv 4)) (me_lst (ma_cons (me_revT (me_v (pv 1))) (ma_cons (me_ct c_list rfl x.b_list boot_list (ma_cons (me_v (pv 1)) (ma_nil))) (ma_cons (me_op op_add' (me_op op_add' (me_sl sl' (me_v (pv 1)) (mo_none) (mo_some (me_v (pv 2)))) (me_tup (ma_cons (me_call (takes_of rfl rfl rfl rfl) ((ok__law_pick x).lift (by decide)) hr rfl x.m__law_pick x.F__law_pick.kp x.bi__law_pick (ma_cons (me_v (pv 0)) (ma_cons (me_v (pv 3)) (ma_nil)))) (ma_nil)))) (me_sl sl' (me_v (pv 1)) (mo_some (me_v (pv 2))) (mo_none))) (ma_cons (me_call (takes_of rfl rfl rfl rfl) ((ok__law_pick x).lift (by decide)) hr rfl x.m__law_pick x.F__law_pick.kp x.bi__law_pick (ma_cons (me_v (pv 0)) (ma_cons (me_v (pv 3)) (ma_nil)))) (ma_nil))))))))
    (mss_one (ms_ret (me_call (takes_of rfl rfl rfl rfl) ((ok__law_pick x).lift (by decide)) hr rfl x.m__law_pick x.F__law_pick.kp x.bi__law_pick (ma_cons (me_v (pv 0)) (ma_cons (me_op op_add' (me_v (pv 4)) (me_lst (ma_cons (me_op op_add' (me_tup (ma_cons (me_tup (ma_cons (me_str) (ma_cons (me_str) (ma_nil)))) (ma_nil))) (me_v (pv 1))) (ma_cons (me_op op_add' (me_v (pv 1)) (me_tup (ma_cons (me_tup (ma_cons (me_str) (ma_cons (me_str) (ma_nil)))) (ma_nil)))) (ma_cons (me_dict0) (ma_cons (me_bl) (ma_cons (me_str) (ma_nil)))))))) (ma_nil)))))))))
theorem sc__law_is_name : FnScope ["value", "letter"] ["value"] (defScope s__law_is_name) := ⟨rfl, rfl, rfl, by decide +kernel, rfl, by decide +kernel, by decide +kernel⟩
theorem ok__law_is_name (x : Fx K mg) : FnM P w K mg base 1 (He.ga K "_law_is_name") x.fd__law_is_name ["value"] g__law_is_name := fnM x.F__law_is_name sc__law_is_name rfl fun cdv A outer s H E hr =>
    mss_cons (ms_if (mt_w (mw_or (mt_not (mt_v (me_cb c_isi rfl x.b_isinstance boot_isinstance (ma_cons (me_v (pv 0)) (ma_cons (me_ty rfl x.b_str boot_str) (ma_nil)))))) (mw_or1 (mt_cmp (op_nin' hr) (me_cb c_len rfl x.b_len boot_len (ma_cons (me_v (pv 0)) (ma_nil))) (me_ct c_range rfl x.b_range boot_range (ma_cons (me_int) (ma_cons (me_int) (ma_nil))))))))
    (mss_one (ms_ret (me_bl)))
    (mss_nil))
    (mss_one (ms_ret (me_cmp (op_eq' hr) (me_lc (own := [("letter", 1)]) rfl sc__law_is_name.nd (mi_val (me_v (pv 0))) (blkOk_by (by kernel_rfl)) (by decide) (fun s H C cl fp => mg_nm sc__law_is_name.nd rfl (by first | exact .inl rfl | exact .inr rfl)) (fun s H C cl fp => mts_one (mt_cmp (op_nin' hr) (me_v (pv 1)) (me_str))) (fun s H C cl fp => me_v (pv 1))) (me_lst (ma_nil)))))
theorem sc__law_is_line : FnScope ["value"] ["value"] (defScope s__law_is_line) := ⟨rfl, rfl, rfl, by decide +kernel, rfl, by decide +kernel, by decide +kernel⟩
theorem ok__law_is_line (x : Fx K mg) : FnM P w K mg base 2 (He.ga K "_law_is_line") x.fd__law_is_line ["value"] g__law_is_line := fnM x.F__law_is_line sc__law_is_line rfl fun cdv A outer s H E hr =>
    mss_cons (ms_if (mt_w (mw_or (mt_not (mt_v (me_cb c_isi rfl x.b_isinstance boot_isinstance (ma_cons (me_v (pv 0)) (ma_cons (me_ty rfl x.b_tuple boot_tuple) (ma_nil)))))) (mw_or (mt_cmp (op_ne' hr) (me_cb c_len rfl x.b_len boot_len (ma_cons (me_v (pv 0)) (ma_nil))) (me_int)) (mw_or1 (mt_not (mt_v (me_cb c_isi rfl x.b_isinstance boot_isinstance (ma_cons (me_ix ix' (me_v (pv 0)) (me_int)) (ma_cons (me_ty rfl x.b_str boot_str) (ma_nil))))))))))
    (mss_one (ms_ret (me_bl)))
    (mss_nil))
    (mss_one (ms_ret (me_and (me_cmp (op_in' hr) (me_ix ix' (me_v (pv 0)) (me_int)) (me_tup (ma_cons (me_str) (ma_cons (me_str) (ma_cons (me_str) (ma_nil)))))) (me_one (me_call (takes_of rfl rfl rfl rfl) ((ok__law_is_name x).lift (by decide)) hr rfl x.m__law_is_name x.F__law_is_name.kp x.bi__law_is_name (ma_cons (me_ix ix' (me_v (pv 0)) (me_int)) (ma_nil)))))))
theorem sc__law_are_lines : FnScope ["value", "line"] ["value"] (defScope s__law_are_lines) := ⟨rfl, rfl, rfl, by decide +kernel, rfl, by decide +kernel, by decide +kernel⟩
theorem ok__law_are_lines (x : Fx K mg) : FnM P w K mg base 3 (He.ga K "_law_are_lines") x.fd__law_are_lines ["value"] g__law_are_lines := fnM x.F__law_are_lines sc__law_are_lines rfl fun cdv A outer s H E hr =>
    mss_one (ms_ret (me_and (me_cb c_isi rfl x.b_isinstance boot_isinstance (ma_cons (me_v (pv 0)) (ma_cons (me_ty rfl x.b_tuple boot_tuple) (ma_nil)))) (me_one (me_cmp (op_eq' hr) (me_lc (own := [("line", 1)]) rfl sc__law_are_lines.nd (mi_val (me_v (pv 0))) (blkOk_by (by kernel_rfl)) (by decide) (fun s H C cl fp => mg_nm sc__law_are_lines.nd rfl (by first | exact .inl rfl | exact .inr rfl)) (fun s H C cl fp => mts_one (mt_not (mt_v (me_call tk_blk ((ok__law_is_line x).lift (by decide)) hr rfl x.m__law_is_line x.F__law_is_line.kp x.bi__law_is_line (ma_cons (me_v (pv 1)) (ma_nil)))))) (fun s H C cl fp => me_v (pv 1))) (me_lst (ma_nil))))))
theorem sc_is_name : FnScope ["value", "letter"] ["value"] (defScope s_is_name) := ⟨rfl, rfl, rfl, by decide +kernel, rfl, by decide +kernel, by decide +kernel⟩
theorem ok_is_name (x : Fx K mg) : FnM P w K mg base 1 (He.ga K "is_name") x.fd_is_name ["value"] g_is_name := fnM x.F_is_name sc_is_name rfl fun cdv A outer s H E hr =>
    mss_cons (ms_if (mt_w (mw_or (mt_not (mt_v (me_cb c_isi rfl x.b_isinstance boot_isinstance (ma_cons (me_v (pv 0)) (ma_cons (me_ty rfl x.b_str boot_str) (ma_nil)))))) (mw_or1 (mt_not (mt_chain op_lt' op_le' (me_int) (me_cb c_len rfl x.b_len boot_len (ma_cons (me_v (pv 0)) (ma_nil))) (me_globI rfl x.c_MAX_LETTERS))))))
    (mss_one (ms_ret (me_bl)))
    (mss_nil))
    (mss_one (ms_ret (me_cb (c_all rfl) rfl x.b_all boot_all (ma_cons (me_lc (own := [("letter", 1)]) rfl sc_is_name.nd (mi_val (me_v (pv 0))) (blkOk_by (by kernel_rfl)) (by decide) (fun s H C cl fp => mg_nm sc_is_name.nd rfl (by first | exact .inl rfl | exact .inr rfl)) (fun s H C cl fp => mts_nil) (fun s H C cl fp => me_cmp (op_in' hr) (me_v (pv 1)) (me_globS rfl x.c_LETTERS))) (ma_nil)))))
theorem sc_is_line : FnScope ["value"] ["value"] (defScope s_is_line) := ⟨rfl, rfl, rfl, by decide +kernel, rfl, by decide +kernel, by decide +kernel⟩
theorem ok_is_line (x : Fx K mg) : FnM P w K mg base 2 (He.ga K "is_line") x.fd_is_line ["value"] g_is_line := fnM x.F_is_line sc_is_line rfl fun cdv A outer s H E hr =>
    mss_cons (ms_if (mt_w (mw_or (mt_not (mt_v (me_cb c_isi rfl x.b_isinstance boot_isinstance (ma_cons (me_v (pv 0)) (ma_cons (me_ty rfl x.b_tuple boot_tuple) (ma_nil)))))) (mw_or (mt_cmp (op_ne' hr) (me_cb c_len rfl x.b_len boot_len (ma_cons (me_v (pv 0)) (ma_nil))) (me_int)) (mw_or1 (mt_not (mt_v (me_cb c_isi rfl x.b_isinstance boot_isinstance (ma_cons (me_ix ix' (me_v (pv 0)) (me_int)) (ma_cons (me_ty rfl x.b_str boot_str) (ma_nil))))))))))
    (mss_one (ms_ret (me_bl)))
    (mss_nil))
    (mss_one (ms_ret (me_and (me_cmp (op_in' hr) (me_ix ix' (me_v (pv 0)) (me_int)) (me_tup (ma_cons (me_str) (ma_cons (me_str) (ma_cons (me_str) (ma_nil)))))) (me_one (me_call (takes_of rfl rfl rfl rfl) ((ok_is_name x).lift (by decide)) hr rfl x.m_is_name x.F_is_name.kp x.bi_is_name (ma_cons (me_ix ix' (me_v (pv 0)) (me_int)) (ma_nil)))))))
theorem sc_are_lines : FnScope ["value", "line"] ["value"] (defScope s_are_lines) := ⟨rfl, rfl, rfl, by decide +kernel, rfl, by decide +kernel, by decide +kernel⟩
theorem ok_are_lines (x : Fx K mg) : FnM P w K mg base 3 (He.ga K "are_lines") x.fd_are_lines ["value"] g_are_lines := fnM x.F_are_lines sc_are_lines rfl fun cdv A outer s H E hr =>
    mss_one (ms_ret (me_and (me_cb c_isi rfl x.b_isinstance boot_isinstance (ma_cons (me_v (pv 0)) (ma_cons (me_ty rfl x.b_tuple boot_tuple) (ma_nil)))) (me_one (me_cb (c_all rfl) rfl x.b_all boot_all (ma_cons (me_lc (own := [("line", 1)]) rfl sc_are_lines.nd (mi_val (me_v (pv 0))) (blkOk_by (by kernel_rfl)) (by decide) (fun s H C cl fp => mg_nm sc_are_lines.nd rfl (by first | exact .inl rfl | exact .inr rfl)) (fun s H C cl fp => mts_nil) (fun s H C cl fp => me_call tk_blk ((ok_is_line x).lift (by decide)) hr rfl x.m_is_line x.F_is_line.kp x.bi_is_line (ma_cons (me_v (pv 1)) (ma_nil)))) (ma_nil))))))
theorem sc_open_in : FnScope ["lines", "found", "word", "name"] ["lines"] (defScope s_open_in) := ⟨rfl, rfl, rfl, by decide +kernel, rfl, by decide +kernel, by decide +kernel⟩
theorem ok_open_in (x : Fx K mg) : FnM P w K mg base 1 (He.ga K "open_in") x.fd_open_in ["lines"] g_open_in := fnM x.F_open_in sc_open_in rfl fun cdv A outer s H E hr =>
    mss_cons (ms_set (i := 1) sc_open_in.nd rfl (by first | exact .inl rfl | exact .inr rfl) (me_lst (ma_nil)))
    (mss_cons (ms_for (passes_of rfl) rfl (mi_val (me_v (pv 0))) (mg_tp rfl (mgs_cons (mg_nm sc_open_in.nd rfl (by first | exact .inl rfl | exact .inr rfl)) (mgs_cons (mg_nm sc_open_in.nd rfl (by first | exact .inl rfl | exact .inr rfl)) (mgs_nil))))
    (mss_one (ms_if (mt_cmp (op_eq' hr) (me_v (pv 2)) (me_str))
    (mss_one (ms_expr (me_bm PySem.F.plainAttrs_list PySem.F.slot_list_append PySem.F.type_list_append l_append (me_v (pv 1)) (ma_cons (me_v (pv 3)) (ma_nil)))))
    (mss_one (ms_if (mt_w (mw_and (mt_cmp (op_eq' hr) (me_v (pv 2)) (me_str)) (mw_and1 (mt_w (mw_or (mt_cmp (op_eq' hr) (me_v (pv 1)) (me_lst (ma_nil))) (mw_or1 (mt_cmp (op_ne' hr) (me_bm0 PySem.F.plainAttrs_list PySem.F.slot_list_pop PySem.F.type_list_pop l_pop (me_v (pv 1))) (me_v (pv 3)))))))))
    (mss_one (ms_ret (me_non)))
    (mss_nil))))))
    (mss_one (ms_ret (me_v (pv 1)))))
theorem sc_is_piece : FnScope ["value"] ["value"] (defScope s_is_piece) := ⟨rfl, rfl, rfl, by decide +kernel, rfl, by decide +kernel, by decide +kernel⟩
theorem ok_is_piece (x : Fx K mg) : FnM P w K mg base 4 (He.ga K "is_piece") x.fd_is_piece ["value"] g_is_piece := fnM x.F_is_piece sc_is_piece rfl fun cdv A outer s H E hr =>
    mss_one (ms_ret (me_and (me_call (takes_of rfl rfl rfl rfl) ((ok_are_lines x).lift (by decide)) hr rfl x.m_are_lines x.F_are_lines.kp x.bi_are_lines (ma_cons (me_v (pv 0)) (ma_nil))) (me_one (me_cmp (op_eq' hr) (me_call (takes_of rfl rfl rfl rfl) ((ok_open_in x).lift (by decide)) hr rfl x.m_open_in x.F_open_in.kp x.bi_open_in (ma_cons (me_v (pv 0)) (ma_nil))) (me_lst (ma_nil))))))
theorem sc_is_log : FnScope ["value", "depth", "at", "word", "name"] ["value"] (defScope s_is_log) := ⟨rfl, rfl, rfl, by decide +kernel, rfl, by decide +kernel, by decide +kernel⟩
theorem ok_is_log (x : Fx K mg) : FnM P w K mg base 4 (He.ga K "is_log") x.fd_is_log ["value"] g_is_log := fnM x.F_is_log sc_is_log rfl fun cdv A outer s H E hr =>
    mss_cons (ms_if (mt_w (mw_or (mt_not (mt_v (me_call (takes_of rfl rfl rfl rfl) ((ok_are_lines x).lift (by decide)) hr rfl x.m_are_lines x.F_are_lines.kp x.bi_are_lines (ma_cons (me_v (pv 0)) (ma_nil))))) (mw_or (mt_cmp (op_eq' hr) (me_v (pv 0)) (me_tup (ma_nil))) (mw_or (mt_cmp (op_ne' hr) (me_ix ix' (me_ix ix' (me_v (pv 0)) (me_int)) (me_int)) (me_str)) (mw_or1 (mt_cmp op_isN' (me_call (takes_of rfl rfl rfl rfl) ((ok_open_in x).lift (by decide)) hr rfl x.m_open_in x.F_open_in.kp x.bi_open_in (ma_cons (me_v (pv 0)) (ma_nil))) (me_non)))))))
    (mss_one (ms_ret (me_bl)))
    (mss_nil))
    (mss_cons (ms_set (i := 1) sc_is_log.nd rfl (by first | exact .inl rfl | exact .inr rfl) (me_int))
    (mss_cons (ms_for (passes_of rfl) rfl (mi_enum rfl x.b_enumerate (ma_cons (me_v (pv 0)) (ma_nil))) (mg_tp rfl (mgs_cons (mg_nm sc_is_log.nd rfl (by first | exact .inl rfl | exact .inr rfl)) (mgs_cons (mg_tp rfl (mgs_cons (mg_nm sc_is_log.nd rfl (by first | exact .inl rfl | exact .inr rfl)) (mgs_cons (mg_nm sc_is_log.nd rfl (by first | exact .inl rfl | exact .inr rfl)) (mgs_nil)))) (mgs_nil))))
    (mss_cons (ms_if (mt_w (mw_and (mt_cmp op_gt' (me_v (pv 2)) (me_int)) (mw_and1 (mt_cmp (op_eq' hr) (me_v (pv 1)) (me_int)))))
    (mss_one (ms_ret (me_bl)))
    (mss_nil))
    (mss_one (ms_aug (i := 1) ip_add' sc_is_log.nd rfl (by first | exact .inl rfl | exact .inr rfl) (me_get2 hr (me_dict (.cons (me_str) (me_int) (.cons (me_str) (me_un un_neg' (me_int)) (.nil)))) (me_v (pv 3)) (me_int) ⟨by rfl, by rfl, by rfl, by rfl⟩)))))
    (mss_one (ms_ret (me_bl)))))
theorem sc__law_opened : FnScope ["value", "heap", "word", "name"] ["value"] (defScope s__law_opened) := ⟨rfl, rfl, rfl, by decide +kernel, rfl, by decide +kernel, by decide +kernel⟩
theorem ok__law_opened (x : Fx K mg) : FnM P w K mg base 1 (He.ga K "_law_opened") x.fd__law_opened ["value"] g__law_opened := fnM x.F__law_opened sc__law_opened rfl fun cdv A outer s H E hr =>
    mss_cons (ms_set (i := 1) sc__law_opened.nd rfl (by first | exact .inl rfl | exact .inr rfl) (me_lst (ma_nil)))
    (mss_cons (ms_for (passes_of rfl) rfl (mi_val (me_v (pv 0))) (mg_tp rfl (mgs_cons (mg_nm sc__law_opened.nd rfl (by first | exact .inl rfl | exact .inr rfl)) (mgs_cons (mg_nm sc__law_opened.nd rfl (by first | exact .inl rfl | exact .inr rfl)) (mgs_nil))))
    (mss_cons (ms_if (mt_cmp (op_eq' hr) (me_v (pv 2)) (me_str))
    (mss_one (ms_expr (me_bm PySem.F.plainAttrs_list PySem.F.slot_list_append PySem.F.type_list_append l_append (me_v (pv 1)) (ma_cons (me_v (pv 3)) (ma_nil)))))
    (mss_nil))
    (mss_one (ms_if (mt_w (mw_and (mt_cmp (op_eq' hr) (me_v (pv 2)) (me_str)) (mw_and1 (mt_w (mw_or (mt_cmp (op_eq' hr) (me_v (pv 1)) (me_lst (ma_nil))) (mw_or1 (mt_cmp (op_ne' hr) (me_bm0 PySem.F.plainAttrs_list PySem.F.slot_list_pop PySem.F.type_list_pop l_pop (me_v (pv 1))) (me_v (pv 3)))))))))
    (mss_one (ms_ret (me_non)))
    (mss_nil)))))
    (mss_one (ms_ret (me_v (pv 1)))))
theorem sc__law_is_log : FnScope ["value", "firsts", "size"] ["value"] (defScope s__law_is_log) := ⟨rfl, rfl, rfl, by decide +kernel, rfl, by decide +kernel, by decide +kernel⟩
theorem ok__law_is_log (x : Fx K mg) : FnM P w K mg base 4 (He.ga K "_law_is_log") x.fd__law_is_log ["value"] g__law_is_log := fnM x.F__law_is_log sc__law_is_log rfl fun cdv A outer s H E hr =>
    mss_cons (ms_if (mt_w (mw_or (mt_not (mt_v (me_call (takes_of rfl rfl rfl rfl) ((ok__law_are_lines x).lift (by decide)) hr rfl x.m__law_are_lines x.F__law_are_lines.kp x.bi__law_are_lines (ma_cons (me_v (pv 0)) (ma_nil))))) (mw_or (mt_cmp (op_eq' hr) (me_v (pv 0)) (me_tup (ma_nil))) (mw_or1 (mt_cmp (op_ne' hr) (me_ix ix' (me_ix ix' (me_v (pv 0)) (me_int)) (me_int)) (me_str))))))
    (mss_one (ms_ret (me_bl)))
    (mss_nil))
    (mss_cons (ms_setLc (i := 1) (own := [("size", 2)]) rfl sc__law_is_log.nd rfl rfl (by rfl) (mi_range2 rfl x.b_range (ma_cons (me_int) (ma_cons (me_cb c_len rfl x.b_len boot_len (ma_cons (me_v (pv 0)) (ma_nil))) (ma_nil)))) (blkOk_by (by kernel_rfl)) (by decide) (fun s H C cl fp => mg_nm sc__law_is_log.nd rfl (by first | exact .inl rfl | exact .inr rfl)) (fun s H C cl fp => mts_one (mt_cmp (op_in' hr) (me_call tk_blk ((ok__law_opened x).lift (by decide)) hr rfl x.m__law_opened x.F__law_opened.kp x.bi__law_opened (ma_cons (me_sl sl' (me_v (pv 0)) (mo_none) (mo_some (me_v (pv 2)))) (ma_nil))) (me_tup (ma_cons (me_lst (ma_nil)) (ma_cons (me_non) (ma_nil)))))) (fun s H C cl fp => me_v (pv 2)))
    (mss_one (ms_ret (me_and (me_cmp (op_eq' hr) (me_v (pv 1)) (me_lst (ma_nil))) (me_one (me_cmp op_isNot' (me_call (takes_of rfl rfl rfl rfl) ((ok__law_opened x).lift (by decide)) hr rfl x.m__law_opened x.F__law_opened.kp x.bi__law_opened (ma_cons (me_v (pv 0)) (ma_nil))) (me_non)))))))
theorem sc_require_log : FnScope ["value"] ["value"] (defScope s_require_log) := ⟨rfl, rfl, rfl, by decide +kernel, rfl, by decide +kernel, by decide +kernel⟩
theorem ok_require_log (x : Fx K mg) : FnM P w K mg base 5 (He.ga K "require_log") x.fd_require_log ["value"] g_require_log := fnM x.F_require_log sc_require_log rfl fun cdv A outer s H E hr =>
    mss_one (ms_if (mt_not (mt_v (me_call (takes_of rfl rfl rfl rfl) ((ok_is_log x).lift (by decide)) hr rfl x.m_is_log x.F_is_log.kp x.bi_is_log (ma_cons (me_v (pv 0)) (ma_nil)))))
    (mss_one (ms_never))
    (mss_nil))
theorem sc_open_calls : FnScope ["log"] ["log"] (defScope s_open_calls) := ⟨rfl, rfl, rfl, by decide +kernel, rfl, by decide +kernel, by decide +kernel⟩
theorem ok_open_calls (x : Fx K mg) : FnM P w K mg base 6 (He.ga K "open_calls") x.fd_open_calls ["log"] g_open_calls := fnM x.F_open_calls sc_open_calls rfl fun cdv A outer s H E hr =>
    mss_cons (ms_expr (me_call (takes_of rfl rfl rfl rfl) ((ok_require_log x).lift (by decide)) hr rfl x.m_require_log x.F_require_log.kp x.bi_require_log (ma_cons (me_v (pv 0)) (ma_nil))))
    (mss_one (ms_ret (me_ct c_tuple rfl x.b_tuple boot_tuple (ma_cons (me_call (takes_of rfl rfl rfl rfl) ((ok_open_in x).lift (by decide)) hr rfl x.m_open_in x.F_open_in.kp x.bi_open_in (ma_cons (me_v (pv 0)) (ma_nil))) (ma_nil)))))
theorem sc__law_right : FnScope ["jar", "value", "lines", "heap", "is_form", "told", "due", "turn"] ["jar"] (defScope s__law_right) := ⟨rfl, rfl, rfl, by decide +kernel, rfl, by decide +kernel, by decide +kernel⟩
theorem ok__law_right (x : Fx K mg) : FnM P w K mg base 7 (He.ga K "_law_right") x.fd__law_right ["jar"] g__law_right := fnM x.F__law_right sc__law_right rfl fun cdv A outer s H E hr =>
    mss_cons (ms_asg (me_call (takes_of rfl rfl rfl rfl) ((ok__law_lines x).lift (by decide)) hr rfl x.m__law_lines x.F__law_lines.kp x.bi__law_lines (ma_cons (me_v (pv 0)) (ma_cons (me_call (takes_of rfl rfl rfl rfl) ((ok__law_toss x).lift (by decide)) hr rfl x.m__law_toss x.F__law_toss.kp x.bi__law_toss (ma_cons (me_v (pv 0)) (ma_cons (me_int) (ma_nil)))) (ma_nil)))) (mg_tp rfl (mgs_cons (mg_nm sc__law_right.nd rfl (by first | exact .inl rfl | exact .inr rfl)) (mgs_cons (mg_nm sc__law_right.nd rfl (by first | exact .inl rfl | exact .inr rfl)) (mgs_nil)))))
    (mss_cons (ms_for (passes_of rfl) rfl (mi_val (me_op op_add' (me_lst (ma_cons (me_v (pv 2)) (ma_cons (me_op op_add' (me_tup (ma_cons (me_tup (ma_cons (me_str) (ma_cons (me_str) (ma_nil)))) (ma_nil))) (me_v (pv 2))) (ma_nil)))) (me_lc (own := [("turn", 7)]) rfl sc__law_right.nd (mi_range1 rfl x.b_range (ma_cons (me_int) (ma_nil))) (blkOk_by (by kernel_rfl)) (by decide) (fun s H C cl fp => mg_nm sc__law_right.nd rfl (by first | exact .inl rfl | exact .inr rfl)) (fun s H C cl fp => mts_nil) (fun s H C cl fp => me_call tk_blk ((ok__law_odd x).lift (by decide)) hr rfl x.m__law_odd x.F__law_odd.kp x.bi__law_odd (ma_cons (me_v (pv 0)) (ma_cons (me_v (pv 2)) (ma_nil))))))) (mg_nm sc__law_right.nd rfl (by first | exact .inl rfl | exact .inr rfl))
    (mss_cons (ms_set (i := 4) sc__law_right.nd rfl (by first | exact .inl rfl | exact .inr rfl) (me_call (takes_of rfl rfl rfl rfl) ((ok__law_are_lines x).lift (by decide)) hr rfl x.m__law_are_lines x.F__law_are_lines.kp x.bi__law_are_lines (ma_cons (me_v (pv 1)) (ma_nil))))
    (mss_cons (ms_set (i := 5) sc__law_right.nd rfl (by first | exact .inl rfl | exact .inr rfl) (me_lst (ma_cons (me_call (takes_of rfl rfl rfl rfl) ((ok_is_log x).lift (by decide)) hr rfl x.m_is_log x.F_is_log.kp x.bi_is_log (ma_cons (me_v (pv 1)) (ma_nil))) (ma_cons (me_call (takes_of rfl rfl rfl rfl) ((ok_is_piece x).lift (by decide)) hr rfl x.m_is_piece x.F_is_piece.kp x.bi_is_piece (ma_cons (me_v (pv 1)) (ma_nil))) (ma_cons (me_call (takes_of rfl rfl rfl rfl) ((ok_is_line x).lift (by decide)) hr rfl x.m_is_line x.F_is_line.kp x.bi_is_line (ma_cons (me_v (pv 1)) (ma_nil))) (ma_cons (me_call (takes_of rfl rfl rfl rfl) ((ok_is_name x).lift (by decide)) hr rfl x.m_is_name x.F_is_name.kp x.bi_is_name (ma_cons (me_v (pv 1)) (ma_nil))) (ma_nil)))))))
    (mss_cons (ms_set (i := 6) sc__law_right.nd rfl (by first | exact .inl rfl | exact .inr rfl) (me_lst (ma_cons (me_call (takes_of rfl rfl rfl rfl) ((ok__law_is_log x).lift (by decide)) hr rfl x.m__law_is_log x.F__law_is_log.kp x.bi__law_is_log (ma_cons (me_v (pv 1)) (ma_nil))) (ma_cons (me_and (me_v (pv 4)) (me_one (me_cmp (op_eq' hr) (me_call (takes_of rfl rfl rfl rfl) ((ok__law_opened x).lift (by decide)) hr rfl x.m__law_opened x.F__law_opened.kp x.bi__law_opened (ma_cons (me_v (pv 1)) (ma_nil))) (me_lst (ma_nil))))) (ma_cons (me_call (takes_of rfl rfl rfl rfl) ((ok__law_is_line x).lift (by decide)) hr rfl x.m__law_is_line x.F__law_is_line.kp x.bi__law_is_line (ma_cons (me_v (pv 1)) (ma_nil))) (ma_cons (me_call (takes_of rfl rfl rfl rfl) ((ok__law_is_name x).lift (by decide)) hr rfl x.m__law_is_name x.F__law_is_name.kp x.bi__law_is_name (ma_cons (me_v (pv 1)) (ma_nil))) (ma_nil)))))))
    (mss_one (ms_if (mt_w (mw_or (mt_cmp (op_ne' hr) (me_cb (c_repr hr) rfl x.b_repr boot_repr (ma_cons (me_v (pv 5)) (ma_nil))) (me_cb (c_repr hr) rfl x.b_repr boot_repr (ma_cons (me_v (pv 6)) (ma_nil)))) (mw_or1 (mt_w (mw_and (mt_v (me_ix ix' (me_v (pv 6)) (me_int))) (mw_and1 (mt_cmp (op_ne' hr) (me_call (takes_of rfl rfl rfl rfl) ((ok_open_calls x).lift (by decide)) hr rfl x.m_open_calls x.F_open_calls.kp x.bi_open_calls (ma_cons (me_v (pv 1)) (ma_nil))) (me_ct c_tuple rfl x.b_tuple boot_tuple (ma_cons (me_call (takes_of rfl rfl rfl rfl) ((ok__law_opened x).lift (by decide)) hr rfl x.m__law_opened x.F__law_opened.kp x.bi__law_opened (ma_cons (me_v (pv 1)) (ma_nil))) (ma_nil))))))))))
    (mss_one (ms_ret (me_bl)))
    (mss_nil)))))))
    (mss_one (ms_ret (me_bl))))
theorem sc_law : FnScope ["script", "at", "log", "told"] ["script"] (defScope s_law) := ⟨rfl, rfl, rfl, by decide +kernel, rfl, by decide +kernel, by decide +kernel⟩
theorem ok_law (x : Fx K mg) : FnM P w K mg base 8 (He.ga K "law") x.fd_law ["script"] g_law := fnM x.F_law sc_law rfl fun cdv A outer s H E hr =>
    mss_cons (ms_for (passes_of rfl) rfl (mi_range1 rfl x.b_range (ma_cons (me_cb (c_max rfl) rfl x.b_max boot_max (ma_cons (me_int) (ma_cons (me_cb (c_min rfl) rfl x.b_min boot_min (ma_cons (me_int) (ma_cons (me_cb c_len rfl x.b_len boot_len (ma_cons (me_v (pv 0)) (ma_nil))) (ma_nil)))) (ma_nil)))) (ma_nil))) (mg_nm sc_law.nd rfl (by first | exact .inl rfl | exact .inr rfl))
    (mss_one (ms_if (mt_not (mt_v (me_call (takes_of rfl rfl rfl rfl) ((ok__law_right x).lift (by decide)) hr rfl x.m__law_right x.F__law_right.kp x.bi__law_right (ma_cons (me_call (takes_of rfl rfl rfl rfl) ((ok__law_jar x).lift (by decide)) hr rfl x.m__law_jar x.F__law_jar.kp x.bi__law_jar (ma_cons (me_v (pv 0)) (ma_cons (me_v (pv 1)) (ma_nil)))) (ma_nil)))))
    (mss_one (ms_ret (me_bl)))
    (mss_nil))))
    (mss_cons (ms_set (i := 2) sc_law.nd rfl (by first | exact .inl rfl | exact .inr rfl) (me_tup (ma_cons (me_tup (ma_cons (me_str) (ma_cons (me_str) (ma_nil)))) (ma_cons (me_tup (ma_cons (me_str) (ma_cons (me_str) (ma_nil)))) (ma_nil)))))
    (mss_cons (ms_set (i := 3) sc_law.nd rfl (by first | exact .inl rfl | exact .inr rfl) (me_lst (ma_cons (me_call (takes_of rfl rfl rfl rfl) ((ok_is_log x).lift (by decide)) hr rfl x.m_is_log x.F_is_log.kp x.bi_is_log (ma_cons (me_v (pv 2)) (ma_nil))) (ma_cons (me_call (takes_of rfl rfl rfl rfl) ((ok_is_log x).lift (by decide)) hr rfl x.m_is_log x.F_is_log.kp x.bi_is_log (ma_cons (me_op op_add' (me_v (pv 2)) (me_v (pv 2))) (ma_nil))) (ma_cons (me_call (takes_of rfl rfl rfl rfl) ((ok_is_piece x).lift (by decide)) hr rfl x.m_is_piece x.F_is_piece.kp x.bi_is_piece (ma_cons (me_op op_add' (me_v (pv 2)) (me_v (pv 2))) (ma_nil))) (ma_cons (me_call (takes_of rfl rfl rfl rfl) ((ok_is_piece x).lift (by decide)) hr rfl x.m_is_piece x.F_is_piece.kp x.bi_is_piece (ma_cons (me_tup (ma_nil)) (ma_nil))) (ma_cons (me_call (takes_of rfl rfl rfl rfl) ((ok_is_log x).lift (by decide)) hr rfl x.m_is_log x.F_is_log.kp x.bi_is_log (ma_cons (me_tup (ma_nil)) (ma_nil))) (ma_nil))))))))
    (mss_one (ms_ret (me_and (me_cmp (op_eq' hr) (me_op op_add' (me_v (pv 3)) (me_lst (ma_cons (me_call (takes_of rfl rfl rfl rfl) ((ok_is_log x).lift (by decide)) hr rfl x.m_is_log x.F_is_log.kp x.bi_is_log (ma_cons (me_op op_add' (me_v (pv 2)) (me_tup (ma_cons (me_tup (ma_cons (me_str) (ma_cons (me_str) (ma_nil)))) (ma_nil)))) (ma_nil))) (ma_nil)))) (me_lst (ma_cons (me_bl) (ma_cons (me_bl) (ma_cons (me_bl) (ma_cons (me_bl) (ma_cons (me_bl) (ma_cons (me_bl) (ma_nil))))))))) (me_one (me_cmp (op_eq' hr) (me_call (takes_of rfl rfl rfl rfl) ((ok_open_calls x).lift (by decide)) hr rfl x.m_open_calls x.F_open_calls.kp x.bi_open_calls (ma_cons (me_v (pv 2)) (ma_nil))) (me_tup (ma_nil)))))))))
end
/-! ### the head -/
def d__law_jar : He.DefD := ⟨("_law_jar", none), "_law_jar", "_law_jar", defArgs s__law_jar, defBody s__law_jar, defScope s__law_jar, [], []⟩
def d__law_toss : He.DefD := ⟨("_law_toss", none), "_law_toss", "_law_toss", defArgs s__law_toss, defBody s__law_toss, defScope s__law_toss, [], []⟩
def d__law_pick : He.DefD := ⟨("_law_pick", none), "_law_pick", "_law_pick", defArgs s__law_pick, defBody s__law_pick, defScope s__law_pick, [], []⟩
def d__law_lines : He.DefD := ⟨("_law_lines", none), "_law_lines", "_law_lines", defArgs s__law_lines, defBody s__law_lines, defScope s__law_lines, [], []⟩
def d__law_odd : He.DefD := ⟨("_law_odd", none), "_law_odd", "_law_odd", defArgs s__law_odd, defBody s__law_odd, defScope s__law_odd, [], []⟩
def d__law_is_name : He.DefD := ⟨("_law_is_name", none), "_law_is_name", "_law_is_name", defArgs s__law_is_name, defBody s__law_is_name, defScope s__law_is_name, [], []⟩
def d__law_is_line : He.DefD := ⟨("_law_is_line", none), "_law_is_line", "_law_is_line", defArgs s__law_is_line, defBody s__law_is_line, defScope s__law_is_line, [], []⟩
def d__law_are_lines : He.DefD := ⟨("_law_are_lines", none), "_law_are_lines", "_law_are_lines", defArgs s__law_are_lines, defBody s__law_are_lines, defScope s__law_are_lines, [], []⟩
def d_is_name : He.DefD := ⟨("is_name", none), "is_name", "is_name", defArgs s_is_name, defBody s_is_name, defScope s_is_name, [], []⟩
def d_is_line : He.DefD := ⟨("is_line", none), "is_line", "is_line", defArgs s_is_line, defBody s_is_line, defScope s_is_line, [], []⟩
def d_are_lines : He.DefD := ⟨("are_lines", none), "are_lines", "are_lines", defArgs s_are_lines, defBody s_are_lines, defScope s_are_lines, [], []⟩
def d_open_in : He.DefD := ⟨("open_in", none), "open_in", "open_in", defArgs s_open_in, defBody s_open_in, defScope s_open_in, [], []⟩
def d_is_piece : He.DefD := ⟨("is_piece", none), "is_piece", "is_piece", defArgs s_is_piece, defBody s_is_piece, defScope s_is_piece, [], []⟩
def d_is_log : He.DefD := ⟨("is_log", none), "is_log", "is_log", defArgs s_is_log, defBody s_is_log, defScope s_is_log, [], []⟩
def d__law_opened : He.DefD := ⟨("_law_opened", none), "_law_opened", "_law_opened", defArgs s__law_opened, defBody s__law_opened, defScope s__law_opened, [], []⟩
def d__law_is_log : He.DefD := ⟨("_law_is_log", none), "_law_is_log", "_law_is_log", defArgs s__law_is_log, defBody s__law_is_log, defScope s__law_is_log, [], []⟩
def d_require_log : He.DefD := ⟨("require_log", none), "require_log", "require_log", defArgs s_require_log, defBody s_require_log, defScope s_require_log, [], []⟩
def d_open_calls : He.DefD := ⟨("open_calls", none), "open_calls", "open_calls", defArgs s_open_calls, defBody s_open_calls, defScope s_open_calls, [], []⟩
def d__law_right : He.DefD := ⟨("_law_right", none), "_law_right", "_law_right", defArgs s__law_right, defBody s__law_right, defScope s__law_right, [], []⟩
def d_law : He.DefD := ⟨("law", none), "law", "law", defArgs s_law, defBody s_law, defScope s_law, [], []⟩
def fn : List He.DefD := [d__law_jar, d__law_toss, d__law_pick, d__law_lines, d__law_odd, d__law_is_name, d__law_is_line, d__law_are_lines, d_is_name, d_is_line, d_are_lines, d_open_in, d_is_piece, d_is_log, d__law_opened, d__law_is_log, d_require_log, d_open_calls, d__law_right, d_law]
def fa : List He.Fa := [.glo "_law_jar", .glo "_law_toss", .glo "_law_pick", .glo "_law_lines", .glo "_law_odd", .glo "_law_is_name", .glo "_law_is_line", .glo "_law_are_lines", .glo "is_name", .glo "is_line", .glo "are_lines", .glo "open_in", .glo "is_piece", .glo "is_log", .glo "_law_opened", .glo "_law_is_log", .glo "require_log", .glo "open_calls", .glo "_law_right", .glo "law", .free "str", .free "isinstance", .free "len", .free "all", .free "tuple", .free "enumerate", .free "abs", .free "int", .free "max", .free "range", .free "list", .free "repr", .free "min", .int "MAX_LETTERS" 8, .str "LETTERS" "abcdefghijklmnopqrstuvwxyz"]
def others : List Str := ["WayError", "InvalidLog", "LETTERS", "MAX_LETTERS", "is_name", "is_line", "are_lines", "open_in", "is_piece", "is_log", "require_log", "open_calls", "_law_jar", "_law_toss", "_law_pick", "_law_lines", "_law_opened", "_law_is_line", "_law_is_name", "_law_are_lines", "_law_is_log", "_law_odd", "_law_right"]
abbrev RowX : PySem.W.OpenRow := PySem.W.OpenLaw.row PySem.Challenge.rw_waystolog_k01_names_lines_logs_and_piece
abbrev hk : PySem.W.Hook := He.hookD 4 fa fn
def ob (s : PySem.W.SharedT) : He.AlD := He.obsDG 4 fa fn (HandSHeadRun.getT s)
theorem ob_eq (s : PySem.W.SharedT) : ob s = hk.obs s.abs := He.obsDG_eq (HandSHeadRun.getT_eq s)
theorem run (w : World) : HandSHeadRun.RunEq RowX (PySem.W.view RowX.prog [26]) hk ob 4000 others w := by
  intro os
  kernel_rfl
theorem facts {K : PySem.W.Frag} {h : Heap} {mg : Str → Option Value} (X : K.In h) (G : h.Ns mainGlobals mg) (c : He.SaysD fa fn K) : Nonempty (Fx K mg) := by
  obtain ⟨fd_0, F_0⟩ := c.def_ 0 (d := d__law_jar) rfl
  obtain ⟨fd_1, F_1⟩ := c.def_ 1 (d := d__law_toss) rfl
  obtain ⟨fd_2, F_2⟩ := c.def_ 2 (d := d__law_pick) rfl
  obtain ⟨fd_3, F_3⟩ := c.def_ 3 (d := d__law_lines) rfl
  obtain ⟨fd_4, F_4⟩ := c.def_ 4 (d := d__law_odd) rfl
  obtain ⟨fd_5, F_5⟩ := c.def_ 5 (d := d__law_is_name) rfl
  obtain ⟨fd_6, F_6⟩ := c.def_ 6 (d := d__law_is_line) rfl
  obtain ⟨fd_7, F_7⟩ := c.def_ 7 (d := d__law_are_lines) rfl
  obtain ⟨fd_8, F_8⟩ := c.def_ 8 (d := d_is_name) rfl
  obtain ⟨fd_9, F_9⟩ := c.def_ 9 (d := d_is_line) rfl
  obtain ⟨fd_10, F_10⟩ := c.def_ 10 (d := d_are_lines) rfl
  obtain ⟨fd_11, F_11⟩ := c.def_ 11 (d := d_open_in) rfl
  obtain ⟨fd_12, F_12⟩ := c.def_ 12 (d := d_is_piece) rfl
  obtain ⟨fd_13, F_13⟩ := c.def_ 13 (d := d_is_log) rfl
  obtain ⟨fd_14, F_14⟩ := c.def_ 14 (d := d__law_opened) rfl
  obtain ⟨fd_15, F_15⟩ := c.def_ 15 (d := d__law_is_log) rfl
  obtain ⟨fd_16, F_16⟩ := c.def_ 16 (d := d_require_log) rfl
  obtain ⟨fd_17, F_17⟩ := c.def_ 17 (d := d_open_calls) rfl
  obtain ⟨fd_18, F_18⟩ := c.def_ 18 (d := d__law_right) rfl
  obtain ⟨fd_19, F_19⟩ := c.def_ 19 (d := d_law) rfl
  exact ⟨{
    fd__law_jar := fd_0
    F__law_jar := F_0
    m__law_jar := He.glo_ok X G (c.fact 0 rfl)
    fd__law_toss := fd_1
    F__law_toss := F_1
    m__law_toss := He.glo_ok X G (c.fact 1 rfl)
    fd__law_pick := fd_2
    F__law_pick := F_2
    m__law_pick := He.glo_ok X G (c.fact 2 rfl)
    fd__law_lines := fd_3
    F__law_lines := F_3
    m__law_lines := He.glo_ok X G (c.fact 3 rfl)
    fd__law_odd := fd_4
    F__law_odd := F_4
    m__law_odd := He.glo_ok X G (c.fact 4 rfl)
    fd__law_is_name := fd_5
    F__law_is_name := F_5
    m__law_is_name := He.glo_ok X G (c.fact 5 rfl)
    fd__law_is_line := fd_6
    F__law_is_line := F_6
    m__law_is_line := He.glo_ok X G (c.fact 6 rfl)
    fd__law_are_lines := fd_7
    F__law_are_lines := F_7
    m__law_are_lines := He.glo_ok X G (c.fact 7 rfl)
    fd_is_name := fd_8
    F_is_name := F_8
    m_is_name := He.glo_ok X G (c.fact 8 rfl)
    fd_is_line := fd_9
    F_is_line := F_9
    m_is_line := He.glo_ok X G (c.fact 9 rfl)
    fd_are_lines := fd_10
    F_are_lines := F_10
    m_are_lines := He.glo_ok X G (c.fact 10 rfl)
    fd_open_in := fd_11
    F_open_in := F_11
    m_open_in := He.glo_ok X G (c.fact 11 rfl)
    fd_is_piece := fd_12
    F_is_piece := F_12
    m_is_piece := He.glo_ok X G (c.fact 12 rfl)
    fd_is_log := fd_13
    F_is_log := F_13
    m_is_log := He.glo_ok X G (c.fact 13 rfl)
    fd__law_opened := fd_14
    F__law_opened := F_14
    m__law_opened := He.glo_ok X G (c.fact 14 rfl)
    fd__law_is_log := fd_15
    F__law_is_log := F_15
    m__law_is_log := He.glo_ok X G (c.fact 15 rfl)
    fd_require_log := fd_16
    F_require_log := F_16
    m_require_log := He.glo_ok X G (c.fact 16 rfl)
    fd_open_calls := fd_17
    F_open_calls := F_17
    m_open_calls := He.glo_ok X G (c.fact 17 rfl)
    fd__law_right := fd_18
    F__law_right := F_18
    m__law_right := He.glo_ok X G (c.fact 18 rfl)
    fd_law := fd_19
    F_law := F_19
    m_law := He.glo_ok X G (c.fact 19 rfl)
    b_str := He.free_ok X G (c.fact 20 rfl)
    b_isinstance := He.free_ok X G (c.fact 21 rfl)
    b_len := He.free_ok X G (c.fact 22 rfl)
    b_all := He.free_ok X G (c.fact 23 rfl)
    b_tuple := He.free_ok X G (c.fact 24 rfl)
    b_enumerate := He.free_ok X G (c.fact 25 rfl)
    b_abs := He.free_ok X G (c.fact 26 rfl)
    b_int := He.free_ok X G (c.fact 27 rfl)
    b_max := He.free_ok X G (c.fact 28 rfl)
    b_range := He.free_ok X G (c.fact 29 rfl)
    b_list := He.free_ok X G (c.fact 30 rfl)
    b_repr := He.free_ok X G (c.fact 31 rfl)
    b_min := He.free_ok X G (c.fact 32 rfl)
    c_MAX_LETTERS := He.int_ok X G (c.fact 33 rfl)
    c_LETTERS := He.str_ok X G (c.fact 34 rfl)
  }⟩
theorem law_of (pure : ∀ ns : List Int, ns.length ≤ 63 → (∀ z ∈ ns, Builtin.Int.intBits z ≤ 1048576) → ∃ μ, g_law [.fl (ns.map W.int)] [] = .ok (.bl true) μ)
    {w : World} {mg : Str → Option Value} {f : Addr} {h : Heap} (Y : ∃ K : PySem.W.Frag, K.In h ∧ He.SaysD fa fn K) (G : h.Ns mainGlobals mg) (hm : mg ("law" : Str) = some (.ref f)) :
    LawM PySem.Challenge.rw_waystolog_k01_names_lines_logs_and_piece w 8 63 "script" mg f h := by
  obtain ⟨K, KX, c⟩ := Y
  obtain ⟨x⟩ := facts KX G c
  have e := hm.symm.trans x.m_law
  cases e
  exact ⟨K, x.fd_law, g_law, KX, fun s u => x.F_law.bindsA (ps := ["script"]) (fun _ _ _ _ _ _ us hl => match us, hl with | [_], _ => rfl) s [u] rfl, pure, fun base _ _ => ok_law x⟩
end Ex

set_option Elab.async false
set_option linter.all false
set_option maxRecDepth 100000
set_option maxHeartbeats 4000000
set_option autoImplicit false
namespace Ex
open PySem L2 Mi
theorem toss_w {μ : Mem} {n : Nat} {a b c t : Int} (h : getL μ n = some [.int a, .int b, .int c]) (h0 : 0 < t) (h1 : t < 1073741824) :
    Rw (g__law_toss [.loc n, .int t] μ) fun w μ' => ∃ r a' c' : Int, w = .int r ∧ 0 ≤ r ∧ r < t ∧ μ' = μ.set n (.lst [.int a', .int b, .int c']) := by
  unfold g__law_toss b__law_toss
  have i0 : ∀ (u v x : W), atI [u, v, x] 0 = some u := fun _ _ _ => rfl
  have i1 : ∀ (u v x : W), atI [u, v, x] 1 = some v := fun _ _ _ => rfl
  have i2 : ∀ (u v x : W), atI [u, v, x] 2 = some x := fun _ _ _ => rfl
  have n0 : ixN 3 0 = some 0 := rfl
  have n2 : ixN 3 2 = some 2 := rfl
  simp only [two_eq, wo_addT, v_ipAdd, v_ipSub, wp_get2, rp_nil, rp_cons, wp_dict, isDct_new, ri_enumT, v_isNN, v_isNL, v_isNotN, v_isNotL, wp_fn, startW, wp_call, wp_C, wp_V, wp_bin, wp_un, wp_and, wp_or, wp_not, rt_V, rt_and, rt_or, rt_not, rt_bl, rt_yes, wp_if, wp_chain, ra_nil, ra_cons, wp_tup, wp_lst, wp_cb, wp_mt, wp_dict0, wp_sl, ro_none, ro_some, fs_seq, fs_nil, fs_brk, fs_cnt, fs_expr, fs_ret, fs_retN, fs_if, fs_set, fs_par, fs_asg, fs_sub, fs_aug, ri_val, ri_args, wp_some, wp_ok, wp_bind, List.map_cons, List.map_nil, List.length_cons, List.length_nil, List.replicate, List.cons_append, List.nil_append, List.getElem?_cons_zero, List.getElem?_cons_succ, List.set_cons_zero, List.set_cons_succ, Option.some.injEq, exists_eq_left', exists_eq_left, Nat.reduceAdd, Nat.reduceSub, Nat.reduceLeDiff, true_and, W.bl.injEq, W.int.injEq, W.str.injEq, W.tup.injEq, if_true, if_false, Bool.false_eq_true, Bool.not_true, Bool.not_false, truth_bl, truth_int, truth_tup, v_addI, v_subI, v_mod, v_fdiv, v_neg, v_lt, v_le, v_gt, v_ge, v_cint, v_cintB, v_cabs, v_cmax, v_cmin, v_lenT, v_lenF, v_ixT, v_ixF, v_revT, v_cutT, v_tupT, v_listT, v_eqI, v_neI, v_eqS, v_neS, Option.map_some, decide_eq_true_eq, decide_true, decide_false, and_self, and_true, Int.reduceToNat, Int.reduceNeg, Int.reduceLT, Int.reduceLE, Int.reduceAdd, Int.reduceSub, Int.reduceMul, Int.reduceBEq, Int.reduceBNe, Nat.reduceLT, Nat.reduceMul, Int.toNat_one, Int.toNat_zero, v_ixL h, i0]
  by_cases ha : 0 < a
  · simp only [two_eq, wo_addT, v_ipAdd, v_ipSub, wp_get2, rp_nil, rp_cons, wp_dict, isDct_new, ri_enumT, v_isNN, v_isNL, v_isNotN, v_isNotL, wp_fn, startW, wp_call, wp_C, wp_V, wp_bin, wp_un, wp_and, wp_or, wp_not, rt_V, rt_and, rt_or, rt_not, rt_bl, rt_yes, wp_if, wp_chain, ra_nil, ra_cons, wp_tup, wp_lst, wp_cb, wp_mt, wp_dict0, wp_sl, ro_none, ro_some, fs_seq, fs_nil, fs_brk, fs_cnt, fs_expr, fs_ret, fs_retN, fs_if, fs_set, fs_par, fs_asg, fs_sub, fs_aug, ri_val, ri_args, wp_some, wp_ok, wp_bind, List.map_cons, List.map_nil, List.length_cons, List.length_nil, List.replicate, List.cons_append, List.nil_append, List.getElem?_cons_zero, List.getElem?_cons_succ, List.set_cons_zero, List.set_cons_succ, Option.some.injEq, exists_eq_left', exists_eq_left, Nat.reduceAdd, Nat.reduceSub, Nat.reduceLeDiff, true_and, W.bl.injEq, W.int.injEq, W.str.injEq, W.tup.injEq, if_true, if_false, Bool.false_eq_true, Bool.not_true, Bool.not_false, truth_bl, truth_int, truth_tup, v_addI, v_subI, v_mod, v_fdiv, v_neg, v_lt, v_le, v_gt, v_ge, v_cint, v_cintB, v_cabs, v_cmax, v_cmin, v_lenT, v_lenF, v_ixT, v_ixF, v_revT, v_cutT, v_tupT, v_listT, v_eqI, v_neI, v_eqS, v_neS, Option.map_some, decide_eq_true_eq, decide_true, decide_false, and_self, and_true, Int.reduceToNat, Int.reduceNeg, Int.reduceLT, Int.reduceLE, Int.reduceAdd, Int.reduceSub, Int.reduceMul, Int.reduceBEq, Int.reduceBNe, Nat.reduceLT, Nat.reduceMul, Int.toNat_one, Int.toNat_zero, ha, h0, h1, v_ixL h, i0, v_setL h, n0]
    exact ⟨_, _, _, rfl, Int.emod_nonneg _ (by omega), Int.emod_lt_of_pos _ h0, rfl⟩
  · simp only [two_eq, wo_addT, v_ipAdd, v_ipSub, wp_get2, rp_nil, rp_cons, wp_dict, isDct_new, ri_enumT, v_isNN, v_isNL, v_isNotN, v_isNotL, wp_fn, startW, wp_call, wp_C, wp_V, wp_bin, wp_un, wp_and, wp_or, wp_not, rt_V, rt_and, rt_or, rt_not, rt_bl, rt_yes, wp_if, wp_chain, ra_nil, ra_cons, wp_tup, wp_lst, wp_cb, wp_mt, wp_dict0, wp_sl, ro_none, ro_some, fs_seq, fs_nil, fs_brk, fs_cnt, fs_expr, fs_ret, fs_retN, fs_if, fs_set, fs_par, fs_asg, fs_sub, fs_aug, ri_val, ri_args, wp_some, wp_ok, wp_bind, List.map_cons, List.map_nil, List.length_cons, List.length_nil, List.replicate, List.cons_append, List.nil_append, List.getElem?_cons_zero, List.getElem?_cons_succ, List.set_cons_zero, List.set_cons_succ, Option.some.injEq, exists_eq_left', exists_eq_left, Nat.reduceAdd, Nat.reduceSub, Nat.reduceLeDiff, true_and, W.bl.injEq, W.int.injEq, W.str.injEq, W.tup.injEq, if_true, if_false, Bool.false_eq_true, Bool.not_true, Bool.not_false, truth_bl, truth_int, truth_tup, v_addI, v_subI, v_mod, v_fdiv, v_neg, v_lt, v_le, v_gt, v_ge, v_cint, v_cintB, v_cabs, v_cmax, v_cmin, v_lenT, v_lenF, v_ixT, v_ixF, v_revT, v_cutT, v_tupT, v_listT, v_eqI, v_neI, v_eqS, v_neS, Option.map_some, decide_eq_true_eq, decide_true, decide_false, and_self, and_true, Int.reduceToNat, Int.reduceNeg, Int.reduceLT, Int.reduceLE, Int.reduceAdd, Int.reduceSub, Int.reduceMul, Int.reduceBEq, Int.reduceBNe, Nat.reduceLT, Nat.reduceMul, Int.toNat_one, Int.toNat_zero, ha, v_ixL h, i2, v_setL h, n2]
    have e4 := getL_set (ys := [.int a, .int b, .int (c + 1)]) h
    simp only [two_eq, wo_addT, v_ipAdd, v_ipSub, wp_get2, rp_nil, rp_cons, wp_dict, isDct_new, ri_enumT, v_isNN, v_isNL, v_isNotN, v_isNotL, wp_fn, startW, wp_call, wp_C, wp_V, wp_bin, wp_un, wp_and, wp_or, wp_not, rt_V, rt_and, rt_or, rt_not, rt_bl, rt_yes, wp_if, wp_chain, ra_nil, ra_cons, wp_tup, wp_lst, wp_cb, wp_mt, wp_dict0, wp_sl, ro_none, ro_some, fs_seq, fs_nil, fs_brk, fs_cnt, fs_expr, fs_ret, fs_retN, fs_if, fs_set, fs_par, fs_asg, fs_sub, fs_aug, ri_val, ri_args, wp_some, wp_ok, wp_bind, List.map_cons, List.map_nil, List.length_cons, List.length_nil, List.replicate, List.cons_append, List.nil_append, List.getElem?_cons_zero, List.getElem?_cons_succ, List.set_cons_zero, List.set_cons_succ, Option.some.injEq, exists_eq_left', exists_eq_left, Nat.reduceAdd, Nat.reduceSub, Nat.reduceLeDiff, true_and, W.bl.injEq, W.int.injEq, W.str.injEq, W.tup.injEq, if_true, if_false, Bool.false_eq_true, Bool.not_true, Bool.not_false, truth_bl, truth_int, truth_tup, v_addI, v_subI, v_mod, v_fdiv, v_neg, v_lt, v_le, v_gt, v_ge, v_cint, v_cintB, v_cabs, v_cmax, v_cmin, v_lenT, v_lenF, v_ixT, v_ixF, v_revT, v_cutT, v_tupT, v_listT, v_eqI, v_neI, v_eqS, v_neS, Option.map_some, decide_eq_true_eq, decide_true, decide_false, and_self, and_true, Int.reduceToNat, Int.reduceNeg, Int.reduceLT, Int.reduceLE, Int.reduceAdd, Int.reduceSub, Int.reduceMul, Int.reduceBEq, Int.reduceBNe, Nat.reduceLT, Nat.reduceMul, Int.toNat_one, Int.toNat_zero, v_ixL e4, i1, i2, h0, h1, v_mulM, v_mulL, v_mulN]
    exact ⟨_, _, _, rfl, Int.emod_nonneg _ (by omega), Int.emod_lt_of_pos _ h0, rfl⟩

/-! ### names, lines -/
def LET : Str := "abcdefghijklmnopqrstuvwxyz"
def isName : W → Bool
  | .str s => decide (0 < s.length) && decide (s.length ≤ 8) && s.cps.toList.all fun c => decide (c ∈ LET.cps.toList)
  | _ => false
def inLet : W → Bool
  | .str s => match s.cps.toList with
    | [c] => decide (c ∈ LET.cps.toList)
    | _ => false
  | _ => false
theorem signs_mem {s : Str} {x : W} (h : x ∈ signs s) : ∃ c ∈ s.cps.toList, x = .str ⟨#[c]⟩ := by
  unfold signs at h
  obtain ⟨c, hc, rfl⟩ := List.mem_map.mp h
  exact ⟨c, hc, rfl⟩
theorem in_sign {c : Nat} {μ : Mem} : opIn (.str ⟨#[c]⟩) (.str "abcdefghijklmnopqrstuvwxyz") μ = some (.bl (decide (c ∈ LET.cps.toList)), μ) := id rfl
theorem nin_sign {c : Nat} {μ : Mem} : opNin (.str ⟨#[c]⟩) (.str "abcdefghijklmnopqrstuvwxyz") μ = some (.bl (!decide (c ∈ LET.cps.toList)), μ) := id rfl
theorem signs_all {s : Str} (g : W → Bool) : ((signs s).map g) = s.cps.toList.map fun c => g (.str ⟨#[c]⟩) := by
  unfold signs
  rw [List.map_map]
  rfl
theorem is_name_w {μ : Mem} {w : W} (h : Vl μ w) : Rw (g_is_name [w] μ) fun r μ' => r = .bl (isName w) ∧ Fr [] μ μ' := by
  unfold g_is_name b_is_name
  simp only [two_eq, wo_addT, v_ipAdd, v_ipSub, wp_get2, rp_nil, rp_cons, wp_dict, isDct_new, ri_enumT, v_isNN, v_isNL, v_isNotN, v_isNotL, wp_fn, startW, wp_call, wp_C, wp_V, wp_bin, wp_un, wp_and, wp_or, wp_not, rt_V, rt_and, rt_or, rt_not, rt_bl, rt_yes, wp_if, wp_chain, ra_nil, ra_cons, wp_tup, wp_lst, wp_cb, wp_mt, wp_dict0, wp_sl, ro_none, ro_some, fs_seq, fs_nil, fs_brk, fs_cnt, fs_expr, fs_ret, fs_retN, fs_if, fs_set, fs_par, fs_asg, fs_sub, fs_aug, ri_val, ri_args, wp_some, wp_ok, wp_bind, List.map_cons, List.map_nil, List.length_cons, List.length_nil, List.replicate, List.cons_append, List.nil_append, List.getElem?_cons_zero, List.getElem?_cons_succ, List.set_cons_zero, List.set_cons_succ, Option.some.injEq, exists_eq_left', exists_eq_left, Nat.reduceAdd, Nat.reduceSub, Nat.reduceLeDiff, true_and, W.bl.injEq, W.int.injEq, W.str.injEq, W.tup.injEq, if_true, if_false, Bool.false_eq_true, Bool.not_true, Bool.not_false, truth_bl, truth_int, truth_tup, v_addI, v_subI, v_mod, v_fdiv, v_neg, v_lt, v_le, v_gt, v_ge, v_cint, v_cintB, v_cabs, v_cmax, v_cmin, v_lenT, v_lenF, v_ixT, v_ixF, v_revT, v_cutT, v_tupT, v_listT, v_eqI, v_neI, v_eqS, v_neS, Option.map_some, decide_eq_true_eq, decide_true, decide_false, and_self, and_true, Int.reduceToNat, Int.reduceNeg, Int.reduceLT, Int.reduceLE, Int.reduceAdd, Int.reduceSub, Int.reduceMul, Int.reduceBEq, Int.reduceBNe, Nat.reduceLT, Nat.reduceMul, Int.toNat_one, Int.toNat_zero, isi_str h]
  cases w with
  | str s =>
    simp only [two_eq, wo_addT, v_ipAdd, v_ipSub, wp_get2, rp_nil, rp_cons, wp_dict, isDct_new, ri_enumT, v_isNN, v_isNL, v_isNotN, v_isNotL, wp_fn, startW, wp_call, wp_C, wp_V, wp_bin, wp_un, wp_and, wp_or, wp_not, rt_V, rt_and, rt_or, rt_not, rt_bl, rt_yes, wp_if, wp_chain, ra_nil, ra_cons, wp_tup, wp_lst, wp_cb, wp_mt, wp_dict0, wp_sl, ro_none, ro_some, fs_seq, fs_nil, fs_brk, fs_cnt, fs_expr, fs_ret, fs_retN, fs_if, fs_set, fs_par, fs_asg, fs_sub, fs_aug, ri_val, ri_args, wp_some, wp_ok, wp_bind, List.map_cons, List.map_nil, List.length_cons, List.length_nil, List.replicate, List.cons_append, List.nil_append, List.getElem?_cons_zero, List.getElem?_cons_succ, List.set_cons_zero, List.set_cons_succ, Option.some.injEq, exists_eq_left', exists_eq_left, Nat.reduceAdd, Nat.reduceSub, Nat.reduceLeDiff, true_and, W.bl.injEq, W.int.injEq, W.str.injEq, W.tup.injEq, if_true, if_false, Bool.false_eq_true, Bool.not_true, Bool.not_false, truth_bl, truth_int, truth_tup, v_addI, v_subI, v_mod, v_fdiv, v_neg, v_lt, v_le, v_gt, v_ge, v_cint, v_cintB, v_cabs, v_cmax, v_cmin, v_lenT, v_lenF, v_ixT, v_ixF, v_revT, v_cutT, v_tupT, v_listT, v_eqI, v_neI, v_eqS, v_neS, Option.map_some, decide_eq_true_eq, decide_true, decide_false, and_self, and_true, Int.reduceToNat, Int.reduceNeg, Int.reduceLT, Int.reduceLE, Int.reduceAdd, Int.reduceSub, Int.reduceMul, Int.reduceBEq, Int.reduceBNe, Nat.reduceLT, Nat.reduceMul, Int.toNat_one, Int.toNat_zero, isStr, v_lenS h.str]
    by_cases h1 : 0 < s.length
    · by_cases h2 : s.length ≤ 8
      · have g1 : (0 : Int) < (s.length : Nat) := by omega
        have g2 : ((s.length : Nat) : Int) ≤ 8 := by omega
        simp only [two_eq, wo_addT, v_ipAdd, v_ipSub, wp_get2, rp_nil, rp_cons, wp_dict, isDct_new, ri_enumT, v_isNN, v_isNL, v_isNotN, v_isNotL, wp_fn, startW, wp_call, wp_C, wp_V, wp_bin, wp_un, wp_and, wp_or, wp_not, rt_V, rt_and, rt_or, rt_not, rt_bl, rt_yes, wp_if, wp_chain, ra_nil, ra_cons, wp_tup, wp_lst, wp_cb, wp_mt, wp_dict0, wp_sl, ro_none, ro_some, fs_seq, fs_nil, fs_brk, fs_cnt, fs_expr, fs_ret, fs_retN, fs_if, fs_set, fs_par, fs_asg, fs_sub, fs_aug, ri_val, ri_args, wp_some, wp_ok, wp_bind, List.map_cons, List.map_nil, List.length_cons, List.length_nil, List.replicate, List.cons_append, List.nil_append, List.getElem?_cons_zero, List.getElem?_cons_succ, List.set_cons_zero, List.set_cons_succ, Option.some.injEq, exists_eq_left', exists_eq_left, Nat.reduceAdd, Nat.reduceSub, Nat.reduceLeDiff, true_and, W.bl.injEq, W.int.injEq, W.str.injEq, W.tup.injEq, if_true, if_false, Bool.false_eq_true, Bool.not_true, Bool.not_false, truth_bl, truth_int, truth_tup, v_addI, v_subI, v_mod, v_fdiv, v_neg, v_lt, v_le, v_gt, v_ge, v_cint, v_cintB, v_cabs, v_cmax, v_cmin, v_lenT, v_lenF, v_ixT, v_ixF, v_revT, v_cutT, v_tupT, v_listT, v_eqI, v_neI, v_eqS, v_neS, Option.map_some, decide_eq_true_eq, decide_true, decide_false, and_self, and_true, Int.reduceToNat, Int.reduceNeg, Int.reduceLT, Int.reduceLE, Int.reduceAdd, Int.reduceSub, Int.reduceMul, Int.reduceBEq, Int.reduceBNe, Nat.reduceLT, Nat.reduceMul, Int.toNat_one, Int.toNat_zero, g1, g2]
        refine (lc_pure (signs s) (fun _ => true) (fun x => .bl (inLet x)) ?_ ?_ ?_).imp ?_
        · simp only [two_eq, wo_addT, v_ipAdd, v_ipSub, wp_get2, rp_nil, rp_cons, wp_dict, isDct_new, ri_enumT, v_isNN, v_isNL, v_isNotN, v_isNotL, wp_fn, startW, wp_call, wp_C, wp_V, wp_bin, wp_un, wp_and, wp_or, wp_not, rt_V, rt_and, rt_or, rt_not, rt_bl, rt_yes, wp_if, wp_chain, ra_nil, ra_cons, wp_tup, wp_lst, wp_cb, wp_mt, wp_dict0, wp_sl, ro_none, ro_some, fs_seq, fs_nil, fs_brk, fs_cnt, fs_expr, fs_ret, fs_retN, fs_if, fs_set, fs_par, fs_asg, fs_sub, fs_aug, ri_val, ri_args, wp_some, wp_ok, wp_bind, List.map_cons, List.map_nil, List.length_cons, List.length_nil, List.replicate, List.cons_append, List.nil_append, List.getElem?_cons_zero, List.getElem?_cons_succ, List.set_cons_zero, List.set_cons_succ, Option.some.injEq, exists_eq_left', exists_eq_left, Nat.reduceAdd, Nat.reduceSub, Nat.reduceLeDiff, true_and, W.bl.injEq, W.int.injEq, W.str.injEq, W.tup.injEq, if_true, if_false, Bool.false_eq_true, Bool.not_true, Bool.not_false, truth_bl, truth_int, truth_tup, v_addI, v_subI, v_mod, v_fdiv, v_neg, v_lt, v_le, v_gt, v_ge, v_cint, v_cintB, v_cabs, v_cmax, v_cmin, v_lenT, v_lenF, v_ixT, v_ixF, v_revT, v_cutT, v_tupT, v_listT, v_eqI, v_neI, v_eqS, v_neS, Option.map_some, decide_eq_true_eq, decide_true, decide_false, and_self, and_true, Int.reduceToNat, Int.reduceNeg, Int.reduceLT, Int.reduceLE, Int.reduceAdd, Int.reduceSub, Int.reduceMul, Int.reduceBEq, Int.reduceBNe, Nat.reduceLT, Nat.reduceMul, Int.toNat_one, Int.toNat_zero]
          exact ⟨.inl rfl, Fr.refl _ _⟩
        · simp only [signs, List.length_map]
          have : s.cps.toList.length = s.length := by simp [Str.length]
          omega
        · intro x hx μ1 f1
          obtain ⟨c, hc, rfl⟩ := signs_mem hx
          refine ⟨_, rfl, ?_⟩
          simp only [two_eq, wo_addT, v_ipAdd, v_ipSub, wp_get2, rp_nil, rp_cons, wp_dict, isDct_new, ri_enumT, v_isNN, v_isNL, v_isNotN, v_isNotL, wp_fn, startW, wp_call, wp_C, wp_V, wp_bin, wp_un, wp_and, wp_or, wp_not, rt_V, rt_and, rt_or, rt_not, rt_bl, rt_yes, wp_if, wp_chain, ra_nil, ra_cons, wp_tup, wp_lst, wp_cb, wp_mt, wp_dict0, wp_sl, ro_none, ro_some, fs_seq, fs_nil, fs_brk, fs_cnt, fs_expr, fs_ret, fs_retN, fs_if, fs_set, fs_par, fs_asg, fs_sub, fs_aug, ri_val, ri_args, wp_some, wp_ok, wp_bind, List.map_cons, List.map_nil, List.length_cons, List.length_nil, List.replicate, List.cons_append, List.nil_append, List.getElem?_cons_zero, List.getElem?_cons_succ, List.set_cons_zero, List.set_cons_succ, Option.some.injEq, exists_eq_left', exists_eq_left, Nat.reduceAdd, Nat.reduceSub, Nat.reduceLeDiff, true_and, W.bl.injEq, W.int.injEq, W.str.injEq, W.tup.injEq, if_true, if_false, Bool.false_eq_true, Bool.not_true, Bool.not_false, truth_bl, truth_int, truth_tup, v_addI, v_subI, v_mod, v_fdiv, v_neg, v_lt, v_le, v_gt, v_ge, v_cint, v_cintB, v_cabs, v_cmax, v_cmin, v_lenT, v_lenF, v_ixT, v_ixF, v_revT, v_cutT, v_tupT, v_listT, v_eqI, v_neI, v_eqS, v_neS, Option.map_some, decide_eq_true_eq, decide_true, decide_false, and_self, and_true, Int.reduceToNat, Int.reduceNeg, Int.reduceLT, Int.reduceLE, Int.reduceAdd, Int.reduceSub, Int.reduceMul, Int.reduceBEq, Int.reduceBNe, Nat.reduceLT, Nat.reduceMul, Int.toNat_one, Int.toNat_zero, wipeW, in_sign]
          exact ⟨Fr.refl _ _, fun _ => ⟨Fr.refl _ _, rfl⟩⟩
        · rintro r μ' ⟨k, rfl, hk, fr, _⟩
          have e : List.map (fun x => W.bl (inLet x)) (List.filter (fun x => true) (signs s)) = ((signs s).map inLet).map W.bl := by
            rw [List.filter_eq_self.mpr (by simp), List.map_map]
            rfl
          rw [e] at hk
          simp only [two_eq, wo_addT, v_ipAdd, v_ipSub, wp_get2, rp_nil, rp_cons, wp_dict, isDct_new, ri_enumT, v_isNN, v_isNL, v_isNotN, v_isNotL, wp_fn, startW, wp_call, wp_C, wp_V, wp_bin, wp_un, wp_and, wp_or, wp_not, rt_V, rt_and, rt_or, rt_not, rt_bl, rt_yes, wp_if, wp_chain, ra_nil, ra_cons, wp_tup, wp_lst, wp_cb, wp_mt, wp_dict0, wp_sl, ro_none, ro_some, fs_seq, fs_nil, fs_brk, fs_cnt, fs_expr, fs_ret, fs_retN, fs_if, fs_set, fs_par, fs_asg, fs_sub, fs_aug, ri_val, ri_args, wp_some, wp_ok, wp_bind, List.map_cons, List.map_nil, List.length_cons, List.length_nil, List.replicate, List.cons_append, List.nil_append, List.getElem?_cons_zero, List.getElem?_cons_succ, List.set_cons_zero, List.set_cons_succ, Option.some.injEq, exists_eq_left', exists_eq_left, Nat.reduceAdd, Nat.reduceSub, Nat.reduceLeDiff, true_and, W.bl.injEq, W.int.injEq, W.str.injEq, W.tup.injEq, if_true, if_false, Bool.false_eq_true, Bool.not_true, Bool.not_false, truth_bl, truth_int, truth_tup, v_addI, v_subI, v_mod, v_fdiv, v_neg, v_lt, v_le, v_gt, v_ge, v_cint, v_cintB, v_cabs, v_cmax, v_cmin, v_lenT, v_lenF, v_ixT, v_ixF, v_revT, v_cutT, v_tupT, v_listT, v_eqI, v_neI, v_eqS, v_neS, Option.map_some, decide_eq_true_eq, decide_true, decide_false, and_self, and_true, Int.reduceToNat, Int.reduceNeg, Int.reduceLT, Int.reduceLE, Int.reduceAdd, Int.reduceSub, Int.reduceMul, Int.reduceBEq, Int.reduceBNe, Nat.reduceLT, Nat.reduceMul, Int.toNat_one, Int.toNat_zero, v_all hk]
          refine ⟨?_, fr⟩
          rw [signs_all]
          simp only [isName, h1, h2, decide_true, Bool.true_and, inLet, List.all_map]
          rfl
      · have g1 : (0 : Int) < (s.length : Nat) := by omega
        have g2 : ¬ ((s.length : Nat) : Int) ≤ 8 := by omega
        simp only [two_eq, wo_addT, v_ipAdd, v_ipSub, wp_get2, rp_nil, rp_cons, wp_dict, isDct_new, ri_enumT, v_isNN, v_isNL, v_isNotN, v_isNotL, wp_fn, startW, wp_call, wp_C, wp_V, wp_bin, wp_un, wp_and, wp_or, wp_not, rt_V, rt_and, rt_or, rt_not, rt_bl, rt_yes, wp_if, wp_chain, ra_nil, ra_cons, wp_tup, wp_lst, wp_cb, wp_mt, wp_dict0, wp_sl, ro_none, ro_some, fs_seq, fs_nil, fs_brk, fs_cnt, fs_expr, fs_ret, fs_retN, fs_if, fs_set, fs_par, fs_asg, fs_sub, fs_aug, ri_val, ri_args, wp_some, wp_ok, wp_bind, List.map_cons, List.map_nil, List.length_cons, List.length_nil, List.replicate, List.cons_append, List.nil_append, List.getElem?_cons_zero, List.getElem?_cons_succ, List.set_cons_zero, List.set_cons_succ, Option.some.injEq, exists_eq_left', exists_eq_left, Nat.reduceAdd, Nat.reduceSub, Nat.reduceLeDiff, true_and, W.bl.injEq, W.int.injEq, W.str.injEq, W.tup.injEq, if_true, if_false, Bool.false_eq_true, Bool.not_true, Bool.not_false, truth_bl, truth_int, truth_tup, v_addI, v_subI, v_mod, v_fdiv, v_neg, v_lt, v_le, v_gt, v_ge, v_cint, v_cintB, v_cabs, v_cmax, v_cmin, v_lenT, v_lenF, v_ixT, v_ixF, v_revT, v_cutT, v_tupT, v_listT, v_eqI, v_neI, v_eqS, v_neS, Option.map_some, decide_eq_true_eq, decide_true, decide_false, and_self, and_true, Int.reduceToNat, Int.reduceNeg, Int.reduceLT, Int.reduceLE, Int.reduceAdd, Int.reduceSub, Int.reduceMul, Int.reduceBEq, Int.reduceBNe, Nat.reduceLT, Nat.reduceMul, Int.toNat_one, Int.toNat_zero, g1, g2]
        exact ⟨by simp [isName, h2], Fr.refl _ _⟩
    · have g1 : ¬ (0 : Int) < (s.length : Nat) := by omega
      simp only [two_eq, wo_addT, v_ipAdd, v_ipSub, wp_get2, rp_nil, rp_cons, wp_dict, isDct_new, ri_enumT, v_isNN, v_isNL, v_isNotN, v_isNotL, wp_fn, startW, wp_call, wp_C, wp_V, wp_bin, wp_un, wp_and, wp_or, wp_not, rt_V, rt_and, rt_or, rt_not, rt_bl, rt_yes, wp_if, wp_chain, ra_nil, ra_cons, wp_tup, wp_lst, wp_cb, wp_mt, wp_dict0, wp_sl, ro_none, ro_some, fs_seq, fs_nil, fs_brk, fs_cnt, fs_expr, fs_ret, fs_retN, fs_if, fs_set, fs_par, fs_asg, fs_sub, fs_aug, ri_val, ri_args, wp_some, wp_ok, wp_bind, List.map_cons, List.map_nil, List.length_cons, List.length_nil, List.replicate, List.cons_append, List.nil_append, List.getElem?_cons_zero, List.getElem?_cons_succ, List.set_cons_zero, List.set_cons_succ, Option.some.injEq, exists_eq_left', exists_eq_left, Nat.reduceAdd, Nat.reduceSub, Nat.reduceLeDiff, true_and, W.bl.injEq, W.int.injEq, W.str.injEq, W.tup.injEq, if_true, if_false, Bool.false_eq_true, Bool.not_true, Bool.not_false, truth_bl, truth_int, truth_tup, v_addI, v_subI, v_mod, v_fdiv, v_neg, v_lt, v_le, v_gt, v_ge, v_cint, v_cintB, v_cabs, v_cmax, v_cmin, v_lenT, v_lenF, v_ixT, v_ixF, v_revT, v_cutT, v_tupT, v_listT, v_eqI, v_neI, v_eqS, v_neS, Option.map_some, decide_eq_true_eq, decide_true, decide_false, and_self, and_true, Int.reduceToNat, Int.reduceNeg, Int.reduceLT, Int.reduceLE, Int.reduceAdd, Int.reduceSub, Int.reduceMul, Int.reduceBEq, Int.reduceBNe, Nat.reduceLT, Nat.reduceMul, Int.toNat_one, Int.toNat_zero, g1]
      exact ⟨by simp [isName, h1], Fr.refl _ _⟩
  | _ =>
    simp only [two_eq, wo_addT, v_ipAdd, v_ipSub, wp_get2, rp_nil, rp_cons, wp_dict, isDct_new, ri_enumT, v_isNN, v_isNL, v_isNotN, v_isNotL, wp_fn, startW, wp_call, wp_C, wp_V, wp_bin, wp_un, wp_and, wp_or, wp_not, rt_V, rt_and, rt_or, rt_not, rt_bl, rt_yes, wp_if, wp_chain, ra_nil, ra_cons, wp_tup, wp_lst, wp_cb, wp_mt, wp_dict0, wp_sl, ro_none, ro_some, fs_seq, fs_nil, fs_brk, fs_cnt, fs_expr, fs_ret, fs_retN, fs_if, fs_set, fs_par, fs_asg, fs_sub, fs_aug, ri_val, ri_args, wp_some, wp_ok, wp_bind, List.map_cons, List.map_nil, List.length_cons, List.length_nil, List.replicate, List.cons_append, List.nil_append, List.getElem?_cons_zero, List.getElem?_cons_succ, List.set_cons_zero, List.set_cons_succ, Option.some.injEq, exists_eq_left', exists_eq_left, Nat.reduceAdd, Nat.reduceSub, Nat.reduceLeDiff, true_and, W.bl.injEq, W.int.injEq, W.str.injEq, W.tup.injEq, if_true, if_false, Bool.false_eq_true, Bool.not_true, Bool.not_false, truth_bl, truth_int, truth_tup, v_addI, v_subI, v_mod, v_fdiv, v_neg, v_lt, v_le, v_gt, v_ge, v_cint, v_cintB, v_cabs, v_cmax, v_cmin, v_lenT, v_lenF, v_ixT, v_ixF, v_revT, v_cutT, v_tupT, v_listT, v_eqI, v_neI, v_eqS, v_neS, Option.map_some, decide_eq_true_eq, decide_true, decide_false, and_self, and_true, Int.reduceToNat, Int.reduceNeg, Int.reduceLT, Int.reduceLE, Int.reduceAdd, Int.reduceSub, Int.reduceMul, Int.reduceBEq, Int.reduceBNe, Nat.reduceLT, Nat.reduceMul, Int.toNat_one, Int.toNat_zero, isStr]
    exact ⟨rfl, Fr.refl _ _⟩
theorem law_is_name_w {μ : Mem} {w : W} (h : Vl μ w) : Rw (g__law_is_name [w] μ) fun r μ' => r = .bl (isName w) ∧ Fr [] μ μ' := by
  unfold g__law_is_name b__law_is_name
  simp only [two_eq, wo_addT, v_ipAdd, v_ipSub, wp_get2, rp_nil, rp_cons, wp_dict, isDct_new, ri_enumT, v_isNN, v_isNL, v_isNotN, v_isNotL, wp_fn, startW, wp_call, wp_C, wp_V, wp_bin, wp_un, wp_and, wp_or, wp_not, rt_V, rt_and, rt_or, rt_not, rt_bl, rt_yes, wp_if, wp_chain, ra_nil, ra_cons, wp_tup, wp_lst, wp_cb, wp_mt, wp_dict0, wp_sl, ro_none, ro_some, fs_seq, fs_nil, fs_brk, fs_cnt, fs_expr, fs_ret, fs_retN, fs_if, fs_set, fs_par, fs_asg, fs_sub, fs_aug, ri_val, ri_args, wp_some, wp_ok, wp_bind, List.map_cons, List.map_nil, List.length_cons, List.length_nil, List.replicate, List.cons_append, List.nil_append, List.getElem?_cons_zero, List.getElem?_cons_succ, List.set_cons_zero, List.set_cons_succ, Option.some.injEq, exists_eq_left', exists_eq_left, Nat.reduceAdd, Nat.reduceSub, Nat.reduceLeDiff, true_and, W.bl.injEq, W.int.injEq, W.str.injEq, W.tup.injEq, if_true, if_false, Bool.false_eq_true, Bool.not_true, Bool.not_false, truth_bl, truth_int, truth_tup, v_addI, v_subI, v_mod, v_fdiv, v_neg, v_lt, v_le, v_gt, v_ge, v_cint, v_cintB, v_cabs, v_cmax, v_cmin, v_lenT, v_lenF, v_ixT, v_ixF, v_revT, v_cutT, v_tupT, v_listT, v_eqI, v_neI, v_eqS, v_neS, Option.map_some, decide_eq_true_eq, decide_true, decide_false, and_self, and_true, Int.reduceToNat, Int.reduceNeg, Int.reduceLT, Int.reduceLE, Int.reduceAdd, Int.reduceSub, Int.reduceMul, Int.reduceBEq, Int.reduceBNe, Nat.reduceLT, Nat.reduceMul, Int.toNat_one, Int.toNat_zero, isi_str h]
  cases w with
  | str s =>
    simp only [two_eq, wo_addT, v_ipAdd, v_ipSub, wp_get2, rp_nil, rp_cons, wp_dict, isDct_new, ri_enumT, v_isNN, v_isNL, v_isNotN, v_isNotL, wp_fn, startW, wp_call, wp_C, wp_V, wp_bin, wp_un, wp_and, wp_or, wp_not, rt_V, rt_and, rt_or, rt_not, rt_bl, rt_yes, wp_if, wp_chain, ra_nil, ra_cons, wp_tup, wp_lst, wp_cb, wp_mt, wp_dict0, wp_sl, ro_none, ro_some, fs_seq, fs_nil, fs_brk, fs_cnt, fs_expr, fs_ret, fs_retN, fs_if, fs_set, fs_par, fs_asg, fs_sub, fs_aug, ri_val, ri_args, wp_some, wp_ok, wp_bind, List.map_cons, List.map_nil, List.length_cons, List.length_nil, List.replicate, List.cons_append, List.nil_append, List.getElem?_cons_zero, List.getElem?_cons_succ, List.set_cons_zero, List.set_cons_succ, Option.some.injEq, exists_eq_left', exists_eq_left, Nat.reduceAdd, Nat.reduceSub, Nat.reduceLeDiff, true_and, W.bl.injEq, W.int.injEq, W.str.injEq, W.tup.injEq, if_true, if_false, Bool.false_eq_true, Bool.not_true, Bool.not_false, truth_bl, truth_int, truth_tup, v_addI, v_subI, v_mod, v_fdiv, v_neg, v_lt, v_le, v_gt, v_ge, v_cint, v_cintB, v_cabs, v_cmax, v_cmin, v_lenT, v_lenF, v_ixT, v_ixF, v_revT, v_cutT, v_tupT, v_listT, v_eqI, v_neI, v_eqS, v_neS, Option.map_some, decide_eq_true_eq, decide_true, decide_false, and_self, and_true, Int.reduceToNat, Int.reduceNeg, Int.reduceLT, Int.reduceLE, Int.reduceAdd, Int.reduceSub, Int.reduceMul, Int.reduceBEq, Int.reduceBNe, Nat.reduceLT, Nat.reduceMul, Int.toNat_one, Int.toNat_zero, isStr, v_lenS h.str]
    have er : cRange [.int 1, .int 9] μ = some (.loc μ.length, μ ++ [.rng 1 9]) := rfl
    have e2 : opNin (.int (s.length : Nat)) (.loc μ.length) (μ ++ [.rng 1 9]) = some (.bl (!decide (1 ≤ (s.length : Int) ∧ (s.length : Int) < 9)), μ ++ [.rng 1 9]) := by simp [opNin, inM]
    simp only [two_eq, wo_addT, v_ipAdd, v_ipSub, wp_get2, rp_nil, rp_cons, wp_dict, isDct_new, ri_enumT, v_isNN, v_isNL, v_isNotN, v_isNotL, wp_fn, startW, wp_call, wp_C, wp_V, wp_bin, wp_un, wp_and, wp_or, wp_not, rt_V, rt_and, rt_or, rt_not, rt_bl, rt_yes, wp_if, wp_chain, ra_nil, ra_cons, wp_tup, wp_lst, wp_cb, wp_mt, wp_dict0, wp_sl, ro_none, ro_some, fs_seq, fs_nil, fs_brk, fs_cnt, fs_expr, fs_ret, fs_retN, fs_if, fs_set, fs_par, fs_asg, fs_sub, fs_aug, ri_val, ri_args, wp_some, wp_ok, wp_bind, List.map_cons, List.map_nil, List.length_cons, List.length_nil, List.replicate, List.cons_append, List.nil_append, List.getElem?_cons_zero, List.getElem?_cons_succ, List.set_cons_zero, List.set_cons_succ, Option.some.injEq, exists_eq_left', exists_eq_left, Nat.reduceAdd, Nat.reduceSub, Nat.reduceLeDiff, true_and, W.bl.injEq, W.int.injEq, W.str.injEq, W.tup.injEq, if_true, if_false, Bool.false_eq_true, Bool.not_true, Bool.not_false, truth_bl, truth_int, truth_tup, v_addI, v_subI, v_mod, v_fdiv, v_neg, v_lt, v_le, v_gt, v_ge, v_cint, v_cintB, v_cabs, v_cmax, v_cmin, v_lenT, v_lenF, v_ixT, v_ixF, v_revT, v_cutT, v_tupT, v_listT, v_eqI, v_neI, v_eqS, v_neS, Option.map_some, decide_eq_true_eq, decide_true, decide_false, and_self, and_true, Int.reduceToNat, Int.reduceNeg, Int.reduceLT, Int.reduceLE, Int.reduceAdd, Int.reduceSub, Int.reduceMul, Int.reduceBEq, Int.reduceBNe, Nat.reduceLT, Nat.reduceMul, Int.toNat_one, Int.toNat_zero, er, e2]
    by_cases h1 : 0 < s.length ∧ s.length ≤ 8
    · have g1 : (1 : Int) ≤ (s.length : Nat) := by omega
      have g2 : ((s.length : Nat) : Int) < 9 := by omega
      simp only [two_eq, wo_addT, v_ipAdd, v_ipSub, wp_get2, rp_nil, rp_cons, wp_dict, isDct_new, ri_enumT, v_isNN, v_isNL, v_isNotN, v_isNotL, wp_fn, startW, wp_call, wp_C, wp_V, wp_bin, wp_un, wp_and, wp_or, wp_not, rt_V, rt_and, rt_or, rt_not, rt_bl, rt_yes, wp_if, wp_chain, ra_nil, ra_cons, wp_tup, wp_lst, wp_cb, wp_mt, wp_dict0, wp_sl, ro_none, ro_some, fs_seq, fs_nil, fs_brk, fs_cnt, fs_expr, fs_ret, fs_retN, fs_if, fs_set, fs_par, fs_asg, fs_sub, fs_aug, ri_val, ri_args, wp_some, wp_ok, wp_bind, List.map_cons, List.map_nil, List.length_cons, List.length_nil, List.replicate, List.cons_append, List.nil_append, List.getElem?_cons_zero, List.getElem?_cons_succ, List.set_cons_zero, List.set_cons_succ, Option.some.injEq, exists_eq_left', exists_eq_left, Nat.reduceAdd, Nat.reduceSub, Nat.reduceLeDiff, true_and, W.bl.injEq, W.int.injEq, W.str.injEq, W.tup.injEq, if_true, if_false, Bool.false_eq_true, Bool.not_true, Bool.not_false, truth_bl, truth_int, truth_tup, v_addI, v_subI, v_mod, v_fdiv, v_neg, v_lt, v_le, v_gt, v_ge, v_cint, v_cintB, v_cabs, v_cmax, v_cmin, v_lenT, v_lenF, v_ixT, v_ixF, v_revT, v_cutT, v_tupT, v_listT, v_eqI, v_neI, v_eqS, v_neS, Option.map_some, decide_eq_true_eq, decide_true, decide_false, and_self, and_true, Int.reduceToNat, Int.reduceNeg, Int.reduceLT, Int.reduceLE, Int.reduceAdd, Int.reduceSub, Int.reduceMul, Int.reduceBEq, Int.reduceBNe, Nat.reduceLT, Nat.reduceMul, Int.toNat_one, Int.toNat_zero, g1, g2]
      refine (lc_pure (signs s) (fun x => !inLet x) (fun x => x) ?_ ?_ ?_).imp ?_
      · simp only [two_eq, wo_addT, v_ipAdd, v_ipSub, wp_get2, rp_nil, rp_cons, wp_dict, isDct_new, ri_enumT, v_isNN, v_isNL, v_isNotN, v_isNotL, wp_fn, startW, wp_call, wp_C, wp_V, wp_bin, wp_un, wp_and, wp_or, wp_not, rt_V, rt_and, rt_or, rt_not, rt_bl, rt_yes, wp_if, wp_chain, ra_nil, ra_cons, wp_tup, wp_lst, wp_cb, wp_mt, wp_dict0, wp_sl, ro_none, ro_some, fs_seq, fs_nil, fs_brk, fs_cnt, fs_expr, fs_ret, fs_retN, fs_if, fs_set, fs_par, fs_asg, fs_sub, fs_aug, ri_val, ri_args, wp_some, wp_ok, wp_bind, List.map_cons, List.map_nil, List.length_cons, List.length_nil, List.replicate, List.cons_append, List.nil_append, List.getElem?_cons_zero, List.getElem?_cons_succ, List.set_cons_zero, List.set_cons_succ, Option.some.injEq, exists_eq_left', exists_eq_left, Nat.reduceAdd, Nat.reduceSub, Nat.reduceLeDiff, true_and, W.bl.injEq, W.int.injEq, W.str.injEq, W.tup.injEq, if_true, if_false, Bool.false_eq_true, Bool.not_true, Bool.not_false, truth_bl, truth_int, truth_tup, v_addI, v_subI, v_mod, v_fdiv, v_neg, v_lt, v_le, v_gt, v_ge, v_cint, v_cintB, v_cabs, v_cmax, v_cmin, v_lenT, v_lenF, v_ixT, v_ixF, v_revT, v_cutT, v_tupT, v_listT, v_eqI, v_neI, v_eqS, v_neS, Option.map_some, decide_eq_true_eq, decide_true, decide_false, and_self, and_true, Int.reduceToNat, Int.reduceNeg, Int.reduceLT, Int.reduceLE, Int.reduceAdd, Int.reduceSub, Int.reduceMul, Int.reduceBEq, Int.reduceBNe, Nat.reduceLT, Nat.reduceMul, Int.toNat_one, Int.toNat_zero]
        exact ⟨.inl rfl, Fr.refl _ _⟩
      · simp only [signs, List.length_map]
        have : s.cps.toList.length = s.length := by simp [Str.length]
        omega
      · intro x hx μ1 f1
        obtain ⟨c, hc, rfl⟩ := signs_mem hx
        refine ⟨_, rfl, ?_⟩
        simp only [two_eq, wo_addT, v_ipAdd, v_ipSub, wp_get2, rp_nil, rp_cons, wp_dict, isDct_new, ri_enumT, v_isNN, v_isNL, v_isNotN, v_isNotL, wp_fn, startW, wp_call, wp_C, wp_V, wp_bin, wp_un, wp_and, wp_or, wp_not, rt_V, rt_and, rt_or, rt_not, rt_bl, rt_yes, wp_if, wp_chain, ra_nil, ra_cons, wp_tup, wp_lst, wp_cb, wp_mt, wp_dict0, wp_sl, ro_none, ro_some, fs_seq, fs_nil, fs_brk, fs_cnt, fs_expr, fs_ret, fs_retN, fs_if, fs_set, fs_par, fs_asg, fs_sub, fs_aug, ri_val, ri_args, wp_some, wp_ok, wp_bind, List.map_cons, List.map_nil, List.length_cons, List.length_nil, List.replicate, List.cons_append, List.nil_append, List.getElem?_cons_zero, List.getElem?_cons_succ, List.set_cons_zero, List.set_cons_succ, Option.some.injEq, exists_eq_left', exists_eq_left, Nat.reduceAdd, Nat.reduceSub, Nat.reduceLeDiff, true_and, W.bl.injEq, W.int.injEq, W.str.injEq, W.tup.injEq, if_true, if_false, Bool.false_eq_true, Bool.not_true, Bool.not_false, truth_bl, truth_int, truth_tup, v_addI, v_subI, v_mod, v_fdiv, v_neg, v_lt, v_le, v_gt, v_ge, v_cint, v_cintB, v_cabs, v_cmax, v_cmin, v_lenT, v_lenF, v_ixT, v_ixF, v_revT, v_cutT, v_tupT, v_listT, v_eqI, v_neI, v_eqS, v_neS, Option.map_some, decide_eq_true_eq, decide_true, decide_false, and_self, and_true, Int.reduceToNat, Int.reduceNeg, Int.reduceLT, Int.reduceLE, Int.reduceAdd, Int.reduceSub, Int.reduceMul, Int.reduceBEq, Int.reduceBNe, Nat.reduceLT, Nat.reduceMul, Int.toNat_one, Int.toNat_zero, wipeW, nin_sign]
        exact ⟨Fr.refl _ _, rfl, fun _ => Fr.refl _ _⟩
      · rintro r μ' ⟨k, rfl, hk, fr, _⟩
        have hd : ∃ ds, mapO (toD (μ' ++ [.lst []]) 39) (List.map (fun x => x) (List.filter (fun x => !inLet x) (signs s))) = some ds := mapO_all fun x hx => by
          rw [List.map_id'] at hx
          obtain ⟨c, _, rfl⟩ := signs_mem (List.mem_filter.mp hx).1
          exact ⟨_, rfl⟩
        simp only [two_eq, wo_addT, v_ipAdd, v_ipSub, wp_get2, rp_nil, rp_cons, wp_dict, isDct_new, ri_enumT, v_isNN, v_isNL, v_isNotN, v_isNotL, wp_fn, startW, wp_call, wp_C, wp_V, wp_bin, wp_un, wp_and, wp_or, wp_not, rt_V, rt_and, rt_or, rt_not, rt_bl, rt_yes, wp_if, wp_chain, ra_nil, ra_cons, wp_tup, wp_lst, wp_cb, wp_mt, wp_dict0, wp_sl, ro_none, ro_some, fs_seq, fs_nil, fs_brk, fs_cnt, fs_expr, fs_ret, fs_retN, fs_if, fs_set, fs_par, fs_asg, fs_sub, fs_aug, ri_val, ri_args, wp_some, wp_ok, wp_bind, List.map_cons, List.map_nil, List.length_cons, List.length_nil, List.replicate, List.cons_append, List.nil_append, List.getElem?_cons_zero, List.getElem?_cons_succ, List.set_cons_zero, List.set_cons_succ, Option.some.injEq, exists_eq_left', exists_eq_left, Nat.reduceAdd, Nat.reduceSub, Nat.reduceLeDiff, true_and, W.bl.injEq, W.int.injEq, W.str.injEq, W.tup.injEq, if_true, if_false, Bool.false_eq_true, Bool.not_true, Bool.not_false, truth_bl, truth_int, truth_tup, v_addI, v_subI, v_mod, v_fdiv, v_neg, v_lt, v_le, v_gt, v_ge, v_cint, v_cintB, v_cabs, v_cmax, v_cmin, v_lenT, v_lenF, v_ixT, v_ixF, v_revT, v_cutT, v_tupT, v_listT, v_eqI, v_neI, v_eqS, v_neS, Option.map_some, decide_eq_true_eq, decide_true, decide_false, and_self, and_true, Int.reduceToNat, Int.reduceNeg, Int.reduceLT, Int.reduceLE, Int.reduceAdd, Int.reduceSub, Int.reduceMul, Int.reduceBEq, Int.reduceBNe, Nat.reduceLT, Nat.reduceMul, Int.toNat_one, Int.toNat_zero, v_eq0 (getL_app hk) hd getL_new]
        refine ⟨?_, ((Fr.app _ _ _).trans fr).trans (Fr.app _ _ _)⟩
        rw [List.map_id']
        simp only [isName, h1.1, h1.2, decide_true, Bool.true_and]
        rw [Bool.eq_iff_iff]
        rw [List.isEmpty_iff, List.filter_eq_nil_iff, List.all_eq_true]
        constructor
        · intro k c hc
          have := k (.str ⟨#[c]⟩) (List.mem_map.mpr ⟨c, hc, rfl⟩)
          simpa [inLet] using this
        · intro k x hx
          obtain ⟨c, hc, rfl⟩ := signs_mem hx
          have := k c hc
          simpa [inLet] using this
    · have g1 : ¬ ((1 : Int) ≤ (s.length : Nat) ∧ ((s.length : Nat) : Int) < 9) := by omega
      simp only [two_eq, wo_addT, v_ipAdd, v_ipSub, wp_get2, rp_nil, rp_cons, wp_dict, isDct_new, ri_enumT, v_isNN, v_isNL, v_isNotN, v_isNotL, wp_fn, startW, wp_call, wp_C, wp_V, wp_bin, wp_un, wp_and, wp_or, wp_not, rt_V, rt_and, rt_or, rt_not, rt_bl, rt_yes, wp_if, wp_chain, ra_nil, ra_cons, wp_tup, wp_lst, wp_cb, wp_mt, wp_dict0, wp_sl, ro_none, ro_some, fs_seq, fs_nil, fs_brk, fs_cnt, fs_expr, fs_ret, fs_retN, fs_if, fs_set, fs_par, fs_asg, fs_sub, fs_aug, ri_val, ri_args, wp_some, wp_ok, wp_bind, List.map_cons, List.map_nil, List.length_cons, List.length_nil, List.replicate, List.cons_append, List.nil_append, List.getElem?_cons_zero, List.getElem?_cons_succ, List.set_cons_zero, List.set_cons_succ, Option.some.injEq, exists_eq_left', exists_eq_left, Nat.reduceAdd, Nat.reduceSub, Nat.reduceLeDiff, true_and, W.bl.injEq, W.int.injEq, W.str.injEq, W.tup.injEq, if_true, if_false, Bool.false_eq_true, Bool.not_true, Bool.not_false, truth_bl, truth_int, truth_tup, v_addI, v_subI, v_mod, v_fdiv, v_neg, v_lt, v_le, v_gt, v_ge, v_cint, v_cintB, v_cabs, v_cmax, v_cmin, v_lenT, v_lenF, v_ixT, v_ixF, v_revT, v_cutT, v_tupT, v_listT, v_eqI, v_neI, v_eqS, v_neS, Option.map_some, decide_eq_true_eq, decide_true, decide_false, and_self, and_true, Int.reduceToNat, Int.reduceNeg, Int.reduceLT, Int.reduceLE, Int.reduceAdd, Int.reduceSub, Int.reduceMul, Int.reduceBEq, Int.reduceBNe, Nat.reduceLT, Nat.reduceMul, Int.toNat_one, Int.toNat_zero, g1]
      refine ⟨?_, Fr.app _ _ _⟩
      simp only [isName]
      by_cases h2 : 0 < s.length
      · have : ¬ s.length ≤ 8 := fun z => h1 ⟨h2, z⟩
        simp [this]
      · simp [h2]
  | _ =>
    simp only [two_eq, wo_addT, v_ipAdd, v_ipSub, wp_get2, rp_nil, rp_cons, wp_dict, isDct_new, ri_enumT, v_isNN, v_isNL, v_isNotN, v_isNotL, wp_fn, startW, wp_call, wp_C, wp_V, wp_bin, wp_un, wp_and, wp_or, wp_not, rt_V, rt_and, rt_or, rt_not, rt_bl, rt_yes, wp_if, wp_chain, ra_nil, ra_cons, wp_tup, wp_lst, wp_cb, wp_mt, wp_dict0, wp_sl, ro_none, ro_some, fs_seq, fs_nil, fs_brk, fs_cnt, fs_expr, fs_ret, fs_retN, fs_if, fs_set, fs_par, fs_asg, fs_sub, fs_aug, ri_val, ri_args, wp_some, wp_ok, wp_bind, List.map_cons, List.map_nil, List.length_cons, List.length_nil, List.replicate, List.cons_append, List.nil_append, List.getElem?_cons_zero, List.getElem?_cons_succ, List.set_cons_zero, List.set_cons_succ, Option.some.injEq, exists_eq_left', exists_eq_left, Nat.reduceAdd, Nat.reduceSub, Nat.reduceLeDiff, true_and, W.bl.injEq, W.int.injEq, W.str.injEq, W.tup.injEq, if_true, if_false, Bool.false_eq_true, Bool.not_true, Bool.not_false, truth_bl, truth_int, truth_tup, v_addI, v_subI, v_mod, v_fdiv, v_neg, v_lt, v_le, v_gt, v_ge, v_cint, v_cintB, v_cabs, v_cmax, v_cmin, v_lenT, v_lenF, v_ixT, v_ixF, v_revT, v_cutT, v_tupT, v_listT, v_eqI, v_neI, v_eqS, v_neS, Option.map_some, decide_eq_true_eq, decide_true, decide_false, and_self, and_true, Int.reduceToNat, Int.reduceNeg, Int.reduceLT, Int.reduceLE, Int.reduceAdd, Int.reduceSub, Int.reduceMul, Int.reduceBEq, Int.reduceBNe, Nat.reduceLT, Nat.reduceMul, Int.toNat_one, Int.toNat_zero, isStr]
    exact ⟨rfl, Fr.refl _ _⟩

def okTag (a : Str) : Bool := ("in" : Str) == a || ("out" : Str) == a || ("say" : Str) == a
def tagW : W → Bool
  | .str a => okTag a
  | _ => false
def isLine : W → Bool
  | .tup [a, b] => tagW a && isName b
  | _ => false
theorem item_gd {μ : Mem} {xs : List W} (h : Vl μ (.tup xs)) {x : W} (hx : x ∈ xs) : Gd μ 20 x := by
  rcases h with h | ⟨k, kvs, e, h⟩
  · exact (h.2 x hx).up (by decide)
  · cases e
theorem in_tags {μ : Mem} {w : W} (h : Gd μ 20 w) : opIn w (.tup [.str "in", .str "out", .str "say"]) μ = some (.bl (tagW w), μ) := by
  have key : ∀ d, toD μ 40 w = some d → opIn w (.tup [.str "in", .str "out", .str "say"]) μ = some (.bl (PyData.eqv (.str "in") d || (PyData.eqv (.str "out") d || PyData.eqv (.str "say") d)), μ) := fun d e => by
    simp [opIn, inM, e, mapO, toD]
  obtain ⟨d, e⟩ := (h.up (j := 40) (by decide)).toD
  rw [key d e]
  congr 3
  cases w with
  | non => cases e; rfl
  | bl b => cases e; rfl
  | int i => cases e; rfl
  | str a =>
    cases e
    simp [PyData.eqv, tagW, okTag, Bool.or_assoc]
  | tup xs =>
    simp only [toD, Option.map_eq_some_iff] at e
    obtain ⟨ds, _, rfl⟩ := e
    rfl
  | loc n =>
    simp only [toD] at e
    cases q : getL μ n with
    | none => rw [q] at e; cases e
    | some xs =>
      rw [q] at e
      simp only [Option.map_eq_some_iff] at e
      obtain ⟨ds, _, rfl⟩ := e
      rfl
  | fl xs => exact h.elim
  | st v => exact h.elim
theorem name_str {w : W} (h : isStr w = false) : isName w = false := by
  cases w <;> first | rfl | cases h
theorem tag_str {w : W} (h : isStr w = false) : tagW w = false := by
  cases w <;> first | rfl | cases h
theorem is_line_w {μ : Mem} {w : W} (h : Vl μ w) : Rw (g_is_line [w] μ) fun r μ' => r = .bl (isLine w) ∧ Fr [] μ μ' := by
  unfold g_is_line b_is_line
  simp only [two_eq, wo_addT, v_ipAdd, v_ipSub, wp_get2, rp_nil, rp_cons, wp_dict, isDct_new, ri_enumT, v_isNN, v_isNL, v_isNotN, v_isNotL, wp_fn, startW, wp_call, wp_C, wp_V, wp_bin, wp_un, wp_and, wp_or, wp_not, rt_V, rt_and, rt_or, rt_not, rt_bl, rt_yes, wp_if, wp_chain, ra_nil, ra_cons, wp_tup, wp_lst, wp_cb, wp_mt, wp_dict0, wp_sl, ro_none, ro_some, fs_seq, fs_nil, fs_brk, fs_cnt, fs_expr, fs_ret, fs_retN, fs_if, fs_set, fs_par, fs_asg, fs_sub, fs_aug, ri_val, ri_args, wp_some, wp_ok, wp_bind, List.map_cons, List.map_nil, List.length_cons, List.length_nil, List.replicate, List.cons_append, List.nil_append, List.getElem?_cons_zero, List.getElem?_cons_succ, List.set_cons_zero, List.set_cons_succ, Option.some.injEq, exists_eq_left', exists_eq_left, Nat.reduceAdd, Nat.reduceSub, Nat.reduceLeDiff, true_and, W.bl.injEq, W.int.injEq, W.str.injEq, W.tup.injEq, if_true, if_false, Bool.false_eq_true, Bool.not_true, Bool.not_false, truth_bl, truth_int, truth_tup, v_addI, v_subI, v_mod, v_fdiv, v_neg, v_lt, v_le, v_gt, v_ge, v_cint, v_cintB, v_cabs, v_cmax, v_cmin, v_lenT, v_lenF, v_ixT, v_ixF, v_revT, v_cutT, v_tupT, v_listT, v_eqI, v_neI, v_eqS, v_neS, Option.map_some, decide_eq_true_eq, decide_true, decide_false, and_self, and_true, Int.reduceToNat, Int.reduceNeg, Int.reduceLT, Int.reduceLE, Int.reduceAdd, Int.reduceSub, Int.reduceMul, Int.reduceBEq, Int.reduceBNe, Nat.reduceLT, Nat.reduceMul, Int.toNat_one, Int.toNat_zero, isi_tup h]
  cases w with
  | tup xs =>
    simp only [two_eq, wo_addT, v_ipAdd, v_ipSub, wp_get2, rp_nil, rp_cons, wp_dict, isDct_new, ri_enumT, v_isNN, v_isNL, v_isNotN, v_isNotL, wp_fn, startW, wp_call, wp_C, wp_V, wp_bin, wp_un, wp_and, wp_or, wp_not, rt_V, rt_and, rt_or, rt_not, rt_bl, rt_yes, wp_if, wp_chain, ra_nil, ra_cons, wp_tup, wp_lst, wp_cb, wp_mt, wp_dict0, wp_sl, ro_none, ro_some, fs_seq, fs_nil, fs_brk, fs_cnt, fs_expr, fs_ret, fs_retN, fs_if, fs_set, fs_par, fs_asg, fs_sub, fs_aug, ri_val, ri_args, wp_some, wp_ok, wp_bind, List.map_cons, List.map_nil, List.length_cons, List.length_nil, List.replicate, List.cons_append, List.nil_append, List.getElem?_cons_zero, List.getElem?_cons_succ, List.set_cons_zero, List.set_cons_succ, Option.some.injEq, exists_eq_left', exists_eq_left, Nat.reduceAdd, Nat.reduceSub, Nat.reduceLeDiff, true_and, W.bl.injEq, W.int.injEq, W.str.injEq, W.tup.injEq, if_true, if_false, Bool.false_eq_true, Bool.not_true, Bool.not_false, truth_bl, truth_int, truth_tup, v_addI, v_subI, v_mod, v_fdiv, v_neg, v_lt, v_le, v_gt, v_ge, v_cint, v_cintB, v_cabs, v_cmax, v_cmin, v_lenT, v_lenF, v_ixT, v_ixF, v_revT, v_cutT, v_tupT, v_listT, v_eqI, v_neI, v_eqS, v_neS, Option.map_some, decide_eq_true_eq, decide_true, decide_false, and_self, and_true, Int.reduceToNat, Int.reduceNeg, Int.reduceLT, Int.reduceLE, Int.reduceAdd, Int.reduceSub, Int.reduceMul, Int.reduceBEq, Int.reduceBNe, Nat.reduceLT, Nat.reduceMul, Int.toNat_one, Int.toNat_zero, isTup]
    match xs, h with
    | [], h =>
      simp only [two_eq, wo_addT, v_ipAdd, v_ipSub, wp_get2, rp_nil, rp_cons, wp_dict, isDct_new, ri_enumT, v_isNN, v_isNL, v_isNotN, v_isNotL, wp_fn, startW, wp_call, wp_C, wp_V, wp_bin, wp_un, wp_and, wp_or, wp_not, rt_V, rt_and, rt_or, rt_not, rt_bl, rt_yes, wp_if, wp_chain, ra_nil, ra_cons, wp_tup, wp_lst, wp_cb, wp_mt, wp_dict0, wp_sl, ro_none, ro_some, fs_seq, fs_nil, fs_brk, fs_cnt, fs_expr, fs_ret, fs_retN, fs_if, fs_set, fs_par, fs_asg, fs_sub, fs_aug, ri_val, ri_args, wp_some, wp_ok, wp_bind, List.map_cons, List.map_nil, List.length_cons, List.length_nil, List.replicate, List.cons_append, List.nil_append, List.getElem?_cons_zero, List.getElem?_cons_succ, List.set_cons_zero, List.set_cons_succ, Option.some.injEq, exists_eq_left', exists_eq_left, Nat.reduceAdd, Nat.reduceSub, Nat.reduceLeDiff, true_and, W.bl.injEq, W.int.injEq, W.str.injEq, W.tup.injEq, if_true, if_false, Bool.false_eq_true, Bool.not_true, Bool.not_false, truth_bl, truth_int, truth_tup, v_addI, v_subI, v_mod, v_fdiv, v_neg, v_lt, v_le, v_gt, v_ge, v_cint, v_cintB, v_cabs, v_cmax, v_cmin, v_lenT, v_lenF, v_ixT, v_ixF, v_revT, v_cutT, v_tupT, v_listT, v_eqI, v_neI, v_eqS, v_neS, Option.map_some, decide_eq_true_eq, decide_true, decide_false, and_self, and_true, Int.reduceToNat, Int.reduceNeg, Int.reduceLT, Int.reduceLE, Int.reduceAdd, Int.reduceSub, Int.reduceMul, Int.reduceBEq, Int.reduceBNe, Nat.reduceLT, Nat.reduceMul, Int.toNat_one, Int.toNat_zero]
      exact ⟨rfl, Fr.refl _ _⟩
    | [a], h =>
      simp only [two_eq, wo_addT, v_ipAdd, v_ipSub, wp_get2, rp_nil, rp_cons, wp_dict, isDct_new, ri_enumT, v_isNN, v_isNL, v_isNotN, v_isNotL, wp_fn, startW, wp_call, wp_C, wp_V, wp_bin, wp_un, wp_and, wp_or, wp_not, rt_V, rt_and, rt_or, rt_not, rt_bl, rt_yes, wp_if, wp_chain, ra_nil, ra_cons, wp_tup, wp_lst, wp_cb, wp_mt, wp_dict0, wp_sl, ro_none, ro_some, fs_seq, fs_nil, fs_brk, fs_cnt, fs_expr, fs_ret, fs_retN, fs_if, fs_set, fs_par, fs_asg, fs_sub, fs_aug, ri_val, ri_args, wp_some, wp_ok, wp_bind, List.map_cons, List.map_nil, List.length_cons, List.length_nil, List.replicate, List.cons_append, List.nil_append, List.getElem?_cons_zero, List.getElem?_cons_succ, List.set_cons_zero, List.set_cons_succ, Option.some.injEq, exists_eq_left', exists_eq_left, Nat.reduceAdd, Nat.reduceSub, Nat.reduceLeDiff, true_and, W.bl.injEq, W.int.injEq, W.str.injEq, W.tup.injEq, if_true, if_false, Bool.false_eq_true, Bool.not_true, Bool.not_false, truth_bl, truth_int, truth_tup, v_addI, v_subI, v_mod, v_fdiv, v_neg, v_lt, v_le, v_gt, v_ge, v_cint, v_cintB, v_cabs, v_cmax, v_cmin, v_lenT, v_lenF, v_ixT, v_ixF, v_revT, v_cutT, v_tupT, v_listT, v_eqI, v_neI, v_eqS, v_neS, Option.map_some, decide_eq_true_eq, decide_true, decide_false, and_self, and_true, Int.reduceToNat, Int.reduceNeg, Int.reduceLT, Int.reduceLE, Int.reduceAdd, Int.reduceSub, Int.reduceMul, Int.reduceBEq, Int.reduceBNe, Nat.reduceLT, Nat.reduceMul, Int.toNat_one, Int.toNat_zero]
      exact ⟨rfl, Fr.refl _ _⟩
    | a :: b :: c :: r, h =>
      have e : ¬ (((r.length + 1 + 1 + 1 : Nat) : Int) == 2) = true := by
        rw [beq_iff_eq]
        omega
      simp only [two_eq, wo_addT, v_ipAdd, v_ipSub, wp_get2, rp_nil, rp_cons, wp_dict, isDct_new, ri_enumT, v_isNN, v_isNL, v_isNotN, v_isNotL, wp_fn, startW, wp_call, wp_C, wp_V, wp_bin, wp_un, wp_and, wp_or, wp_not, rt_V, rt_and, rt_or, rt_not, rt_bl, rt_yes, wp_if, wp_chain, ra_nil, ra_cons, wp_tup, wp_lst, wp_cb, wp_mt, wp_dict0, wp_sl, ro_none, ro_some, fs_seq, fs_nil, fs_brk, fs_cnt, fs_expr, fs_ret, fs_retN, fs_if, fs_set, fs_par, fs_asg, fs_sub, fs_aug, ri_val, ri_args, wp_some, wp_ok, wp_bind, List.map_cons, List.map_nil, List.length_cons, List.length_nil, List.replicate, List.cons_append, List.nil_append, List.getElem?_cons_zero, List.getElem?_cons_succ, List.set_cons_zero, List.set_cons_succ, Option.some.injEq, exists_eq_left', exists_eq_left, Nat.reduceAdd, Nat.reduceSub, Nat.reduceLeDiff, true_and, W.bl.injEq, W.int.injEq, W.str.injEq, W.tup.injEq, if_true, if_false, Bool.false_eq_true, Bool.not_true, Bool.not_false, truth_bl, truth_int, truth_tup, v_addI, v_subI, v_mod, v_fdiv, v_neg, v_lt, v_le, v_gt, v_ge, v_cint, v_cintB, v_cabs, v_cmax, v_cmin, v_lenT, v_lenF, v_ixT, v_ixF, v_revT, v_cutT, v_tupT, v_listT, v_eqI, v_neI, v_eqS, v_neS, Option.map_some, decide_eq_true_eq, decide_true, decide_false, and_self, and_true, Int.reduceToNat, Int.reduceNeg, Int.reduceLT, Int.reduceLE, Int.reduceAdd, Int.reduceSub, Int.reduceMul, Int.reduceBEq, Int.reduceBNe, Nat.reduceLT, Nat.reduceMul, Int.toNat_one, Int.toNat_zero, e]
      exact ⟨rfl, Fr.refl _ _⟩
    | [a, b], h =>
      have ha := item_gd h (x := a) (by simp)
      have hb := item_gd h (x := b) (by simp)
      have i0 : atI [a, b] 0 = some a := rfl
      have i1 : atI [a, b] 1 = some b := rfl
      have e : (((2 : Nat) : Int) == 2) = true := rfl
      simp only [two_eq, wo_addT, v_ipAdd, v_ipSub, wp_get2, rp_nil, rp_cons, wp_dict, isDct_new, ri_enumT, v_isNN, v_isNL, v_isNotN, v_isNotL, wp_fn, startW, wp_call, wp_C, wp_V, wp_bin, wp_un, wp_and, wp_or, wp_not, rt_V, rt_and, rt_or, rt_not, rt_bl, rt_yes, wp_if, wp_chain, ra_nil, ra_cons, wp_tup, wp_lst, wp_cb, wp_mt, wp_dict0, wp_sl, ro_none, ro_some, fs_seq, fs_nil, fs_brk, fs_cnt, fs_expr, fs_ret, fs_retN, fs_if, fs_set, fs_par, fs_asg, fs_sub, fs_aug, ri_val, ri_args, wp_some, wp_ok, wp_bind, List.map_cons, List.map_nil, List.length_cons, List.length_nil, List.replicate, List.cons_append, List.nil_append, List.getElem?_cons_zero, List.getElem?_cons_succ, List.set_cons_zero, List.set_cons_succ, Option.some.injEq, exists_eq_left', exists_eq_left, Nat.reduceAdd, Nat.reduceSub, Nat.reduceLeDiff, true_and, W.bl.injEq, W.int.injEq, W.str.injEq, W.tup.injEq, if_true, if_false, Bool.false_eq_true, Bool.not_true, Bool.not_false, truth_bl, truth_int, truth_tup, v_addI, v_subI, v_mod, v_fdiv, v_neg, v_lt, v_le, v_gt, v_ge, v_cint, v_cintB, v_cabs, v_cmax, v_cmin, v_lenT, v_lenF, v_ixT, v_ixF, v_revT, v_cutT, v_tupT, v_listT, v_eqI, v_neI, v_eqS, v_neS, Option.map_some, decide_eq_true_eq, decide_true, decide_false, and_self, and_true, Int.reduceToNat, Int.reduceNeg, Int.reduceLT, Int.reduceLE, Int.reduceAdd, Int.reduceSub, Int.reduceMul, Int.reduceBEq, Int.reduceBNe, Nat.reduceLT, Nat.reduceMul, Int.toNat_one, Int.toNat_zero, i0, i1, isi_str (.inl ha), in_tags ha, e]
      cases hs : isStr a with
      | false =>
        simp only [two_eq, wo_addT, v_ipAdd, v_ipSub, wp_get2, rp_nil, rp_cons, wp_dict, isDct_new, ri_enumT, v_isNN, v_isNL, v_isNotN, v_isNotL, wp_fn, startW, wp_call, wp_C, wp_V, wp_bin, wp_un, wp_and, wp_or, wp_not, rt_V, rt_and, rt_or, rt_not, rt_bl, rt_yes, wp_if, wp_chain, ra_nil, ra_cons, wp_tup, wp_lst, wp_cb, wp_mt, wp_dict0, wp_sl, ro_none, ro_some, fs_seq, fs_nil, fs_brk, fs_cnt, fs_expr, fs_ret, fs_retN, fs_if, fs_set, fs_par, fs_asg, fs_sub, fs_aug, ri_val, ri_args, wp_some, wp_ok, wp_bind, List.map_cons, List.map_nil, List.length_cons, List.length_nil, List.replicate, List.cons_append, List.nil_append, List.getElem?_cons_zero, List.getElem?_cons_succ, List.set_cons_zero, List.set_cons_succ, Option.some.injEq, exists_eq_left', exists_eq_left, Nat.reduceAdd, Nat.reduceSub, Nat.reduceLeDiff, true_and, W.bl.injEq, W.int.injEq, W.str.injEq, W.tup.injEq, if_true, if_false, Bool.false_eq_true, Bool.not_true, Bool.not_false, truth_bl, truth_int, truth_tup, v_addI, v_subI, v_mod, v_fdiv, v_neg, v_lt, v_le, v_gt, v_ge, v_cint, v_cintB, v_cabs, v_cmax, v_cmin, v_lenT, v_lenF, v_ixT, v_ixF, v_revT, v_cutT, v_tupT, v_listT, v_eqI, v_neI, v_eqS, v_neS, Option.map_some, decide_eq_true_eq, decide_true, decide_false, and_self, and_true, Int.reduceToNat, Int.reduceNeg, Int.reduceLT, Int.reduceLE, Int.reduceAdd, Int.reduceSub, Int.reduceMul, Int.reduceBEq, Int.reduceBNe, Nat.reduceLT, Nat.reduceMul, Int.toNat_one, Int.toNat_zero]
        exact ⟨by simp [isLine, tag_str hs], Fr.refl _ _⟩
      | true =>
        simp only [two_eq, wo_addT, v_ipAdd, v_ipSub, wp_get2, rp_nil, rp_cons, wp_dict, isDct_new, ri_enumT, v_isNN, v_isNL, v_isNotN, v_isNotL, wp_fn, startW, wp_call, wp_C, wp_V, wp_bin, wp_un, wp_and, wp_or, wp_not, rt_V, rt_and, rt_or, rt_not, rt_bl, rt_yes, wp_if, wp_chain, ra_nil, ra_cons, wp_tup, wp_lst, wp_cb, wp_mt, wp_dict0, wp_sl, ro_none, ro_some, fs_seq, fs_nil, fs_brk, fs_cnt, fs_expr, fs_ret, fs_retN, fs_if, fs_set, fs_par, fs_asg, fs_sub, fs_aug, ri_val, ri_args, wp_some, wp_ok, wp_bind, List.map_cons, List.map_nil, List.length_cons, List.length_nil, List.replicate, List.cons_append, List.nil_append, List.getElem?_cons_zero, List.getElem?_cons_succ, List.set_cons_zero, List.set_cons_succ, Option.some.injEq, exists_eq_left', exists_eq_left, Nat.reduceAdd, Nat.reduceSub, Nat.reduceLeDiff, true_and, W.bl.injEq, W.int.injEq, W.str.injEq, W.tup.injEq, if_true, if_false, Bool.false_eq_true, Bool.not_true, Bool.not_false, truth_bl, truth_int, truth_tup, v_addI, v_subI, v_mod, v_fdiv, v_neg, v_lt, v_le, v_gt, v_ge, v_cint, v_cintB, v_cabs, v_cmax, v_cmin, v_lenT, v_lenF, v_ixT, v_ixF, v_revT, v_cutT, v_tupT, v_listT, v_eqI, v_neI, v_eqS, v_neS, Option.map_some, decide_eq_true_eq, decide_true, decide_false, and_self, and_true, Int.reduceToNat, Int.reduceNeg, Int.reduceLT, Int.reduceLE, Int.reduceAdd, Int.reduceSub, Int.reduceMul, Int.reduceBEq, Int.reduceBNe, Nat.reduceLT, Nat.reduceMul, Int.toNat_one, Int.toNat_zero, i0, i1, in_tags ha]
        cases ht : tagW a with
        | false =>
          try simp only [two_eq, wo_addT, v_ipAdd, v_ipSub, wp_get2, rp_nil, rp_cons, wp_dict, isDct_new, ri_enumT, v_isNN, v_isNL, v_isNotN, v_isNotL, wp_fn, startW, wp_call, wp_C, wp_V, wp_bin, wp_un, wp_and, wp_or, wp_not, rt_V, rt_and, rt_or, rt_not, rt_bl, rt_yes, wp_if, wp_chain, ra_nil, ra_cons, wp_tup, wp_lst, wp_cb, wp_mt, wp_dict0, wp_sl, ro_none, ro_some, fs_seq, fs_nil, fs_brk, fs_cnt, fs_expr, fs_ret, fs_retN, fs_if, fs_set, fs_par, fs_asg, fs_sub, fs_aug, ri_val, ri_args, wp_some, wp_ok, wp_bind, List.map_cons, List.map_nil, List.length_cons, List.length_nil, List.replicate, List.cons_append, List.nil_append, List.getElem?_cons_zero, List.getElem?_cons_succ, List.set_cons_zero, List.set_cons_succ, Option.some.injEq, exists_eq_left', exists_eq_left, Nat.reduceAdd, Nat.reduceSub, Nat.reduceLeDiff, true_and, W.bl.injEq, W.int.injEq, W.str.injEq, W.tup.injEq, if_true, if_false, Bool.false_eq_true, Bool.not_true, Bool.not_false, truth_bl, truth_int, truth_tup, v_addI, v_subI, v_mod, v_fdiv, v_neg, v_lt, v_le, v_gt, v_ge, v_cint, v_cintB, v_cabs, v_cmax, v_cmin, v_lenT, v_lenF, v_ixT, v_ixF, v_revT, v_cutT, v_tupT, v_listT, v_eqI, v_neI, v_eqS, v_neS, Option.map_some, decide_eq_true_eq, decide_true, decide_false, and_self, and_true, Int.reduceToNat, Int.reduceNeg, Int.reduceLT, Int.reduceLE, Int.reduceAdd, Int.reduceSub, Int.reduceMul, Int.reduceBEq, Int.reduceBNe, Nat.reduceLT, Nat.reduceMul, Int.toNat_one, Int.toNat_zero]
          exact ⟨by simp [isLine, ht], Fr.refl _ _⟩
        | true =>
          try simp only [two_eq, wo_addT, v_ipAdd, v_ipSub, wp_get2, rp_nil, rp_cons, wp_dict, isDct_new, ri_enumT, v_isNN, v_isNL, v_isNotN, v_isNotL, wp_fn, startW, wp_call, wp_C, wp_V, wp_bin, wp_un, wp_and, wp_or, wp_not, rt_V, rt_and, rt_or, rt_not, rt_bl, rt_yes, wp_if, wp_chain, ra_nil, ra_cons, wp_tup, wp_lst, wp_cb, wp_mt, wp_dict0, wp_sl, ro_none, ro_some, fs_seq, fs_nil, fs_brk, fs_cnt, fs_expr, fs_ret, fs_retN, fs_if, fs_set, fs_par, fs_asg, fs_sub, fs_aug, ri_val, ri_args, wp_some, wp_ok, wp_bind, List.map_cons, List.map_nil, List.length_cons, List.length_nil, List.replicate, List.cons_append, List.nil_append, List.getElem?_cons_zero, List.getElem?_cons_succ, List.set_cons_zero, List.set_cons_succ, Option.some.injEq, exists_eq_left', exists_eq_left, Nat.reduceAdd, Nat.reduceSub, Nat.reduceLeDiff, true_and, W.bl.injEq, W.int.injEq, W.str.injEq, W.tup.injEq, if_true, if_false, Bool.false_eq_true, Bool.not_true, Bool.not_false, truth_bl, truth_int, truth_tup, v_addI, v_subI, v_mod, v_fdiv, v_neg, v_lt, v_le, v_gt, v_ge, v_cint, v_cintB, v_cabs, v_cmax, v_cmin, v_lenT, v_lenF, v_ixT, v_ixF, v_revT, v_cutT, v_tupT, v_listT, v_eqI, v_neI, v_eqS, v_neS, Option.map_some, decide_eq_true_eq, decide_true, decide_false, and_self, and_true, Int.reduceToNat, Int.reduceNeg, Int.reduceLT, Int.reduceLE, Int.reduceAdd, Int.reduceSub, Int.reduceMul, Int.reduceBEq, Int.reduceBNe, Nat.reduceLT, Nat.reduceMul, Int.toNat_one, Int.toNat_zero, i1]
          refine (is_name_w (.inl hb)).imp fun r μ' ⟨e, f⟩ => ⟨by rw [e]; simp [isLine, ht], f⟩
  | _ =>
    simp only [two_eq, wo_addT, v_ipAdd, v_ipSub, wp_get2, rp_nil, rp_cons, wp_dict, isDct_new, ri_enumT, v_isNN, v_isNL, v_isNotN, v_isNotL, wp_fn, startW, wp_call, wp_C, wp_V, wp_bin, wp_un, wp_and, wp_or, wp_not, rt_V, rt_and, rt_or, rt_not, rt_bl, rt_yes, wp_if, wp_chain, ra_nil, ra_cons, wp_tup, wp_lst, wp_cb, wp_mt, wp_dict0, wp_sl, ro_none, ro_some, fs_seq, fs_nil, fs_brk, fs_cnt, fs_expr, fs_ret, fs_retN, fs_if, fs_set, fs_par, fs_asg, fs_sub, fs_aug, ri_val, ri_args, wp_some, wp_ok, wp_bind, List.map_cons, List.map_nil, List.length_cons, List.length_nil, List.replicate, List.cons_append, List.nil_append, List.getElem?_cons_zero, List.getElem?_cons_succ, List.set_cons_zero, List.set_cons_succ, Option.some.injEq, exists_eq_left', exists_eq_left, Nat.reduceAdd, Nat.reduceSub, Nat.reduceLeDiff, true_and, W.bl.injEq, W.int.injEq, W.str.injEq, W.tup.injEq, if_true, if_false, Bool.false_eq_true, Bool.not_true, Bool.not_false, truth_bl, truth_int, truth_tup, v_addI, v_subI, v_mod, v_fdiv, v_neg, v_lt, v_le, v_gt, v_ge, v_cint, v_cintB, v_cabs, v_cmax, v_cmin, v_lenT, v_lenF, v_ixT, v_ixF, v_revT, v_cutT, v_tupT, v_listT, v_eqI, v_neI, v_eqS, v_neS, Option.map_some, decide_eq_true_eq, decide_true, decide_false, and_self, and_true, Int.reduceToNat, Int.reduceNeg, Int.reduceLT, Int.reduceLE, Int.reduceAdd, Int.reduceSub, Int.reduceMul, Int.reduceBEq, Int.reduceBNe, Nat.reduceLT, Nat.reduceMul, Int.toNat_one, Int.toNat_zero, isTup]
    exact ⟨rfl, Fr.refl _ _⟩
theorem law_is_line_w {μ : Mem} {w : W} (h : Vl μ w) : Rw (g__law_is_line [w] μ) fun r μ' => r = .bl (isLine w) ∧ Fr [] μ μ' := by
  unfold g__law_is_line b__law_is_line
  simp only [two_eq, wo_addT, v_ipAdd, v_ipSub, wp_get2, rp_nil, rp_cons, wp_dict, isDct_new, ri_enumT, v_isNN, v_isNL, v_isNotN, v_isNotL, wp_fn, startW, wp_call, wp_C, wp_V, wp_bin, wp_un, wp_and, wp_or, wp_not, rt_V, rt_and, rt_or, rt_not, rt_bl, rt_yes, wp_if, wp_chain, ra_nil, ra_cons, wp_tup, wp_lst, wp_cb, wp_mt, wp_dict0, wp_sl, ro_none, ro_some, fs_seq, fs_nil, fs_brk, fs_cnt, fs_expr, fs_ret, fs_retN, fs_if, fs_set, fs_par, fs_asg, fs_sub, fs_aug, ri_val, ri_args, wp_some, wp_ok, wp_bind, List.map_cons, List.map_nil, List.length_cons, List.length_nil, List.replicate, List.cons_append, List.nil_append, List.getElem?_cons_zero, List.getElem?_cons_succ, List.set_cons_zero, List.set_cons_succ, Option.some.injEq, exists_eq_left', exists_eq_left, Nat.reduceAdd, Nat.reduceSub, Nat.reduceLeDiff, true_and, W.bl.injEq, W.int.injEq, W.str.injEq, W.tup.injEq, if_true, if_false, Bool.false_eq_true, Bool.not_true, Bool.not_false, truth_bl, truth_int, truth_tup, v_addI, v_subI, v_mod, v_fdiv, v_neg, v_lt, v_le, v_gt, v_ge, v_cint, v_cintB, v_cabs, v_cmax, v_cmin, v_lenT, v_lenF, v_ixT, v_ixF, v_revT, v_cutT, v_tupT, v_listT, v_eqI, v_neI, v_eqS, v_neS, Option.map_some, decide_eq_true_eq, decide_true, decide_false, and_self, and_true, Int.reduceToNat, Int.reduceNeg, Int.reduceLT, Int.reduceLE, Int.reduceAdd, Int.reduceSub, Int.reduceMul, Int.reduceBEq, Int.reduceBNe, Nat.reduceLT, Nat.reduceMul, Int.toNat_one, Int.toNat_zero, isi_tup h]
  cases w with
  | tup xs =>
    simp only [two_eq, wo_addT, v_ipAdd, v_ipSub, wp_get2, rp_nil, rp_cons, wp_dict, isDct_new, ri_enumT, v_isNN, v_isNL, v_isNotN, v_isNotL, wp_fn, startW, wp_call, wp_C, wp_V, wp_bin, wp_un, wp_and, wp_or, wp_not, rt_V, rt_and, rt_or, rt_not, rt_bl, rt_yes, wp_if, wp_chain, ra_nil, ra_cons, wp_tup, wp_lst, wp_cb, wp_mt, wp_dict0, wp_sl, ro_none, ro_some, fs_seq, fs_nil, fs_brk, fs_cnt, fs_expr, fs_ret, fs_retN, fs_if, fs_set, fs_par, fs_asg, fs_sub, fs_aug, ri_val, ri_args, wp_some, wp_ok, wp_bind, List.map_cons, List.map_nil, List.length_cons, List.length_nil, List.replicate, List.cons_append, List.nil_append, List.getElem?_cons_zero, List.getElem?_cons_succ, List.set_cons_zero, List.set_cons_succ, Option.some.injEq, exists_eq_left', exists_eq_left, Nat.reduceAdd, Nat.reduceSub, Nat.reduceLeDiff, true_and, W.bl.injEq, W.int.injEq, W.str.injEq, W.tup.injEq, if_true, if_false, Bool.false_eq_true, Bool.not_true, Bool.not_false, truth_bl, truth_int, truth_tup, v_addI, v_subI, v_mod, v_fdiv, v_neg, v_lt, v_le, v_gt, v_ge, v_cint, v_cintB, v_cabs, v_cmax, v_cmin, v_lenT, v_lenF, v_ixT, v_ixF, v_revT, v_cutT, v_tupT, v_listT, v_eqI, v_neI, v_eqS, v_neS, Option.map_some, decide_eq_true_eq, decide_true, decide_false, and_self, and_true, Int.reduceToNat, Int.reduceNeg, Int.reduceLT, Int.reduceLE, Int.reduceAdd, Int.reduceSub, Int.reduceMul, Int.reduceBEq, Int.reduceBNe, Nat.reduceLT, Nat.reduceMul, Int.toNat_one, Int.toNat_zero, isTup]
    match xs, h with
    | [], h =>
      simp only [two_eq, wo_addT, v_ipAdd, v_ipSub, wp_get2, rp_nil, rp_cons, wp_dict, isDct_new, ri_enumT, v_isNN, v_isNL, v_isNotN, v_isNotL, wp_fn, startW, wp_call, wp_C, wp_V, wp_bin, wp_un, wp_and, wp_or, wp_not, rt_V, rt_and, rt_or, rt_not, rt_bl, rt_yes, wp_if, wp_chain, ra_nil, ra_cons, wp_tup, wp_lst, wp_cb, wp_mt, wp_dict0, wp_sl, ro_none, ro_some, fs_seq, fs_nil, fs_brk, fs_cnt, fs_expr, fs_ret, fs_retN, fs_if, fs_set, fs_par, fs_asg, fs_sub, fs_aug, ri_val, ri_args, wp_some, wp_ok, wp_bind, List.map_cons, List.map_nil, List.length_cons, List.length_nil, List.replicate, List.cons_append, List.nil_append, List.getElem?_cons_zero, List.getElem?_cons_succ, List.set_cons_zero, List.set_cons_succ, Option.some.injEq, exists_eq_left', exists_eq_left, Nat.reduceAdd, Nat.reduceSub, Nat.reduceLeDiff, true_and, W.bl.injEq, W.int.injEq, W.str.injEq, W.tup.injEq, if_true, if_false, Bool.false_eq_true, Bool.not_true, Bool.not_false, truth_bl, truth_int, truth_tup, v_addI, v_subI, v_mod, v_fdiv, v_neg, v_lt, v_le, v_gt, v_ge, v_cint, v_cintB, v_cabs, v_cmax, v_cmin, v_lenT, v_lenF, v_ixT, v_ixF, v_revT, v_cutT, v_tupT, v_listT, v_eqI, v_neI, v_eqS, v_neS, Option.map_some, decide_eq_true_eq, decide_true, decide_false, and_self, and_true, Int.reduceToNat, Int.reduceNeg, Int.reduceLT, Int.reduceLE, Int.reduceAdd, Int.reduceSub, Int.reduceMul, Int.reduceBEq, Int.reduceBNe, Nat.reduceLT, Nat.reduceMul, Int.toNat_one, Int.toNat_zero]
      exact ⟨rfl, Fr.refl _ _⟩
    | [a], h =>
      simp only [two_eq, wo_addT, v_ipAdd, v_ipSub, wp_get2, rp_nil, rp_cons, wp_dict, isDct_new, ri_enumT, v_isNN, v_isNL, v_isNotN, v_isNotL, wp_fn, startW, wp_call, wp_C, wp_V, wp_bin, wp_un, wp_and, wp_or, wp_not, rt_V, rt_and, rt_or, rt_not, rt_bl, rt_yes, wp_if, wp_chain, ra_nil, ra_cons, wp_tup, wp_lst, wp_cb, wp_mt, wp_dict0, wp_sl, ro_none, ro_some, fs_seq, fs_nil, fs_brk, fs_cnt, fs_expr, fs_ret, fs_retN, fs_if, fs_set, fs_par, fs_asg, fs_sub, fs_aug, ri_val, ri_args, wp_some, wp_ok, wp_bind, List.map_cons, List.map_nil, List.length_cons, List.length_nil, List.replicate, List.cons_append, List.nil_append, List.getElem?_cons_zero, List.getElem?_cons_succ, List.set_cons_zero, List.set_cons_succ, Option.some.injEq, exists_eq_left', exists_eq_left, Nat.reduceAdd, Nat.reduceSub, Nat.reduceLeDiff, true_and, W.bl.injEq, W.int.injEq, W.str.injEq, W.tup.injEq, if_true, if_false, Bool.false_eq_true, Bool.not_true, Bool.not_false, truth_bl, truth_int, truth_tup, v_addI, v_subI, v_mod, v_fdiv, v_neg, v_lt, v_le, v_gt, v_ge, v_cint, v_cintB, v_cabs, v_cmax, v_cmin, v_lenT, v_lenF, v_ixT, v_ixF, v_revT, v_cutT, v_tupT, v_listT, v_eqI, v_neI, v_eqS, v_neS, Option.map_some, decide_eq_true_eq, decide_true, decide_false, and_self, and_true, Int.reduceToNat, Int.reduceNeg, Int.reduceLT, Int.reduceLE, Int.reduceAdd, Int.reduceSub, Int.reduceMul, Int.reduceBEq, Int.reduceBNe, Nat.reduceLT, Nat.reduceMul, Int.toNat_one, Int.toNat_zero]
      exact ⟨rfl, Fr.refl _ _⟩
    | a :: b :: c :: r, h =>
      have e : ¬ (((r.length + 1 + 1 + 1 : Nat) : Int) == 2) = true := by
        rw [beq_iff_eq]
        omega
      simp only [two_eq, wo_addT, v_ipAdd, v_ipSub, wp_get2, rp_nil, rp_cons, wp_dict, isDct_new, ri_enumT, v_isNN, v_isNL, v_isNotN, v_isNotL, wp_fn, startW, wp_call, wp_C, wp_V, wp_bin, wp_un, wp_and, wp_or, wp_not, rt_V, rt_and, rt_or, rt_not, rt_bl, rt_yes, wp_if, wp_chain, ra_nil, ra_cons, wp_tup, wp_lst, wp_cb, wp_mt, wp_dict0, wp_sl, ro_none, ro_some, fs_seq, fs_nil, fs_brk, fs_cnt, fs_expr, fs_ret, fs_retN, fs_if, fs_set, fs_par, fs_asg, fs_sub, fs_aug, ri_val, ri_args, wp_some, wp_ok, wp_bind, List.map_cons, List.map_nil, List.length_cons, List.length_nil, List.replicate, List.cons_append, List.nil_append, List.getElem?_cons_zero, List.getElem?_cons_succ, List.set_cons_zero, List.set_cons_succ, Option.some.injEq, exists_eq_left', exists_eq_left, Nat.reduceAdd, Nat.reduceSub, Nat.reduceLeDiff, true_and, W.bl.injEq, W.int.injEq, W.str.injEq, W.tup.injEq, if_true, if_false, Bool.false_eq_true, Bool.not_true, Bool.not_false, truth_bl, truth_int, truth_tup, v_addI, v_subI, v_mod, v_fdiv, v_neg, v_lt, v_le, v_gt, v_ge, v_cint, v_cintB, v_cabs, v_cmax, v_cmin, v_lenT, v_lenF, v_ixT, v_ixF, v_revT, v_cutT, v_tupT, v_listT, v_eqI, v_neI, v_eqS, v_neS, Option.map_some, decide_eq_true_eq, decide_true, decide_false, and_self, and_true, Int.reduceToNat, Int.reduceNeg, Int.reduceLT, Int.reduceLE, Int.reduceAdd, Int.reduceSub, Int.reduceMul, Int.reduceBEq, Int.reduceBNe, Nat.reduceLT, Nat.reduceMul, Int.toNat_one, Int.toNat_zero, e]
      exact ⟨rfl, Fr.refl _ _⟩
    | [a, b], h =>
      have ha := item_gd h (x := a) (by simp)
      have hb := item_gd h (x := b) (by simp)
      have i0 : atI [a, b] 0 = some a := rfl
      have i1 : atI [a, b] 1 = some b := rfl
      have e : (((2 : Nat) : Int) == 2) = true := rfl
      simp only [two_eq, wo_addT, v_ipAdd, v_ipSub, wp_get2, rp_nil, rp_cons, wp_dict, isDct_new, ri_enumT, v_isNN, v_isNL, v_isNotN, v_isNotL, wp_fn, startW, wp_call, wp_C, wp_V, wp_bin, wp_un, wp_and, wp_or, wp_not, rt_V, rt_and, rt_or, rt_not, rt_bl, rt_yes, wp_if, wp_chain, ra_nil, ra_cons, wp_tup, wp_lst, wp_cb, wp_mt, wp_dict0, wp_sl, ro_none, ro_some, fs_seq, fs_nil, fs_brk, fs_cnt, fs_expr, fs_ret, fs_retN, fs_if, fs_set, fs_par, fs_asg, fs_sub, fs_aug, ri_val, ri_args, wp_some, wp_ok, wp_bind, List.map_cons, List.map_nil, List.length_cons, List.length_nil, List.replicate, List.cons_append, List.nil_append, List.getElem?_cons_zero, List.getElem?_cons_succ, List.set_cons_zero, List.set_cons_succ, Option.some.injEq, exists_eq_left', exists_eq_left, Nat.reduceAdd, Nat.reduceSub, Nat.reduceLeDiff, true_and, W.bl.injEq, W.int.injEq, W.str.injEq, W.tup.injEq, if_true, if_false, Bool.false_eq_true, Bool.not_true, Bool.not_false, truth_bl, truth_int, truth_tup, v_addI, v_subI, v_mod, v_fdiv, v_neg, v_lt, v_le, v_gt, v_ge, v_cint, v_cintB, v_cabs, v_cmax, v_cmin, v_lenT, v_lenF, v_ixT, v_ixF, v_revT, v_cutT, v_tupT, v_listT, v_eqI, v_neI, v_eqS, v_neS, Option.map_some, decide_eq_true_eq, decide_true, decide_false, and_self, and_true, Int.reduceToNat, Int.reduceNeg, Int.reduceLT, Int.reduceLE, Int.reduceAdd, Int.reduceSub, Int.reduceMul, Int.reduceBEq, Int.reduceBNe, Nat.reduceLT, Nat.reduceMul, Int.toNat_one, Int.toNat_zero, i0, i1, isi_str (.inl hb), in_tags ha, e]
      cases hs : isStr b with
      | false =>
        simp only [two_eq, wo_addT, v_ipAdd, v_ipSub, wp_get2, rp_nil, rp_cons, wp_dict, isDct_new, ri_enumT, v_isNN, v_isNL, v_isNotN, v_isNotL, wp_fn, startW, wp_call, wp_C, wp_V, wp_bin, wp_un, wp_and, wp_or, wp_not, rt_V, rt_and, rt_or, rt_not, rt_bl, rt_yes, wp_if, wp_chain, ra_nil, ra_cons, wp_tup, wp_lst, wp_cb, wp_mt, wp_dict0, wp_sl, ro_none, ro_some, fs_seq, fs_nil, fs_brk, fs_cnt, fs_expr, fs_ret, fs_retN, fs_if, fs_set, fs_par, fs_asg, fs_sub, fs_aug, ri_val, ri_args, wp_some, wp_ok, wp_bind, List.map_cons, List.map_nil, List.length_cons, List.length_nil, List.replicate, List.cons_append, List.nil_append, List.getElem?_cons_zero, List.getElem?_cons_succ, List.set_cons_zero, List.set_cons_succ, Option.some.injEq, exists_eq_left', exists_eq_left, Nat.reduceAdd, Nat.reduceSub, Nat.reduceLeDiff, true_and, W.bl.injEq, W.int.injEq, W.str.injEq, W.tup.injEq, if_true, if_false, Bool.false_eq_true, Bool.not_true, Bool.not_false, truth_bl, truth_int, truth_tup, v_addI, v_subI, v_mod, v_fdiv, v_neg, v_lt, v_le, v_gt, v_ge, v_cint, v_cintB, v_cabs, v_cmax, v_cmin, v_lenT, v_lenF, v_ixT, v_ixF, v_revT, v_cutT, v_tupT, v_listT, v_eqI, v_neI, v_eqS, v_neS, Option.map_some, decide_eq_true_eq, decide_true, decide_false, and_self, and_true, Int.reduceToNat, Int.reduceNeg, Int.reduceLT, Int.reduceLE, Int.reduceAdd, Int.reduceSub, Int.reduceMul, Int.reduceBEq, Int.reduceBNe, Nat.reduceLT, Nat.reduceMul, Int.toNat_one, Int.toNat_zero]
        exact ⟨by simp [isLine, name_str hs], Fr.refl _ _⟩
      | true =>
        simp only [two_eq, wo_addT, v_ipAdd, v_ipSub, wp_get2, rp_nil, rp_cons, wp_dict, isDct_new, ri_enumT, v_isNN, v_isNL, v_isNotN, v_isNotL, wp_fn, startW, wp_call, wp_C, wp_V, wp_bin, wp_un, wp_and, wp_or, wp_not, rt_V, rt_and, rt_or, rt_not, rt_bl, rt_yes, wp_if, wp_chain, ra_nil, ra_cons, wp_tup, wp_lst, wp_cb, wp_mt, wp_dict0, wp_sl, ro_none, ro_some, fs_seq, fs_nil, fs_brk, fs_cnt, fs_expr, fs_ret, fs_retN, fs_if, fs_set, fs_par, fs_asg, fs_sub, fs_aug, ri_val, ri_args, wp_some, wp_ok, wp_bind, List.map_cons, List.map_nil, List.length_cons, List.length_nil, List.replicate, List.cons_append, List.nil_append, List.getElem?_cons_zero, List.getElem?_cons_succ, List.set_cons_zero, List.set_cons_succ, Option.some.injEq, exists_eq_left', exists_eq_left, Nat.reduceAdd, Nat.reduceSub, Nat.reduceLeDiff, true_and, W.bl.injEq, W.int.injEq, W.str.injEq, W.tup.injEq, if_true, if_false, Bool.false_eq_true, Bool.not_true, Bool.not_false, truth_bl, truth_int, truth_tup, v_addI, v_subI, v_mod, v_fdiv, v_neg, v_lt, v_le, v_gt, v_ge, v_cint, v_cintB, v_cabs, v_cmax, v_cmin, v_lenT, v_lenF, v_ixT, v_ixF, v_revT, v_cutT, v_tupT, v_listT, v_eqI, v_neI, v_eqS, v_neS, Option.map_some, decide_eq_true_eq, decide_true, decide_false, and_self, and_true, Int.reduceToNat, Int.reduceNeg, Int.reduceLT, Int.reduceLE, Int.reduceAdd, Int.reduceSub, Int.reduceMul, Int.reduceBEq, Int.reduceBNe, Nat.reduceLT, Nat.reduceMul, Int.toNat_one, Int.toNat_zero, i0, i1, in_tags ha]
        cases ht : tagW a with
        | false =>
          try simp only [two_eq, wo_addT, v_ipAdd, v_ipSub, wp_get2, rp_nil, rp_cons, wp_dict, isDct_new, ri_enumT, v_isNN, v_isNL, v_isNotN, v_isNotL, wp_fn, startW, wp_call, wp_C, wp_V, wp_bin, wp_un, wp_and, wp_or, wp_not, rt_V, rt_and, rt_or, rt_not, rt_bl, rt_yes, wp_if, wp_chain, ra_nil, ra_cons, wp_tup, wp_lst, wp_cb, wp_mt, wp_dict0, wp_sl, ro_none, ro_some, fs_seq, fs_nil, fs_brk, fs_cnt, fs_expr, fs_ret, fs_retN, fs_if, fs_set, fs_par, fs_asg, fs_sub, fs_aug, ri_val, ri_args, wp_some, wp_ok, wp_bind, List.map_cons, List.map_nil, List.length_cons, List.length_nil, List.replicate, List.cons_append, List.nil_append, List.getElem?_cons_zero, List.getElem?_cons_succ, List.set_cons_zero, List.set_cons_succ, Option.some.injEq, exists_eq_left', exists_eq_left, Nat.reduceAdd, Nat.reduceSub, Nat.reduceLeDiff, true_and, W.bl.injEq, W.int.injEq, W.str.injEq, W.tup.injEq, if_true, if_false, Bool.false_eq_true, Bool.not_true, Bool.not_false, truth_bl, truth_int, truth_tup, v_addI, v_subI, v_mod, v_fdiv, v_neg, v_lt, v_le, v_gt, v_ge, v_cint, v_cintB, v_cabs, v_cmax, v_cmin, v_lenT, v_lenF, v_ixT, v_ixF, v_revT, v_cutT, v_tupT, v_listT, v_eqI, v_neI, v_eqS, v_neS, Option.map_some, decide_eq_true_eq, decide_true, decide_false, and_self, and_true, Int.reduceToNat, Int.reduceNeg, Int.reduceLT, Int.reduceLE, Int.reduceAdd, Int.reduceSub, Int.reduceMul, Int.reduceBEq, Int.reduceBNe, Nat.reduceLT, Nat.reduceMul, Int.toNat_one, Int.toNat_zero]
          exact ⟨by simp [isLine, ht], Fr.refl _ _⟩
        | true =>
          try simp only [two_eq, wo_addT, v_ipAdd, v_ipSub, wp_get2, rp_nil, rp_cons, wp_dict, isDct_new, ri_enumT, v_isNN, v_isNL, v_isNotN, v_isNotL, wp_fn, startW, wp_call, wp_C, wp_V, wp_bin, wp_un, wp_and, wp_or, wp_not, rt_V, rt_and, rt_or, rt_not, rt_bl, rt_yes, wp_if, wp_chain, ra_nil, ra_cons, wp_tup, wp_lst, wp_cb, wp_mt, wp_dict0, wp_sl, ro_none, ro_some, fs_seq, fs_nil, fs_brk, fs_cnt, fs_expr, fs_ret, fs_retN, fs_if, fs_set, fs_par, fs_asg, fs_sub, fs_aug, ri_val, ri_args, wp_some, wp_ok, wp_bind, List.map_cons, List.map_nil, List.length_cons, List.length_nil, List.replicate, List.cons_append, List.nil_append, List.getElem?_cons_zero, List.getElem?_cons_succ, List.set_cons_zero, List.set_cons_succ, Option.some.injEq, exists_eq_left', exists_eq_left, Nat.reduceAdd, Nat.reduceSub, Nat.reduceLeDiff, true_and, W.bl.injEq, W.int.injEq, W.str.injEq, W.tup.injEq, if_true, if_false, Bool.false_eq_true, Bool.not_true, Bool.not_false, truth_bl, truth_int, truth_tup, v_addI, v_subI, v_mod, v_fdiv, v_neg, v_lt, v_le, v_gt, v_ge, v_cint, v_cintB, v_cabs, v_cmax, v_cmin, v_lenT, v_lenF, v_ixT, v_ixF, v_revT, v_cutT, v_tupT, v_listT, v_eqI, v_neI, v_eqS, v_neS, Option.map_some, decide_eq_true_eq, decide_true, decide_false, and_self, and_true, Int.reduceToNat, Int.reduceNeg, Int.reduceLT, Int.reduceLE, Int.reduceAdd, Int.reduceSub, Int.reduceMul, Int.reduceBEq, Int.reduceBNe, Nat.reduceLT, Nat.reduceMul, Int.toNat_one, Int.toNat_zero, i1]
          refine (law_is_name_w (.inl hb)).imp fun r μ' ⟨e, f⟩ => ⟨by rw [e]; simp [isLine, ht], f⟩
  | _ =>
    simp only [two_eq, wo_addT, v_ipAdd, v_ipSub, wp_get2, rp_nil, rp_cons, wp_dict, isDct_new, ri_enumT, v_isNN, v_isNL, v_isNotN, v_isNotL, wp_fn, startW, wp_call, wp_C, wp_V, wp_bin, wp_un, wp_and, wp_or, wp_not, rt_V, rt_and, rt_or, rt_not, rt_bl, rt_yes, wp_if, wp_chain, ra_nil, ra_cons, wp_tup, wp_lst, wp_cb, wp_mt, wp_dict0, wp_sl, ro_none, ro_some, fs_seq, fs_nil, fs_brk, fs_cnt, fs_expr, fs_ret, fs_retN, fs_if, fs_set, fs_par, fs_asg, fs_sub, fs_aug, ri_val, ri_args, wp_some, wp_ok, wp_bind, List.map_cons, List.map_nil, List.length_cons, List.length_nil, List.replicate, List.cons_append, List.nil_append, List.getElem?_cons_zero, List.getElem?_cons_succ, List.set_cons_zero, List.set_cons_succ, Option.some.injEq, exists_eq_left', exists_eq_left, Nat.reduceAdd, Nat.reduceSub, Nat.reduceLeDiff, true_and, W.bl.injEq, W.int.injEq, W.str.injEq, W.tup.injEq, if_true, if_false, Bool.false_eq_true, Bool.not_true, Bool.not_false, truth_bl, truth_int, truth_tup, v_addI, v_subI, v_mod, v_fdiv, v_neg, v_lt, v_le, v_gt, v_ge, v_cint, v_cintB, v_cabs, v_cmax, v_cmin, v_lenT, v_lenF, v_ixT, v_ixF, v_revT, v_cutT, v_tupT, v_listT, v_eqI, v_neI, v_eqS, v_neS, Option.map_some, decide_eq_true_eq, decide_true, decide_false, and_self, and_true, Int.reduceToNat, Int.reduceNeg, Int.reduceLT, Int.reduceLE, Int.reduceAdd, Int.reduceSub, Int.reduceMul, Int.reduceBEq, Int.reduceBNe, Nat.reduceLT, Nat.reduceMul, Int.toNat_one, Int.toNat_zero, isTup]
    exact ⟨rfl, Fr.refl _ _⟩

def areLines : W → Bool
  | .tup xs => xs.all isLine
  | _ => false
theorem are_lines_w {μ : Mem} {w : W} (h : Vl μ w) : Rw (g_are_lines [w] μ) fun r μ' => r = .bl (areLines w) ∧ Fr [] μ μ' := by
  unfold g_are_lines b_are_lines
  simp only [two_eq, wo_addT, v_ipAdd, v_ipSub, wp_get2, rp_nil, rp_cons, wp_dict, isDct_new, ri_enumT, v_isNN, v_isNL, v_isNotN, v_isNotL, wp_fn, startW, wp_call, wp_C, wp_V, wp_bin, wp_un, wp_and, wp_or, wp_not, rt_V, rt_and, rt_or, rt_not, rt_bl, rt_yes, wp_if, wp_chain, ra_nil, ra_cons, wp_tup, wp_lst, wp_cb, wp_mt, wp_dict0, wp_sl, ro_none, ro_some, fs_seq, fs_nil, fs_brk, fs_cnt, fs_expr, fs_ret, fs_retN, fs_if, fs_set, fs_par, fs_asg, fs_sub, fs_aug, ri_val, ri_args, wp_some, wp_ok, wp_bind, List.map_cons, List.map_nil, List.length_cons, List.length_nil, List.replicate, List.cons_append, List.nil_append, List.getElem?_cons_zero, List.getElem?_cons_succ, List.set_cons_zero, List.set_cons_succ, Option.some.injEq, exists_eq_left', exists_eq_left, Nat.reduceAdd, Nat.reduceSub, Nat.reduceLeDiff, true_and, W.bl.injEq, W.int.injEq, W.str.injEq, W.tup.injEq, if_true, if_false, Bool.false_eq_true, Bool.not_true, Bool.not_false, truth_bl, truth_int, truth_tup, v_addI, v_subI, v_mod, v_fdiv, v_neg, v_lt, v_le, v_gt, v_ge, v_cint, v_cintB, v_cabs, v_cmax, v_cmin, v_lenT, v_lenF, v_ixT, v_ixF, v_revT, v_cutT, v_tupT, v_listT, v_eqI, v_neI, v_eqS, v_neS, Option.map_some, decide_eq_true_eq, decide_true, decide_false, and_self, and_true, Int.reduceToNat, Int.reduceNeg, Int.reduceLT, Int.reduceLE, Int.reduceAdd, Int.reduceSub, Int.reduceMul, Int.reduceBEq, Int.reduceBNe, Nat.reduceLT, Nat.reduceMul, Int.toNat_one, Int.toNat_zero, isi_tup h]
  cases w with
  | tup xs =>
    simp only [two_eq, wo_addT, v_ipAdd, v_ipSub, wp_get2, rp_nil, rp_cons, wp_dict, isDct_new, ri_enumT, v_isNN, v_isNL, v_isNotN, v_isNotL, wp_fn, startW, wp_call, wp_C, wp_V, wp_bin, wp_un, wp_and, wp_or, wp_not, rt_V, rt_and, rt_or, rt_not, rt_bl, rt_yes, wp_if, wp_chain, ra_nil, ra_cons, wp_tup, wp_lst, wp_cb, wp_mt, wp_dict0, wp_sl, ro_none, ro_some, fs_seq, fs_nil, fs_brk, fs_cnt, fs_expr, fs_ret, fs_retN, fs_if, fs_set, fs_par, fs_asg, fs_sub, fs_aug, ri_val, ri_args, wp_some, wp_ok, wp_bind, List.map_cons, List.map_nil, List.length_cons, List.length_nil, List.replicate, List.cons_append, List.nil_append, List.getElem?_cons_zero, List.getElem?_cons_succ, List.set_cons_zero, List.set_cons_succ, Option.some.injEq, exists_eq_left', exists_eq_left, Nat.reduceAdd, Nat.reduceSub, Nat.reduceLeDiff, true_and, W.bl.injEq, W.int.injEq, W.str.injEq, W.tup.injEq, if_true, if_false, Bool.false_eq_true, Bool.not_true, Bool.not_false, truth_bl, truth_int, truth_tup, v_addI, v_subI, v_mod, v_fdiv, v_neg, v_lt, v_le, v_gt, v_ge, v_cint, v_cintB, v_cabs, v_cmax, v_cmin, v_lenT, v_lenF, v_ixT, v_ixF, v_revT, v_cutT, v_tupT, v_listT, v_eqI, v_neI, v_eqS, v_neS, Option.map_some, decide_eq_true_eq, decide_true, decide_false, and_self, and_true, Int.reduceToNat, Int.reduceNeg, Int.reduceLT, Int.reduceLE, Int.reduceAdd, Int.reduceSub, Int.reduceMul, Int.reduceBEq, Int.reduceBNe, Nat.reduceLT, Nat.reduceMul, Int.toNat_one, Int.toNat_zero, isTup]
    refine (lc_pure xs (fun _ => true) (fun x => .bl (isLine x)) ?_ h.len ?_).imp ?_
    · simp only [two_eq, wo_addT, v_ipAdd, v_ipSub, wp_get2, rp_nil, rp_cons, wp_dict, isDct_new, ri_enumT, v_isNN, v_isNL, v_isNotN, v_isNotL, wp_fn, startW, wp_call, wp_C, wp_V, wp_bin, wp_un, wp_and, wp_or, wp_not, rt_V, rt_and, rt_or, rt_not, rt_bl, rt_yes, wp_if, wp_chain, ra_nil, ra_cons, wp_tup, wp_lst, wp_cb, wp_mt, wp_dict0, wp_sl, ro_none, ro_some, fs_seq, fs_nil, fs_brk, fs_cnt, fs_expr, fs_ret, fs_retN, fs_if, fs_set, fs_par, fs_asg, fs_sub, fs_aug, ri_val, ri_args, wp_some, wp_ok, wp_bind, List.map_cons, List.map_nil, List.length_cons, List.length_nil, List.replicate, List.cons_append, List.nil_append, List.getElem?_cons_zero, List.getElem?_cons_succ, List.set_cons_zero, List.set_cons_succ, Option.some.injEq, exists_eq_left', exists_eq_left, Nat.reduceAdd, Nat.reduceSub, Nat.reduceLeDiff, true_and, W.bl.injEq, W.int.injEq, W.str.injEq, W.tup.injEq, if_true, if_false, Bool.false_eq_true, Bool.not_true, Bool.not_false, truth_bl, truth_int, truth_tup, v_addI, v_subI, v_mod, v_fdiv, v_neg, v_lt, v_le, v_gt, v_ge, v_cint, v_cintB, v_cabs, v_cmax, v_cmin, v_lenT, v_lenF, v_ixT, v_ixF, v_revT, v_cutT, v_tupT, v_listT, v_eqI, v_neI, v_eqS, v_neS, Option.map_some, decide_eq_true_eq, decide_true, decide_false, and_self, and_true, Int.reduceToNat, Int.reduceNeg, Int.reduceLT, Int.reduceLE, Int.reduceAdd, Int.reduceSub, Int.reduceMul, Int.reduceBEq, Int.reduceBNe, Nat.reduceLT, Nat.reduceMul, Int.toNat_one, Int.toNat_zero]
      exact ⟨.inl rfl, Fr.refl _ _⟩
    · intro x hx μ1 f1
      refine ⟨_, rfl, ?_⟩
      simp only [two_eq, wo_addT, v_ipAdd, v_ipSub, wp_get2, rp_nil, rp_cons, wp_dict, isDct_new, ri_enumT, v_isNN, v_isNL, v_isNotN, v_isNotL, wp_fn, startW, wp_call, wp_C, wp_V, wp_bin, wp_un, wp_and, wp_or, wp_not, rt_V, rt_and, rt_or, rt_not, rt_bl, rt_yes, wp_if, wp_chain, ra_nil, ra_cons, wp_tup, wp_lst, wp_cb, wp_mt, wp_dict0, wp_sl, ro_none, ro_some, fs_seq, fs_nil, fs_brk, fs_cnt, fs_expr, fs_ret, fs_retN, fs_if, fs_set, fs_par, fs_asg, fs_sub, fs_aug, ri_val, ri_args, wp_some, wp_ok, wp_bind, List.map_cons, List.map_nil, List.length_cons, List.length_nil, List.replicate, List.cons_append, List.nil_append, List.getElem?_cons_zero, List.getElem?_cons_succ, List.set_cons_zero, List.set_cons_succ, Option.some.injEq, exists_eq_left', exists_eq_left, Nat.reduceAdd, Nat.reduceSub, Nat.reduceLeDiff, true_and, W.bl.injEq, W.int.injEq, W.str.injEq, W.tup.injEq, if_true, if_false, Bool.false_eq_true, Bool.not_true, Bool.not_false, truth_bl, truth_int, truth_tup, v_addI, v_subI, v_mod, v_fdiv, v_neg, v_lt, v_le, v_gt, v_ge, v_cint, v_cintB, v_cabs, v_cmax, v_cmin, v_lenT, v_lenF, v_ixT, v_ixF, v_revT, v_cutT, v_tupT, v_listT, v_eqI, v_neI, v_eqS, v_neS, Option.map_some, decide_eq_true_eq, decide_true, decide_false, and_self, and_true, Int.reduceToNat, Int.reduceNeg, Int.reduceLT, Int.reduceLE, Int.reduceAdd, Int.reduceSub, Int.reduceMul, Int.reduceBEq, Int.reduceBNe, Nat.reduceLT, Nat.reduceMul, Int.toNat_one, Int.toNat_zero, wipeW]
      refine ⟨Fr.refl _ _, fun _ => ?_⟩
      exact (is_line_w ((Vl.item h hx).fr f1)).imp fun r μ' ⟨e, f⟩ => ⟨f, e⟩
    · rintro r μ' ⟨k, rfl, hk, fr, _⟩
      have e : List.map (fun x => W.bl (isLine x)) (List.filter (fun x => true) xs) = (xs.map isLine).map W.bl := by
        rw [List.filter_eq_self.mpr (by simp), List.map_map]
        rfl
      rw [e] at hk
      simp only [two_eq, wo_addT, v_ipAdd, v_ipSub, wp_get2, rp_nil, rp_cons, wp_dict, isDct_new, ri_enumT, v_isNN, v_isNL, v_isNotN, v_isNotL, wp_fn, startW, wp_call, wp_C, wp_V, wp_bin, wp_un, wp_and, wp_or, wp_not, rt_V, rt_and, rt_or, rt_not, rt_bl, rt_yes, wp_if, wp_chain, ra_nil, ra_cons, wp_tup, wp_lst, wp_cb, wp_mt, wp_dict0, wp_sl, ro_none, ro_some, fs_seq, fs_nil, fs_brk, fs_cnt, fs_expr, fs_ret, fs_retN, fs_if, fs_set, fs_par, fs_asg, fs_sub, fs_aug, ri_val, ri_args, wp_some, wp_ok, wp_bind, List.map_cons, List.map_nil, List.length_cons, List.length_nil, List.replicate, List.cons_append, List.nil_append, List.getElem?_cons_zero, List.getElem?_cons_succ, List.set_cons_zero, List.set_cons_succ, Option.some.injEq, exists_eq_left', exists_eq_left, Nat.reduceAdd, Nat.reduceSub, Nat.reduceLeDiff, true_and, W.bl.injEq, W.int.injEq, W.str.injEq, W.tup.injEq, if_true, if_false, Bool.false_eq_true, Bool.not_true, Bool.not_false, truth_bl, truth_int, truth_tup, v_addI, v_subI, v_mod, v_fdiv, v_neg, v_lt, v_le, v_gt, v_ge, v_cint, v_cintB, v_cabs, v_cmax, v_cmin, v_lenT, v_lenF, v_ixT, v_ixF, v_revT, v_cutT, v_tupT, v_listT, v_eqI, v_neI, v_eqS, v_neS, Option.map_some, decide_eq_true_eq, decide_true, decide_false, and_self, and_true, Int.reduceToNat, Int.reduceNeg, Int.reduceLT, Int.reduceLE, Int.reduceAdd, Int.reduceSub, Int.reduceMul, Int.reduceBEq, Int.reduceBNe, Nat.reduceLT, Nat.reduceMul, Int.toNat_one, Int.toNat_zero, v_all hk]
      refine ⟨?_, fr⟩
      simp [areLines, List.all_map]
  | _ =>
    simp only [two_eq, wo_addT, v_ipAdd, v_ipSub, wp_get2, rp_nil, rp_cons, wp_dict, isDct_new, ri_enumT, v_isNN, v_isNL, v_isNotN, v_isNotL, wp_fn, startW, wp_call, wp_C, wp_V, wp_bin, wp_un, wp_and, wp_or, wp_not, rt_V, rt_and, rt_or, rt_not, rt_bl, rt_yes, wp_if, wp_chain, ra_nil, ra_cons, wp_tup, wp_lst, wp_cb, wp_mt, wp_dict0, wp_sl, ro_none, ro_some, fs_seq, fs_nil, fs_brk, fs_cnt, fs_expr, fs_ret, fs_retN, fs_if, fs_set, fs_par, fs_asg, fs_sub, fs_aug, ri_val, ri_args, wp_some, wp_ok, wp_bind, List.map_cons, List.map_nil, List.length_cons, List.length_nil, List.replicate, List.cons_append, List.nil_append, List.getElem?_cons_zero, List.getElem?_cons_succ, List.set_cons_zero, List.set_cons_succ, Option.some.injEq, exists_eq_left', exists_eq_left, Nat.reduceAdd, Nat.reduceSub, Nat.reduceLeDiff, true_and, W.bl.injEq, W.int.injEq, W.str.injEq, W.tup.injEq, if_true, if_false, Bool.false_eq_true, Bool.not_true, Bool.not_false, truth_bl, truth_int, truth_tup, v_addI, v_subI, v_mod, v_fdiv, v_neg, v_lt, v_le, v_gt, v_ge, v_cint, v_cintB, v_cabs, v_cmax, v_cmin, v_lenT, v_lenF, v_ixT, v_ixF, v_revT, v_cutT, v_tupT, v_listT, v_eqI, v_neI, v_eqS, v_neS, Option.map_some, decide_eq_true_eq, decide_true, decide_false, and_self, and_true, Int.reduceToNat, Int.reduceNeg, Int.reduceLT, Int.reduceLE, Int.reduceAdd, Int.reduceSub, Int.reduceMul, Int.reduceBEq, Int.reduceBNe, Nat.reduceLT, Nat.reduceMul, Int.toNat_one, Int.toNat_zero, isTup]
    exact ⟨rfl, Fr.refl _ _⟩
theorem law_are_lines_w {μ : Mem} {w : W} (h : Vl μ w) : Rw (g__law_are_lines [w] μ) fun r μ' => r = .bl (areLines w) ∧ Fr [] μ μ' := by
  unfold g__law_are_lines b__law_are_lines
  simp only [two_eq, wo_addT, v_ipAdd, v_ipSub, wp_get2, rp_nil, rp_cons, wp_dict, isDct_new, ri_enumT, v_isNN, v_isNL, v_isNotN, v_isNotL, wp_fn, startW, wp_call, wp_C, wp_V, wp_bin, wp_un, wp_and, wp_or, wp_not, rt_V, rt_and, rt_or, rt_not, rt_bl, rt_yes, wp_if, wp_chain, ra_nil, ra_cons, wp_tup, wp_lst, wp_cb, wp_mt, wp_dict0, wp_sl, ro_none, ro_some, fs_seq, fs_nil, fs_brk, fs_cnt, fs_expr, fs_ret, fs_retN, fs_if, fs_set, fs_par, fs_asg, fs_sub, fs_aug, ri_val, ri_args, wp_some, wp_ok, wp_bind, List.map_cons, List.map_nil, List.length_cons, List.length_nil, List.replicate, List.cons_append, List.nil_append, List.getElem?_cons_zero, List.getElem?_cons_succ, List.set_cons_zero, List.set_cons_succ, Option.some.injEq, exists_eq_left', exists_eq_left, Nat.reduceAdd, Nat.reduceSub, Nat.reduceLeDiff, true_and, W.bl.injEq, W.int.injEq, W.str.injEq, W.tup.injEq, if_true, if_false, Bool.false_eq_true, Bool.not_true, Bool.not_false, truth_bl, truth_int, truth_tup, v_addI, v_subI, v_mod, v_fdiv, v_neg, v_lt, v_le, v_gt, v_ge, v_cint, v_cintB, v_cabs, v_cmax, v_cmin, v_lenT, v_lenF, v_ixT, v_ixF, v_revT, v_cutT, v_tupT, v_listT, v_eqI, v_neI, v_eqS, v_neS, Option.map_some, decide_eq_true_eq, decide_true, decide_false, and_self, and_true, Int.reduceToNat, Int.reduceNeg, Int.reduceLT, Int.reduceLE, Int.reduceAdd, Int.reduceSub, Int.reduceMul, Int.reduceBEq, Int.reduceBNe, Nat.reduceLT, Nat.reduceMul, Int.toNat_one, Int.toNat_zero, isi_tup h]
  cases w with
  | tup xs =>
    simp only [two_eq, wo_addT, v_ipAdd, v_ipSub, wp_get2, rp_nil, rp_cons, wp_dict, isDct_new, ri_enumT, v_isNN, v_isNL, v_isNotN, v_isNotL, wp_fn, startW, wp_call, wp_C, wp_V, wp_bin, wp_un, wp_and, wp_or, wp_not, rt_V, rt_and, rt_or, rt_not, rt_bl, rt_yes, wp_if, wp_chain, ra_nil, ra_cons, wp_tup, wp_lst, wp_cb, wp_mt, wp_dict0, wp_sl, ro_none, ro_some, fs_seq, fs_nil, fs_brk, fs_cnt, fs_expr, fs_ret, fs_retN, fs_if, fs_set, fs_par, fs_asg, fs_sub, fs_aug, ri_val, ri_args, wp_some, wp_ok, wp_bind, List.map_cons, List.map_nil, List.length_cons, List.length_nil, List.replicate, List.cons_append, List.nil_append, List.getElem?_cons_zero, List.getElem?_cons_succ, List.set_cons_zero, List.set_cons_succ, Option.some.injEq, exists_eq_left', exists_eq_left, Nat.reduceAdd, Nat.reduceSub, Nat.reduceLeDiff, true_and, W.bl.injEq, W.int.injEq, W.str.injEq, W.tup.injEq, if_true, if_false, Bool.false_eq_true, Bool.not_true, Bool.not_false, truth_bl, truth_int, truth_tup, v_addI, v_subI, v_mod, v_fdiv, v_neg, v_lt, v_le, v_gt, v_ge, v_cint, v_cintB, v_cabs, v_cmax, v_cmin, v_lenT, v_lenF, v_ixT, v_ixF, v_revT, v_cutT, v_tupT, v_listT, v_eqI, v_neI, v_eqS, v_neS, Option.map_some, decide_eq_true_eq, decide_true, decide_false, and_self, and_true, Int.reduceToNat, Int.reduceNeg, Int.reduceLT, Int.reduceLE, Int.reduceAdd, Int.reduceSub, Int.reduceMul, Int.reduceBEq, Int.reduceBNe, Nat.reduceLT, Nat.reduceMul, Int.toNat_one, Int.toNat_zero, isTup]
    refine (lc_pure xs (fun x => !isLine x) (fun x => x) ?_ h.len ?_).imp ?_
    · simp only [two_eq, wo_addT, v_ipAdd, v_ipSub, wp_get2, rp_nil, rp_cons, wp_dict, isDct_new, ri_enumT, v_isNN, v_isNL, v_isNotN, v_isNotL, wp_fn, startW, wp_call, wp_C, wp_V, wp_bin, wp_un, wp_and, wp_or, wp_not, rt_V, rt_and, rt_or, rt_not, rt_bl, rt_yes, wp_if, wp_chain, ra_nil, ra_cons, wp_tup, wp_lst, wp_cb, wp_mt, wp_dict0, wp_sl, ro_none, ro_some, fs_seq, fs_nil, fs_brk, fs_cnt, fs_expr, fs_ret, fs_retN, fs_if, fs_set, fs_par, fs_asg, fs_sub, fs_aug, ri_val, ri_args, wp_some, wp_ok, wp_bind, List.map_cons, List.map_nil, List.length_cons, List.length_nil, List.replicate, List.cons_append, List.nil_append, List.getElem?_cons_zero, List.getElem?_cons_succ, List.set_cons_zero, List.set_cons_succ, Option.some.injEq, exists_eq_left', exists_eq_left, Nat.reduceAdd, Nat.reduceSub, Nat.reduceLeDiff, true_and, W.bl.injEq, W.int.injEq, W.str.injEq, W.tup.injEq, if_true, if_false, Bool.false_eq_true, Bool.not_true, Bool.not_false, truth_bl, truth_int, truth_tup, v_addI, v_subI, v_mod, v_fdiv, v_neg, v_lt, v_le, v_gt, v_ge, v_cint, v_cintB, v_cabs, v_cmax, v_cmin, v_lenT, v_lenF, v_ixT, v_ixF, v_revT, v_cutT, v_tupT, v_listT, v_eqI, v_neI, v_eqS, v_neS, Option.map_some, decide_eq_true_eq, decide_true, decide_false, and_self, and_true, Int.reduceToNat, Int.reduceNeg, Int.reduceLT, Int.reduceLE, Int.reduceAdd, Int.reduceSub, Int.reduceMul, Int.reduceBEq, Int.reduceBNe, Nat.reduceLT, Nat.reduceMul, Int.toNat_one, Int.toNat_zero]
      exact ⟨.inl rfl, Fr.refl _ _⟩
    · intro x hx μ1 f1
      refine ⟨_, rfl, ?_⟩
      simp only [two_eq, wo_addT, v_ipAdd, v_ipSub, wp_get2, rp_nil, rp_cons, wp_dict, isDct_new, ri_enumT, v_isNN, v_isNL, v_isNotN, v_isNotL, wp_fn, startW, wp_call, wp_C, wp_V, wp_bin, wp_un, wp_and, wp_or, wp_not, rt_V, rt_and, rt_or, rt_not, rt_bl, rt_yes, wp_if, wp_chain, ra_nil, ra_cons, wp_tup, wp_lst, wp_cb, wp_mt, wp_dict0, wp_sl, ro_none, ro_some, fs_seq, fs_nil, fs_brk, fs_cnt, fs_expr, fs_ret, fs_retN, fs_if, fs_set, fs_par, fs_asg, fs_sub, fs_aug, ri_val, ri_args, wp_some, wp_ok, wp_bind, List.map_cons, List.map_nil, List.length_cons, List.length_nil, List.replicate, List.cons_append, List.nil_append, List.getElem?_cons_zero, List.getElem?_cons_succ, List.set_cons_zero, List.set_cons_succ, Option.some.injEq, exists_eq_left', exists_eq_left, Nat.reduceAdd, Nat.reduceSub, Nat.reduceLeDiff, true_and, W.bl.injEq, W.int.injEq, W.str.injEq, W.tup.injEq, if_true, if_false, Bool.false_eq_true, Bool.not_true, Bool.not_false, truth_bl, truth_int, truth_tup, v_addI, v_subI, v_mod, v_fdiv, v_neg, v_lt, v_le, v_gt, v_ge, v_cint, v_cintB, v_cabs, v_cmax, v_cmin, v_lenT, v_lenF, v_ixT, v_ixF, v_revT, v_cutT, v_tupT, v_listT, v_eqI, v_neI, v_eqS, v_neS, Option.map_some, decide_eq_true_eq, decide_true, decide_false, and_self, and_true, Int.reduceToNat, Int.reduceNeg, Int.reduceLT, Int.reduceLE, Int.reduceAdd, Int.reduceSub, Int.reduceMul, Int.reduceBEq, Int.reduceBNe, Nat.reduceLT, Nat.reduceMul, Int.toNat_one, Int.toNat_zero, wipeW]
      refine (law_is_line_w ((Vl.item h hx).fr f1)).imp fun r μ' ⟨e, f⟩ => ?_
      subst e
      simp only [two_eq, wo_addT, v_ipAdd, v_ipSub, wp_get2, rp_nil, rp_cons, wp_dict, isDct_new, ri_enumT, v_isNN, v_isNL, v_isNotN, v_isNotL, wp_fn, startW, wp_call, wp_C, wp_V, wp_bin, wp_un, wp_and, wp_or, wp_not, rt_V, rt_and, rt_or, rt_not, rt_bl, rt_yes, wp_if, wp_chain, ra_nil, ra_cons, wp_tup, wp_lst, wp_cb, wp_mt, wp_dict0, wp_sl, ro_none, ro_some, fs_seq, fs_nil, fs_brk, fs_cnt, fs_expr, fs_ret, fs_retN, fs_if, fs_set, fs_par, fs_asg, fs_sub, fs_aug, ri_val, ri_args, wp_some, wp_ok, wp_bind, List.map_cons, List.map_nil, List.length_cons, List.length_nil, List.replicate, List.cons_append, List.nil_append, List.getElem?_cons_zero, List.getElem?_cons_succ, List.set_cons_zero, List.set_cons_succ, Option.some.injEq, exists_eq_left', exists_eq_left, Nat.reduceAdd, Nat.reduceSub, Nat.reduceLeDiff, true_and, W.bl.injEq, W.int.injEq, W.str.injEq, W.tup.injEq, if_true, if_false, Bool.false_eq_true, Bool.not_true, Bool.not_false, truth_bl, truth_int, truth_tup, v_addI, v_subI, v_mod, v_fdiv, v_neg, v_lt, v_le, v_gt, v_ge, v_cint, v_cintB, v_cabs, v_cmax, v_cmin, v_lenT, v_lenF, v_ixT, v_ixF, v_revT, v_cutT, v_tupT, v_listT, v_eqI, v_neI, v_eqS, v_neS, Option.map_some, decide_eq_true_eq, decide_true, decide_false, and_self, and_true, Int.reduceToNat, Int.reduceNeg, Int.reduceLT, Int.reduceLE, Int.reduceAdd, Int.reduceSub, Int.reduceMul, Int.reduceBEq, Int.reduceBNe, Nat.reduceLT, Nat.reduceMul, Int.toNat_one, Int.toNat_zero]
      exact ⟨f, fun _ => Fr.refl _ _⟩
    · rintro r μ' ⟨k, rfl, hk, fr, _⟩
      have hd : ∃ ds, mapO (toD (μ' ++ [.lst []]) 39) (List.map (fun x => x) (List.filter (fun x => !isLine x) xs)) = some ds := mapO_all fun x hx => by
        rw [List.map_id'] at hx
        exact ((item_gd h (List.mem_filter.mp hx).1).sub (fr.trans (Fr.app [] μ' [.lst []])).sub |>.up (by decide)).toD
      simp only [two_eq, wo_addT, v_ipAdd, v_ipSub, wp_get2, rp_nil, rp_cons, wp_dict, isDct_new, ri_enumT, v_isNN, v_isNL, v_isNotN, v_isNotL, wp_fn, startW, wp_call, wp_C, wp_V, wp_bin, wp_un, wp_and, wp_or, wp_not, rt_V, rt_and, rt_or, rt_not, rt_bl, rt_yes, wp_if, wp_chain, ra_nil, ra_cons, wp_tup, wp_lst, wp_cb, wp_mt, wp_dict0, wp_sl, ro_none, ro_some, fs_seq, fs_nil, fs_brk, fs_cnt, fs_expr, fs_ret, fs_retN, fs_if, fs_set, fs_par, fs_asg, fs_sub, fs_aug, ri_val, ri_args, wp_some, wp_ok, wp_bind, List.map_cons, List.map_nil, List.length_cons, List.length_nil, List.replicate, List.cons_append, List.nil_append, List.getElem?_cons_zero, List.getElem?_cons_succ, List.set_cons_zero, List.set_cons_succ, Option.some.injEq, exists_eq_left', exists_eq_left, Nat.reduceAdd, Nat.reduceSub, Nat.reduceLeDiff, true_and, W.bl.injEq, W.int.injEq, W.str.injEq, W.tup.injEq, if_true, if_false, Bool.false_eq_true, Bool.not_true, Bool.not_false, truth_bl, truth_int, truth_tup, v_addI, v_subI, v_mod, v_fdiv, v_neg, v_lt, v_le, v_gt, v_ge, v_cint, v_cintB, v_cabs, v_cmax, v_cmin, v_lenT, v_lenF, v_ixT, v_ixF, v_revT, v_cutT, v_tupT, v_listT, v_eqI, v_neI, v_eqS, v_neS, Option.map_some, decide_eq_true_eq, decide_true, decide_false, and_self, and_true, Int.reduceToNat, Int.reduceNeg, Int.reduceLT, Int.reduceLE, Int.reduceAdd, Int.reduceSub, Int.reduceMul, Int.reduceBEq, Int.reduceBNe, Nat.reduceLT, Nat.reduceMul, Int.toNat_one, Int.toNat_zero, v_eq0 (getL_app hk) hd getL_new]
      refine ⟨?_, fr.trans (Fr.app _ _ _)⟩
      rw [List.map_id', Bool.eq_iff_iff, List.isEmpty_iff, List.filter_eq_nil_iff]
      simp [areLines]
  | _ =>
    simp only [two_eq, wo_addT, v_ipAdd, v_ipSub, wp_get2, rp_nil, rp_cons, wp_dict, isDct_new, ri_enumT, v_isNN, v_isNL, v_isNotN, v_isNotL, wp_fn, startW, wp_call, wp_C, wp_V, wp_bin, wp_un, wp_and, wp_or, wp_not, rt_V, rt_and, rt_or, rt_not, rt_bl, rt_yes, wp_if, wp_chain, ra_nil, ra_cons, wp_tup, wp_lst, wp_cb, wp_mt, wp_dict0, wp_sl, ro_none, ro_some, fs_seq, fs_nil, fs_brk, fs_cnt, fs_expr, fs_ret, fs_retN, fs_if, fs_set, fs_par, fs_asg, fs_sub, fs_aug, ri_val, ri_args, wp_some, wp_ok, wp_bind, List.map_cons, List.map_nil, List.length_cons, List.length_nil, List.replicate, List.cons_append, List.nil_append, List.getElem?_cons_zero, List.getElem?_cons_succ, List.set_cons_zero, List.set_cons_succ, Option.some.injEq, exists_eq_left', exists_eq_left, Nat.reduceAdd, Nat.reduceSub, Nat.reduceLeDiff, true_and, W.bl.injEq, W.int.injEq, W.str.injEq, W.tup.injEq, if_true, if_false, Bool.false_eq_true, Bool.not_true, Bool.not_false, truth_bl, truth_int, truth_tup, v_addI, v_subI, v_mod, v_fdiv, v_neg, v_lt, v_le, v_gt, v_ge, v_cint, v_cintB, v_cabs, v_cmax, v_cmin, v_lenT, v_lenF, v_ixT, v_ixF, v_revT, v_cutT, v_tupT, v_listT, v_eqI, v_neI, v_eqS, v_neS, Option.map_some, decide_eq_true_eq, decide_true, decide_false, and_self, and_true, Int.reduceToNat, Int.reduceNeg, Int.reduceLT, Int.reduceLE, Int.reduceAdd, Int.reduceSub, Int.reduceMul, Int.reduceBEq, Int.reduceBNe, Nat.reduceLT, Nat.reduceMul, Int.toNat_one, Int.toNat_zero, isTup]
    exact ⟨rfl, Fr.refl _ _⟩

/-! ### what is open -/
def lw (p : Str × Str) : W := .tup [.str p.1, .str p.2]
def opened : List Str → List (Str × Str) → Option (List Str)
  | acc, [] => some acc
  | acc, p :: r => if (p.1 == ("in" : Str)) = true then opened (acc ++ [p.2]) r else if (p.1 == ("out" : Str)) = true then (match acc.getLast? with
    | none => none
    | some z => if (z == p.2) = true then opened acc.dropLast r else none) else opened acc r
theorem opened_cons {acc : List Str} {p : Str × Str} {r : List (Str × Str)} : opened acc (p :: r) = if (p.1 == ("in" : Str)) = true then opened (acc ++ [p.2]) r else if (p.1 == ("out" : Str)) = true then (match acc.getLast? with
    | none => none
    | some z => if (z == p.2) = true then opened acc.dropLast r else none) else opened acc r := id rfl
theorem lines_of {xs : List W} (h : xs.all isLine = true) : ∃ ls : List (Str × Str), xs = ls.map lw := by
  induction xs with
  | nil => exact ⟨[], rfl⟩
  | cons x xs ih =>
    rw [List.all_cons, Bool.and_eq_true] at h
    obtain ⟨ls, e⟩ := ih h.2
    have h1 := h.1
    unfold isLine at h1
    split at h1
    · rename_i a b
      rw [Bool.and_eq_true] at h1
      cases a with
      | str a =>
        cases b with
        | str b => exact ⟨(a, b) :: ls, by rw [e]; rfl⟩
        | _ => exact absurd h1.2 (by simp [isName])
      | _ => exact absurd h1.1 (by simp [tagW])
    · cases h1
theorem strs_data {μ : Mem} {ns : List Str} : ∃ ds, mapO (toD μ 39) (ns.map W.str) = some ds := mapO_all fun x hx => by
  obtain ⟨z, _, rfl⟩ := List.mem_map.mp hx
  exact ⟨_, rfl⟩
def OpenQ (ls : List (Str × Str)) (μ : Mem) : W → Mem → Prop := fun w μ' => Fr [] μ μ' ∧ ((opened [] ls = none ∧ w = .non) ∨ ∃ ns k, opened [] ls = some ns ∧ w = .loc k ∧ getL μ' k = some (ns.map .str) ∧ ns.length ≤ ls.length)
theorem open_in_w {μ : Mem} {ls : List (Str × Str)} (hz : ls.length < 1000000) : Rw (g_open_in [.tup (ls.map lw)] μ) (OpenQ ls μ) := by
  unfold g_open_in b_open_in
  simp only [two_eq, wo_addT, v_ipAdd, v_ipSub, wp_get2, rp_nil, rp_cons, wp_dict, isDct_new, ri_enumT, v_isNN, v_isNL, v_isNotN, v_isNotL, wp_fn, startW, wp_call, wp_C, wp_V, wp_bin, wp_un, wp_and, wp_or, wp_not, rt_V, rt_and, rt_or, rt_not, rt_bl, rt_yes, wp_if, wp_chain, ra_nil, ra_cons, wp_tup, wp_lst, wp_cb, wp_mt, wp_dict0, wp_sl, ro_none, ro_some, fs_seq, fs_nil, fs_brk, fs_cnt, fs_expr, fs_ret, fs_retN, fs_if, fs_set, fs_par, fs_asg, fs_sub, fs_aug, ri_val, ri_args, wp_some, wp_ok, wp_bind, List.map_cons, List.map_nil, List.length_cons, List.length_nil, List.replicate, List.cons_append, List.nil_append, List.getElem?_cons_zero, List.getElem?_cons_succ, List.set_cons_zero, List.set_cons_succ, Option.some.injEq, exists_eq_left', exists_eq_left, Nat.reduceAdd, Nat.reduceSub, Nat.reduceLeDiff, true_and, W.bl.injEq, W.int.injEq, W.str.injEq, W.tup.injEq, if_true, if_false, Bool.false_eq_true, Bool.not_true, Bool.not_false, truth_bl, truth_int, truth_tup, v_addI, v_subI, v_mod, v_fdiv, v_neg, v_lt, v_le, v_gt, v_ge, v_cint, v_cintB, v_cabs, v_cmax, v_cmin, v_lenT, v_lenF, v_ixT, v_ixF, v_revT, v_cutT, v_tupT, v_listT, v_eqI, v_neI, v_eqS, v_neS, Option.map_some, decide_eq_true_eq, decide_true, decide_false, and_self, and_true, Int.reduceToNat, Int.reduceNeg, Int.reduceLT, Int.reduceLE, Int.reduceAdd, Int.reduceSub, Int.reduceMul, Int.reduceBEq, Int.reduceBNe, Nat.reduceLT, Nat.reduceMul, Int.toNat_one, Int.toNat_zero]
  refine for_w (ls.map lw) (fun i δ μ' => ∃ acc a b, δ = [some (.tup (ls.map lw)), some (.loc μ.length), a, b] ∧ getL μ' μ.length = some (acc.map .str) ∧ acc.length ≤ i ∧ i ≤ ls.length ∧ Fr [] μ μ' ∧ opened acc (ls.drop i) = opened [] ls) ?_ (by simpa using hz) ?_ ?_
  · simp only [two_eq, wo_addT, v_ipAdd, v_ipSub, wp_get2, rp_nil, rp_cons, wp_dict, isDct_new, ri_enumT, v_isNN, v_isNL, v_isNotN, v_isNotL, wp_fn, startW, wp_call, wp_C, wp_V, wp_bin, wp_un, wp_and, wp_or, wp_not, rt_V, rt_and, rt_or, rt_not, rt_bl, rt_yes, wp_if, wp_chain, ra_nil, ra_cons, wp_tup, wp_lst, wp_cb, wp_mt, wp_dict0, wp_sl, ro_none, ro_some, fs_seq, fs_nil, fs_brk, fs_cnt, fs_expr, fs_ret, fs_retN, fs_if, fs_set, fs_par, fs_asg, fs_sub, fs_aug, ri_val, ri_args, wp_some, wp_ok, wp_bind, List.map_cons, List.map_nil, List.length_cons, List.length_nil, List.replicate, List.cons_append, List.nil_append, List.getElem?_cons_zero, List.getElem?_cons_succ, List.set_cons_zero, List.set_cons_succ, Option.some.injEq, exists_eq_left', exists_eq_left, Nat.reduceAdd, Nat.reduceSub, Nat.reduceLeDiff, true_and, W.bl.injEq, W.int.injEq, W.str.injEq, W.tup.injEq, if_true, if_false, Bool.false_eq_true, Bool.not_true, Bool.not_false, truth_bl, truth_int, truth_tup, v_addI, v_subI, v_mod, v_fdiv, v_neg, v_lt, v_le, v_gt, v_ge, v_cint, v_cintB, v_cabs, v_cmax, v_cmin, v_lenT, v_lenF, v_ixT, v_ixF, v_revT, v_cutT, v_tupT, v_listT, v_eqI, v_neI, v_eqS, v_neS, Option.map_some, decide_eq_true_eq, decide_true, decide_false, and_self, and_true, Int.reduceToNat, Int.reduceNeg, Int.reduceLT, Int.reduceLE, Int.reduceAdd, Int.reduceSub, Int.reduceMul, Int.reduceBEq, Int.reduceBNe, Nat.reduceLT, Nat.reduceMul, Int.toNat_one, Int.toNat_zero]
    exact ⟨.inl trivial, [], none, none, rfl, getL_new, Nat.le_refl _, Nat.zero_le _, Fr.app _ _ _, rfl⟩
  · rintro i x δ μ1 hx ⟨acc, a, b, rfl, hk, hl, hi, fr, ho⟩
    rw [List.getElem?_map] at hx
    obtain ⟨p, hp, rfl⟩ := Option.map_eq_some_iff.mp hx
    have lt := (List.getElem?_eq_some_iff.mp hp).1
    have dr : ls.drop i = p :: ls.drop (i + 1) := by
      rw [List.drop_eq_getElem_cons lt]
      congr 1
      exact (List.getElem?_eq_some_iff.mp hp).2
    rw [dr, opened_cons] at ho
    refine ⟨_, rfl, ?_⟩
    simp only [two_eq, wo_addT, v_ipAdd, v_ipSub, wp_get2, rp_nil, rp_cons, wp_dict, isDct_new, ri_enumT, v_isNN, v_isNL, v_isNotN, v_isNotL, wp_fn, startW, wp_call, wp_C, wp_V, wp_bin, wp_un, wp_and, wp_or, wp_not, rt_V, rt_and, rt_or, rt_not, rt_bl, rt_yes, wp_if, wp_chain, ra_nil, ra_cons, wp_tup, wp_lst, wp_cb, wp_mt, wp_dict0, wp_sl, ro_none, ro_some, fs_seq, fs_nil, fs_brk, fs_cnt, fs_expr, fs_ret, fs_retN, fs_if, fs_set, fs_par, fs_asg, fs_sub, fs_aug, ri_val, ri_args, wp_some, wp_ok, wp_bind, List.map_cons, List.map_nil, List.length_cons, List.length_nil, List.replicate, List.cons_append, List.nil_append, List.getElem?_cons_zero, List.getElem?_cons_succ, List.set_cons_zero, List.set_cons_succ, Option.some.injEq, exists_eq_left', exists_eq_left, Nat.reduceAdd, Nat.reduceSub, Nat.reduceLeDiff, true_and, W.bl.injEq, W.int.injEq, W.str.injEq, W.tup.injEq, if_true, if_false, Bool.false_eq_true, Bool.not_true, Bool.not_false, truth_bl, truth_int, truth_tup, v_addI, v_subI, v_mod, v_fdiv, v_neg, v_lt, v_le, v_gt, v_ge, v_cint, v_cintB, v_cabs, v_cmax, v_cmin, v_lenT, v_lenF, v_ixT, v_ixF, v_revT, v_cutT, v_tupT, v_listT, v_eqI, v_neI, v_eqS, v_neS, Option.map_some, decide_eq_true_eq, decide_true, decide_false, and_self, and_true, Int.reduceToNat, Int.reduceNeg, Int.reduceLT, Int.reduceLE, Int.reduceAdd, Int.reduceSub, Int.reduceMul, Int.reduceBEq, Int.reduceBNe, Nat.reduceLT, Nat.reduceMul, Int.toNat_one, Int.toNat_zero]
    by_cases c1 : (p.1 == ("in" : Str)) = true
    · rw [if_pos c1] at ho
      simp only [two_eq, wo_addT, v_ipAdd, v_ipSub, wp_get2, rp_nil, rp_cons, wp_dict, isDct_new, ri_enumT, v_isNN, v_isNL, v_isNotN, v_isNotL, wp_fn, startW, wp_call, wp_C, wp_V, wp_bin, wp_un, wp_and, wp_or, wp_not, rt_V, rt_and, rt_or, rt_not, rt_bl, rt_yes, wp_if, wp_chain, ra_nil, ra_cons, wp_tup, wp_lst, wp_cb, wp_mt, wp_dict0, wp_sl, ro_none, ro_some, fs_seq, fs_nil, fs_brk, fs_cnt, fs_expr, fs_ret, fs_retN, fs_if, fs_set, fs_par, fs_asg, fs_sub, fs_aug, ri_val, ri_args, wp_some, wp_ok, wp_bind, List.map_cons, List.map_nil, List.length_cons, List.length_nil, List.replicate, List.cons_append, List.nil_append, List.getElem?_cons_zero, List.getElem?_cons_succ, List.set_cons_zero, List.set_cons_succ, Option.some.injEq, exists_eq_left', exists_eq_left, Nat.reduceAdd, Nat.reduceSub, Nat.reduceLeDiff, true_and, W.bl.injEq, W.int.injEq, W.str.injEq, W.tup.injEq, if_true, if_false, Bool.false_eq_true, Bool.not_true, Bool.not_false, truth_bl, truth_int, truth_tup, v_addI, v_subI, v_mod, v_fdiv, v_neg, v_lt, v_le, v_gt, v_ge, v_cint, v_cintB, v_cabs, v_cmax, v_cmin, v_lenT, v_lenF, v_ixT, v_ixF, v_revT, v_cutT, v_tupT, v_listT, v_eqI, v_neI, v_eqS, v_neS, Option.map_some, decide_eq_true_eq, decide_true, decide_false, and_self, and_true, Int.reduceToNat, Int.reduceNeg, Int.reduceLT, Int.reduceLE, Int.reduceAdd, Int.reduceSub, Int.reduceMul, Int.reduceBEq, Int.reduceBNe, Nat.reduceLT, Nat.reduceMul, Int.toNat_one, Int.toNat_zero, c1, v_isTL hk, v_append hk (by rw [List.length_map]; omega)]
      refine ⟨acc ++ [p.2], _, _, rfl, ?_, by simpa using hl, by omega, fr.setF (Nat.le_refl _), ho⟩
      rw [List.map_append]
      exact getL_set hk
    · rw [if_neg c1] at ho
      simp only [two_eq, wo_addT, v_ipAdd, v_ipSub, wp_get2, rp_nil, rp_cons, wp_dict, isDct_new, ri_enumT, v_isNN, v_isNL, v_isNotN, v_isNotL, wp_fn, startW, wp_call, wp_C, wp_V, wp_bin, wp_un, wp_and, wp_or, wp_not, rt_V, rt_and, rt_or, rt_not, rt_bl, rt_yes, wp_if, wp_chain, ra_nil, ra_cons, wp_tup, wp_lst, wp_cb, wp_mt, wp_dict0, wp_sl, ro_none, ro_some, fs_seq, fs_nil, fs_brk, fs_cnt, fs_expr, fs_ret, fs_retN, fs_if, fs_set, fs_par, fs_asg, fs_sub, fs_aug, ri_val, ri_args, wp_some, wp_ok, wp_bind, List.map_cons, List.map_nil, List.length_cons, List.length_nil, List.replicate, List.cons_append, List.nil_append, List.getElem?_cons_zero, List.getElem?_cons_succ, List.set_cons_zero, List.set_cons_succ, Option.some.injEq, exists_eq_left', exists_eq_left, Nat.reduceAdd, Nat.reduceSub, Nat.reduceLeDiff, true_and, W.bl.injEq, W.int.injEq, W.str.injEq, W.tup.injEq, if_true, if_false, Bool.false_eq_true, Bool.not_true, Bool.not_false, truth_bl, truth_int, truth_tup, v_addI, v_subI, v_mod, v_fdiv, v_neg, v_lt, v_le, v_gt, v_ge, v_cint, v_cintB, v_cabs, v_cmax, v_cmin, v_lenT, v_lenF, v_ixT, v_ixF, v_revT, v_cutT, v_tupT, v_listT, v_eqI, v_neI, v_eqS, v_neS, Option.map_some, decide_eq_true_eq, decide_true, decide_false, and_self, and_true, Int.reduceToNat, Int.reduceNeg, Int.reduceLT, Int.reduceLE, Int.reduceAdd, Int.reduceSub, Int.reduceMul, Int.reduceBEq, Int.reduceBNe, Nat.reduceLT, Nat.reduceMul, Int.toNat_one, Int.toNat_zero, c1]
      by_cases c2 : (p.1 == ("out" : Str)) = true
      · rw [if_pos c2] at ho
        simp only [two_eq, wo_addT, v_ipAdd, v_ipSub, wp_get2, rp_nil, rp_cons, wp_dict, isDct_new, ri_enumT, v_isNN, v_isNL, v_isNotN, v_isNotL, wp_fn, startW, wp_call, wp_C, wp_V, wp_bin, wp_un, wp_and, wp_or, wp_not, rt_V, rt_and, rt_or, rt_not, rt_bl, rt_yes, wp_if, wp_chain, ra_nil, ra_cons, wp_tup, wp_lst, wp_cb, wp_mt, wp_dict0, wp_sl, ro_none, ro_some, fs_seq, fs_nil, fs_brk, fs_cnt, fs_expr, fs_ret, fs_retN, fs_if, fs_set, fs_par, fs_asg, fs_sub, fs_aug, ri_val, ri_args, wp_some, wp_ok, wp_bind, List.map_cons, List.map_nil, List.length_cons, List.length_nil, List.replicate, List.cons_append, List.nil_append, List.getElem?_cons_zero, List.getElem?_cons_succ, List.set_cons_zero, List.set_cons_succ, Option.some.injEq, exists_eq_left', exists_eq_left, Nat.reduceAdd, Nat.reduceSub, Nat.reduceLeDiff, true_and, W.bl.injEq, W.int.injEq, W.str.injEq, W.tup.injEq, if_true, if_false, Bool.false_eq_true, Bool.not_true, Bool.not_false, truth_bl, truth_int, truth_tup, v_addI, v_subI, v_mod, v_fdiv, v_neg, v_lt, v_le, v_gt, v_ge, v_cint, v_cintB, v_cabs, v_cmax, v_cmin, v_lenT, v_lenF, v_ixT, v_ixF, v_revT, v_cutT, v_tupT, v_listT, v_eqI, v_neI, v_eqS, v_neS, Option.map_some, decide_eq_true_eq, decide_true, decide_false, and_self, and_true, Int.reduceToNat, Int.reduceNeg, Int.reduceLT, Int.reduceLE, Int.reduceAdd, Int.reduceSub, Int.reduceMul, Int.reduceBEq, Int.reduceBNe, Nat.reduceLT, Nat.reduceMul, Int.toNat_one, Int.toNat_zero, c2, v_eq0 (getL_app hk) strs_data getL_new]
        rcases List.eq_nil_or_concat acc with rfl | ⟨acc', z, rfl⟩
        · simp only [two_eq, wo_addT, v_ipAdd, v_ipSub, wp_get2, rp_nil, rp_cons, wp_dict, isDct_new, ri_enumT, v_isNN, v_isNL, v_isNotN, v_isNotL, wp_fn, startW, wp_call, wp_C, wp_V, wp_bin, wp_un, wp_and, wp_or, wp_not, rt_V, rt_and, rt_or, rt_not, rt_bl, rt_yes, wp_if, wp_chain, ra_nil, ra_cons, wp_tup, wp_lst, wp_cb, wp_mt, wp_dict0, wp_sl, ro_none, ro_some, fs_seq, fs_nil, fs_brk, fs_cnt, fs_expr, fs_ret, fs_retN, fs_if, fs_set, fs_par, fs_asg, fs_sub, fs_aug, ri_val, ri_args, wp_some, wp_ok, wp_bind, List.map_cons, List.map_nil, List.length_cons, List.length_nil, List.replicate, List.cons_append, List.nil_append, List.getElem?_cons_zero, List.getElem?_cons_succ, List.set_cons_zero, List.set_cons_succ, Option.some.injEq, exists_eq_left', exists_eq_left, Nat.reduceAdd, Nat.reduceSub, Nat.reduceLeDiff, true_and, W.bl.injEq, W.int.injEq, W.str.injEq, W.tup.injEq, if_true, if_false, Bool.false_eq_true, Bool.not_true, Bool.not_false, truth_bl, truth_int, truth_tup, v_addI, v_subI, v_mod, v_fdiv, v_neg, v_lt, v_le, v_gt, v_ge, v_cint, v_cintB, v_cabs, v_cmax, v_cmin, v_lenT, v_lenF, v_ixT, v_ixF, v_revT, v_cutT, v_tupT, v_listT, v_eqI, v_neI, v_eqS, v_neS, Option.map_some, decide_eq_true_eq, decide_true, decide_false, and_self, and_true, Int.reduceToNat, Int.reduceNeg, Int.reduceLT, Int.reduceLE, Int.reduceAdd, Int.reduceSub, Int.reduceMul, Int.reduceBEq, Int.reduceBNe, Nat.reduceLT, Nat.reduceMul, Int.toNat_one, Int.toNat_zero, List.isEmpty_nil]
          exact ⟨fr.trans (Fr.app _ _ _), .inl ⟨ho.symm, rfl⟩⟩
        · rw [List.concat_eq_append] at hk hl ho
          rw [List.getLast?_concat, List.dropLast_concat] at ho
          rw [List.map_append] at hk
          have ho : (if (z == p.2) = true then opened acc' (ls.drop (i + 1)) else none) = opened [] ls := ho
          have hk2 := getL_app (j := [.lst []]) hk
          have e1 : (List.map W.str (acc' ++ [z])).isEmpty = false := by simp
          simp only [two_eq, wo_addT, v_ipAdd, v_ipSub, wp_get2, rp_nil, rp_cons, wp_dict, isDct_new, ri_enumT, v_isNN, v_isNL, v_isNotN, v_isNotL, wp_fn, startW, wp_call, wp_C, wp_V, wp_bin, wp_un, wp_and, wp_or, wp_not, rt_V, rt_and, rt_or, rt_not, rt_bl, rt_yes, wp_if, wp_chain, ra_nil, ra_cons, wp_tup, wp_lst, wp_cb, wp_mt, wp_dict0, wp_sl, ro_none, ro_some, fs_seq, fs_nil, fs_brk, fs_cnt, fs_expr, fs_ret, fs_retN, fs_if, fs_set, fs_par, fs_asg, fs_sub, fs_aug, ri_val, ri_args, wp_some, wp_ok, wp_bind, List.map_cons, List.map_nil, List.length_cons, List.length_nil, List.replicate, List.cons_append, List.nil_append, List.getElem?_cons_zero, List.getElem?_cons_succ, List.set_cons_zero, List.set_cons_succ, Option.some.injEq, exists_eq_left', exists_eq_left, Nat.reduceAdd, Nat.reduceSub, Nat.reduceLeDiff, true_and, W.bl.injEq, W.int.injEq, W.str.injEq, W.tup.injEq, if_true, if_false, Bool.false_eq_true, Bool.not_true, Bool.not_false, truth_bl, truth_int, truth_tup, v_addI, v_subI, v_mod, v_fdiv, v_neg, v_lt, v_le, v_gt, v_ge, v_cint, v_cintB, v_cabs, v_cmax, v_cmin, v_lenT, v_lenF, v_ixT, v_ixF, v_revT, v_cutT, v_tupT, v_listT, v_eqI, v_neI, v_eqS, v_neS, Option.map_some, decide_eq_true_eq, decide_true, decide_false, and_self, and_true, Int.reduceToNat, Int.reduceNeg, Int.reduceLT, Int.reduceLE, Int.reduceAdd, Int.reduceSub, Int.reduceMul, Int.reduceBEq, Int.reduceBNe, Nat.reduceLT, Nat.reduceMul, Int.toNat_one, Int.toNat_zero, List.concat_eq_append, e1, v_isTL hk2, v_pop hk2]
          have s1 := getL_set (ys := acc'.map .str) hk2
          by_cases c3 : (z == p.2) = true
          · rw [if_pos c3] at ho
            simp only [two_eq, wo_addT, v_ipAdd, v_ipSub, wp_get2, rp_nil, rp_cons, wp_dict, isDct_new, ri_enumT, v_isNN, v_isNL, v_isNotN, v_isNotL, wp_fn, startW, wp_call, wp_C, wp_V, wp_bin, wp_un, wp_and, wp_or, wp_not, rt_V, rt_and, rt_or, rt_not, rt_bl, rt_yes, wp_if, wp_chain, ra_nil, ra_cons, wp_tup, wp_lst, wp_cb, wp_mt, wp_dict0, wp_sl, ro_none, ro_some, fs_seq, fs_nil, fs_brk, fs_cnt, fs_expr, fs_ret, fs_retN, fs_if, fs_set, fs_par, fs_asg, fs_sub, fs_aug, ri_val, ri_args, wp_some, wp_ok, wp_bind, List.map_cons, List.map_nil, List.length_cons, List.length_nil, List.replicate, List.cons_append, List.nil_append, List.getElem?_cons_zero, List.getElem?_cons_succ, List.set_cons_zero, List.set_cons_succ, Option.some.injEq, exists_eq_left', exists_eq_left, Nat.reduceAdd, Nat.reduceSub, Nat.reduceLeDiff, true_and, W.bl.injEq, W.int.injEq, W.str.injEq, W.tup.injEq, if_true, if_false, Bool.false_eq_true, Bool.not_true, Bool.not_false, truth_bl, truth_int, truth_tup, v_addI, v_subI, v_mod, v_fdiv, v_neg, v_lt, v_le, v_gt, v_ge, v_cint, v_cintB, v_cabs, v_cmax, v_cmin, v_lenT, v_lenF, v_ixT, v_ixF, v_revT, v_cutT, v_tupT, v_listT, v_eqI, v_neI, v_eqS, v_neS, Option.map_some, decide_eq_true_eq, decide_true, decide_false, and_self, and_true, Int.reduceToNat, Int.reduceNeg, Int.reduceLT, Int.reduceLE, Int.reduceAdd, Int.reduceSub, Int.reduceMul, Int.reduceBEq, Int.reduceBNe, Nat.reduceLT, Nat.reduceMul, Int.toNat_one, Int.toNat_zero, c3]
            exact ⟨acc', _, _, rfl, s1, by simp at hl; omega, by omega, (fr.trans (Fr.app _ _ _)).setF (Nat.le_refl _), ho⟩
          · rw [if_neg c3] at ho
            simp only [two_eq, wo_addT, v_ipAdd, v_ipSub, wp_get2, rp_nil, rp_cons, wp_dict, isDct_new, ri_enumT, v_isNN, v_isNL, v_isNotN, v_isNotL, wp_fn, startW, wp_call, wp_C, wp_V, wp_bin, wp_un, wp_and, wp_or, wp_not, rt_V, rt_and, rt_or, rt_not, rt_bl, rt_yes, wp_if, wp_chain, ra_nil, ra_cons, wp_tup, wp_lst, wp_cb, wp_mt, wp_dict0, wp_sl, ro_none, ro_some, fs_seq, fs_nil, fs_brk, fs_cnt, fs_expr, fs_ret, fs_retN, fs_if, fs_set, fs_par, fs_asg, fs_sub, fs_aug, ri_val, ri_args, wp_some, wp_ok, wp_bind, List.map_cons, List.map_nil, List.length_cons, List.length_nil, List.replicate, List.cons_append, List.nil_append, List.getElem?_cons_zero, List.getElem?_cons_succ, List.set_cons_zero, List.set_cons_succ, Option.some.injEq, exists_eq_left', exists_eq_left, Nat.reduceAdd, Nat.reduceSub, Nat.reduceLeDiff, true_and, W.bl.injEq, W.int.injEq, W.str.injEq, W.tup.injEq, if_true, if_false, Bool.false_eq_true, Bool.not_true, Bool.not_false, truth_bl, truth_int, truth_tup, v_addI, v_subI, v_mod, v_fdiv, v_neg, v_lt, v_le, v_gt, v_ge, v_cint, v_cintB, v_cabs, v_cmax, v_cmin, v_lenT, v_lenF, v_ixT, v_ixF, v_revT, v_cutT, v_tupT, v_listT, v_eqI, v_neI, v_eqS, v_neS, Option.map_some, decide_eq_true_eq, decide_true, decide_false, and_self, and_true, Int.reduceToNat, Int.reduceNeg, Int.reduceLT, Int.reduceLE, Int.reduceAdd, Int.reduceSub, Int.reduceMul, Int.reduceBEq, Int.reduceBNe, Nat.reduceLT, Nat.reduceMul, Int.toNat_one, Int.toNat_zero, c3]
            exact ⟨(fr.trans (Fr.app _ _ _)).setF (Nat.le_refl _), .inl ⟨ho.symm, rfl⟩⟩
      · rw [if_neg c2] at ho
        simp only [two_eq, wo_addT, v_ipAdd, v_ipSub, wp_get2, rp_nil, rp_cons, wp_dict, isDct_new, ri_enumT, v_isNN, v_isNL, v_isNotN, v_isNotL, wp_fn, startW, wp_call, wp_C, wp_V, wp_bin, wp_un, wp_and, wp_or, wp_not, rt_V, rt_and, rt_or, rt_not, rt_bl, rt_yes, wp_if, wp_chain, ra_nil, ra_cons, wp_tup, wp_lst, wp_cb, wp_mt, wp_dict0, wp_sl, ro_none, ro_some, fs_seq, fs_nil, fs_brk, fs_cnt, fs_expr, fs_ret, fs_retN, fs_if, fs_set, fs_par, fs_asg, fs_sub, fs_aug, ri_val, ri_args, wp_some, wp_ok, wp_bind, List.map_cons, List.map_nil, List.length_cons, List.length_nil, List.replicate, List.cons_append, List.nil_append, List.getElem?_cons_zero, List.getElem?_cons_succ, List.set_cons_zero, List.set_cons_succ, Option.some.injEq, exists_eq_left', exists_eq_left, Nat.reduceAdd, Nat.reduceSub, Nat.reduceLeDiff, true_and, W.bl.injEq, W.int.injEq, W.str.injEq, W.tup.injEq, if_true, if_false, Bool.false_eq_true, Bool.not_true, Bool.not_false, truth_bl, truth_int, truth_tup, v_addI, v_subI, v_mod, v_fdiv, v_neg, v_lt, v_le, v_gt, v_ge, v_cint, v_cintB, v_cabs, v_cmax, v_cmin, v_lenT, v_lenF, v_ixT, v_ixF, v_revT, v_cutT, v_tupT, v_listT, v_eqI, v_neI, v_eqS, v_neS, Option.map_some, decide_eq_true_eq, decide_true, decide_false, and_self, and_true, Int.reduceToNat, Int.reduceNeg, Int.reduceLT, Int.reduceLE, Int.reduceAdd, Int.reduceSub, Int.reduceMul, Int.reduceBEq, Int.reduceBNe, Nat.reduceLT, Nat.reduceMul, Int.toNat_one, Int.toNat_zero, c2]
        exact ⟨acc, _, _, rfl, hk, by omega, by omega, fr, ho⟩
  · rintro δ μ1 ⟨acc, a, b, rfl, hk, hl, hi, fr, ho⟩
    rw [List.length_map, List.drop_of_length_le (Nat.le_refl _)] at ho
    simp only [two_eq, wo_addT, v_ipAdd, v_ipSub, wp_get2, rp_nil, rp_cons, wp_dict, isDct_new, ri_enumT, v_isNN, v_isNL, v_isNotN, v_isNotL, wp_fn, startW, wp_call, wp_C, wp_V, wp_bin, wp_un, wp_and, wp_or, wp_not, rt_V, rt_and, rt_or, rt_not, rt_bl, rt_yes, wp_if, wp_chain, ra_nil, ra_cons, wp_tup, wp_lst, wp_cb, wp_mt, wp_dict0, wp_sl, ro_none, ro_some, fs_seq, fs_nil, fs_brk, fs_cnt, fs_expr, fs_ret, fs_retN, fs_if, fs_set, fs_par, fs_asg, fs_sub, fs_aug, ri_val, ri_args, wp_some, wp_ok, wp_bind, List.map_cons, List.map_nil, List.length_cons, List.length_nil, List.replicate, List.cons_append, List.nil_append, List.getElem?_cons_zero, List.getElem?_cons_succ, List.set_cons_zero, List.set_cons_succ, Option.some.injEq, exists_eq_left', exists_eq_left, Nat.reduceAdd, Nat.reduceSub, Nat.reduceLeDiff, true_and, W.bl.injEq, W.int.injEq, W.str.injEq, W.tup.injEq, if_true, if_false, Bool.false_eq_true, Bool.not_true, Bool.not_false, truth_bl, truth_int, truth_tup, v_addI, v_subI, v_mod, v_fdiv, v_neg, v_lt, v_le, v_gt, v_ge, v_cint, v_cintB, v_cabs, v_cmax, v_cmin, v_lenT, v_lenF, v_ixT, v_ixF, v_revT, v_cutT, v_tupT, v_listT, v_eqI, v_neI, v_eqS, v_neS, Option.map_some, decide_eq_true_eq, decide_true, decide_false, and_self, and_true, Int.reduceToNat, Int.reduceNeg, Int.reduceLT, Int.reduceLE, Int.reduceAdd, Int.reduceSub, Int.reduceMul, Int.reduceBEq, Int.reduceBNe, Nat.reduceLT, Nat.reduceMul, Int.toNat_one, Int.toNat_zero]
    exact ⟨fr, .inr ⟨acc, _, ho.symm, rfl, hk, by simpa using hl⟩⟩
theorem law_opened_w {μ : Mem} {ls : List (Str × Str)} (hz : ls.length < 1000000) : Rw (g__law_opened [.tup (ls.map lw)] μ) (OpenQ ls μ) := by
  unfold g__law_opened b__law_opened
  simp only [two_eq, wo_addT, v_ipAdd, v_ipSub, wp_get2, rp_nil, rp_cons, wp_dict, isDct_new, ri_enumT, v_isNN, v_isNL, v_isNotN, v_isNotL, wp_fn, startW, wp_call, wp_C, wp_V, wp_bin, wp_un, wp_and, wp_or, wp_not, rt_V, rt_and, rt_or, rt_not, rt_bl, rt_yes, wp_if, wp_chain, ra_nil, ra_cons, wp_tup, wp_lst, wp_cb, wp_mt, wp_dict0, wp_sl, ro_none, ro_some, fs_seq, fs_nil, fs_brk, fs_cnt, fs_expr, fs_ret, fs_retN, fs_if, fs_set, fs_par, fs_asg, fs_sub, fs_aug, ri_val, ri_args, wp_some, wp_ok, wp_bind, List.map_cons, List.map_nil, List.length_cons, List.length_nil, List.replicate, List.cons_append, List.nil_append, List.getElem?_cons_zero, List.getElem?_cons_succ, List.set_cons_zero, List.set_cons_succ, Option.some.injEq, exists_eq_left', exists_eq_left, Nat.reduceAdd, Nat.reduceSub, Nat.reduceLeDiff, true_and, W.bl.injEq, W.int.injEq, W.str.injEq, W.tup.injEq, if_true, if_false, Bool.false_eq_true, Bool.not_true, Bool.not_false, truth_bl, truth_int, truth_tup, v_addI, v_subI, v_mod, v_fdiv, v_neg, v_lt, v_le, v_gt, v_ge, v_cint, v_cintB, v_cabs, v_cmax, v_cmin, v_lenT, v_lenF, v_ixT, v_ixF, v_revT, v_cutT, v_tupT, v_listT, v_eqI, v_neI, v_eqS, v_neS, Option.map_some, decide_eq_true_eq, decide_true, decide_false, and_self, and_true, Int.reduceToNat, Int.reduceNeg, Int.reduceLT, Int.reduceLE, Int.reduceAdd, Int.reduceSub, Int.reduceMul, Int.reduceBEq, Int.reduceBNe, Nat.reduceLT, Nat.reduceMul, Int.toNat_one, Int.toNat_zero]
  refine for_w (ls.map lw) (fun i δ μ' => ∃ acc a b, δ = [some (.tup (ls.map lw)), some (.loc μ.length), a, b] ∧ getL μ' μ.length = some (acc.map .str) ∧ acc.length ≤ i ∧ i ≤ ls.length ∧ Fr [] μ μ' ∧ opened acc (ls.drop i) = opened [] ls) ?_ (by simpa using hz) ?_ ?_
  · simp only [two_eq, wo_addT, v_ipAdd, v_ipSub, wp_get2, rp_nil, rp_cons, wp_dict, isDct_new, ri_enumT, v_isNN, v_isNL, v_isNotN, v_isNotL, wp_fn, startW, wp_call, wp_C, wp_V, wp_bin, wp_un, wp_and, wp_or, wp_not, rt_V, rt_and, rt_or, rt_not, rt_bl, rt_yes, wp_if, wp_chain, ra_nil, ra_cons, wp_tup, wp_lst, wp_cb, wp_mt, wp_dict0, wp_sl, ro_none, ro_some, fs_seq, fs_nil, fs_brk, fs_cnt, fs_expr, fs_ret, fs_retN, fs_if, fs_set, fs_par, fs_asg, fs_sub, fs_aug, ri_val, ri_args, wp_some, wp_ok, wp_bind, List.map_cons, List.map_nil, List.length_cons, List.length_nil, List.replicate, List.cons_append, List.nil_append, List.getElem?_cons_zero, List.getElem?_cons_succ, List.set_cons_zero, List.set_cons_succ, Option.some.injEq, exists_eq_left', exists_eq_left, Nat.reduceAdd, Nat.reduceSub, Nat.reduceLeDiff, true_and, W.bl.injEq, W.int.injEq, W.str.injEq, W.tup.injEq, if_true, if_false, Bool.false_eq_true, Bool.not_true, Bool.not_false, truth_bl, truth_int, truth_tup, v_addI, v_subI, v_mod, v_fdiv, v_neg, v_lt, v_le, v_gt, v_ge, v_cint, v_cintB, v_cabs, v_cmax, v_cmin, v_lenT, v_lenF, v_ixT, v_ixF, v_revT, v_cutT, v_tupT, v_listT, v_eqI, v_neI, v_eqS, v_neS, Option.map_some, decide_eq_true_eq, decide_true, decide_false, and_self, and_true, Int.reduceToNat, Int.reduceNeg, Int.reduceLT, Int.reduceLE, Int.reduceAdd, Int.reduceSub, Int.reduceMul, Int.reduceBEq, Int.reduceBNe, Nat.reduceLT, Nat.reduceMul, Int.toNat_one, Int.toNat_zero]
    exact ⟨.inl trivial, [], none, none, rfl, getL_new, Nat.le_refl _, Nat.zero_le _, Fr.app _ _ _, rfl⟩
  · rintro i x δ μ1 hx ⟨acc, a, b, rfl, hk, hl, hi, fr, ho⟩
    rw [List.getElem?_map] at hx
    obtain ⟨p, hp, rfl⟩ := Option.map_eq_some_iff.mp hx
    have lt := (List.getElem?_eq_some_iff.mp hp).1
    have dr : ls.drop i = p :: ls.drop (i + 1) := by
      rw [List.drop_eq_getElem_cons lt]
      congr 1
      exact (List.getElem?_eq_some_iff.mp hp).2
    rw [dr, opened_cons] at ho
    refine ⟨_, rfl, ?_⟩
    simp only [two_eq, wo_addT, v_ipAdd, v_ipSub, wp_get2, rp_nil, rp_cons, wp_dict, isDct_new, ri_enumT, v_isNN, v_isNL, v_isNotN, v_isNotL, wp_fn, startW, wp_call, wp_C, wp_V, wp_bin, wp_un, wp_and, wp_or, wp_not, rt_V, rt_and, rt_or, rt_not, rt_bl, rt_yes, wp_if, wp_chain, ra_nil, ra_cons, wp_tup, wp_lst, wp_cb, wp_mt, wp_dict0, wp_sl, ro_none, ro_some, fs_seq, fs_nil, fs_brk, fs_cnt, fs_expr, fs_ret, fs_retN, fs_if, fs_set, fs_par, fs_asg, fs_sub, fs_aug, ri_val, ri_args, wp_some, wp_ok, wp_bind, List.map_cons, List.map_nil, List.length_cons, List.length_nil, List.replicate, List.cons_append, List.nil_append, List.getElem?_cons_zero, List.getElem?_cons_succ, List.set_cons_zero, List.set_cons_succ, Option.some.injEq, exists_eq_left', exists_eq_left, Nat.reduceAdd, Nat.reduceSub, Nat.reduceLeDiff, true_and, W.bl.injEq, W.int.injEq, W.str.injEq, W.tup.injEq, if_true, if_false, Bool.false_eq_true, Bool.not_true, Bool.not_false, truth_bl, truth_int, truth_tup, v_addI, v_subI, v_mod, v_fdiv, v_neg, v_lt, v_le, v_gt, v_ge, v_cint, v_cintB, v_cabs, v_cmax, v_cmin, v_lenT, v_lenF, v_ixT, v_ixF, v_revT, v_cutT, v_tupT, v_listT, v_eqI, v_neI, v_eqS, v_neS, Option.map_some, decide_eq_true_eq, decide_true, decide_false, and_self, and_true, Int.reduceToNat, Int.reduceNeg, Int.reduceLT, Int.reduceLE, Int.reduceAdd, Int.reduceSub, Int.reduceMul, Int.reduceBEq, Int.reduceBNe, Nat.reduceLT, Nat.reduceMul, Int.toNat_one, Int.toNat_zero]
    by_cases c1 : (p.1 == ("in" : Str)) = true
    · rw [if_pos c1] at ho
      have n2 : (p.1 == ("out" : Str)) = false := by
        rw [eq_of_beq c1]
        decide +kernel
      simp only [two_eq, wo_addT, v_ipAdd, v_ipSub, wp_get2, rp_nil, rp_cons, wp_dict, isDct_new, ri_enumT, v_isNN, v_isNL, v_isNotN, v_isNotL, wp_fn, startW, wp_call, wp_C, wp_V, wp_bin, wp_un, wp_and, wp_or, wp_not, rt_V, rt_and, rt_or, rt_not, rt_bl, rt_yes, wp_if, wp_chain, ra_nil, ra_cons, wp_tup, wp_lst, wp_cb, wp_mt, wp_dict0, wp_sl, ro_none, ro_some, fs_seq, fs_nil, fs_brk, fs_cnt, fs_expr, fs_ret, fs_retN, fs_if, fs_set, fs_par, fs_asg, fs_sub, fs_aug, ri_val, ri_args, wp_some, wp_ok, wp_bind, List.map_cons, List.map_nil, List.length_cons, List.length_nil, List.replicate, List.cons_append, List.nil_append, List.getElem?_cons_zero, List.getElem?_cons_succ, List.set_cons_zero, List.set_cons_succ, Option.some.injEq, exists_eq_left', exists_eq_left, Nat.reduceAdd, Nat.reduceSub, Nat.reduceLeDiff, true_and, W.bl.injEq, W.int.injEq, W.str.injEq, W.tup.injEq, if_true, if_false, Bool.false_eq_true, Bool.not_true, Bool.not_false, truth_bl, truth_int, truth_tup, v_addI, v_subI, v_mod, v_fdiv, v_neg, v_lt, v_le, v_gt, v_ge, v_cint, v_cintB, v_cabs, v_cmax, v_cmin, v_lenT, v_lenF, v_ixT, v_ixF, v_revT, v_cutT, v_tupT, v_listT, v_eqI, v_neI, v_eqS, v_neS, Option.map_some, decide_eq_true_eq, decide_true, decide_false, and_self, and_true, Int.reduceToNat, Int.reduceNeg, Int.reduceLT, Int.reduceLE, Int.reduceAdd, Int.reduceSub, Int.reduceMul, Int.reduceBEq, Int.reduceBNe, Nat.reduceLT, Nat.reduceMul, Int.toNat_one, Int.toNat_zero, c1, n2, v_isTL hk, v_append hk (by rw [List.length_map]; omega)]
      refine ⟨acc ++ [p.2], _, _, rfl, ?_, by simpa using hl, by omega, fr.setF (Nat.le_refl _), ho⟩
      rw [List.map_append]
      exact getL_set hk
    · rw [if_neg c1] at ho
      simp only [two_eq, wo_addT, v_ipAdd, v_ipSub, wp_get2, rp_nil, rp_cons, wp_dict, isDct_new, ri_enumT, v_isNN, v_isNL, v_isNotN, v_isNotL, wp_fn, startW, wp_call, wp_C, wp_V, wp_bin, wp_un, wp_and, wp_or, wp_not, rt_V, rt_and, rt_or, rt_not, rt_bl, rt_yes, wp_if, wp_chain, ra_nil, ra_cons, wp_tup, wp_lst, wp_cb, wp_mt, wp_dict0, wp_sl, ro_none, ro_some, fs_seq, fs_nil, fs_brk, fs_cnt, fs_expr, fs_ret, fs_retN, fs_if, fs_set, fs_par, fs_asg, fs_sub, fs_aug, ri_val, ri_args, wp_some, wp_ok, wp_bind, List.map_cons, List.map_nil, List.length_cons, List.length_nil, List.replicate, List.cons_append, List.nil_append, List.getElem?_cons_zero, List.getElem?_cons_succ, List.set_cons_zero, List.set_cons_succ, Option.some.injEq, exists_eq_left', exists_eq_left, Nat.reduceAdd, Nat.reduceSub, Nat.reduceLeDiff, true_and, W.bl.injEq, W.int.injEq, W.str.injEq, W.tup.injEq, if_true, if_false, Bool.false_eq_true, Bool.not_true, Bool.not_false, truth_bl, truth_int, truth_tup, v_addI, v_subI, v_mod, v_fdiv, v_neg, v_lt, v_le, v_gt, v_ge, v_cint, v_cintB, v_cabs, v_cmax, v_cmin, v_lenT, v_lenF, v_ixT, v_ixF, v_revT, v_cutT, v_tupT, v_listT, v_eqI, v_neI, v_eqS, v_neS, Option.map_some, decide_eq_true_eq, decide_true, decide_false, and_self, and_true, Int.reduceToNat, Int.reduceNeg, Int.reduceLT, Int.reduceLE, Int.reduceAdd, Int.reduceSub, Int.reduceMul, Int.reduceBEq, Int.reduceBNe, Nat.reduceLT, Nat.reduceMul, Int.toNat_one, Int.toNat_zero, c1]
      by_cases c2 : (p.1 == ("out" : Str)) = true
      · rw [if_pos c2] at ho
        simp only [two_eq, wo_addT, v_ipAdd, v_ipSub, wp_get2, rp_nil, rp_cons, wp_dict, isDct_new, ri_enumT, v_isNN, v_isNL, v_isNotN, v_isNotL, wp_fn, startW, wp_call, wp_C, wp_V, wp_bin, wp_un, wp_and, wp_or, wp_not, rt_V, rt_and, rt_or, rt_not, rt_bl, rt_yes, wp_if, wp_chain, ra_nil, ra_cons, wp_tup, wp_lst, wp_cb, wp_mt, wp_dict0, wp_sl, ro_none, ro_some, fs_seq, fs_nil, fs_brk, fs_cnt, fs_expr, fs_ret, fs_retN, fs_if, fs_set, fs_par, fs_asg, fs_sub, fs_aug, ri_val, ri_args, wp_some, wp_ok, wp_bind, List.map_cons, List.map_nil, List.length_cons, List.length_nil, List.replicate, List.cons_append, List.nil_append, List.getElem?_cons_zero, List.getElem?_cons_succ, List.set_cons_zero, List.set_cons_succ, Option.some.injEq, exists_eq_left', exists_eq_left, Nat.reduceAdd, Nat.reduceSub, Nat.reduceLeDiff, true_and, W.bl.injEq, W.int.injEq, W.str.injEq, W.tup.injEq, if_true, if_false, Bool.false_eq_true, Bool.not_true, Bool.not_false, truth_bl, truth_int, truth_tup, v_addI, v_subI, v_mod, v_fdiv, v_neg, v_lt, v_le, v_gt, v_ge, v_cint, v_cintB, v_cabs, v_cmax, v_cmin, v_lenT, v_lenF, v_ixT, v_ixF, v_revT, v_cutT, v_tupT, v_listT, v_eqI, v_neI, v_eqS, v_neS, Option.map_some, decide_eq_true_eq, decide_true, decide_false, and_self, and_true, Int.reduceToNat, Int.reduceNeg, Int.reduceLT, Int.reduceLE, Int.reduceAdd, Int.reduceSub, Int.reduceMul, Int.reduceBEq, Int.reduceBNe, Nat.reduceLT, Nat.reduceMul, Int.toNat_one, Int.toNat_zero, c2, v_eq0 (getL_app hk) strs_data getL_new]
        rcases List.eq_nil_or_concat acc with rfl | ⟨acc', z, rfl⟩
        · simp only [two_eq, wo_addT, v_ipAdd, v_ipSub, wp_get2, rp_nil, rp_cons, wp_dict, isDct_new, ri_enumT, v_isNN, v_isNL, v_isNotN, v_isNotL, wp_fn, startW, wp_call, wp_C, wp_V, wp_bin, wp_un, wp_and, wp_or, wp_not, rt_V, rt_and, rt_or, rt_not, rt_bl, rt_yes, wp_if, wp_chain, ra_nil, ra_cons, wp_tup, wp_lst, wp_cb, wp_mt, wp_dict0, wp_sl, ro_none, ro_some, fs_seq, fs_nil, fs_brk, fs_cnt, fs_expr, fs_ret, fs_retN, fs_if, fs_set, fs_par, fs_asg, fs_sub, fs_aug, ri_val, ri_args, wp_some, wp_ok, wp_bind, List.map_cons, List.map_nil, List.length_cons, List.length_nil, List.replicate, List.cons_append, List.nil_append, List.getElem?_cons_zero, List.getElem?_cons_succ, List.set_cons_zero, List.set_cons_succ, Option.some.injEq, exists_eq_left', exists_eq_left, Nat.reduceAdd, Nat.reduceSub, Nat.reduceLeDiff, true_and, W.bl.injEq, W.int.injEq, W.str.injEq, W.tup.injEq, if_true, if_false, Bool.false_eq_true, Bool.not_true, Bool.not_false, truth_bl, truth_int, truth_tup, v_addI, v_subI, v_mod, v_fdiv, v_neg, v_lt, v_le, v_gt, v_ge, v_cint, v_cintB, v_cabs, v_cmax, v_cmin, v_lenT, v_lenF, v_ixT, v_ixF, v_revT, v_cutT, v_tupT, v_listT, v_eqI, v_neI, v_eqS, v_neS, Option.map_some, decide_eq_true_eq, decide_true, decide_false, and_self, and_true, Int.reduceToNat, Int.reduceNeg, Int.reduceLT, Int.reduceLE, Int.reduceAdd, Int.reduceSub, Int.reduceMul, Int.reduceBEq, Int.reduceBNe, Nat.reduceLT, Nat.reduceMul, Int.toNat_one, Int.toNat_zero, List.isEmpty_nil]
          exact ⟨fr.trans (Fr.app _ _ _), .inl ⟨ho.symm, rfl⟩⟩
        · rw [List.concat_eq_append] at hk hl ho
          rw [List.getLast?_concat, List.dropLast_concat] at ho
          rw [List.map_append] at hk
          have ho : (if (z == p.2) = true then opened acc' (ls.drop (i + 1)) else none) = opened [] ls := ho
          have hk2 := getL_app (j := [.lst []]) hk
          have e1 : (List.map W.str (acc' ++ [z])).isEmpty = false := by simp
          simp only [two_eq, wo_addT, v_ipAdd, v_ipSub, wp_get2, rp_nil, rp_cons, wp_dict, isDct_new, ri_enumT, v_isNN, v_isNL, v_isNotN, v_isNotL, wp_fn, startW, wp_call, wp_C, wp_V, wp_bin, wp_un, wp_and, wp_or, wp_not, rt_V, rt_and, rt_or, rt_not, rt_bl, rt_yes, wp_if, wp_chain, ra_nil, ra_cons, wp_tup, wp_lst, wp_cb, wp_mt, wp_dict0, wp_sl, ro_none, ro_some, fs_seq, fs_nil, fs_brk, fs_cnt, fs_expr, fs_ret, fs_retN, fs_if, fs_set, fs_par, fs_asg, fs_sub, fs_aug, ri_val, ri_args, wp_some, wp_ok, wp_bind, List.map_cons, List.map_nil, List.length_cons, List.length_nil, List.replicate, List.cons_append, List.nil_append, List.getElem?_cons_zero, List.getElem?_cons_succ, List.set_cons_zero, List.set_cons_succ, Option.some.injEq, exists_eq_left', exists_eq_left, Nat.reduceAdd, Nat.reduceSub, Nat.reduceLeDiff, true_and, W.bl.injEq, W.int.injEq, W.str.injEq, W.tup.injEq, if_true, if_false, Bool.false_eq_true, Bool.not_true, Bool.not_false, truth_bl, truth_int, truth_tup, v_addI, v_subI, v_mod, v_fdiv, v_neg, v_lt, v_le, v_gt, v_ge, v_cint, v_cintB, v_cabs, v_cmax, v_cmin, v_lenT, v_lenF, v_ixT, v_ixF, v_revT, v_cutT, v_tupT, v_listT, v_eqI, v_neI, v_eqS, v_neS, Option.map_some, decide_eq_true_eq, decide_true, decide_false, and_self, and_true, Int.reduceToNat, Int.reduceNeg, Int.reduceLT, Int.reduceLE, Int.reduceAdd, Int.reduceSub, Int.reduceMul, Int.reduceBEq, Int.reduceBNe, Nat.reduceLT, Nat.reduceMul, Int.toNat_one, Int.toNat_zero, List.concat_eq_append, e1, v_isTL hk2, v_pop hk2]
          have s1 := getL_set (ys := acc'.map .str) hk2
          by_cases c3 : (z == p.2) = true
          · rw [if_pos c3] at ho
            simp only [two_eq, wo_addT, v_ipAdd, v_ipSub, wp_get2, rp_nil, rp_cons, wp_dict, isDct_new, ri_enumT, v_isNN, v_isNL, v_isNotN, v_isNotL, wp_fn, startW, wp_call, wp_C, wp_V, wp_bin, wp_un, wp_and, wp_or, wp_not, rt_V, rt_and, rt_or, rt_not, rt_bl, rt_yes, wp_if, wp_chain, ra_nil, ra_cons, wp_tup, wp_lst, wp_cb, wp_mt, wp_dict0, wp_sl, ro_none, ro_some, fs_seq, fs_nil, fs_brk, fs_cnt, fs_expr, fs_ret, fs_retN, fs_if, fs_set, fs_par, fs_asg, fs_sub, fs_aug, ri_val, ri_args, wp_some, wp_ok, wp_bind, List.map_cons, List.map_nil, List.length_cons, List.length_nil, List.replicate, List.cons_append, List.nil_append, List.getElem?_cons_zero, List.getElem?_cons_succ, List.set_cons_zero, List.set_cons_succ, Option.some.injEq, exists_eq_left', exists_eq_left, Nat.reduceAdd, Nat.reduceSub, Nat.reduceLeDiff, true_and, W.bl.injEq, W.int.injEq, W.str.injEq, W.tup.injEq, if_true, if_false, Bool.false_eq_true, Bool.not_true, Bool.not_false, truth_bl, truth_int, truth_tup, v_addI, v_subI, v_mod, v_fdiv, v_neg, v_lt, v_le, v_gt, v_ge, v_cint, v_cintB, v_cabs, v_cmax, v_cmin, v_lenT, v_lenF, v_ixT, v_ixF, v_revT, v_cutT, v_tupT, v_listT, v_eqI, v_neI, v_eqS, v_neS, Option.map_some, decide_eq_true_eq, decide_true, decide_false, and_self, and_true, Int.reduceToNat, Int.reduceNeg, Int.reduceLT, Int.reduceLE, Int.reduceAdd, Int.reduceSub, Int.reduceMul, Int.reduceBEq, Int.reduceBNe, Nat.reduceLT, Nat.reduceMul, Int.toNat_one, Int.toNat_zero, c3]
            exact ⟨acc', _, _, rfl, s1, by simp at hl; omega, by omega, (fr.trans (Fr.app _ _ _)).setF (Nat.le_refl _), ho⟩
          · rw [if_neg c3] at ho
            simp only [two_eq, wo_addT, v_ipAdd, v_ipSub, wp_get2, rp_nil, rp_cons, wp_dict, isDct_new, ri_enumT, v_isNN, v_isNL, v_isNotN, v_isNotL, wp_fn, startW, wp_call, wp_C, wp_V, wp_bin, wp_un, wp_and, wp_or, wp_not, rt_V, rt_and, rt_or, rt_not, rt_bl, rt_yes, wp_if, wp_chain, ra_nil, ra_cons, wp_tup, wp_lst, wp_cb, wp_mt, wp_dict0, wp_sl, ro_none, ro_some, fs_seq, fs_nil, fs_brk, fs_cnt, fs_expr, fs_ret, fs_retN, fs_if, fs_set, fs_par, fs_asg, fs_sub, fs_aug, ri_val, ri_args, wp_some, wp_ok, wp_bind, List.map_cons, List.map_nil, List.length_cons, List.length_nil, List.replicate, List.cons_append, List.nil_append, List.getElem?_cons_zero, List.getElem?_cons_succ, List.set_cons_zero, List.set_cons_succ, Option.some.injEq, exists_eq_left', exists_eq_left, Nat.reduceAdd, Nat.reduceSub, Nat.reduceLeDiff, true_and, W.bl.injEq, W.int.injEq, W.str.injEq, W.tup.injEq, if_true, if_false, Bool.false_eq_true, Bool.not_true, Bool.not_false, truth_bl, truth_int, truth_tup, v_addI, v_subI, v_mod, v_fdiv, v_neg, v_lt, v_le, v_gt, v_ge, v_cint, v_cintB, v_cabs, v_cmax, v_cmin, v_lenT, v_lenF, v_ixT, v_ixF, v_revT, v_cutT, v_tupT, v_listT, v_eqI, v_neI, v_eqS, v_neS, Option.map_some, decide_eq_true_eq, decide_true, decide_false, and_self, and_true, Int.reduceToNat, Int.reduceNeg, Int.reduceLT, Int.reduceLE, Int.reduceAdd, Int.reduceSub, Int.reduceMul, Int.reduceBEq, Int.reduceBNe, Nat.reduceLT, Nat.reduceMul, Int.toNat_one, Int.toNat_zero, c3]
            exact ⟨(fr.trans (Fr.app _ _ _)).setF (Nat.le_refl _), .inl ⟨ho.symm, rfl⟩⟩
      · rw [if_neg c2] at ho
        simp only [two_eq, wo_addT, v_ipAdd, v_ipSub, wp_get2, rp_nil, rp_cons, wp_dict, isDct_new, ri_enumT, v_isNN, v_isNL, v_isNotN, v_isNotL, wp_fn, startW, wp_call, wp_C, wp_V, wp_bin, wp_un, wp_and, wp_or, wp_not, rt_V, rt_and, rt_or, rt_not, rt_bl, rt_yes, wp_if, wp_chain, ra_nil, ra_cons, wp_tup, wp_lst, wp_cb, wp_mt, wp_dict0, wp_sl, ro_none, ro_some, fs_seq, fs_nil, fs_brk, fs_cnt, fs_expr, fs_ret, fs_retN, fs_if, fs_set, fs_par, fs_asg, fs_sub, fs_aug, ri_val, ri_args, wp_some, wp_ok, wp_bind, List.map_cons, List.map_nil, List.length_cons, List.length_nil, List.replicate, List.cons_append, List.nil_append, List.getElem?_cons_zero, List.getElem?_cons_succ, List.set_cons_zero, List.set_cons_succ, Option.some.injEq, exists_eq_left', exists_eq_left, Nat.reduceAdd, Nat.reduceSub, Nat.reduceLeDiff, true_and, W.bl.injEq, W.int.injEq, W.str.injEq, W.tup.injEq, if_true, if_false, Bool.false_eq_true, Bool.not_true, Bool.not_false, truth_bl, truth_int, truth_tup, v_addI, v_subI, v_mod, v_fdiv, v_neg, v_lt, v_le, v_gt, v_ge, v_cint, v_cintB, v_cabs, v_cmax, v_cmin, v_lenT, v_lenF, v_ixT, v_ixF, v_revT, v_cutT, v_tupT, v_listT, v_eqI, v_neI, v_eqS, v_neS, Option.map_some, decide_eq_true_eq, decide_true, decide_false, and_self, and_true, Int.reduceToNat, Int.reduceNeg, Int.reduceLT, Int.reduceLE, Int.reduceAdd, Int.reduceSub, Int.reduceMul, Int.reduceBEq, Int.reduceBNe, Nat.reduceLT, Nat.reduceMul, Int.toNat_one, Int.toNat_zero, c2]
        exact ⟨acc, _, _, rfl, hk, by omega, by omega, fr, ho⟩
  · rintro δ μ1 ⟨acc, a, b, rfl, hk, hl, hi, fr, ho⟩
    rw [List.length_map, List.drop_of_length_le (Nat.le_refl _)] at ho
    simp only [two_eq, wo_addT, v_ipAdd, v_ipSub, wp_get2, rp_nil, rp_cons, wp_dict, isDct_new, ri_enumT, v_isNN, v_isNL, v_isNotN, v_isNotL, wp_fn, startW, wp_call, wp_C, wp_V, wp_bin, wp_un, wp_and, wp_or, wp_not, rt_V, rt_and, rt_or, rt_not, rt_bl, rt_yes, wp_if, wp_chain, ra_nil, ra_cons, wp_tup, wp_lst, wp_cb, wp_mt, wp_dict0, wp_sl, ro_none, ro_some, fs_seq, fs_nil, fs_brk, fs_cnt, fs_expr, fs_ret, fs_retN, fs_if, fs_set, fs_par, fs_asg, fs_sub, fs_aug, ri_val, ri_args, wp_some, wp_ok, wp_bind, List.map_cons, List.map_nil, List.length_cons, List.length_nil, List.replicate, List.cons_append, List.nil_append, List.getElem?_cons_zero, List.getElem?_cons_succ, List.set_cons_zero, List.set_cons_succ, Option.some.injEq, exists_eq_left', exists_eq_left, Nat.reduceAdd, Nat.reduceSub, Nat.reduceLeDiff, true_and, W.bl.injEq, W.int.injEq, W.str.injEq, W.tup.injEq, if_true, if_false, Bool.false_eq_true, Bool.not_true, Bool.not_false, truth_bl, truth_int, truth_tup, v_addI, v_subI, v_mod, v_fdiv, v_neg, v_lt, v_le, v_gt, v_ge, v_cint, v_cintB, v_cabs, v_cmax, v_cmin, v_lenT, v_lenF, v_ixT, v_ixF, v_revT, v_cutT, v_tupT, v_listT, v_eqI, v_neI, v_eqS, v_neS, Option.map_some, decide_eq_true_eq, decide_true, decide_false, and_self, and_true, Int.reduceToNat, Int.reduceNeg, Int.reduceLT, Int.reduceLE, Int.reduceAdd, Int.reduceSub, Int.reduceMul, Int.reduceBEq, Int.reduceBNe, Nat.reduceLT, Nat.reduceMul, Int.toNat_one, Int.toNat_zero]
    exact ⟨fr, .inr ⟨acc, _, ho.symm, rfl, hk, by simpa using hl⟩⟩
def toP : W → Str × Str
  | .tup [.str a, .str b] => (a, b)
  | _ => ("", "")
theorem toP_lw {ls : List (Str × Str)} : (ls.map lw).map toP = ls := by
  rw [List.map_map]
  exact List.map_id' ls
theorem toP_lw2 {ls : List (Str × Str)} : ls.map (toP ∘ lw) = ls := List.map_id' ls
def isPiece : W → Bool
  | .tup xs => xs.all isLine && (match opened [] (xs.map toP) with
    | some ns => ns.isEmpty
    | none => false)
  | _ => false
theorem is_piece_w {μ : Mem} {w : W} (h : Vl μ w) : Rw (g_is_piece [w] μ) fun r μ' => r = .bl (isPiece w) ∧ Fr [] μ μ' := by
  unfold g_is_piece b_is_piece
  simp only [two_eq, wo_addT, v_ipAdd, v_ipSub, wp_get2, rp_nil, rp_cons, wp_dict, isDct_new, ri_enumT, v_isNN, v_isNL, v_isNotN, v_isNotL, wp_fn, startW, wp_call, wp_C, wp_V, wp_bin, wp_un, wp_and, wp_or, wp_not, rt_V, rt_and, rt_or, rt_not, rt_bl, rt_yes, wp_if, wp_chain, ra_nil, ra_cons, wp_tup, wp_lst, wp_cb, wp_mt, wp_dict0, wp_sl, ro_none, ro_some, fs_seq, fs_nil, fs_brk, fs_cnt, fs_expr, fs_ret, fs_retN, fs_if, fs_set, fs_par, fs_asg, fs_sub, fs_aug, ri_val, ri_args, wp_some, wp_ok, wp_bind, List.map_cons, List.map_nil, List.length_cons, List.length_nil, List.replicate, List.cons_append, List.nil_append, List.getElem?_cons_zero, List.getElem?_cons_succ, List.set_cons_zero, List.set_cons_succ, Option.some.injEq, exists_eq_left', exists_eq_left, Nat.reduceAdd, Nat.reduceSub, Nat.reduceLeDiff, true_and, W.bl.injEq, W.int.injEq, W.str.injEq, W.tup.injEq, if_true, if_false, Bool.false_eq_true, Bool.not_true, Bool.not_false, truth_bl, truth_int, truth_tup, v_addI, v_subI, v_mod, v_fdiv, v_neg, v_lt, v_le, v_gt, v_ge, v_cint, v_cintB, v_cabs, v_cmax, v_cmin, v_lenT, v_lenF, v_ixT, v_ixF, v_revT, v_cutT, v_tupT, v_listT, v_eqI, v_neI, v_eqS, v_neS, Option.map_some, decide_eq_true_eq, decide_true, decide_false, and_self, and_true, Int.reduceToNat, Int.reduceNeg, Int.reduceLT, Int.reduceLE, Int.reduceAdd, Int.reduceSub, Int.reduceMul, Int.reduceBEq, Int.reduceBNe, Nat.reduceLT, Nat.reduceMul, Int.toNat_one, Int.toNat_zero]
  refine (are_lines_w h).imp ?_
  rintro r μ1 ⟨rfl, f1⟩
  simp only [two_eq, wo_addT, v_ipAdd, v_ipSub, wp_get2, rp_nil, rp_cons, wp_dict, isDct_new, ri_enumT, v_isNN, v_isNL, v_isNotN, v_isNotL, wp_fn, startW, wp_call, wp_C, wp_V, wp_bin, wp_un, wp_and, wp_or, wp_not, rt_V, rt_and, rt_or, rt_not, rt_bl, rt_yes, wp_if, wp_chain, ra_nil, ra_cons, wp_tup, wp_lst, wp_cb, wp_mt, wp_dict0, wp_sl, ro_none, ro_some, fs_seq, fs_nil, fs_brk, fs_cnt, fs_expr, fs_ret, fs_retN, fs_if, fs_set, fs_par, fs_asg, fs_sub, fs_aug, ri_val, ri_args, wp_some, wp_ok, wp_bind, List.map_cons, List.map_nil, List.length_cons, List.length_nil, List.replicate, List.cons_append, List.nil_append, List.getElem?_cons_zero, List.getElem?_cons_succ, List.set_cons_zero, List.set_cons_succ, Option.some.injEq, exists_eq_left', exists_eq_left, Nat.reduceAdd, Nat.reduceSub, Nat.reduceLeDiff, true_and, W.bl.injEq, W.int.injEq, W.str.injEq, W.tup.injEq, if_true, if_false, Bool.false_eq_true, Bool.not_true, Bool.not_false, truth_bl, truth_int, truth_tup, v_addI, v_subI, v_mod, v_fdiv, v_neg, v_lt, v_le, v_gt, v_ge, v_cint, v_cintB, v_cabs, v_cmax, v_cmin, v_lenT, v_lenF, v_ixT, v_ixF, v_revT, v_cutT, v_tupT, v_listT, v_eqI, v_neI, v_eqS, v_neS, Option.map_some, decide_eq_true_eq, decide_true, decide_false, and_self, and_true, Int.reduceToNat, Int.reduceNeg, Int.reduceLT, Int.reduceLE, Int.reduceAdd, Int.reduceSub, Int.reduceMul, Int.reduceBEq, Int.reduceBNe, Nat.reduceLT, Nat.reduceMul, Int.toNat_one, Int.toNat_zero]
  cases hl : areLines w with
  | false =>
    simp only [two_eq, wo_addT, v_ipAdd, v_ipSub, wp_get2, rp_nil, rp_cons, wp_dict, isDct_new, ri_enumT, v_isNN, v_isNL, v_isNotN, v_isNotL, wp_fn, startW, wp_call, wp_C, wp_V, wp_bin, wp_un, wp_and, wp_or, wp_not, rt_V, rt_and, rt_or, rt_not, rt_bl, rt_yes, wp_if, wp_chain, ra_nil, ra_cons, wp_tup, wp_lst, wp_cb, wp_mt, wp_dict0, wp_sl, ro_none, ro_some, fs_seq, fs_nil, fs_brk, fs_cnt, fs_expr, fs_ret, fs_retN, fs_if, fs_set, fs_par, fs_asg, fs_sub, fs_aug, ri_val, ri_args, wp_some, wp_ok, wp_bind, List.map_cons, List.map_nil, List.length_cons, List.length_nil, List.replicate, List.cons_append, List.nil_append, List.getElem?_cons_zero, List.getElem?_cons_succ, List.set_cons_zero, List.set_cons_succ, Option.some.injEq, exists_eq_left', exists_eq_left, Nat.reduceAdd, Nat.reduceSub, Nat.reduceLeDiff, true_and, W.bl.injEq, W.int.injEq, W.str.injEq, W.tup.injEq, if_true, if_false, Bool.false_eq_true, Bool.not_true, Bool.not_false, truth_bl, truth_int, truth_tup, v_addI, v_subI, v_mod, v_fdiv, v_neg, v_lt, v_le, v_gt, v_ge, v_cint, v_cintB, v_cabs, v_cmax, v_cmin, v_lenT, v_lenF, v_ixT, v_ixF, v_revT, v_cutT, v_tupT, v_listT, v_eqI, v_neI, v_eqS, v_neS, Option.map_some, decide_eq_true_eq, decide_true, decide_false, and_self, and_true, Int.reduceToNat, Int.reduceNeg, Int.reduceLT, Int.reduceLE, Int.reduceAdd, Int.reduceSub, Int.reduceMul, Int.reduceBEq, Int.reduceBNe, Nat.reduceLT, Nat.reduceMul, Int.toNat_one, Int.toNat_zero]
    refine ⟨?_, f1⟩
    cases w <;> first | rfl | (rename_i xs; have hl : xs.all isLine = false := hl; simp [isPiece, hl])
  | true =>
    cases w with
    | tup xs =>
      have hl : xs.all isLine = true := hl
      obtain ⟨ls, rfl⟩ := lines_of hl
      simp only [two_eq, wo_addT, v_ipAdd, v_ipSub, wp_get2, rp_nil, rp_cons, wp_dict, isDct_new, ri_enumT, v_isNN, v_isNL, v_isNotN, v_isNotL, wp_fn, startW, wp_call, wp_C, wp_V, wp_bin, wp_un, wp_and, wp_or, wp_not, rt_V, rt_and, rt_or, rt_not, rt_bl, rt_yes, wp_if, wp_chain, ra_nil, ra_cons, wp_tup, wp_lst, wp_cb, wp_mt, wp_dict0, wp_sl, ro_none, ro_some, fs_seq, fs_nil, fs_brk, fs_cnt, fs_expr, fs_ret, fs_retN, fs_if, fs_set, fs_par, fs_asg, fs_sub, fs_aug, ri_val, ri_args, wp_some, wp_ok, wp_bind, List.map_cons, List.map_nil, List.length_cons, List.length_nil, List.replicate, List.cons_append, List.nil_append, List.getElem?_cons_zero, List.getElem?_cons_succ, List.set_cons_zero, List.set_cons_succ, Option.some.injEq, exists_eq_left', exists_eq_left, Nat.reduceAdd, Nat.reduceSub, Nat.reduceLeDiff, true_and, W.bl.injEq, W.int.injEq, W.str.injEq, W.tup.injEq, if_true, if_false, Bool.false_eq_true, Bool.not_true, Bool.not_false, truth_bl, truth_int, truth_tup, v_addI, v_subI, v_mod, v_fdiv, v_neg, v_lt, v_le, v_gt, v_ge, v_cint, v_cintB, v_cabs, v_cmax, v_cmin, v_lenT, v_lenF, v_ixT, v_ixF, v_revT, v_cutT, v_tupT, v_listT, v_eqI, v_neI, v_eqS, v_neS, Option.map_some, decide_eq_true_eq, decide_true, decide_false, and_self, and_true, Int.reduceToNat, Int.reduceNeg, Int.reduceLT, Int.reduceLE, Int.reduceAdd, Int.reduceSub, Int.reduceMul, Int.reduceBEq, Int.reduceBNe, Nat.reduceLT, Nat.reduceMul, Int.toNat_one, Int.toNat_zero]
      refine (open_in_w (by simpa using h.len)).imp ?_
      rintro r μ2 ⟨f2, ⟨ho, rfl⟩ | ⟨ns, k, ho, rfl, hk, _⟩⟩
      · simp only [two_eq, wo_addT, v_ipAdd, v_ipSub, wp_get2, rp_nil, rp_cons, wp_dict, isDct_new, ri_enumT, v_isNN, v_isNL, v_isNotN, v_isNotL, wp_fn, startW, wp_call, wp_C, wp_V, wp_bin, wp_un, wp_and, wp_or, wp_not, rt_V, rt_and, rt_or, rt_not, rt_bl, rt_yes, wp_if, wp_chain, ra_nil, ra_cons, wp_tup, wp_lst, wp_cb, wp_mt, wp_dict0, wp_sl, ro_none, ro_some, fs_seq, fs_nil, fs_brk, fs_cnt, fs_expr, fs_ret, fs_retN, fs_if, fs_set, fs_par, fs_asg, fs_sub, fs_aug, ri_val, ri_args, wp_some, wp_ok, wp_bind, List.map_cons, List.map_nil, List.length_cons, List.length_nil, List.replicate, List.cons_append, List.nil_append, List.getElem?_cons_zero, List.getElem?_cons_succ, List.set_cons_zero, List.set_cons_succ, Option.some.injEq, exists_eq_left', exists_eq_left, Nat.reduceAdd, Nat.reduceSub, Nat.reduceLeDiff, true_and, W.bl.injEq, W.int.injEq, W.str.injEq, W.tup.injEq, if_true, if_false, Bool.false_eq_true, Bool.not_true, Bool.not_false, truth_bl, truth_int, truth_tup, v_addI, v_subI, v_mod, v_fdiv, v_neg, v_lt, v_le, v_gt, v_ge, v_cint, v_cintB, v_cabs, v_cmax, v_cmin, v_lenT, v_lenF, v_ixT, v_ixF, v_revT, v_cutT, v_tupT, v_listT, v_eqI, v_neI, v_eqS, v_neS, Option.map_some, decide_eq_true_eq, decide_true, decide_false, and_self, and_true, Int.reduceToNat, Int.reduceNeg, Int.reduceLT, Int.reduceLE, Int.reduceAdd, Int.reduceSub, Int.reduceMul, Int.reduceBEq, Int.reduceBNe, Nat.reduceLT, Nat.reduceMul, Int.toNat_one, Int.toNat_zero, v_eqN (xs := []) getL_new ⟨[], rfl⟩]
        exact ⟨by simp [isPiece, hl, toP_lw2, ho], (f1.trans f2).trans (Fr.app _ _ _)⟩
      · simp only [two_eq, wo_addT, v_ipAdd, v_ipSub, wp_get2, rp_nil, rp_cons, wp_dict, isDct_new, ri_enumT, v_isNN, v_isNL, v_isNotN, v_isNotL, wp_fn, startW, wp_call, wp_C, wp_V, wp_bin, wp_un, wp_and, wp_or, wp_not, rt_V, rt_and, rt_or, rt_not, rt_bl, rt_yes, wp_if, wp_chain, ra_nil, ra_cons, wp_tup, wp_lst, wp_cb, wp_mt, wp_dict0, wp_sl, ro_none, ro_some, fs_seq, fs_nil, fs_brk, fs_cnt, fs_expr, fs_ret, fs_retN, fs_if, fs_set, fs_par, fs_asg, fs_sub, fs_aug, ri_val, ri_args, wp_some, wp_ok, wp_bind, List.map_cons, List.map_nil, List.length_cons, List.length_nil, List.replicate, List.cons_append, List.nil_append, List.getElem?_cons_zero, List.getElem?_cons_succ, List.set_cons_zero, List.set_cons_succ, Option.some.injEq, exists_eq_left', exists_eq_left, Nat.reduceAdd, Nat.reduceSub, Nat.reduceLeDiff, true_and, W.bl.injEq, W.int.injEq, W.str.injEq, W.tup.injEq, if_true, if_false, Bool.false_eq_true, Bool.not_true, Bool.not_false, truth_bl, truth_int, truth_tup, v_addI, v_subI, v_mod, v_fdiv, v_neg, v_lt, v_le, v_gt, v_ge, v_cint, v_cintB, v_cabs, v_cmax, v_cmin, v_lenT, v_lenF, v_ixT, v_ixF, v_revT, v_cutT, v_tupT, v_listT, v_eqI, v_neI, v_eqS, v_neS, Option.map_some, decide_eq_true_eq, decide_true, decide_false, and_self, and_true, Int.reduceToNat, Int.reduceNeg, Int.reduceLT, Int.reduceLE, Int.reduceAdd, Int.reduceSub, Int.reduceMul, Int.reduceBEq, Int.reduceBNe, Nat.reduceLT, Nat.reduceMul, Int.toNat_one, Int.toNat_zero, v_eq0 (getL_app hk) strs_data getL_new]
        exact ⟨by simp [isPiece, hl, toP_lw2, ho], (f1.trans f2).trans (Fr.app _ _ _)⟩
    | _ => cases hl
def val (p : Str) : Int := if (p == ("in" : Str)) = true then 1 else if (p == ("out" : Str)) = true then -1 else 0
def dOk : Bool → Int → List (Str × Str) → Bool
  | _, _, [] => true
  | b, d, p :: r => if (!b && d == 0) = true then false else dOk false (d + val p.1) r
theorem dOk_cons {b : Bool} {d : Int} {p : Str × Str} {r : List (Str × Str)} : dOk b d (p :: r) = if (!b && d == 0) = true then false else dOk false (d + val p.1) r := id rfl
def isLog : W → Bool
  | .tup xs => xs.all isLine && match xs.map toP with
    | [] => false
    | p :: r => (p.1 == ("in" : Str)) && (opened [] (p :: r)).isSome && dOk true 0 (p :: r)
  | _ => false
theorem dict_io {μ : Mem} {p : Str} : ∃ o, getD (μ ++ [.dct (mergeW [] [(.inr ("in" : Str), .int 1), (.inr ("out" : Str), .int (-1))])]) (.loc μ.length) (.str p) = some o ∧ o.getD (.int 0) = .int (val p) := by
  have m : mergeW [] [((.inr ("in" : Str) : Key), W.int 1), (.inr ("out" : Str), .int (-1))] = [(.inr ("in" : Str), .int 1), (.inr ("out" : Str), .int (-1))] := by
    simp only [mergeW, List.foldl, putW, List.any_nil, Bool.false_eq_true, if_false, List.nil_append, List.any_cons, Bool.or_false]
    rw [if_neg (by decide +kernel)]
    rfl
  rw [m]
  refine ⟨valW [((.inr ("in" : Str) : Key), W.int 1), (.inr ("out" : Str), .int (-1))] (.inr p), by simp [getD, toKey], ?_⟩
  unfold val valW
  by_cases c1 : p = ("in" : Str)
  · subst c1
    rfl
  · have n1 : ¬ (p == ("in" : Str)) = true := fun z => c1 (eq_of_beq z)
    rw [if_neg n1]
    by_cases c2 : p = ("out" : Str)
    · subst c2
      rfl
    · have n2 : ¬ (p == ("out" : Str)) = true := fun z => c2 (eq_of_beq z)
      rw [if_neg n2]
      have e1 : ¬ ((.inr ("in" : Str) : Key) = .inr p) := fun z => c1 (Sum.inr.inj z).symm
      have e2 : ¬ ((.inr ("out" : Str) : Key) = .inr p) := fun z => c2 (Sum.inr.inj z).symm
      simp [List.find?, e1, e2]
theorem lines_data {μ : Mem} {ls : List (Str × Str)} : ∃ ds, mapO (toD μ 39) (ls.map lw) = some ds := mapO_all fun x hx => by
  obtain ⟨z, _, rfl⟩ := List.mem_map.mp hx
  exact ⟨_, rfl⟩
theorem is_log_w {μ : Mem} {w : W} (h : Vl μ w) : Rw (g_is_log [w] μ) fun r μ' => r = .bl (isLog w) ∧ Fr [] μ μ' := by
  unfold g_is_log b_is_log
  simp only [two_eq, wo_addT, v_ipAdd, v_ipSub, wp_get2, rp_nil, rp_cons, wp_dict, isDct_new, ri_enumT, v_isNN, v_isNL, v_isNotN, v_isNotL, wp_fn, startW, wp_call, wp_C, wp_V, wp_bin, wp_un, wp_and, wp_or, wp_not, rt_V, rt_and, rt_or, rt_not, rt_bl, rt_yes, wp_if, wp_chain, ra_nil, ra_cons, wp_tup, wp_lst, wp_cb, wp_mt, wp_dict0, wp_sl, ro_none, ro_some, fs_seq, fs_nil, fs_brk, fs_cnt, fs_expr, fs_ret, fs_retN, fs_if, fs_set, fs_par, fs_asg, fs_sub, fs_aug, ri_val, ri_args, wp_some, wp_ok, wp_bind, List.map_cons, List.map_nil, List.length_cons, List.length_nil, List.replicate, List.cons_append, List.nil_append, List.getElem?_cons_zero, List.getElem?_cons_succ, List.set_cons_zero, List.set_cons_succ, Option.some.injEq, exists_eq_left', exists_eq_left, Nat.reduceAdd, Nat.reduceSub, Nat.reduceLeDiff, true_and, W.bl.injEq, W.int.injEq, W.str.injEq, W.tup.injEq, if_true, if_false, Bool.false_eq_true, Bool.not_true, Bool.not_false, truth_bl, truth_int, truth_tup, v_addI, v_subI, v_mod, v_fdiv, v_neg, v_lt, v_le, v_gt, v_ge, v_cint, v_cintB, v_cabs, v_cmax, v_cmin, v_lenT, v_lenF, v_ixT, v_ixF, v_revT, v_cutT, v_tupT, v_listT, v_eqI, v_neI, v_eqS, v_neS, Option.map_some, decide_eq_true_eq, decide_true, decide_false, and_self, and_true, Int.reduceToNat, Int.reduceNeg, Int.reduceLT, Int.reduceLE, Int.reduceAdd, Int.reduceSub, Int.reduceMul, Int.reduceBEq, Int.reduceBNe, Nat.reduceLT, Nat.reduceMul, Int.toNat_one, Int.toNat_zero]
  refine (are_lines_w h).imp ?_
  rintro r μ1 ⟨rfl, f1⟩
  simp only [two_eq, wo_addT, v_ipAdd, v_ipSub, wp_get2, rp_nil, rp_cons, wp_dict, isDct_new, ri_enumT, v_isNN, v_isNL, v_isNotN, v_isNotL, wp_fn, startW, wp_call, wp_C, wp_V, wp_bin, wp_un, wp_and, wp_or, wp_not, rt_V, rt_and, rt_or, rt_not, rt_bl, rt_yes, wp_if, wp_chain, ra_nil, ra_cons, wp_tup, wp_lst, wp_cb, wp_mt, wp_dict0, wp_sl, ro_none, ro_some, fs_seq, fs_nil, fs_brk, fs_cnt, fs_expr, fs_ret, fs_retN, fs_if, fs_set, fs_par, fs_asg, fs_sub, fs_aug, ri_val, ri_args, wp_some, wp_ok, wp_bind, List.map_cons, List.map_nil, List.length_cons, List.length_nil, List.replicate, List.cons_append, List.nil_append, List.getElem?_cons_zero, List.getElem?_cons_succ, List.set_cons_zero, List.set_cons_succ, Option.some.injEq, exists_eq_left', exists_eq_left, Nat.reduceAdd, Nat.reduceSub, Nat.reduceLeDiff, true_and, W.bl.injEq, W.int.injEq, W.str.injEq, W.tup.injEq, if_true, if_false, Bool.false_eq_true, Bool.not_true, Bool.not_false, truth_bl, truth_int, truth_tup, v_addI, v_subI, v_mod, v_fdiv, v_neg, v_lt, v_le, v_gt, v_ge, v_cint, v_cintB, v_cabs, v_cmax, v_cmin, v_lenT, v_lenF, v_ixT, v_ixF, v_revT, v_cutT, v_tupT, v_listT, v_eqI, v_neI, v_eqS, v_neS, Option.map_some, decide_eq_true_eq, decide_true, decide_false, and_self, and_true, Int.reduceToNat, Int.reduceNeg, Int.reduceLT, Int.reduceLE, Int.reduceAdd, Int.reduceSub, Int.reduceMul, Int.reduceBEq, Int.reduceBNe, Nat.reduceLT, Nat.reduceMul, Int.toNat_one, Int.toNat_zero]
  cases hl : areLines w with
  | false =>
    simp only [two_eq, wo_addT, v_ipAdd, v_ipSub, wp_get2, rp_nil, rp_cons, wp_dict, isDct_new, ri_enumT, v_isNN, v_isNL, v_isNotN, v_isNotL, wp_fn, startW, wp_call, wp_C, wp_V, wp_bin, wp_un, wp_and, wp_or, wp_not, rt_V, rt_and, rt_or, rt_not, rt_bl, rt_yes, wp_if, wp_chain, ra_nil, ra_cons, wp_tup, wp_lst, wp_cb, wp_mt, wp_dict0, wp_sl, ro_none, ro_some, fs_seq, fs_nil, fs_brk, fs_cnt, fs_expr, fs_ret, fs_retN, fs_if, fs_set, fs_par, fs_asg, fs_sub, fs_aug, ri_val, ri_args, wp_some, wp_ok, wp_bind, List.map_cons, List.map_nil, List.length_cons, List.length_nil, List.replicate, List.cons_append, List.nil_append, List.getElem?_cons_zero, List.getElem?_cons_succ, List.set_cons_zero, List.set_cons_succ, Option.some.injEq, exists_eq_left', exists_eq_left, Nat.reduceAdd, Nat.reduceSub, Nat.reduceLeDiff, true_and, W.bl.injEq, W.int.injEq, W.str.injEq, W.tup.injEq, if_true, if_false, Bool.false_eq_true, Bool.not_true, Bool.not_false, truth_bl, truth_int, truth_tup, v_addI, v_subI, v_mod, v_fdiv, v_neg, v_lt, v_le, v_gt, v_ge, v_cint, v_cintB, v_cabs, v_cmax, v_cmin, v_lenT, v_lenF, v_ixT, v_ixF, v_revT, v_cutT, v_tupT, v_listT, v_eqI, v_neI, v_eqS, v_neS, Option.map_some, decide_eq_true_eq, decide_true, decide_false, and_self, and_true, Int.reduceToNat, Int.reduceNeg, Int.reduceLT, Int.reduceLE, Int.reduceAdd, Int.reduceSub, Int.reduceMul, Int.reduceBEq, Int.reduceBNe, Nat.reduceLT, Nat.reduceMul, Int.toNat_one, Int.toNat_zero]
    refine ⟨?_, f1⟩
    cases w <;> first | rfl | (rename_i xs; have hl : xs.all isLine = false := hl; simp [isLog, hl])
  | true =>
    cases w with
    | tup xs =>
      have hl : xs.all isLine = true := hl
      obtain ⟨ls, rfl⟩ := lines_of hl
      have hz : ls.length < 1000000 := by simpa using h.len
      clear h
      cases ls with
      | nil =>
        simp only [two_eq, wo_addT, v_ipAdd, v_ipSub, wp_get2, rp_nil, rp_cons, wp_dict, isDct_new, ri_enumT, v_isNN, v_isNL, v_isNotN, v_isNotL, wp_fn, startW, wp_call, wp_C, wp_V, wp_bin, wp_un, wp_and, wp_or, wp_not, rt_V, rt_and, rt_or, rt_not, rt_bl, rt_yes, wp_if, wp_chain, ra_nil, ra_cons, wp_tup, wp_lst, wp_cb, wp_mt, wp_dict0, wp_sl, ro_none, ro_some, fs_seq, fs_nil, fs_brk, fs_cnt, fs_expr, fs_ret, fs_retN, fs_if, fs_set, fs_par, fs_asg, fs_sub, fs_aug, ri_val, ri_args, wp_some, wp_ok, wp_bind, List.map_cons, List.map_nil, List.length_cons, List.length_nil, List.replicate, List.cons_append, List.nil_append, List.getElem?_cons_zero, List.getElem?_cons_succ, List.set_cons_zero, List.set_cons_succ, Option.some.injEq, exists_eq_left', exists_eq_left, Nat.reduceAdd, Nat.reduceSub, Nat.reduceLeDiff, true_and, W.bl.injEq, W.int.injEq, W.str.injEq, W.tup.injEq, if_true, if_false, Bool.false_eq_true, Bool.not_true, Bool.not_false, truth_bl, truth_int, truth_tup, v_addI, v_subI, v_mod, v_fdiv, v_neg, v_lt, v_le, v_gt, v_ge, v_cint, v_cintB, v_cabs, v_cmax, v_cmin, v_lenT, v_lenF, v_ixT, v_ixF, v_revT, v_cutT, v_tupT, v_listT, v_eqI, v_neI, v_eqS, v_neS, Option.map_some, decide_eq_true_eq, decide_true, decide_false, and_self, and_true, Int.reduceToNat, Int.reduceNeg, Int.reduceLT, Int.reduceLE, Int.reduceAdd, Int.reduceSub, Int.reduceMul, Int.reduceBEq, Int.reduceBNe, Nat.reduceLT, Nat.reduceMul, Int.toNat_one, Int.toNat_zero, v_eqT0 (μ := μ1) (xs := []) ⟨[], rfl⟩, List.isEmpty_nil]
        exact ⟨rfl, f1⟩
      | cons p r =>
        have i0 : atI (lw p :: r.map lw) 0 = some (lw p) := by
          show atI (lw p :: r.map lw) ((0 : Nat) : Int) = _
          rw [Mi.atI_nat]
          rfl
        have i1 : ∀ μ, opIx (lw p) (.int 0) μ = some (.str p.1, μ) := fun _ => rfl
        have hd : ∃ ds, mapO (toD μ1 39) (lw p :: r.map lw) = some ds := lines_data (ls := p :: r)
        have he : (lw p :: r.map lw).isEmpty = false := rfl
        simp only [two_eq, wo_addT, v_ipAdd, v_ipSub, wp_get2, rp_nil, rp_cons, wp_dict, isDct_new, ri_enumT, v_isNN, v_isNL, v_isNotN, v_isNotL, wp_fn, startW, wp_call, wp_C, wp_V, wp_bin, wp_un, wp_and, wp_or, wp_not, rt_V, rt_and, rt_or, rt_not, rt_bl, rt_yes, wp_if, wp_chain, ra_nil, ra_cons, wp_tup, wp_lst, wp_cb, wp_mt, wp_dict0, wp_sl, ro_none, ro_some, fs_seq, fs_nil, fs_brk, fs_cnt, fs_expr, fs_ret, fs_retN, fs_if, fs_set, fs_par, fs_asg, fs_sub, fs_aug, ri_val, ri_args, wp_some, wp_ok, wp_bind, List.map_cons, List.map_nil, List.length_cons, List.length_nil, List.replicate, List.cons_append, List.nil_append, List.getElem?_cons_zero, List.getElem?_cons_succ, List.set_cons_zero, List.set_cons_succ, Option.some.injEq, exists_eq_left', exists_eq_left, Nat.reduceAdd, Nat.reduceSub, Nat.reduceLeDiff, true_and, W.bl.injEq, W.int.injEq, W.str.injEq, W.tup.injEq, if_true, if_false, Bool.false_eq_true, Bool.not_true, Bool.not_false, truth_bl, truth_int, truth_tup, v_addI, v_subI, v_mod, v_fdiv, v_neg, v_lt, v_le, v_gt, v_ge, v_cint, v_cintB, v_cabs, v_cmax, v_cmin, v_lenT, v_lenF, v_ixT, v_ixF, v_revT, v_cutT, v_tupT, v_listT, v_eqI, v_neI, v_eqS, v_neS, Option.map_some, decide_eq_true_eq, decide_true, decide_false, and_self, and_true, Int.reduceToNat, Int.reduceNeg, Int.reduceLT, Int.reduceLE, Int.reduceAdd, Int.reduceSub, Int.reduceMul, Int.reduceBEq, Int.reduceBNe, Nat.reduceLT, Nat.reduceMul, Int.toNat_one, Int.toNat_zero, v_eqT0 hd, he, i0, i1]
        have lg : isLog (.tup (lw p :: r.map lw)) = ((p.1 == ("in" : Str)) && (opened [] (p :: r)).isSome && dOk true 0 (p :: r)) := by
          have e : (lw p :: r.map lw).map toP = p :: r := toP_lw (ls := p :: r)
          have hl : (lw p :: r.map lw).all isLine = true := hl
          unfold isLog
          simp only [hl, Bool.true_and, e]
        rw [lg]
        cases c1 : (p.1 == ("in" : Str)) with
        | false =>
          simp only [two_eq, wo_addT, v_ipAdd, v_ipSub, wp_get2, rp_nil, rp_cons, wp_dict, isDct_new, ri_enumT, v_isNN, v_isNL, v_isNotN, v_isNotL, wp_fn, startW, wp_call, wp_C, wp_V, wp_bin, wp_un, wp_and, wp_or, wp_not, rt_V, rt_and, rt_or, rt_not, rt_bl, rt_yes, wp_if, wp_chain, ra_nil, ra_cons, wp_tup, wp_lst, wp_cb, wp_mt, wp_dict0, wp_sl, ro_none, ro_some, fs_seq, fs_nil, fs_brk, fs_cnt, fs_expr, fs_ret, fs_retN, fs_if, fs_set, fs_par, fs_asg, fs_sub, fs_aug, ri_val, ri_args, wp_some, wp_ok, wp_bind, List.map_cons, List.map_nil, List.length_cons, List.length_nil, List.replicate, List.cons_append, List.nil_append, List.getElem?_cons_zero, List.getElem?_cons_succ, List.set_cons_zero, List.set_cons_succ, Option.some.injEq, exists_eq_left', exists_eq_left, Nat.reduceAdd, Nat.reduceSub, Nat.reduceLeDiff, true_and, W.bl.injEq, W.int.injEq, W.str.injEq, W.tup.injEq, if_true, if_false, Bool.false_eq_true, Bool.not_true, Bool.not_false, truth_bl, truth_int, truth_tup, v_addI, v_subI, v_mod, v_fdiv, v_neg, v_lt, v_le, v_gt, v_ge, v_cint, v_cintB, v_cabs, v_cmax, v_cmin, v_lenT, v_lenF, v_ixT, v_ixF, v_revT, v_cutT, v_tupT, v_listT, v_eqI, v_neI, v_eqS, v_neS, Option.map_some, decide_eq_true_eq, decide_true, decide_false, and_self, and_true, Int.reduceToNat, Int.reduceNeg, Int.reduceLT, Int.reduceLE, Int.reduceAdd, Int.reduceSub, Int.reduceMul, Int.reduceBEq, Int.reduceBNe, Nat.reduceLT, Nat.reduceMul, Int.toNat_one, Int.toNat_zero]
          exact ⟨by simp, f1⟩
        | true =>
          simp only [two_eq, wo_addT, v_ipAdd, v_ipSub, wp_get2, rp_nil, rp_cons, wp_dict, isDct_new, ri_enumT, v_isNN, v_isNL, v_isNotN, v_isNotL, wp_fn, startW, wp_call, wp_C, wp_V, wp_bin, wp_un, wp_and, wp_or, wp_not, rt_V, rt_and, rt_or, rt_not, rt_bl, rt_yes, wp_if, wp_chain, ra_nil, ra_cons, wp_tup, wp_lst, wp_cb, wp_mt, wp_dict0, wp_sl, ro_none, ro_some, fs_seq, fs_nil, fs_brk, fs_cnt, fs_expr, fs_ret, fs_retN, fs_if, fs_set, fs_par, fs_asg, fs_sub, fs_aug, ri_val, ri_args, wp_some, wp_ok, wp_bind, List.map_cons, List.map_nil, List.length_cons, List.length_nil, List.replicate, List.cons_append, List.nil_append, List.getElem?_cons_zero, List.getElem?_cons_succ, List.set_cons_zero, List.set_cons_succ, Option.some.injEq, exists_eq_left', exists_eq_left, Nat.reduceAdd, Nat.reduceSub, Nat.reduceLeDiff, true_and, W.bl.injEq, W.int.injEq, W.str.injEq, W.tup.injEq, if_true, if_false, Bool.false_eq_true, Bool.not_true, Bool.not_false, truth_bl, truth_int, truth_tup, v_addI, v_subI, v_mod, v_fdiv, v_neg, v_lt, v_le, v_gt, v_ge, v_cint, v_cintB, v_cabs, v_cmax, v_cmin, v_lenT, v_lenF, v_ixT, v_ixF, v_revT, v_cutT, v_tupT, v_listT, v_eqI, v_neI, v_eqS, v_neS, Option.map_some, decide_eq_true_eq, decide_true, decide_false, and_self, and_true, Int.reduceToNat, Int.reduceNeg, Int.reduceLT, Int.reduceLE, Int.reduceAdd, Int.reduceSub, Int.reduceMul, Int.reduceBEq, Int.reduceBNe, Nat.reduceLT, Nat.reduceMul, Int.toNat_one, Int.toNat_zero]
          refine (open_in_w (ls := p :: r) hz).imp ?_
          rintro x μ2 ⟨f2, ⟨ho, rfl⟩ | ⟨ns, k, ho, rfl, hk, _⟩⟩
          · simp only [two_eq, wo_addT, v_ipAdd, v_ipSub, wp_get2, rp_nil, rp_cons, wp_dict, isDct_new, ri_enumT, v_isNN, v_isNL, v_isNotN, v_isNotL, wp_fn, startW, wp_call, wp_C, wp_V, wp_bin, wp_un, wp_and, wp_or, wp_not, rt_V, rt_and, rt_or, rt_not, rt_bl, rt_yes, wp_if, wp_chain, ra_nil, ra_cons, wp_tup, wp_lst, wp_cb, wp_mt, wp_dict0, wp_sl, ro_none, ro_some, fs_seq, fs_nil, fs_brk, fs_cnt, fs_expr, fs_ret, fs_retN, fs_if, fs_set, fs_par, fs_asg, fs_sub, fs_aug, ri_val, ri_args, wp_some, wp_ok, wp_bind, List.map_cons, List.map_nil, List.length_cons, List.length_nil, List.replicate, List.cons_append, List.nil_append, List.getElem?_cons_zero, List.getElem?_cons_succ, List.set_cons_zero, List.set_cons_succ, Option.some.injEq, exists_eq_left', exists_eq_left, Nat.reduceAdd, Nat.reduceSub, Nat.reduceLeDiff, true_and, W.bl.injEq, W.int.injEq, W.str.injEq, W.tup.injEq, if_true, if_false, Bool.false_eq_true, Bool.not_true, Bool.not_false, truth_bl, truth_int, truth_tup, v_addI, v_subI, v_mod, v_fdiv, v_neg, v_lt, v_le, v_gt, v_ge, v_cint, v_cintB, v_cabs, v_cmax, v_cmin, v_lenT, v_lenF, v_ixT, v_ixF, v_revT, v_cutT, v_tupT, v_listT, v_eqI, v_neI, v_eqS, v_neS, Option.map_some, decide_eq_true_eq, decide_true, decide_false, and_self, and_true, Int.reduceToNat, Int.reduceNeg, Int.reduceLT, Int.reduceLE, Int.reduceAdd, Int.reduceSub, Int.reduceMul, Int.reduceBEq, Int.reduceBNe, Nat.reduceLT, Nat.reduceMul, Int.toNat_one, Int.toNat_zero, ho]
            exact ⟨by simp, f1.trans f2⟩
          · simp only [two_eq, wo_addT, v_ipAdd, v_ipSub, wp_get2, rp_nil, rp_cons, wp_dict, isDct_new, ri_enumT, v_isNN, v_isNL, v_isNotN, v_isNotL, wp_fn, startW, wp_call, wp_C, wp_V, wp_bin, wp_un, wp_and, wp_or, wp_not, rt_V, rt_and, rt_or, rt_not, rt_bl, rt_yes, wp_if, wp_chain, ra_nil, ra_cons, wp_tup, wp_lst, wp_cb, wp_mt, wp_dict0, wp_sl, ro_none, ro_some, fs_seq, fs_nil, fs_brk, fs_cnt, fs_expr, fs_ret, fs_retN, fs_if, fs_set, fs_par, fs_asg, fs_sub, fs_aug, ri_val, ri_args, wp_some, wp_ok, wp_bind, List.map_cons, List.map_nil, List.length_cons, List.length_nil, List.replicate, List.cons_append, List.nil_append, List.getElem?_cons_zero, List.getElem?_cons_succ, List.set_cons_zero, List.set_cons_succ, Option.some.injEq, exists_eq_left', exists_eq_left, Nat.reduceAdd, Nat.reduceSub, Nat.reduceLeDiff, true_and, W.bl.injEq, W.int.injEq, W.str.injEq, W.tup.injEq, if_true, if_false, Bool.false_eq_true, Bool.not_true, Bool.not_false, truth_bl, truth_int, truth_tup, v_addI, v_subI, v_mod, v_fdiv, v_neg, v_lt, v_le, v_gt, v_ge, v_cint, v_cintB, v_cabs, v_cmax, v_cmin, v_lenT, v_lenF, v_ixT, v_ixF, v_revT, v_cutT, v_tupT, v_listT, v_eqI, v_neI, v_eqS, v_neS, Option.map_some, decide_eq_true_eq, decide_true, decide_false, and_self, and_true, Int.reduceToNat, Int.reduceNeg, Int.reduceLT, Int.reduceLE, Int.reduceAdd, Int.reduceSub, Int.reduceMul, Int.reduceBEq, Int.reduceBNe, Nat.reduceLT, Nat.reduceMul, Int.toNat_one, Int.toNat_zero, ho]
            rw [show lw p :: r.map lw = (p :: r).map lw from rfl]
            generalize p :: r = ls at hz ⊢
            refine for_w (enumFrom 0 (ls.map lw)) (fun i δ μ' => ∃ d a b c, δ = [some (.tup (ls.map lw)), some (.int d), a, b, c] ∧ i ≤ ls.length ∧ Fr [] μ μ' ∧ dOk (decide (i = 0)) d (ls.drop i) = dOk true 0 ls) ?_ (by rw [enum_len]; simpa using hz) ?_ ?_
            · simp only [two_eq, wo_addT, v_ipAdd, v_ipSub, wp_get2, rp_nil, rp_cons, wp_dict, isDct_new, ri_enumT, v_isNN, v_isNL, v_isNotN, v_isNotL, wp_fn, startW, wp_call, wp_C, wp_V, wp_bin, wp_un, wp_and, wp_or, wp_not, rt_V, rt_and, rt_or, rt_not, rt_bl, rt_yes, wp_if, wp_chain, ra_nil, ra_cons, wp_tup, wp_lst, wp_cb, wp_mt, wp_dict0, wp_sl, ro_none, ro_some, fs_seq, fs_nil, fs_brk, fs_cnt, fs_expr, fs_ret, fs_retN, fs_if, fs_set, fs_par, fs_asg, fs_sub, fs_aug, ri_val, ri_args, wp_some, wp_ok, wp_bind, List.map_cons, List.map_nil, List.length_cons, List.length_nil, List.replicate, List.cons_append, List.nil_append, List.getElem?_cons_zero, List.getElem?_cons_succ, List.set_cons_zero, List.set_cons_succ, Option.some.injEq, exists_eq_left', exists_eq_left, Nat.reduceAdd, Nat.reduceSub, Nat.reduceLeDiff, true_and, W.bl.injEq, W.int.injEq, W.str.injEq, W.tup.injEq, if_true, if_false, Bool.false_eq_true, Bool.not_true, Bool.not_false, truth_bl, truth_int, truth_tup, v_addI, v_subI, v_mod, v_fdiv, v_neg, v_lt, v_le, v_gt, v_ge, v_cint, v_cintB, v_cabs, v_cmax, v_cmin, v_lenT, v_lenF, v_ixT, v_ixF, v_revT, v_cutT, v_tupT, v_listT, v_eqI, v_neI, v_eqS, v_neS, Option.map_some, decide_eq_true_eq, decide_true, decide_false, and_self, and_true, Int.reduceToNat, Int.reduceNeg, Int.reduceLT, Int.reduceLE, Int.reduceAdd, Int.reduceSub, Int.reduceMul, Int.reduceBEq, Int.reduceBNe, Nat.reduceLT, Nat.reduceMul, Int.toNat_one, Int.toNat_zero]
              exact ⟨.inl trivial, 0, none, none, none, rfl, Nat.zero_le _, f1.trans f2, rfl⟩
            · rintro i x δ μ3 hx ⟨d, a, b, c, rfl, hi, f3, hd3⟩
              obtain ⟨y, hy, rfl⟩ := enum_get? hx
              rw [List.getElem?_map] at hy
              obtain ⟨z, hz3, rfl⟩ := Option.map_eq_some_iff.mp hy
              have lt := (List.getElem?_eq_some_iff.mp hz3).1
              have dr : ls.drop i = z :: ls.drop (i + 1) := by
                rw [List.drop_eq_getElem_cons lt]
                congr 1
                exact (List.getElem?_eq_some_iff.mp hz3).2
              rw [dr, dOk_cons] at hd3
              refine ⟨_, rfl, ?_⟩
              have ek : keysM [(W.str ("in" : Str), W.int 1), (W.str ("out" : Str), W.int (-1))] = some [(.inr ("in" : Str), .int 1), (.inr ("out" : Str), .int (-1))] := rfl
              have next : Fw (sAug 1 ipAdd (mGet2 (mDict [(mC (.str "in"), mC (.int 1)), (mC (.str "out"), mUn opNeg (mC (.int 1)))]) (mV 3) (mC (.int 0))) [some (.tup (ls.map lw)), some (.int d), some (.int i), some (.str z.1), some (.str z.2)] μ3) { nx := fun δ μ' => ∃ d' a b c, δ = [some (.tup (ls.map lw)), some (.int d'), a, b, c] ∧ d' = d + val z.1 ∧ Fr [] μ μ' } := by
                obtain ⟨o, g1, g2⟩ := dict_io (μ := μ3) (p := z.1)
                simp only [two_eq, wo_addT, v_ipAdd, v_ipSub, wp_get2, rp_nil, rp_cons, wp_dict, isDct_new, ri_enumT, v_isNN, v_isNL, v_isNotN, v_isNotL, wp_fn, startW, wp_call, wp_C, wp_V, wp_bin, wp_un, wp_and, wp_or, wp_not, rt_V, rt_and, rt_or, rt_not, rt_bl, rt_yes, wp_if, wp_chain, ra_nil, ra_cons, wp_tup, wp_lst, wp_cb, wp_mt, wp_dict0, wp_sl, ro_none, ro_some, fs_seq, fs_nil, fs_brk, fs_cnt, fs_expr, fs_ret, fs_retN, fs_if, fs_set, fs_par, fs_asg, fs_sub, fs_aug, ri_val, ri_args, wp_some, wp_ok, wp_bind, List.map_cons, List.map_nil, List.length_cons, List.length_nil, List.replicate, List.cons_append, List.nil_append, List.getElem?_cons_zero, List.getElem?_cons_succ, List.set_cons_zero, List.set_cons_succ, Option.some.injEq, exists_eq_left', exists_eq_left, Nat.reduceAdd, Nat.reduceSub, Nat.reduceLeDiff, true_and, W.bl.injEq, W.int.injEq, W.str.injEq, W.tup.injEq, if_true, if_false, Bool.false_eq_true, Bool.not_true, Bool.not_false, truth_bl, truth_int, truth_tup, v_addI, v_subI, v_mod, v_fdiv, v_neg, v_lt, v_le, v_gt, v_ge, v_cint, v_cintB, v_cabs, v_cmax, v_cmin, v_lenT, v_lenF, v_ixT, v_ixF, v_revT, v_cutT, v_tupT, v_listT, v_eqI, v_neI, v_eqS, v_neS, Option.map_some, decide_eq_true_eq, decide_true, decide_false, and_self, and_true, Int.reduceToNat, Int.reduceNeg, Int.reduceLT, Int.reduceLE, Int.reduceAdd, Int.reduceSub, Int.reduceMul, Int.reduceBEq, Int.reduceBNe, Nat.reduceLT, Nat.reduceMul, Int.toNat_one, Int.toNat_zero, ek, g1, g2]
                exact ⟨_, _, _, _, rfl, rfl, f3.trans (Fr.app _ _ _)⟩
              have go : ¬ (!decide (i = 0) && d == 0) = true → Fw (sAug 1 ipAdd (mGet2 (mDict [(mC (.str "in"), mC (.int 1)), (mC (.str "out"), mUn opNeg (mC (.int 1)))]) (mV 3) (mC (.int 0))) [some (.tup (ls.map lw)), some (.int d), some (.int i), some (.str z.1), some (.str z.2)] μ3) { nx := fun δ μ' => ∃ d a b c, δ = [some (.tup (ls.map lw)), some (.int d), a, b, c] ∧ i + 1 ≤ ls.length ∧ Fr [] μ μ' ∧ dOk (decide (i + 1 = 0)) d (ls.drop (i + 1)) = dOk true 0 ls } := fun hc => by
                rw [if_neg hc] at hd3
                refine next.imp ?_ (fun _ _ h => h.elim) (fun _ _ h => h.elim) (fun _ _ h => h.elim)
                rintro δ μ4 ⟨d', a, b, c, e1, e2, f4⟩
                refine ⟨d', a, b, c, e1, by omega, f4, ?_⟩
                rw [e2, ← hd3, decide_eq_false (by omega)]
              clear next
              rw [fs_seq]
              generalize sAug 1 ipAdd _ = aug at go ⊢
              by_cases hc : (!decide (i = 0) && d == 0) = true
              · rw [if_pos hc] at hd3
                rw [Bool.and_eq_true, Bool.not_eq_true', decide_eq_false_iff_not] at hc
                have g0 : (0 : Int) < (i : Nat) := by omega
                simp only [two_eq, wo_addT, v_ipAdd, v_ipSub, wp_get2, rp_nil, rp_cons, wp_dict, isDct_new, ri_enumT, v_isNN, v_isNL, v_isNotN, v_isNotL, wp_fn, startW, wp_call, wp_C, wp_V, wp_bin, wp_un, wp_and, wp_or, wp_not, rt_V, rt_and, rt_or, rt_not, rt_bl, rt_yes, wp_if, wp_chain, ra_nil, ra_cons, wp_tup, wp_lst, wp_cb, wp_mt, wp_dict0, wp_sl, ro_none, ro_some, fs_seq, fs_nil, fs_brk, fs_cnt, fs_expr, fs_ret, fs_retN, fs_if, fs_set, fs_par, fs_asg, fs_sub, fs_aug, ri_val, ri_args, wp_some, wp_ok, wp_bind, List.map_cons, List.map_nil, List.length_cons, List.length_nil, List.replicate, List.cons_append, List.nil_append, List.getElem?_cons_zero, List.getElem?_cons_succ, List.set_cons_zero, List.set_cons_succ, Option.some.injEq, exists_eq_left', exists_eq_left, Nat.reduceAdd, Nat.reduceSub, Nat.reduceLeDiff, true_and, W.bl.injEq, W.int.injEq, W.str.injEq, W.tup.injEq, if_true, if_false, Bool.false_eq_true, Bool.not_true, Bool.not_false, truth_bl, truth_int, truth_tup, v_addI, v_subI, v_mod, v_fdiv, v_neg, v_lt, v_le, v_gt, v_ge, v_cint, v_cintB, v_cabs, v_cmax, v_cmin, v_lenT, v_lenF, v_ixT, v_ixF, v_revT, v_cutT, v_tupT, v_listT, v_eqI, v_neI, v_eqS, v_neS, Option.map_some, decide_eq_true_eq, decide_true, decide_false, and_self, and_true, Int.reduceToNat, Int.reduceNeg, Int.reduceLT, Int.reduceLE, Int.reduceAdd, Int.reduceSub, Int.reduceMul, Int.reduceBEq, Int.reduceBNe, Nat.reduceLT, Nat.reduceMul, Int.toNat_one, Int.toNat_zero, g0, hc.2]
                exact ⟨by rw [← hd3]; simp, f3⟩
              · refine Fw.imp (D := { nx := fun δ' μ' => δ' = [some (.tup (ls.map lw)), some (.int d), some (.int i), some (.str z.1), some (.str z.2)] ∧ μ' = μ3 }) ?_ ?_ (fun _ _ h => h.elim) (fun _ _ h => h.elim) (fun _ _ h => h.elim)
                · by_cases g0 : (0 : Int) < (i : Nat)
                  · have gd : ¬ (d == 0) = true := fun q => hc (by rw [q, decide_eq_false (by omega)]; rfl)
                    simp only [two_eq, wo_addT, v_ipAdd, v_ipSub, wp_get2, rp_nil, rp_cons, wp_dict, isDct_new, ri_enumT, v_isNN, v_isNL, v_isNotN, v_isNotL, wp_fn, startW, wp_call, wp_C, wp_V, wp_bin, wp_un, wp_and, wp_or, wp_not, rt_V, rt_and, rt_or, rt_not, rt_bl, rt_yes, wp_if, wp_chain, ra_nil, ra_cons, wp_tup, wp_lst, wp_cb, wp_mt, wp_dict0, wp_sl, ro_none, ro_some, fs_seq, fs_nil, fs_brk, fs_cnt, fs_expr, fs_ret, fs_retN, fs_if, fs_set, fs_par, fs_asg, fs_sub, fs_aug, ri_val, ri_args, wp_some, wp_ok, wp_bind, List.map_cons, List.map_nil, List.length_cons, List.length_nil, List.replicate, List.cons_append, List.nil_append, List.getElem?_cons_zero, List.getElem?_cons_succ, List.set_cons_zero, List.set_cons_succ, Option.some.injEq, exists_eq_left', exists_eq_left, Nat.reduceAdd, Nat.reduceSub, Nat.reduceLeDiff, true_and, W.bl.injEq, W.int.injEq, W.str.injEq, W.tup.injEq, if_true, if_false, Bool.false_eq_true, Bool.not_true, Bool.not_false, truth_bl, truth_int, truth_tup, v_addI, v_subI, v_mod, v_fdiv, v_neg, v_lt, v_le, v_gt, v_ge, v_cint, v_cintB, v_cabs, v_cmax, v_cmin, v_lenT, v_lenF, v_ixT, v_ixF, v_revT, v_cutT, v_tupT, v_listT, v_eqI, v_neI, v_eqS, v_neS, Option.map_some, decide_eq_true_eq, decide_true, decide_false, and_self, and_true, Int.reduceToNat, Int.reduceNeg, Int.reduceLT, Int.reduceLE, Int.reduceAdd, Int.reduceSub, Int.reduceMul, Int.reduceBEq, Int.reduceBNe, Nat.reduceLT, Nat.reduceMul, Int.toNat_one, Int.toNat_zero, g0, gd]
                  · simp only [two_eq, wo_addT, v_ipAdd, v_ipSub, wp_get2, rp_nil, rp_cons, wp_dict, isDct_new, ri_enumT, v_isNN, v_isNL, v_isNotN, v_isNotL, wp_fn, startW, wp_call, wp_C, wp_V, wp_bin, wp_un, wp_and, wp_or, wp_not, rt_V, rt_and, rt_or, rt_not, rt_bl, rt_yes, wp_if, wp_chain, ra_nil, ra_cons, wp_tup, wp_lst, wp_cb, wp_mt, wp_dict0, wp_sl, ro_none, ro_some, fs_seq, fs_nil, fs_brk, fs_cnt, fs_expr, fs_ret, fs_retN, fs_if, fs_set, fs_par, fs_asg, fs_sub, fs_aug, ri_val, ri_args, wp_some, wp_ok, wp_bind, List.map_cons, List.map_nil, List.length_cons, List.length_nil, List.replicate, List.cons_append, List.nil_append, List.getElem?_cons_zero, List.getElem?_cons_succ, List.set_cons_zero, List.set_cons_succ, Option.some.injEq, exists_eq_left', exists_eq_left, Nat.reduceAdd, Nat.reduceSub, Nat.reduceLeDiff, true_and, W.bl.injEq, W.int.injEq, W.str.injEq, W.tup.injEq, if_true, if_false, Bool.false_eq_true, Bool.not_true, Bool.not_false, truth_bl, truth_int, truth_tup, v_addI, v_subI, v_mod, v_fdiv, v_neg, v_lt, v_le, v_gt, v_ge, v_cint, v_cintB, v_cabs, v_cmax, v_cmin, v_lenT, v_lenF, v_ixT, v_ixF, v_revT, v_cutT, v_tupT, v_listT, v_eqI, v_neI, v_eqS, v_neS, Option.map_some, decide_eq_true_eq, decide_true, decide_false, and_self, and_true, Int.reduceToNat, Int.reduceNeg, Int.reduceLT, Int.reduceLE, Int.reduceAdd, Int.reduceSub, Int.reduceMul, Int.reduceBEq, Int.reduceBNe, Nat.reduceLT, Nat.reduceMul, Int.toNat_one, Int.toNat_zero, g0]
                · rintro δ' μ' ⟨rfl, rfl⟩
                  exact (go hc).imp (fun _ _ h => h) (fun _ _ h => h.elim) (fun _ _ h => h.elim) (fun _ _ h => h.elim)
            · rintro δ μ3 ⟨d, a, b, c, rfl, hi, f3, hd3⟩
              rw [enum_len, List.length_map, List.drop_of_length_le (Nat.le_refl _)] at hd3
              simp only [two_eq, wo_addT, v_ipAdd, v_ipSub, wp_get2, rp_nil, rp_cons, wp_dict, isDct_new, ri_enumT, v_isNN, v_isNL, v_isNotN, v_isNotL, wp_fn, startW, wp_call, wp_C, wp_V, wp_bin, wp_un, wp_and, wp_or, wp_not, rt_V, rt_and, rt_or, rt_not, rt_bl, rt_yes, wp_if, wp_chain, ra_nil, ra_cons, wp_tup, wp_lst, wp_cb, wp_mt, wp_dict0, wp_sl, ro_none, ro_some, fs_seq, fs_nil, fs_brk, fs_cnt, fs_expr, fs_ret, fs_retN, fs_if, fs_set, fs_par, fs_asg, fs_sub, fs_aug, ri_val, ri_args, wp_some, wp_ok, wp_bind, List.map_cons, List.map_nil, List.length_cons, List.length_nil, List.replicate, List.cons_append, List.nil_append, List.getElem?_cons_zero, List.getElem?_cons_succ, List.set_cons_zero, List.set_cons_succ, Option.some.injEq, exists_eq_left', exists_eq_left, Nat.reduceAdd, Nat.reduceSub, Nat.reduceLeDiff, true_and, W.bl.injEq, W.int.injEq, W.str.injEq, W.tup.injEq, if_true, if_false, Bool.false_eq_true, Bool.not_true, Bool.not_false, truth_bl, truth_int, truth_tup, v_addI, v_subI, v_mod, v_fdiv, v_neg, v_lt, v_le, v_gt, v_ge, v_cint, v_cintB, v_cabs, v_cmax, v_cmin, v_lenT, v_lenF, v_ixT, v_ixF, v_revT, v_cutT, v_tupT, v_listT, v_eqI, v_neI, v_eqS, v_neS, Option.map_some, decide_eq_true_eq, decide_true, decide_false, and_self, and_true, Int.reduceToNat, Int.reduceNeg, Int.reduceLT, Int.reduceLE, Int.reduceAdd, Int.reduceSub, Int.reduceMul, Int.reduceBEq, Int.reduceBNe, Nat.reduceLT, Nat.reduceMul, Int.toNat_one, Int.toNat_zero]
              exact ⟨by rw [← hd3]; simp [dOk], f3⟩
    | _ => cases hl
theorem opened_step {acc ns : List Str} {p : Str × Str} {r : List (Str × Str)} (h : opened acc (p :: r) = some ns) : ∃ acc', (∀ t, opened acc (p :: t) = opened acc' t) ∧ ((acc'.length : Nat) : Int) = (acc.length : Nat) + val p.1 := by
  rw [opened_cons] at h
  by_cases c1 : (p.1 == ("in" : Str)) = true
  · refine ⟨acc ++ [p.2], fun t => by rw [opened_cons, if_pos c1], ?_⟩
    unfold val
    rw [if_pos c1]
    simp
  · rw [if_neg c1] at h
    by_cases c2 : (p.1 == ("out" : Str)) = true
    · rw [if_pos c2] at h
      cases hl : acc.getLast? with
      | none => rw [hl] at h; cases h
      | some z =>
        rw [hl] at h
        by_cases c3 : (z == p.2) = true
        · refine ⟨acc.dropLast, fun t => by rw [opened_cons, if_neg c1, if_pos c2, hl]; exact if_pos c3, ?_⟩
          have : acc ≠ [] := fun q => by rw [q] at hl; cases hl
          have := List.length_pos_iff.mpr this
          unfold val
          rw [if_neg c1, if_pos c2, List.length_dropLast]
          omega
        · have h : (if (z == p.2) = true then opened acc.dropLast r else none) = some ns := h
          rw [if_neg c3] at h
          cases h
    · refine ⟨acc, fun t => by rw [opened_cons, if_neg c1, if_neg c2], ?_⟩
      unfold val
      rw [if_neg c1, if_neg c2]
      simp
theorem opened_pre : ∀ {ls : List (Str × Str)} {acc ns : List Str}, opened acc ls = some ns → ∀ j, ∃ m, opened acc (ls.take j) = some m
  | [], acc, ns, h, j => ⟨acc, by simp [opened]⟩
  | p :: r, acc, ns, h, 0 => ⟨acc, by simp [opened]⟩
  | p :: r, acc, ns, h, j + 1 => by
    obtain ⟨acc', e, _⟩ := opened_step h
    rw [e] at h
    obtain ⟨m, hm⟩ := opened_pre h j
    exact ⟨m, by rw [List.take_succ_cons, e]; exact hm⟩
theorem dOk_iff : ∀ {ls : List (Str × Str)} {acc ns : List Str} {b : Bool}, opened acc ls = some ns → (dOk b (acc.length : Nat) ls = true ↔ ∀ j, j < ls.length → (b = true → 0 < j) → opened acc (ls.take j) ≠ some [])
  | [], acc, ns, b, h => by simp [dOk]
  | p :: r, acc, ns, b, h => by
    obtain ⟨acc', e, el⟩ := opened_step h
    have h2 := h
    rw [e] at h2
    have ih := dOk_iff (b := false) h2
    rw [dOk_cons, ← el]
    by_cases hc : (!b && ((acc.length : Nat) : Int) == 0) = true
    · rw [if_pos hc]
      rw [Bool.and_eq_true, Bool.not_eq_true', beq_iff_eq] at hc
      constructor
      · intro q; cases q
      · intro q
        have := q 0 (by simp) (by rw [hc.1]; simp)
        have hn : acc = [] := List.length_eq_zero_iff.mp (by omega)
        rw [hn] at this
        exact absurd rfl this
    · rw [if_neg hc, ih]
      constructor
      · intro q j hj hb
        cases j with
        | zero =>
          intro z
          have z : some acc = some [] := z
          cases z
          cases b with
          | true => exact absurd (hb rfl) (by omega)
          | false => exact hc rfl
        | succ j =>
          rw [List.take_succ_cons, e]
          exact q j (by simpa using hj) (fun z => by cases z)
      · intro q j hj _
        have := q (j + 1) (by simpa using hj) (fun _ => by omega)
        rw [List.take_succ_cons, e] at this
        exact this
def badAt (ls : List (Str × Str)) : W → Bool
  | .int j => match opened [] (ls.take j.toNat) with
    | some ns => ns.isEmpty
    | none => true
  | _ => false
theorem bad_log {ls : List (Str × Str)} : (((rangeW 1 (ls.length - 1)).filter (badAt ls)).isEmpty && (opened [] ls).isSome) = ((opened [] ls).isSome && dOk true 0 ls) := by
  cases ho : opened [] ls with
  | none => simp
  | some ns =>
    simp only [Option.isSome_some, Bool.and_true, Bool.true_and]
    rw [Bool.eq_iff_iff]
    have k := dOk_iff (b := true) ho
    have k : dOk true 0 ls = true ↔ _ := k
    rw [k, List.isEmpty_iff, List.filter_eq_nil_iff]
    constructor
    · intro q j hj hb hn
      have mem : W.int (1 + ((j - 1 : Nat) : Int)) ∈ rangeW 1 (ls.length - 1) := by
        unfold rangeW
        exact List.mem_map.mpr ⟨j - 1, by rw [List.mem_range]; have := hb rfl; omega, rfl⟩
      have := q _ mem
      have e : (1 + ((j - 1 : Nat) : Int)).toNat = j := by have := hb rfl; omega
      unfold badAt at this
      simp only [e, hn] at this
      simp at this
    · intro q x hx
      unfold rangeW at hx
      obtain ⟨i, hi, rfl⟩ := List.mem_map.mp hx
      rw [List.mem_range] at hi
      have e : (1 + (Int.ofNat i)).toNat = i + 1 := by
        rw [Int.ofNat_eq_natCast]
        omega
      have := q (i + 1) (by omega) (fun _ => by omega)
      obtain ⟨m, hm⟩ := opened_pre ho (i + 1)
      unfold badAt
      simp only [e, hm]
      rw [hm] at this
      simp only [List.isEmpty_iff]
      exact fun z => this (by rw [z])
theorem in_none {μ : Mem} {k : Nat} (h : getL μ k = some []) : opIn .non (.tup [.loc k, .non]) μ = some (.bl true, μ) := by
  simp [opIn, inM, toD, mapO, h, PyData.eqv]
theorem in_list {μ : Mem} {n k : Nat} {ns : List Str} (h1 : getL μ n = some (ns.map .str)) (h : getL μ k = some []) : opIn (.loc n) (.tup [.loc k, .non]) μ = some (.bl ns.isEmpty, μ) := by
  obtain ⟨ds, hd⟩ := strs_data (μ := μ) (ns := ns)
  have hl := mapO_len hd
  simp [opIn, inM, toD, mapO, h, h1, hd, PyData.eqv]
  cases ds with
  | nil =>
    cases ns with
    | nil => rfl
    | cons _ _ => simp at hl
  | cons d ds =>
    cases ns with
    | nil => simp at hl
    | cons _ _ => rfl
theorem law_is_log_w {μ : Mem} {w : W} (h : Vl μ w) : Rw (g__law_is_log [w] μ) fun r μ' => r = .bl (isLog w) ∧ Fr [] μ μ' := by
  unfold g__law_is_log b__law_is_log
  simp only [two_eq, wo_addT, v_ipAdd, v_ipSub, wp_get2, rp_nil, rp_cons, wp_dict, isDct_new, ri_enumT, v_isNN, v_isNL, v_isNotN, v_isNotL, wp_fn, startW, wp_call, wp_C, wp_V, wp_bin, wp_un, wp_and, wp_or, wp_not, rt_V, rt_and, rt_or, rt_not, rt_bl, rt_yes, wp_if, wp_chain, ra_nil, ra_cons, wp_tup, wp_lst, wp_cb, wp_mt, wp_dict0, wp_sl, ro_none, ro_some, fs_seq, fs_nil, fs_brk, fs_cnt, fs_expr, fs_ret, fs_retN, fs_if, fs_set, fs_par, fs_asg, fs_sub, fs_aug, ri_val, ri_args, wp_some, wp_ok, wp_bind, List.map_cons, List.map_nil, List.length_cons, List.length_nil, List.replicate, List.cons_append, List.nil_append, List.getElem?_cons_zero, List.getElem?_cons_succ, List.set_cons_zero, List.set_cons_succ, Option.some.injEq, exists_eq_left', exists_eq_left, Nat.reduceAdd, Nat.reduceSub, Nat.reduceLeDiff, true_and, W.bl.injEq, W.int.injEq, W.str.injEq, W.tup.injEq, if_true, if_false, Bool.false_eq_true, Bool.not_true, Bool.not_false, truth_bl, truth_int, truth_tup, v_addI, v_subI, v_mod, v_fdiv, v_neg, v_lt, v_le, v_gt, v_ge, v_cint, v_cintB, v_cabs, v_cmax, v_cmin, v_lenT, v_lenF, v_ixT, v_ixF, v_revT, v_cutT, v_tupT, v_listT, v_eqI, v_neI, v_eqS, v_neS, Option.map_some, decide_eq_true_eq, decide_true, decide_false, and_self, and_true, Int.reduceToNat, Int.reduceNeg, Int.reduceLT, Int.reduceLE, Int.reduceAdd, Int.reduceSub, Int.reduceMul, Int.reduceBEq, Int.reduceBNe, Nat.reduceLT, Nat.reduceMul, Int.toNat_one, Int.toNat_zero]
  refine (law_are_lines_w h).imp ?_
  rintro r μ1 ⟨rfl, f1⟩
  simp only [two_eq, wo_addT, v_ipAdd, v_ipSub, wp_get2, rp_nil, rp_cons, wp_dict, isDct_new, ri_enumT, v_isNN, v_isNL, v_isNotN, v_isNotL, wp_fn, startW, wp_call, wp_C, wp_V, wp_bin, wp_un, wp_and, wp_or, wp_not, rt_V, rt_and, rt_or, rt_not, rt_bl, rt_yes, wp_if, wp_chain, ra_nil, ra_cons, wp_tup, wp_lst, wp_cb, wp_mt, wp_dict0, wp_sl, ro_none, ro_some, fs_seq, fs_nil, fs_brk, fs_cnt, fs_expr, fs_ret, fs_retN, fs_if, fs_set, fs_par, fs_asg, fs_sub, fs_aug, ri_val, ri_args, wp_some, wp_ok, wp_bind, List.map_cons, List.map_nil, List.length_cons, List.length_nil, List.replicate, List.cons_append, List.nil_append, List.getElem?_cons_zero, List.getElem?_cons_succ, List.set_cons_zero, List.set_cons_succ, Option.some.injEq, exists_eq_left', exists_eq_left, Nat.reduceAdd, Nat.reduceSub, Nat.reduceLeDiff, true_and, W.bl.injEq, W.int.injEq, W.str.injEq, W.tup.injEq, if_true, if_false, Bool.false_eq_true, Bool.not_true, Bool.not_false, truth_bl, truth_int, truth_tup, v_addI, v_subI, v_mod, v_fdiv, v_neg, v_lt, v_le, v_gt, v_ge, v_cint, v_cintB, v_cabs, v_cmax, v_cmin, v_lenT, v_lenF, v_ixT, v_ixF, v_revT, v_cutT, v_tupT, v_listT, v_eqI, v_neI, v_eqS, v_neS, Option.map_some, decide_eq_true_eq, decide_true, decide_false, and_self, and_true, Int.reduceToNat, Int.reduceNeg, Int.reduceLT, Int.reduceLE, Int.reduceAdd, Int.reduceSub, Int.reduceMul, Int.reduceBEq, Int.reduceBNe, Nat.reduceLT, Nat.reduceMul, Int.toNat_one, Int.toNat_zero]
  cases hl : areLines w with
  | false =>
    simp only [two_eq, wo_addT, v_ipAdd, v_ipSub, wp_get2, rp_nil, rp_cons, wp_dict, isDct_new, ri_enumT, v_isNN, v_isNL, v_isNotN, v_isNotL, wp_fn, startW, wp_call, wp_C, wp_V, wp_bin, wp_un, wp_and, wp_or, wp_not, rt_V, rt_and, rt_or, rt_not, rt_bl, rt_yes, wp_if, wp_chain, ra_nil, ra_cons, wp_tup, wp_lst, wp_cb, wp_mt, wp_dict0, wp_sl, ro_none, ro_some, fs_seq, fs_nil, fs_brk, fs_cnt, fs_expr, fs_ret, fs_retN, fs_if, fs_set, fs_par, fs_asg, fs_sub, fs_aug, ri_val, ri_args, wp_some, wp_ok, wp_bind, List.map_cons, List.map_nil, List.length_cons, List.length_nil, List.replicate, List.cons_append, List.nil_append, List.getElem?_cons_zero, List.getElem?_cons_succ, List.set_cons_zero, List.set_cons_succ, Option.some.injEq, exists_eq_left', exists_eq_left, Nat.reduceAdd, Nat.reduceSub, Nat.reduceLeDiff, true_and, W.bl.injEq, W.int.injEq, W.str.injEq, W.tup.injEq, if_true, if_false, Bool.false_eq_true, Bool.not_true, Bool.not_false, truth_bl, truth_int, truth_tup, v_addI, v_subI, v_mod, v_fdiv, v_neg, v_lt, v_le, v_gt, v_ge, v_cint, v_cintB, v_cabs, v_cmax, v_cmin, v_lenT, v_lenF, v_ixT, v_ixF, v_revT, v_cutT, v_tupT, v_listT, v_eqI, v_neI, v_eqS, v_neS, Option.map_some, decide_eq_true_eq, decide_true, decide_false, and_self, and_true, Int.reduceToNat, Int.reduceNeg, Int.reduceLT, Int.reduceLE, Int.reduceAdd, Int.reduceSub, Int.reduceMul, Int.reduceBEq, Int.reduceBNe, Nat.reduceLT, Nat.reduceMul, Int.toNat_one, Int.toNat_zero]
    refine ⟨?_, f1⟩
    cases w <;> first | rfl | (rename_i xs; have hl : xs.all isLine = false := hl; simp [isLog, hl])
  | true =>
    cases w with
    | tup xs =>
      have hl : xs.all isLine = true := hl
      obtain ⟨ls, rfl⟩ := lines_of hl
      have hz : ls.length < 1000000 := by simpa using h.len
      clear h
      cases ls with
      | nil =>
        simp only [two_eq, wo_addT, v_ipAdd, v_ipSub, wp_get2, rp_nil, rp_cons, wp_dict, isDct_new, ri_enumT, v_isNN, v_isNL, v_isNotN, v_isNotL, wp_fn, startW, wp_call, wp_C, wp_V, wp_bin, wp_un, wp_and, wp_or, wp_not, rt_V, rt_and, rt_or, rt_not, rt_bl, rt_yes, wp_if, wp_chain, ra_nil, ra_cons, wp_tup, wp_lst, wp_cb, wp_mt, wp_dict0, wp_sl, ro_none, ro_some, fs_seq, fs_nil, fs_brk, fs_cnt, fs_expr, fs_ret, fs_retN, fs_if, fs_set, fs_par, fs_asg, fs_sub, fs_aug, ri_val, ri_args, wp_some, wp_ok, wp_bind, List.map_cons, List.map_nil, List.length_cons, List.length_nil, List.replicate, List.cons_append, List.nil_append, List.getElem?_cons_zero, List.getElem?_cons_succ, List.set_cons_zero, List.set_cons_succ, Option.some.injEq, exists_eq_left', exists_eq_left, Nat.reduceAdd, Nat.reduceSub, Nat.reduceLeDiff, true_and, W.bl.injEq, W.int.injEq, W.str.injEq, W.tup.injEq, if_true, if_false, Bool.false_eq_true, Bool.not_true, Bool.not_false, truth_bl, truth_int, truth_tup, v_addI, v_subI, v_mod, v_fdiv, v_neg, v_lt, v_le, v_gt, v_ge, v_cint, v_cintB, v_cabs, v_cmax, v_cmin, v_lenT, v_lenF, v_ixT, v_ixF, v_revT, v_cutT, v_tupT, v_listT, v_eqI, v_neI, v_eqS, v_neS, Option.map_some, decide_eq_true_eq, decide_true, decide_false, and_self, and_true, Int.reduceToNat, Int.reduceNeg, Int.reduceLT, Int.reduceLE, Int.reduceAdd, Int.reduceSub, Int.reduceMul, Int.reduceBEq, Int.reduceBNe, Nat.reduceLT, Nat.reduceMul, Int.toNat_one, Int.toNat_zero, v_eqT0 (μ := μ1) (xs := []) ⟨[], rfl⟩, List.isEmpty_nil]
        exact ⟨rfl, f1⟩
      | cons p r =>
        have i0 : atI (lw p :: r.map lw) 0 = some (lw p) := by
          show atI (lw p :: r.map lw) ((0 : Nat) : Int) = _
          rw [Mi.atI_nat]
          rfl
        have i1 : ∀ μ, opIx (lw p) (.int 0) μ = some (.str p.1, μ) := fun _ => rfl
        have hd : ∃ ds, mapO (toD μ1 39) (lw p :: r.map lw) = some ds := lines_data (ls := p :: r)
        have he : (lw p :: r.map lw).isEmpty = false := rfl
        simp only [two_eq, wo_addT, v_ipAdd, v_ipSub, wp_get2, rp_nil, rp_cons, wp_dict, isDct_new, ri_enumT, v_isNN, v_isNL, v_isNotN, v_isNotL, wp_fn, startW, wp_call, wp_C, wp_V, wp_bin, wp_un, wp_and, wp_or, wp_not, rt_V, rt_and, rt_or, rt_not, rt_bl, rt_yes, wp_if, wp_chain, ra_nil, ra_cons, wp_tup, wp_lst, wp_cb, wp_mt, wp_dict0, wp_sl, ro_none, ro_some, fs_seq, fs_nil, fs_brk, fs_cnt, fs_expr, fs_ret, fs_retN, fs_if, fs_set, fs_par, fs_asg, fs_sub, fs_aug, ri_val, ri_args, wp_some, wp_ok, wp_bind, List.map_cons, List.map_nil, List.length_cons, List.length_nil, List.replicate, List.cons_append, List.nil_append, List.getElem?_cons_zero, List.getElem?_cons_succ, List.set_cons_zero, List.set_cons_succ, Option.some.injEq, exists_eq_left', exists_eq_left, Nat.reduceAdd, Nat.reduceSub, Nat.reduceLeDiff, true_and, W.bl.injEq, W.int.injEq, W.str.injEq, W.tup.injEq, if_true, if_false, Bool.false_eq_true, Bool.not_true, Bool.not_false, truth_bl, truth_int, truth_tup, v_addI, v_subI, v_mod, v_fdiv, v_neg, v_lt, v_le, v_gt, v_ge, v_cint, v_cintB, v_cabs, v_cmax, v_cmin, v_lenT, v_lenF, v_ixT, v_ixF, v_revT, v_cutT, v_tupT, v_listT, v_eqI, v_neI, v_eqS, v_neS, Option.map_some, decide_eq_true_eq, decide_true, decide_false, and_self, and_true, Int.reduceToNat, Int.reduceNeg, Int.reduceLT, Int.reduceLE, Int.reduceAdd, Int.reduceSub, Int.reduceMul, Int.reduceBEq, Int.reduceBNe, Nat.reduceLT, Nat.reduceMul, Int.toNat_one, Int.toNat_zero, v_eqT0 hd, he, i0, i1]
        have lg : isLog (.tup (lw p :: r.map lw)) = ((p.1 == ("in" : Str)) && (opened [] (p :: r)).isSome && dOk true 0 (p :: r)) := by
          have e : (lw p :: r.map lw).map toP = p :: r := toP_lw (ls := p :: r)
          have hl : (lw p :: r.map lw).all isLine = true := hl
          unfold isLog
          simp only [hl, Bool.true_and, e]
        rw [lg]
        cases c1 : (p.1 == ("in" : Str)) with
        | false =>
          simp only [two_eq, wo_addT, v_ipAdd, v_ipSub, wp_get2, rp_nil, rp_cons, wp_dict, isDct_new, ri_enumT, v_isNN, v_isNL, v_isNotN, v_isNotL, wp_fn, startW, wp_call, wp_C, wp_V, wp_bin, wp_un, wp_and, wp_or, wp_not, rt_V, rt_and, rt_or, rt_not, rt_bl, rt_yes, wp_if, wp_chain, ra_nil, ra_cons, wp_tup, wp_lst, wp_cb, wp_mt, wp_dict0, wp_sl, ro_none, ro_some, fs_seq, fs_nil, fs_brk, fs_cnt, fs_expr, fs_ret, fs_retN, fs_if, fs_set, fs_par, fs_asg, fs_sub, fs_aug, ri_val, ri_args, wp_some, wp_ok, wp_bind, List.map_cons, List.map_nil, List.length_cons, List.length_nil, List.replicate, List.cons_append, List.nil_append, List.getElem?_cons_zero, List.getElem?_cons_succ, List.set_cons_zero, List.set_cons_succ, Option.some.injEq, exists_eq_left', exists_eq_left, Nat.reduceAdd, Nat.reduceSub, Nat.reduceLeDiff, true_and, W.bl.injEq, W.int.injEq, W.str.injEq, W.tup.injEq, if_true, if_false, Bool.false_eq_true, Bool.not_true, Bool.not_false, truth_bl, truth_int, truth_tup, v_addI, v_subI, v_mod, v_fdiv, v_neg, v_lt, v_le, v_gt, v_ge, v_cint, v_cintB, v_cabs, v_cmax, v_cmin, v_lenT, v_lenF, v_ixT, v_ixF, v_revT, v_cutT, v_tupT, v_listT, v_eqI, v_neI, v_eqS, v_neS, Option.map_some, decide_eq_true_eq, decide_true, decide_false, and_self, and_true, Int.reduceToNat, Int.reduceNeg, Int.reduceLT, Int.reduceLE, Int.reduceAdd, Int.reduceSub, Int.reduceMul, Int.reduceBEq, Int.reduceBNe, Nat.reduceLT, Nat.reduceMul, Int.toNat_one, Int.toNat_zero]
          exact ⟨by simp, f1⟩
        | true =>
          rw [Bool.true_and]
          simp only [two_eq, wo_addT, v_ipAdd, v_ipSub, wp_get2, rp_nil, rp_cons, wp_dict, isDct_new, ri_enumT, v_isNN, v_isNL, v_isNotN, v_isNotL, wp_fn, startW, wp_call, wp_C, wp_V, wp_bin, wp_un, wp_and, wp_or, wp_not, rt_V, rt_and, rt_or, rt_not, rt_bl, rt_yes, wp_if, wp_chain, ra_nil, ra_cons, wp_tup, wp_lst, wp_cb, wp_mt, wp_dict0, wp_sl, ro_none, ro_some, fs_seq, fs_nil, fs_brk, fs_cnt, fs_expr, fs_ret, fs_retN, fs_if, fs_set, fs_par, fs_asg, fs_sub, fs_aug, ri_val, ri_args, wp_some, wp_ok, wp_bind, List.map_cons, List.map_nil, List.length_cons, List.length_nil, List.replicate, List.cons_append, List.nil_append, List.getElem?_cons_zero, List.getElem?_cons_succ, List.set_cons_zero, List.set_cons_succ, Option.some.injEq, exists_eq_left', exists_eq_left, Nat.reduceAdd, Nat.reduceSub, Nat.reduceLeDiff, true_and, W.bl.injEq, W.int.injEq, W.str.injEq, W.tup.injEq, if_true, if_false, Bool.false_eq_true, Bool.not_true, Bool.not_false, truth_bl, truth_int, truth_tup, v_addI, v_subI, v_mod, v_fdiv, v_neg, v_lt, v_le, v_gt, v_ge, v_cint, v_cintB, v_cabs, v_cmax, v_cmin, v_lenT, v_lenF, v_ixT, v_ixF, v_revT, v_cutT, v_tupT, v_listT, v_eqI, v_neI, v_eqS, v_neS, Option.map_some, decide_eq_true_eq, decide_true, decide_false, and_self, and_true, Int.reduceToNat, Int.reduceNeg, Int.reduceLT, Int.reduceLE, Int.reduceAdd, Int.reduceSub, Int.reduceMul, Int.reduceBEq, Int.reduceBNe, Nat.reduceLT, Nat.reduceMul, Int.toNat_one, Int.toNat_zero]
          rw [show lw p :: r.map lw = (p :: r).map lw from rfl]
          generalize p :: r = ls at hz ⊢
          simp only [← bad_log]
          refine (lc_pure (rangeW 1 (ls.length - 1)) (badAt ls) (fun x => x) ?_ (by rw [rangeW_len]; omega) ?_).imp ?_
          · simp only [two_eq, wo_addT, v_ipAdd, v_ipSub, wp_get2, rp_nil, rp_cons, wp_dict, isDct_new, ri_enumT, v_isNN, v_isNL, v_isNotN, v_isNotL, wp_fn, startW, wp_call, wp_C, wp_V, wp_bin, wp_un, wp_and, wp_or, wp_not, rt_V, rt_and, rt_or, rt_not, rt_bl, rt_yes, wp_if, wp_chain, ra_nil, ra_cons, wp_tup, wp_lst, wp_cb, wp_mt, wp_dict0, wp_sl, ro_none, ro_some, fs_seq, fs_nil, fs_brk, fs_cnt, fs_expr, fs_ret, fs_retN, fs_if, fs_set, fs_par, fs_asg, fs_sub, fs_aug, ri_val, ri_args, wp_some, wp_ok, wp_bind, List.map_cons, List.map_nil, List.length_cons, List.length_nil, List.replicate, List.cons_append, List.nil_append, List.getElem?_cons_zero, List.getElem?_cons_succ, List.set_cons_zero, List.set_cons_succ, Option.some.injEq, exists_eq_left', exists_eq_left, Nat.reduceAdd, Nat.reduceSub, Nat.reduceLeDiff, true_and, W.bl.injEq, W.int.injEq, W.str.injEq, W.tup.injEq, if_true, if_false, Bool.false_eq_true, Bool.not_true, Bool.not_false, truth_bl, truth_int, truth_tup, v_addI, v_subI, v_mod, v_fdiv, v_neg, v_lt, v_le, v_gt, v_ge, v_cint, v_cintB, v_cabs, v_cmax, v_cmin, v_lenT, v_lenF, v_ixT, v_ixF, v_revT, v_cutT, v_tupT, v_listT, v_eqI, v_neI, v_eqS, v_neS, Option.map_some, decide_eq_true_eq, decide_true, decide_false, and_self, and_true, Int.reduceToNat, Int.reduceNeg, Int.reduceLT, Int.reduceLE, Int.reduceAdd, Int.reduceSub, Int.reduceMul, Int.reduceBEq, Int.reduceBNe, Nat.reduceLT, Nat.reduceMul, Int.toNat_one, Int.toNat_zero]
            rw [ri_rng2 (by rw [List.length_map]; omega)]
            refine ⟨.inl ?_, Fr.refl _ _⟩
            rw [List.length_map]
            congr 2
            omega
          · intro x hx μ2 f2
            obtain ⟨i, hi, rfl⟩ := List.mem_map.mp hx
            rw [List.mem_range] at hi
            refine ⟨_, rfl, ?_⟩
            have e : (1 : Int) + Int.ofNat i = ((i + 1 : Nat) : Int) := by
              rw [Int.ofNat_eq_natCast]
              omega
            rw [e]
            simp only [two_eq, wo_addT, v_ipAdd, v_ipSub, wp_get2, rp_nil, rp_cons, wp_dict, isDct_new, ri_enumT, v_isNN, v_isNL, v_isNotN, v_isNotL, wp_fn, startW, wp_call, wp_C, wp_V, wp_bin, wp_un, wp_and, wp_or, wp_not, rt_V, rt_and, rt_or, rt_not, rt_bl, rt_yes, wp_if, wp_chain, ra_nil, ra_cons, wp_tup, wp_lst, wp_cb, wp_mt, wp_dict0, wp_sl, ro_none, ro_some, fs_seq, fs_nil, fs_brk, fs_cnt, fs_expr, fs_ret, fs_retN, fs_if, fs_set, fs_par, fs_asg, fs_sub, fs_aug, ri_val, ri_args, wp_some, wp_ok, wp_bind, List.map_cons, List.map_nil, List.length_cons, List.length_nil, List.replicate, List.cons_append, List.nil_append, List.getElem?_cons_zero, List.getElem?_cons_succ, List.set_cons_zero, List.set_cons_succ, Option.some.injEq, exists_eq_left', exists_eq_left, Nat.reduceAdd, Nat.reduceSub, Nat.reduceLeDiff, true_and, W.bl.injEq, W.int.injEq, W.str.injEq, W.tup.injEq, if_true, if_false, Bool.false_eq_true, Bool.not_true, Bool.not_false, truth_bl, truth_int, truth_tup, v_addI, v_subI, v_mod, v_fdiv, v_neg, v_lt, v_le, v_gt, v_ge, v_cint, v_cintB, v_cabs, v_cmax, v_cmin, v_lenT, v_lenF, v_ixT, v_ixF, v_revT, v_cutT, v_tupT, v_listT, v_eqI, v_neI, v_eqS, v_neS, Option.map_some, decide_eq_true_eq, decide_true, decide_false, and_self, and_true, Int.reduceToNat, Int.reduceNeg, Int.reduceLT, Int.reduceLE, Int.reduceAdd, Int.reduceSub, Int.reduceMul, Int.reduceBEq, Int.reduceBNe, Nat.reduceLT, Nat.reduceMul, Int.toNat_one, Int.toNat_zero, wipeW, cut_to, ← List.map_take]
            refine (law_opened_w (ls := ls.take (i + 1)) (by rw [List.length_take]; omega)).imp ?_
            have eb : badAt ls (.int ((i + 1 : Nat) : Int)) = match opened [] (ls.take (i + 1)) with
              | some ns => ns.isEmpty
              | none => true := rfl
            rw [eb]
            rintro r μ3 ⟨f3, ⟨ho, rfl⟩ | ⟨ns, k, ho, rfl, hk, _⟩⟩
            · simp only [two_eq, wo_addT, v_ipAdd, v_ipSub, wp_get2, rp_nil, rp_cons, wp_dict, isDct_new, ri_enumT, v_isNN, v_isNL, v_isNotN, v_isNotL, wp_fn, startW, wp_call, wp_C, wp_V, wp_bin, wp_un, wp_and, wp_or, wp_not, rt_V, rt_and, rt_or, rt_not, rt_bl, rt_yes, wp_if, wp_chain, ra_nil, ra_cons, wp_tup, wp_lst, wp_cb, wp_mt, wp_dict0, wp_sl, ro_none, ro_some, fs_seq, fs_nil, fs_brk, fs_cnt, fs_expr, fs_ret, fs_retN, fs_if, fs_set, fs_par, fs_asg, fs_sub, fs_aug, ri_val, ri_args, wp_some, wp_ok, wp_bind, List.map_cons, List.map_nil, List.length_cons, List.length_nil, List.replicate, List.cons_append, List.nil_append, List.getElem?_cons_zero, List.getElem?_cons_succ, List.set_cons_zero, List.set_cons_succ, Option.some.injEq, exists_eq_left', exists_eq_left, Nat.reduceAdd, Nat.reduceSub, Nat.reduceLeDiff, true_and, W.bl.injEq, W.int.injEq, W.str.injEq, W.tup.injEq, if_true, if_false, Bool.false_eq_true, Bool.not_true, Bool.not_false, truth_bl, truth_int, truth_tup, v_addI, v_subI, v_mod, v_fdiv, v_neg, v_lt, v_le, v_gt, v_ge, v_cint, v_cintB, v_cabs, v_cmax, v_cmin, v_lenT, v_lenF, v_ixT, v_ixF, v_revT, v_cutT, v_tupT, v_listT, v_eqI, v_neI, v_eqS, v_neS, Option.map_some, decide_eq_true_eq, decide_true, decide_false, and_self, and_true, Int.reduceToNat, Int.reduceNeg, Int.reduceLT, Int.reduceLE, Int.reduceAdd, Int.reduceSub, Int.reduceMul, Int.reduceBEq, Int.reduceBNe, Nat.reduceLT, Nat.reduceMul, Int.toNat_one, Int.toNat_zero, in_none getL_new, ho]
              exact ⟨f3.trans (Fr.app _ _ _), fun _ => Fr.refl _ _⟩
            · simp only [two_eq, wo_addT, v_ipAdd, v_ipSub, wp_get2, rp_nil, rp_cons, wp_dict, isDct_new, ri_enumT, v_isNN, v_isNL, v_isNotN, v_isNotL, wp_fn, startW, wp_call, wp_C, wp_V, wp_bin, wp_un, wp_and, wp_or, wp_not, rt_V, rt_and, rt_or, rt_not, rt_bl, rt_yes, wp_if, wp_chain, ra_nil, ra_cons, wp_tup, wp_lst, wp_cb, wp_mt, wp_dict0, wp_sl, ro_none, ro_some, fs_seq, fs_nil, fs_brk, fs_cnt, fs_expr, fs_ret, fs_retN, fs_if, fs_set, fs_par, fs_asg, fs_sub, fs_aug, ri_val, ri_args, wp_some, wp_ok, wp_bind, List.map_cons, List.map_nil, List.length_cons, List.length_nil, List.replicate, List.cons_append, List.nil_append, List.getElem?_cons_zero, List.getElem?_cons_succ, List.set_cons_zero, List.set_cons_succ, Option.some.injEq, exists_eq_left', exists_eq_left, Nat.reduceAdd, Nat.reduceSub, Nat.reduceLeDiff, true_and, W.bl.injEq, W.int.injEq, W.str.injEq, W.tup.injEq, if_true, if_false, Bool.false_eq_true, Bool.not_true, Bool.not_false, truth_bl, truth_int, truth_tup, v_addI, v_subI, v_mod, v_fdiv, v_neg, v_lt, v_le, v_gt, v_ge, v_cint, v_cintB, v_cabs, v_cmax, v_cmin, v_lenT, v_lenF, v_ixT, v_ixF, v_revT, v_cutT, v_tupT, v_listT, v_eqI, v_neI, v_eqS, v_neS, Option.map_some, decide_eq_true_eq, decide_true, decide_false, and_self, and_true, Int.reduceToNat, Int.reduceNeg, Int.reduceLT, Int.reduceLE, Int.reduceAdd, Int.reduceSub, Int.reduceMul, Int.reduceBEq, Int.reduceBNe, Nat.reduceLT, Nat.reduceMul, Int.toNat_one, Int.toNat_zero, in_list (getL_app hk) getL_new, ho]
              exact ⟨f3.trans (Fr.app _ _ _), fun _ => Fr.refl _ _⟩
          · rintro r μ2 ⟨k, rfl, hk, f2, _⟩
            have hd2 : ∃ ds, mapO (toD (μ2 ++ [.lst []]) 39) (List.map (fun x => x) (List.filter (badAt ls) (rangeW 1 (ls.length - 1)))) = some ds := mapO_all fun x hx => by
              rw [List.map_id'] at hx
              obtain ⟨i, _, rfl⟩ := List.mem_map.mp (List.mem_filter.mp hx).1
              exact ⟨_, rfl⟩
            simp only [two_eq, wo_addT, v_ipAdd, v_ipSub, wp_get2, rp_nil, rp_cons, wp_dict, isDct_new, ri_enumT, v_isNN, v_isNL, v_isNotN, v_isNotL, wp_fn, startW, wp_call, wp_C, wp_V, wp_bin, wp_un, wp_and, wp_or, wp_not, rt_V, rt_and, rt_or, rt_not, rt_bl, rt_yes, wp_if, wp_chain, ra_nil, ra_cons, wp_tup, wp_lst, wp_cb, wp_mt, wp_dict0, wp_sl, ro_none, ro_some, fs_seq, fs_nil, fs_brk, fs_cnt, fs_expr, fs_ret, fs_retN, fs_if, fs_set, fs_par, fs_asg, fs_sub, fs_aug, ri_val, ri_args, wp_some, wp_ok, wp_bind, List.map_cons, List.map_nil, List.length_cons, List.length_nil, List.replicate, List.cons_append, List.nil_append, List.getElem?_cons_zero, List.getElem?_cons_succ, List.set_cons_zero, List.set_cons_succ, Option.some.injEq, exists_eq_left', exists_eq_left, Nat.reduceAdd, Nat.reduceSub, Nat.reduceLeDiff, true_and, W.bl.injEq, W.int.injEq, W.str.injEq, W.tup.injEq, if_true, if_false, Bool.false_eq_true, Bool.not_true, Bool.not_false, truth_bl, truth_int, truth_tup, v_addI, v_subI, v_mod, v_fdiv, v_neg, v_lt, v_le, v_gt, v_ge, v_cint, v_cintB, v_cabs, v_cmax, v_cmin, v_lenT, v_lenF, v_ixT, v_ixF, v_revT, v_cutT, v_tupT, v_listT, v_eqI, v_neI, v_eqS, v_neS, Option.map_some, decide_eq_true_eq, decide_true, decide_false, and_self, and_true, Int.reduceToNat, Int.reduceNeg, Int.reduceLT, Int.reduceLE, Int.reduceAdd, Int.reduceSub, Int.reduceMul, Int.reduceBEq, Int.reduceBNe, Nat.reduceLT, Nat.reduceMul, Int.toNat_one, Int.toNat_zero, v_eq0 (getL_app hk) hd2 getL_new]
            rw [List.map_id']
            cases hb : (List.filter (badAt ls) (rangeW 1 (ls.length - 1))).isEmpty with
            | false =>
              simp only [two_eq, wo_addT, v_ipAdd, v_ipSub, wp_get2, rp_nil, rp_cons, wp_dict, isDct_new, ri_enumT, v_isNN, v_isNL, v_isNotN, v_isNotL, wp_fn, startW, wp_call, wp_C, wp_V, wp_bin, wp_un, wp_and, wp_or, wp_not, rt_V, rt_and, rt_or, rt_not, rt_bl, rt_yes, wp_if, wp_chain, ra_nil, ra_cons, wp_tup, wp_lst, wp_cb, wp_mt, wp_dict0, wp_sl, ro_none, ro_some, fs_seq, fs_nil, fs_brk, fs_cnt, fs_expr, fs_ret, fs_retN, fs_if, fs_set, fs_par, fs_asg, fs_sub, fs_aug, ri_val, ri_args, wp_some, wp_ok, wp_bind, List.map_cons, List.map_nil, List.length_cons, List.length_nil, List.replicate, List.cons_append, List.nil_append, List.getElem?_cons_zero, List.getElem?_cons_succ, List.set_cons_zero, List.set_cons_succ, Option.some.injEq, exists_eq_left', exists_eq_left, Nat.reduceAdd, Nat.reduceSub, Nat.reduceLeDiff, true_and, W.bl.injEq, W.int.injEq, W.str.injEq, W.tup.injEq, if_true, if_false, Bool.false_eq_true, Bool.not_true, Bool.not_false, truth_bl, truth_int, truth_tup, v_addI, v_subI, v_mod, v_fdiv, v_neg, v_lt, v_le, v_gt, v_ge, v_cint, v_cintB, v_cabs, v_cmax, v_cmin, v_lenT, v_lenF, v_ixT, v_ixF, v_revT, v_cutT, v_tupT, v_listT, v_eqI, v_neI, v_eqS, v_neS, Option.map_some, decide_eq_true_eq, decide_true, decide_false, and_self, and_true, Int.reduceToNat, Int.reduceNeg, Int.reduceLT, Int.reduceLE, Int.reduceAdd, Int.reduceSub, Int.reduceMul, Int.reduceBEq, Int.reduceBNe, Nat.reduceLT, Nat.reduceMul, Int.toNat_one, Int.toNat_zero]
              exact ⟨by simp, (f1.trans f2).trans (Fr.app _ _ _)⟩
            | true =>
              simp only [two_eq, wo_addT, v_ipAdd, v_ipSub, wp_get2, rp_nil, rp_cons, wp_dict, isDct_new, ri_enumT, v_isNN, v_isNL, v_isNotN, v_isNotL, wp_fn, startW, wp_call, wp_C, wp_V, wp_bin, wp_un, wp_and, wp_or, wp_not, rt_V, rt_and, rt_or, rt_not, rt_bl, rt_yes, wp_if, wp_chain, ra_nil, ra_cons, wp_tup, wp_lst, wp_cb, wp_mt, wp_dict0, wp_sl, ro_none, ro_some, fs_seq, fs_nil, fs_brk, fs_cnt, fs_expr, fs_ret, fs_retN, fs_if, fs_set, fs_par, fs_asg, fs_sub, fs_aug, ri_val, ri_args, wp_some, wp_ok, wp_bind, List.map_cons, List.map_nil, List.length_cons, List.length_nil, List.replicate, List.cons_append, List.nil_append, List.getElem?_cons_zero, List.getElem?_cons_succ, List.set_cons_zero, List.set_cons_succ, Option.some.injEq, exists_eq_left', exists_eq_left, Nat.reduceAdd, Nat.reduceSub, Nat.reduceLeDiff, true_and, W.bl.injEq, W.int.injEq, W.str.injEq, W.tup.injEq, if_true, if_false, Bool.false_eq_true, Bool.not_true, Bool.not_false, truth_bl, truth_int, truth_tup, v_addI, v_subI, v_mod, v_fdiv, v_neg, v_lt, v_le, v_gt, v_ge, v_cint, v_cintB, v_cabs, v_cmax, v_cmin, v_lenT, v_lenF, v_ixT, v_ixF, v_revT, v_cutT, v_tupT, v_listT, v_eqI, v_neI, v_eqS, v_neS, Option.map_some, decide_eq_true_eq, decide_true, decide_false, and_self, and_true, Int.reduceToNat, Int.reduceNeg, Int.reduceLT, Int.reduceLE, Int.reduceAdd, Int.reduceSub, Int.reduceMul, Int.reduceBEq, Int.reduceBNe, Nat.reduceLT, Nat.reduceMul, Int.toNat_one, Int.toNat_zero]
              refine (law_opened_w hz).imp ?_
              rintro r μ3 ⟨f3, ⟨ho, rfl⟩ | ⟨ns, k, ho, rfl, hk, _⟩⟩
              · simp only [two_eq, wo_addT, v_ipAdd, v_ipSub, wp_get2, rp_nil, rp_cons, wp_dict, isDct_new, ri_enumT, v_isNN, v_isNL, v_isNotN, v_isNotL, wp_fn, startW, wp_call, wp_C, wp_V, wp_bin, wp_un, wp_and, wp_or, wp_not, rt_V, rt_and, rt_or, rt_not, rt_bl, rt_yes, wp_if, wp_chain, ra_nil, ra_cons, wp_tup, wp_lst, wp_cb, wp_mt, wp_dict0, wp_sl, ro_none, ro_some, fs_seq, fs_nil, fs_brk, fs_cnt, fs_expr, fs_ret, fs_retN, fs_if, fs_set, fs_par, fs_asg, fs_sub, fs_aug, ri_val, ri_args, wp_some, wp_ok, wp_bind, List.map_cons, List.map_nil, List.length_cons, List.length_nil, List.replicate, List.cons_append, List.nil_append, List.getElem?_cons_zero, List.getElem?_cons_succ, List.set_cons_zero, List.set_cons_succ, Option.some.injEq, exists_eq_left', exists_eq_left, Nat.reduceAdd, Nat.reduceSub, Nat.reduceLeDiff, true_and, W.bl.injEq, W.int.injEq, W.str.injEq, W.tup.injEq, if_true, if_false, Bool.false_eq_true, Bool.not_true, Bool.not_false, truth_bl, truth_int, truth_tup, v_addI, v_subI, v_mod, v_fdiv, v_neg, v_lt, v_le, v_gt, v_ge, v_cint, v_cintB, v_cabs, v_cmax, v_cmin, v_lenT, v_lenF, v_ixT, v_ixF, v_revT, v_cutT, v_tupT, v_listT, v_eqI, v_neI, v_eqS, v_neS, Option.map_some, decide_eq_true_eq, decide_true, decide_false, and_self, and_true, Int.reduceToNat, Int.reduceNeg, Int.reduceLT, Int.reduceLE, Int.reduceAdd, Int.reduceSub, Int.reduceMul, Int.reduceBEq, Int.reduceBNe, Nat.reduceLT, Nat.reduceMul, Int.toNat_one, Int.toNat_zero, ho]
                exact ⟨by simp, ((f1.trans f2).trans (Fr.app _ _ _)).trans f3⟩
              · simp only [two_eq, wo_addT, v_ipAdd, v_ipSub, wp_get2, rp_nil, rp_cons, wp_dict, isDct_new, ri_enumT, v_isNN, v_isNL, v_isNotN, v_isNotL, wp_fn, startW, wp_call, wp_C, wp_V, wp_bin, wp_un, wp_and, wp_or, wp_not, rt_V, rt_and, rt_or, rt_not, rt_bl, rt_yes, wp_if, wp_chain, ra_nil, ra_cons, wp_tup, wp_lst, wp_cb, wp_mt, wp_dict0, wp_sl, ro_none, ro_some, fs_seq, fs_nil, fs_brk, fs_cnt, fs_expr, fs_ret, fs_retN, fs_if, fs_set, fs_par, fs_asg, fs_sub, fs_aug, ri_val, ri_args, wp_some, wp_ok, wp_bind, List.map_cons, List.map_nil, List.length_cons, List.length_nil, List.replicate, List.cons_append, List.nil_append, List.getElem?_cons_zero, List.getElem?_cons_succ, List.set_cons_zero, List.set_cons_succ, Option.some.injEq, exists_eq_left', exists_eq_left, Nat.reduceAdd, Nat.reduceSub, Nat.reduceLeDiff, true_and, W.bl.injEq, W.int.injEq, W.str.injEq, W.tup.injEq, if_true, if_false, Bool.false_eq_true, Bool.not_true, Bool.not_false, truth_bl, truth_int, truth_tup, v_addI, v_subI, v_mod, v_fdiv, v_neg, v_lt, v_le, v_gt, v_ge, v_cint, v_cintB, v_cabs, v_cmax, v_cmin, v_lenT, v_lenF, v_ixT, v_ixF, v_revT, v_cutT, v_tupT, v_listT, v_eqI, v_neI, v_eqS, v_neS, Option.map_some, decide_eq_true_eq, decide_true, decide_false, and_self, and_true, Int.reduceToNat, Int.reduceNeg, Int.reduceLT, Int.reduceLE, Int.reduceAdd, Int.reduceSub, Int.reduceMul, Int.reduceBEq, Int.reduceBNe, Nat.reduceLT, Nat.reduceMul, Int.toNat_one, Int.toNat_zero, ho]
                exact ⟨by simp, ((f1.trans f2).trans (Fr.app _ _ _)).trans f3⟩
    | _ => cases hl
theorem log_opened {ls : List (Str × Str)} (h : isLog (.tup (ls.map lw)) = true) : ∃ ns, opened [] ls = some ns := by
  unfold isLog at h
  simp only [toP_lw] at h
  rw [Bool.and_eq_true] at h
  cases ls with
  | nil => cases h.2
  | cons p r =>
    have h2 := h.2
    simp only [Bool.and_eq_true] at h2
    exact Option.isSome_iff_exists.mp h2.1.2
theorem log_lines {w : W} (h : isLog w = true) : ∃ ls : List (Str × Str), w = .tup (ls.map lw) := by
  cases w with
  | tup xs =>
    unfold isLog at h
    rw [Bool.and_eq_true] at h
    obtain ⟨ls, rfl⟩ := lines_of h.1
    exact ⟨ls, rfl⟩
  | _ => cases h
theorem open_calls_w {μ : Mem} {ls : List (Str × Str)} (h : Vl μ (.tup (ls.map lw))) (hl : isLog (.tup (ls.map lw)) = true) : Rw (g_open_calls [.tup (ls.map lw)] μ) fun r μ' => Fr [] μ μ' ∧ ∃ ns, opened [] ls = some ns ∧ r = .tup (ns.map .str) := by
  unfold g_open_calls b_open_calls
  simp only [two_eq, wo_addT, v_ipAdd, v_ipSub, wp_get2, rp_nil, rp_cons, wp_dict, isDct_new, ri_enumT, v_isNN, v_isNL, v_isNotN, v_isNotL, wp_fn, startW, wp_call, wp_C, wp_V, wp_bin, wp_un, wp_and, wp_or, wp_not, rt_V, rt_and, rt_or, rt_not, rt_bl, rt_yes, wp_if, wp_chain, ra_nil, ra_cons, wp_tup, wp_lst, wp_cb, wp_mt, wp_dict0, wp_sl, ro_none, ro_some, fs_seq, fs_nil, fs_brk, fs_cnt, fs_expr, fs_ret, fs_retN, fs_if, fs_set, fs_par, fs_asg, fs_sub, fs_aug, ri_val, ri_args, wp_some, wp_ok, wp_bind, List.map_cons, List.map_nil, List.length_cons, List.length_nil, List.replicate, List.cons_append, List.nil_append, List.getElem?_cons_zero, List.getElem?_cons_succ, List.set_cons_zero, List.set_cons_succ, Option.some.injEq, exists_eq_left', exists_eq_left, Nat.reduceAdd, Nat.reduceSub, Nat.reduceLeDiff, true_and, W.bl.injEq, W.int.injEq, W.str.injEq, W.tup.injEq, if_true, if_false, Bool.false_eq_true, Bool.not_true, Bool.not_false, truth_bl, truth_int, truth_tup, v_addI, v_subI, v_mod, v_fdiv, v_neg, v_lt, v_le, v_gt, v_ge, v_cint, v_cintB, v_cabs, v_cmax, v_cmin, v_lenT, v_lenF, v_ixT, v_ixF, v_revT, v_cutT, v_tupT, v_listT, v_eqI, v_neI, v_eqS, v_neS, Option.map_some, decide_eq_true_eq, decide_true, decide_false, and_self, and_true, Int.reduceToNat, Int.reduceNeg, Int.reduceLT, Int.reduceLE, Int.reduceAdd, Int.reduceSub, Int.reduceMul, Int.reduceBEq, Int.reduceBNe, Nat.reduceLT, Nat.reduceMul, Int.toNat_one, Int.toNat_zero]
  unfold g_require_log b_require_log
  simp only [two_eq, wo_addT, v_ipAdd, v_ipSub, wp_get2, rp_nil, rp_cons, wp_dict, isDct_new, ri_enumT, v_isNN, v_isNL, v_isNotN, v_isNotL, wp_fn, startW, wp_call, wp_C, wp_V, wp_bin, wp_un, wp_and, wp_or, wp_not, rt_V, rt_and, rt_or, rt_not, rt_bl, rt_yes, wp_if, wp_chain, ra_nil, ra_cons, wp_tup, wp_lst, wp_cb, wp_mt, wp_dict0, wp_sl, ro_none, ro_some, fs_seq, fs_nil, fs_brk, fs_cnt, fs_expr, fs_ret, fs_retN, fs_if, fs_set, fs_par, fs_asg, fs_sub, fs_aug, ri_val, ri_args, wp_some, wp_ok, wp_bind, List.map_cons, List.map_nil, List.length_cons, List.length_nil, List.replicate, List.cons_append, List.nil_append, List.getElem?_cons_zero, List.getElem?_cons_succ, List.set_cons_zero, List.set_cons_succ, Option.some.injEq, exists_eq_left', exists_eq_left, Nat.reduceAdd, Nat.reduceSub, Nat.reduceLeDiff, true_and, W.bl.injEq, W.int.injEq, W.str.injEq, W.tup.injEq, if_true, if_false, Bool.false_eq_true, Bool.not_true, Bool.not_false, truth_bl, truth_int, truth_tup, v_addI, v_subI, v_mod, v_fdiv, v_neg, v_lt, v_le, v_gt, v_ge, v_cint, v_cintB, v_cabs, v_cmax, v_cmin, v_lenT, v_lenF, v_ixT, v_ixF, v_revT, v_cutT, v_tupT, v_listT, v_eqI, v_neI, v_eqS, v_neS, Option.map_some, decide_eq_true_eq, decide_true, decide_false, and_self, and_true, Int.reduceToNat, Int.reduceNeg, Int.reduceLT, Int.reduceLE, Int.reduceAdd, Int.reduceSub, Int.reduceMul, Int.reduceBEq, Int.reduceBNe, Nat.reduceLT, Nat.reduceMul, Int.toNat_one, Int.toNat_zero]
  refine (is_log_w h).imp ?_
  rintro r μ1 ⟨rfl, f1⟩
  simp only [two_eq, wo_addT, v_ipAdd, v_ipSub, wp_get2, rp_nil, rp_cons, wp_dict, isDct_new, ri_enumT, v_isNN, v_isNL, v_isNotN, v_isNotL, wp_fn, startW, wp_call, wp_C, wp_V, wp_bin, wp_un, wp_and, wp_or, wp_not, rt_V, rt_and, rt_or, rt_not, rt_bl, rt_yes, wp_if, wp_chain, ra_nil, ra_cons, wp_tup, wp_lst, wp_cb, wp_mt, wp_dict0, wp_sl, ro_none, ro_some, fs_seq, fs_nil, fs_brk, fs_cnt, fs_expr, fs_ret, fs_retN, fs_if, fs_set, fs_par, fs_asg, fs_sub, fs_aug, ri_val, ri_args, wp_some, wp_ok, wp_bind, List.map_cons, List.map_nil, List.length_cons, List.length_nil, List.replicate, List.cons_append, List.nil_append, List.getElem?_cons_zero, List.getElem?_cons_succ, List.set_cons_zero, List.set_cons_succ, Option.some.injEq, exists_eq_left', exists_eq_left, Nat.reduceAdd, Nat.reduceSub, Nat.reduceLeDiff, true_and, W.bl.injEq, W.int.injEq, W.str.injEq, W.tup.injEq, if_true, if_false, Bool.false_eq_true, Bool.not_true, Bool.not_false, truth_bl, truth_int, truth_tup, v_addI, v_subI, v_mod, v_fdiv, v_neg, v_lt, v_le, v_gt, v_ge, v_cint, v_cintB, v_cabs, v_cmax, v_cmin, v_lenT, v_lenF, v_ixT, v_ixF, v_revT, v_cutT, v_tupT, v_listT, v_eqI, v_neI, v_eqS, v_neS, Option.map_some, decide_eq_true_eq, decide_true, decide_false, and_self, and_true, Int.reduceToNat, Int.reduceNeg, Int.reduceLT, Int.reduceLE, Int.reduceAdd, Int.reduceSub, Int.reduceMul, Int.reduceBEq, Int.reduceBNe, Nat.reduceLT, Nat.reduceMul, Int.toNat_one, Int.toNat_zero, hl]
  refine (open_in_w (by simpa using h.len)).imp ?_
  rintro r μ2 ⟨f2, ⟨ho, rfl⟩ | ⟨ns, k, ho, rfl, hk, _⟩⟩
  · obtain ⟨ns, e⟩ := log_opened hl
    rw [ho] at e
    cases e
  · simp only [two_eq, wo_addT, v_ipAdd, v_ipSub, wp_get2, rp_nil, rp_cons, wp_dict, isDct_new, ri_enumT, v_isNN, v_isNL, v_isNotN, v_isNotL, wp_fn, startW, wp_call, wp_C, wp_V, wp_bin, wp_un, wp_and, wp_or, wp_not, rt_V, rt_and, rt_or, rt_not, rt_bl, rt_yes, wp_if, wp_chain, ra_nil, ra_cons, wp_tup, wp_lst, wp_cb, wp_mt, wp_dict0, wp_sl, ro_none, ro_some, fs_seq, fs_nil, fs_brk, fs_cnt, fs_expr, fs_ret, fs_retN, fs_if, fs_set, fs_par, fs_asg, fs_sub, fs_aug, ri_val, ri_args, wp_some, wp_ok, wp_bind, List.map_cons, List.map_nil, List.length_cons, List.length_nil, List.replicate, List.cons_append, List.nil_append, List.getElem?_cons_zero, List.getElem?_cons_succ, List.set_cons_zero, List.set_cons_succ, Option.some.injEq, exists_eq_left', exists_eq_left, Nat.reduceAdd, Nat.reduceSub, Nat.reduceLeDiff, true_and, W.bl.injEq, W.int.injEq, W.str.injEq, W.tup.injEq, if_true, if_false, Bool.false_eq_true, Bool.not_true, Bool.not_false, truth_bl, truth_int, truth_tup, v_addI, v_subI, v_mod, v_fdiv, v_neg, v_lt, v_le, v_gt, v_ge, v_cint, v_cintB, v_cabs, v_cmax, v_cmin, v_lenT, v_lenF, v_ixT, v_ixF, v_revT, v_cutT, v_tupT, v_listT, v_eqI, v_neI, v_eqS, v_neS, Option.map_some, decide_eq_true_eq, decide_true, decide_false, and_self, and_true, Int.reduceToNat, Int.reduceNeg, Int.reduceLT, Int.reduceLE, Int.reduceAdd, Int.reduceSub, Int.reduceMul, Int.reduceBEq, Int.reduceBNe, Nat.reduceLT, Nat.reduceMul, Int.toNat_one, Int.toNat_zero, v_tupL hk]
    exact ⟨f1.trans f2, ns, ho, rfl⟩
/-! ### one value judged both ways -/
def bodyR : Sl → Mem → F := (sSeq (sSet 4 (mCall g__law_are_lines (aCons (mV 1) (aNil))))
    (sSeq (sSet 5 (mLst (aCons (mCall g_is_log (aCons (mV 1) (aNil))) (aCons (mCall g_is_piece (aCons (mV 1) (aNil))) (aCons (mCall g_is_line (aCons (mV 1) (aNil))) (aCons (mCall g_is_name (aCons (mV 1) (aNil))) (aNil)))))))
    (sSeq (sSet 6 (mLst (aCons (mCall g__law_is_log (aCons (mV 1) (aNil))) (aCons (mAnd (mV 4) (mBin opEq (mCall g__law_opened (aCons (mV 1) (aNil))) (mLst (aNil)))) (aCons (mCall g__law_is_line (aCons (mV 1) (aNil))) (aCons (mCall g__law_is_name (aCons (mV 1) (aNil))) (aNil)))))))
    (sIf (tO (tBl (mBin opNe (mCb cRepr (aCons (mV 5) (aNil))) (mCb cRepr (aCons (mV 6) (aNil))))) (tAn (tV (mBin opIx (mV 6) (mC (.int 0)))) (tBl (mBin opNe (mCall g_open_calls (aCons (mV 1) (aNil))) (mCb cTuple (aCons (mCall g__law_opened (aCons (mV 1) (aNil))) (aNil)))))))
    (sRet (mC (.bl false)))
    (sNil)))))
theorem body_w {μ : Mem} {w : W} {d0 d2 d3 d4 d5 d6 d7 : Option W} (h : Vl μ w) : Fw (bodyR [d0, some w, d2, d3, d4, d5, d6, d7] μ) { nx := fun δ μ' => (∃ e4 e5 e6, δ = [d0, some w, d2, d3, e4, e5, e6, d7]) ∧ Fr [] μ μ' } := by
  unfold bodyR
  simp only [two_eq, wo_addT, v_ipAdd, v_ipSub, wp_get2, rp_nil, rp_cons, wp_dict, isDct_new, ri_enumT, v_isNN, v_isNL, v_isNotN, v_isNotL, wp_fn, startW, wp_call, wp_C, wp_V, wp_bin, wp_un, wp_and, wp_or, wp_not, rt_V, rt_and, rt_or, rt_not, rt_bl, rt_yes, wp_if, wp_chain, ra_nil, ra_cons, wp_tup, wp_lst, wp_cb, wp_mt, wp_dict0, wp_sl, ro_none, ro_some, fs_seq, fs_nil, fs_brk, fs_cnt, fs_expr, fs_ret, fs_retN, fs_if, fs_set, fs_par, fs_asg, fs_sub, fs_aug, ri_val, ri_args, wp_some, wp_ok, wp_bind, List.map_cons, List.map_nil, List.length_cons, List.length_nil, List.replicate, List.cons_append, List.nil_append, List.getElem?_cons_zero, List.getElem?_cons_succ, List.set_cons_zero, List.set_cons_succ, Option.some.injEq, exists_eq_left', exists_eq_left, Nat.reduceAdd, Nat.reduceSub, Nat.reduceLeDiff, true_and, W.bl.injEq, W.int.injEq, W.str.injEq, W.tup.injEq, if_true, if_false, Bool.false_eq_true, Bool.not_true, Bool.not_false, truth_bl, truth_int, truth_tup, v_addI, v_subI, v_mod, v_fdiv, v_neg, v_lt, v_le, v_gt, v_ge, v_cint, v_cintB, v_cabs, v_cmax, v_cmin, v_lenT, v_lenF, v_ixT, v_ixF, v_revT, v_cutT, v_tupT, v_listT, v_eqI, v_neI, v_eqS, v_neS, Option.map_some, decide_eq_true_eq, decide_true, decide_false, and_self, and_true, Int.reduceToNat, Int.reduceNeg, Int.reduceLT, Int.reduceLE, Int.reduceAdd, Int.reduceSub, Int.reduceMul, Int.reduceBEq, Int.reduceBNe, Nat.reduceLT, Nat.reduceMul, Int.toNat_one, Int.toNat_zero]
  refine (law_are_lines_w h).imp ?_
  rintro r μ1 ⟨rfl, f1⟩
  refine (is_log_w (h.fr f1)).imp ?_
  rintro r μ2 ⟨rfl, f2⟩
  have f2 := f1.trans f2
  refine (is_piece_w (h.fr f2)).imp ?_
  rintro r μ3 ⟨rfl, f3⟩
  have f3 := f2.trans f3
  refine (is_line_w (h.fr f3)).imp ?_
  rintro r μ4 ⟨rfl, f4⟩
  have f4 := f3.trans f4
  refine (is_name_w (h.fr f4)).imp ?_
  rintro r μ5 ⟨rfl, f5⟩
  have f5 := f4.trans f5
  simp only [two_eq, wo_addT, v_ipAdd, v_ipSub, wp_get2, rp_nil, rp_cons, wp_dict, isDct_new, ri_enumT, v_isNN, v_isNL, v_isNotN, v_isNotL, wp_fn, startW, wp_call, wp_C, wp_V, wp_bin, wp_un, wp_and, wp_or, wp_not, rt_V, rt_and, rt_or, rt_not, rt_bl, rt_yes, wp_if, wp_chain, ra_nil, ra_cons, wp_tup, wp_lst, wp_cb, wp_mt, wp_dict0, wp_sl, ro_none, ro_some, fs_seq, fs_nil, fs_brk, fs_cnt, fs_expr, fs_ret, fs_retN, fs_if, fs_set, fs_par, fs_asg, fs_sub, fs_aug, ri_val, ri_args, wp_some, wp_ok, wp_bind, List.map_cons, List.map_nil, List.length_cons, List.length_nil, List.replicate, List.cons_append, List.nil_append, List.getElem?_cons_zero, List.getElem?_cons_succ, List.set_cons_zero, List.set_cons_succ, Option.some.injEq, exists_eq_left', exists_eq_left, Nat.reduceAdd, Nat.reduceSub, Nat.reduceLeDiff, true_and, W.bl.injEq, W.int.injEq, W.str.injEq, W.tup.injEq, if_true, if_false, Bool.false_eq_true, Bool.not_true, Bool.not_false, truth_bl, truth_int, truth_tup, v_addI, v_subI, v_mod, v_fdiv, v_neg, v_lt, v_le, v_gt, v_ge, v_cint, v_cintB, v_cabs, v_cmax, v_cmin, v_lenT, v_lenF, v_ixT, v_ixF, v_revT, v_cutT, v_tupT, v_listT, v_eqI, v_neI, v_eqS, v_neS, Option.map_some, decide_eq_true_eq, decide_true, decide_false, and_self, and_true, Int.reduceToNat, Int.reduceNeg, Int.reduceLT, Int.reduceLE, Int.reduceAdd, Int.reduceSub, Int.reduceMul, Int.reduceBEq, Int.reduceBNe, Nat.reduceLT, Nat.reduceMul, Int.toNat_one, Int.toNat_zero]
  have g5 : getL (μ5 ++ [.lst [.bl (isLog w), .bl (isPiece w), .bl (isLine w), .bl (isName w)]]) μ5.length = some [.bl (isLog w), .bl (isPiece w), .bl (isLine w), .bl (isName w)] := getL_new
  have f5 := f5.trans (Fr.app [] μ5 [.lst [.bl (isLog w), .bl (isPiece w), .bl (isLine w), .bl (isName w)]])
  generalize μ5 ++ [.lst [.bl (isLog w), .bl (isPiece w), .bl (isLine w), .bl (isName w)]] = ν5 at f5 g5 ⊢
  generalize μ5.length = k5 at g5 ⊢
  refine (law_is_log_w (h.fr f5)).imp ?_
  rintro r μ6 ⟨rfl, f6⟩
  have g6 := f6.getL g5 List.not_mem_nil
  have mid : Rw (if areLines w = true then mBin opEq (mCall g__law_opened (aCons (mV 1) aNil)) (mLst aNil) [d0, some w, d2, d3, some (.bl (areLines w)), some (.loc k5), d6, d7] μ6 else .ok (.bl (areLines w)) μ6) fun r μ' => r = .bl (isPiece w) ∧ Fr [] μ6 μ' := by
    cases hl : areLines w with
    | false =>
      simp only [two_eq, wo_addT, v_ipAdd, v_ipSub, wp_get2, rp_nil, rp_cons, wp_dict, isDct_new, ri_enumT, v_isNN, v_isNL, v_isNotN, v_isNotL, wp_fn, startW, wp_call, wp_C, wp_V, wp_bin, wp_un, wp_and, wp_or, wp_not, rt_V, rt_and, rt_or, rt_not, rt_bl, rt_yes, wp_if, wp_chain, ra_nil, ra_cons, wp_tup, wp_lst, wp_cb, wp_mt, wp_dict0, wp_sl, ro_none, ro_some, fs_seq, fs_nil, fs_brk, fs_cnt, fs_expr, fs_ret, fs_retN, fs_if, fs_set, fs_par, fs_asg, fs_sub, fs_aug, ri_val, ri_args, wp_some, wp_ok, wp_bind, List.map_cons, List.map_nil, List.length_cons, List.length_nil, List.replicate, List.cons_append, List.nil_append, List.getElem?_cons_zero, List.getElem?_cons_succ, List.set_cons_zero, List.set_cons_succ, Option.some.injEq, exists_eq_left', exists_eq_left, Nat.reduceAdd, Nat.reduceSub, Nat.reduceLeDiff, true_and, W.bl.injEq, W.int.injEq, W.str.injEq, W.tup.injEq, if_true, if_false, Bool.false_eq_true, Bool.not_true, Bool.not_false, truth_bl, truth_int, truth_tup, v_addI, v_subI, v_mod, v_fdiv, v_neg, v_lt, v_le, v_gt, v_ge, v_cint, v_cintB, v_cabs, v_cmax, v_cmin, v_lenT, v_lenF, v_ixT, v_ixF, v_revT, v_cutT, v_tupT, v_listT, v_eqI, v_neI, v_eqS, v_neS, Option.map_some, decide_eq_true_eq, decide_true, decide_false, and_self, and_true, Int.reduceToNat, Int.reduceNeg, Int.reduceLT, Int.reduceLE, Int.reduceAdd, Int.reduceSub, Int.reduceMul, Int.reduceBEq, Int.reduceBNe, Nat.reduceLT, Nat.reduceMul, Int.toNat_one, Int.toNat_zero]
      refine ⟨?_, Fr.refl _ _⟩
      cases w <;> first | rfl | (rename_i xs; have hl : xs.all isLine = false := hl; simp [isPiece, hl])
    | true =>
      cases w with
      | tup xs =>
        have hl : xs.all isLine = true := hl
        obtain ⟨ls, rfl⟩ := lines_of hl
        simp only [two_eq, wo_addT, v_ipAdd, v_ipSub, wp_get2, rp_nil, rp_cons, wp_dict, isDct_new, ri_enumT, v_isNN, v_isNL, v_isNotN, v_isNotL, wp_fn, startW, wp_call, wp_C, wp_V, wp_bin, wp_un, wp_and, wp_or, wp_not, rt_V, rt_and, rt_or, rt_not, rt_bl, rt_yes, wp_if, wp_chain, ra_nil, ra_cons, wp_tup, wp_lst, wp_cb, wp_mt, wp_dict0, wp_sl, ro_none, ro_some, fs_seq, fs_nil, fs_brk, fs_cnt, fs_expr, fs_ret, fs_retN, fs_if, fs_set, fs_par, fs_asg, fs_sub, fs_aug, ri_val, ri_args, wp_some, wp_ok, wp_bind, List.map_cons, List.map_nil, List.length_cons, List.length_nil, List.replicate, List.cons_append, List.nil_append, List.getElem?_cons_zero, List.getElem?_cons_succ, List.set_cons_zero, List.set_cons_succ, Option.some.injEq, exists_eq_left', exists_eq_left, Nat.reduceAdd, Nat.reduceSub, Nat.reduceLeDiff, true_and, W.bl.injEq, W.int.injEq, W.str.injEq, W.tup.injEq, if_true, if_false, Bool.false_eq_true, Bool.not_true, Bool.not_false, truth_bl, truth_int, truth_tup, v_addI, v_subI, v_mod, v_fdiv, v_neg, v_lt, v_le, v_gt, v_ge, v_cint, v_cintB, v_cabs, v_cmax, v_cmin, v_lenT, v_lenF, v_ixT, v_ixF, v_revT, v_cutT, v_tupT, v_listT, v_eqI, v_neI, v_eqS, v_neS, Option.map_some, decide_eq_true_eq, decide_true, decide_false, and_self, and_true, Int.reduceToNat, Int.reduceNeg, Int.reduceLT, Int.reduceLE, Int.reduceAdd, Int.reduceSub, Int.reduceMul, Int.reduceBEq, Int.reduceBNe, Nat.reduceLT, Nat.reduceMul, Int.toNat_one, Int.toNat_zero]
        refine (law_opened_w (by simpa using h.len)).imp ?_
        rintro r μ2 ⟨f2, ⟨ho, rfl⟩ | ⟨ns, k, ho, rfl, hk, _⟩⟩
        · simp only [two_eq, wo_addT, v_ipAdd, v_ipSub, wp_get2, rp_nil, rp_cons, wp_dict, isDct_new, ri_enumT, v_isNN, v_isNL, v_isNotN, v_isNotL, wp_fn, startW, wp_call, wp_C, wp_V, wp_bin, wp_un, wp_and, wp_or, wp_not, rt_V, rt_and, rt_or, rt_not, rt_bl, rt_yes, wp_if, wp_chain, ra_nil, ra_cons, wp_tup, wp_lst, wp_cb, wp_mt, wp_dict0, wp_sl, ro_none, ro_some, fs_seq, fs_nil, fs_brk, fs_cnt, fs_expr, fs_ret, fs_retN, fs_if, fs_set, fs_par, fs_asg, fs_sub, fs_aug, ri_val, ri_args, wp_some, wp_ok, wp_bind, List.map_cons, List.map_nil, List.length_cons, List.length_nil, List.replicate, List.cons_append, List.nil_append, List.getElem?_cons_zero, List.getElem?_cons_succ, List.set_cons_zero, List.set_cons_succ, Option.some.injEq, exists_eq_left', exists_eq_left, Nat.reduceAdd, Nat.reduceSub, Nat.reduceLeDiff, true_and, W.bl.injEq, W.int.injEq, W.str.injEq, W.tup.injEq, if_true, if_false, Bool.false_eq_true, Bool.not_true, Bool.not_false, truth_bl, truth_int, truth_tup, v_addI, v_subI, v_mod, v_fdiv, v_neg, v_lt, v_le, v_gt, v_ge, v_cint, v_cintB, v_cabs, v_cmax, v_cmin, v_lenT, v_lenF, v_ixT, v_ixF, v_revT, v_cutT, v_tupT, v_listT, v_eqI, v_neI, v_eqS, v_neS, Option.map_some, decide_eq_true_eq, decide_true, decide_false, and_self, and_true, Int.reduceToNat, Int.reduceNeg, Int.reduceLT, Int.reduceLE, Int.reduceAdd, Int.reduceSub, Int.reduceMul, Int.reduceBEq, Int.reduceBNe, Nat.reduceLT, Nat.reduceMul, Int.toNat_one, Int.toNat_zero, v_eqN (xs := []) getL_new ⟨[], rfl⟩]
          exact ⟨by simp [isPiece, hl, toP_lw2, ho], f2.trans (Fr.app _ _ _)⟩
        · simp only [two_eq, wo_addT, v_ipAdd, v_ipSub, wp_get2, rp_nil, rp_cons, wp_dict, isDct_new, ri_enumT, v_isNN, v_isNL, v_isNotN, v_isNotL, wp_fn, startW, wp_call, wp_C, wp_V, wp_bin, wp_un, wp_and, wp_or, wp_not, rt_V, rt_and, rt_or, rt_not, rt_bl, rt_yes, wp_if, wp_chain, ra_nil, ra_cons, wp_tup, wp_lst, wp_cb, wp_mt, wp_dict0, wp_sl, ro_none, ro_some, fs_seq, fs_nil, fs_brk, fs_cnt, fs_expr, fs_ret, fs_retN, fs_if, fs_set, fs_par, fs_asg, fs_sub, fs_aug, ri_val, ri_args, wp_some, wp_ok, wp_bind, List.map_cons, List.map_nil, List.length_cons, List.length_nil, List.replicate, List.cons_append, List.nil_append, List.getElem?_cons_zero, List.getElem?_cons_succ, List.set_cons_zero, List.set_cons_succ, Option.some.injEq, exists_eq_left', exists_eq_left, Nat.reduceAdd, Nat.reduceSub, Nat.reduceLeDiff, true_and, W.bl.injEq, W.int.injEq, W.str.injEq, W.tup.injEq, if_true, if_false, Bool.false_eq_true, Bool.not_true, Bool.not_false, truth_bl, truth_int, truth_tup, v_addI, v_subI, v_mod, v_fdiv, v_neg, v_lt, v_le, v_gt, v_ge, v_cint, v_cintB, v_cabs, v_cmax, v_cmin, v_lenT, v_lenF, v_ixT, v_ixF, v_revT, v_cutT, v_tupT, v_listT, v_eqI, v_neI, v_eqS, v_neS, Option.map_some, decide_eq_true_eq, decide_true, decide_false, and_self, and_true, Int.reduceToNat, Int.reduceNeg, Int.reduceLT, Int.reduceLE, Int.reduceAdd, Int.reduceSub, Int.reduceMul, Int.reduceBEq, Int.reduceBNe, Nat.reduceLT, Nat.reduceMul, Int.toNat_one, Int.toNat_zero, v_eq0 (getL_app hk) strs_data getL_new]
          exact ⟨by simp [isPiece, hl, toP_lw2, ho], f2.trans (Fr.app _ _ _)⟩
      | _ => cases hl
  refine mid.imp ?_
  rintro r μ7 ⟨rfl, f7⟩
  have g7 := f7.getL g6 List.not_mem_nil
  have f7 := (f5.trans f6).trans f7
  refine (law_is_line_w (h.fr f7)).imp ?_
  rintro r μ8 ⟨rfl, f8⟩
  have g8 := f8.getL g7 List.not_mem_nil
  have f8 := f7.trans f8
  refine (law_is_name_w (h.fr f8)).imp ?_
  rintro r μ9 ⟨rfl, f9⟩
  have g9 := f9.getL g8 List.not_mem_nil
  have f9 := f8.trans f9
  try simp only [two_eq, wo_addT, v_ipAdd, v_ipSub, wp_get2, rp_nil, rp_cons, wp_dict, isDct_new, ri_enumT, v_isNN, v_isNL, v_isNotN, v_isNotL, wp_fn, startW, wp_call, wp_C, wp_V, wp_bin, wp_un, wp_and, wp_or, wp_not, rt_V, rt_and, rt_or, rt_not, rt_bl, rt_yes, wp_if, wp_chain, ra_nil, ra_cons, wp_tup, wp_lst, wp_cb, wp_mt, wp_dict0, wp_sl, ro_none, ro_some, fs_seq, fs_nil, fs_brk, fs_cnt, fs_expr, fs_ret, fs_retN, fs_if, fs_set, fs_par, fs_asg, fs_sub, fs_aug, ri_val, ri_args, wp_some, wp_ok, wp_bind, List.map_cons, List.map_nil, List.length_cons, List.length_nil, List.replicate, List.cons_append, List.nil_append, List.getElem?_cons_zero, List.getElem?_cons_succ, List.set_cons_zero, List.set_cons_succ, Option.some.injEq, exists_eq_left', exists_eq_left, Nat.reduceAdd, Nat.reduceSub, Nat.reduceLeDiff, true_and, W.bl.injEq, W.int.injEq, W.str.injEq, W.tup.injEq, if_true, if_false, Bool.false_eq_true, Bool.not_true, Bool.not_false, truth_bl, truth_int, truth_tup, v_addI, v_subI, v_mod, v_fdiv, v_neg, v_lt, v_le, v_gt, v_ge, v_cint, v_cintB, v_cabs, v_cmax, v_cmin, v_lenT, v_lenF, v_ixT, v_ixF, v_revT, v_cutT, v_tupT, v_listT, v_eqI, v_neI, v_eqS, v_neS, Option.map_some, decide_eq_true_eq, decide_true, decide_false, and_self, and_true, Int.reduceToNat, Int.reduceNeg, Int.reduceLT, Int.reduceLE, Int.reduceAdd, Int.reduceSub, Int.reduceMul, Int.reduceBEq, Int.reduceBNe, Nat.reduceLT, Nat.reduceMul, Int.toNat_one, Int.toNat_zero]
  have g10 := getL_app (j := [.lst [.bl (isLog w), .bl (isPiece w), .bl (isLine w), .bl (isName w)]]) g9
  have g11 : getL (μ9 ++ [.lst [.bl (isLog w), .bl (isPiece w), .bl (isLine w), .bl (isName w)]]) μ9.length = some [.bl (isLog w), .bl (isPiece w), .bl (isLine w), .bl (isName w)] := getL_new
  have f10 := f9.trans (Fr.app [] μ9 [.lst [.bl (isLog w), .bl (isPiece w), .bl (isLine w), .bl (isName w)]])
  generalize μ9 ++ [.lst [.bl (isLog w), .bl (isPiece w), .bl (isLine w), .bl (isName w)]] = ν10 at f10 g10 g11 ⊢
  generalize μ9.length = k9 at g11 ⊢
  have i0 : atI [W.bl (isLog w), W.bl (isPiece w), W.bl (isLine w), W.bl (isName w)] 0 = some (.bl (isLog w)) := rfl
  simp only [two_eq, wo_addT, v_ipAdd, v_ipSub, wp_get2, rp_nil, rp_cons, wp_dict, isDct_new, ri_enumT, v_isNN, v_isNL, v_isNotN, v_isNotL, wp_fn, startW, wp_call, wp_C, wp_V, wp_bin, wp_un, wp_and, wp_or, wp_not, rt_V, rt_and, rt_or, rt_not, rt_bl, rt_yes, wp_if, wp_chain, ra_nil, ra_cons, wp_tup, wp_lst, wp_cb, wp_mt, wp_dict0, wp_sl, ro_none, ro_some, fs_seq, fs_nil, fs_brk, fs_cnt, fs_expr, fs_ret, fs_retN, fs_if, fs_set, fs_par, fs_asg, fs_sub, fs_aug, ri_val, ri_args, wp_some, wp_ok, wp_bind, List.map_cons, List.map_nil, List.length_cons, List.length_nil, List.replicate, List.cons_append, List.nil_append, List.getElem?_cons_zero, List.getElem?_cons_succ, List.set_cons_zero, List.set_cons_succ, Option.some.injEq, exists_eq_left', exists_eq_left, Nat.reduceAdd, Nat.reduceSub, Nat.reduceLeDiff, true_and, W.bl.injEq, W.int.injEq, W.str.injEq, W.tup.injEq, if_true, if_false, Bool.false_eq_true, Bool.not_true, Bool.not_false, truth_bl, truth_int, truth_tup, v_addI, v_subI, v_mod, v_fdiv, v_neg, v_lt, v_le, v_gt, v_ge, v_cint, v_cintB, v_cabs, v_cmax, v_cmin, v_lenT, v_lenF, v_ixT, v_ixF, v_revT, v_cutT, v_tupT, v_listT, v_eqI, v_neI, v_eqS, v_neS, Option.map_some, decide_eq_true_eq, decide_true, decide_false, and_self, and_true, Int.reduceToNat, Int.reduceNeg, Int.reduceLT, Int.reduceLE, Int.reduceAdd, Int.reduceSub, Int.reduceMul, Int.reduceBEq, Int.reduceBNe, Nat.reduceLT, Nat.reduceMul, Int.toNat_one, Int.toNat_zero, v_repr4 g10, v_repr4 g11, beq_self_eq_true, v_ixL g11, i0]
  cases hlog : isLog w with
  | false =>
    simp only [two_eq, wo_addT, v_ipAdd, v_ipSub, wp_get2, rp_nil, rp_cons, wp_dict, isDct_new, ri_enumT, v_isNN, v_isNL, v_isNotN, v_isNotL, wp_fn, startW, wp_call, wp_C, wp_V, wp_bin, wp_un, wp_and, wp_or, wp_not, rt_V, rt_and, rt_or, rt_not, rt_bl, rt_yes, wp_if, wp_chain, ra_nil, ra_cons, wp_tup, wp_lst, wp_cb, wp_mt, wp_dict0, wp_sl, ro_none, ro_some, fs_seq, fs_nil, fs_brk, fs_cnt, fs_expr, fs_ret, fs_retN, fs_if, fs_set, fs_par, fs_asg, fs_sub, fs_aug, ri_val, ri_args, wp_some, wp_ok, wp_bind, List.map_cons, List.map_nil, List.length_cons, List.length_nil, List.replicate, List.cons_append, List.nil_append, List.getElem?_cons_zero, List.getElem?_cons_succ, List.set_cons_zero, List.set_cons_succ, Option.some.injEq, exists_eq_left', exists_eq_left, Nat.reduceAdd, Nat.reduceSub, Nat.reduceLeDiff, true_and, W.bl.injEq, W.int.injEq, W.str.injEq, W.tup.injEq, if_true, if_false, Bool.false_eq_true, Bool.not_true, Bool.not_false, truth_bl, truth_int, truth_tup, v_addI, v_subI, v_mod, v_fdiv, v_neg, v_lt, v_le, v_gt, v_ge, v_cint, v_cintB, v_cabs, v_cmax, v_cmin, v_lenT, v_lenF, v_ixT, v_ixF, v_revT, v_cutT, v_tupT, v_listT, v_eqI, v_neI, v_eqS, v_neS, Option.map_some, decide_eq_true_eq, decide_true, decide_false, and_self, and_true, Int.reduceToNat, Int.reduceNeg, Int.reduceLT, Int.reduceLE, Int.reduceAdd, Int.reduceSub, Int.reduceMul, Int.reduceBEq, Int.reduceBNe, Nat.reduceLT, Nat.reduceMul, Int.toNat_one, Int.toNat_zero]
    exact ⟨⟨_, _, _, rfl⟩, f10⟩
  | true =>
    obtain ⟨ls, rfl⟩ := log_lines hlog
    simp only [two_eq, wo_addT, v_ipAdd, v_ipSub, wp_get2, rp_nil, rp_cons, wp_dict, isDct_new, ri_enumT, v_isNN, v_isNL, v_isNotN, v_isNotL, wp_fn, startW, wp_call, wp_C, wp_V, wp_bin, wp_un, wp_and, wp_or, wp_not, rt_V, rt_and, rt_or, rt_not, rt_bl, rt_yes, wp_if, wp_chain, ra_nil, ra_cons, wp_tup, wp_lst, wp_cb, wp_mt, wp_dict0, wp_sl, ro_none, ro_some, fs_seq, fs_nil, fs_brk, fs_cnt, fs_expr, fs_ret, fs_retN, fs_if, fs_set, fs_par, fs_asg, fs_sub, fs_aug, ri_val, ri_args, wp_some, wp_ok, wp_bind, List.map_cons, List.map_nil, List.length_cons, List.length_nil, List.replicate, List.cons_append, List.nil_append, List.getElem?_cons_zero, List.getElem?_cons_succ, List.set_cons_zero, List.set_cons_succ, Option.some.injEq, exists_eq_left', exists_eq_left, Nat.reduceAdd, Nat.reduceSub, Nat.reduceLeDiff, true_and, W.bl.injEq, W.int.injEq, W.str.injEq, W.tup.injEq, if_true, if_false, Bool.false_eq_true, Bool.not_true, Bool.not_false, truth_bl, truth_int, truth_tup, v_addI, v_subI, v_mod, v_fdiv, v_neg, v_lt, v_le, v_gt, v_ge, v_cint, v_cintB, v_cabs, v_cmax, v_cmin, v_lenT, v_lenF, v_ixT, v_ixF, v_revT, v_cutT, v_tupT, v_listT, v_eqI, v_neI, v_eqS, v_neS, Option.map_some, decide_eq_true_eq, decide_true, decide_false, and_self, and_true, Int.reduceToNat, Int.reduceNeg, Int.reduceLT, Int.reduceLE, Int.reduceAdd, Int.reduceSub, Int.reduceMul, Int.reduceBEq, Int.reduceBNe, Nat.reduceLT, Nat.reduceMul, Int.toNat_one, Int.toNat_zero]
    refine (open_calls_w (h.fr f10) hlog).imp ?_
    rintro r μ11 ⟨f11, ns, ho, rfl⟩
    refine (law_opened_w (by simpa using h.len)).imp ?_
    rintro r μ12 ⟨f12, ⟨ho2, rfl⟩ | ⟨ns2, k, ho2, rfl, hk, _⟩⟩
    · rw [ho] at ho2
      cases ho2
    · rw [ho] at ho2
      cases ho2
      simp only [two_eq, wo_addT, v_ipAdd, v_ipSub, wp_get2, rp_nil, rp_cons, wp_dict, isDct_new, ri_enumT, v_isNN, v_isNL, v_isNotN, v_isNotL, wp_fn, startW, wp_call, wp_C, wp_V, wp_bin, wp_un, wp_and, wp_or, wp_not, rt_V, rt_and, rt_or, rt_not, rt_bl, rt_yes, wp_if, wp_chain, ra_nil, ra_cons, wp_tup, wp_lst, wp_cb, wp_mt, wp_dict0, wp_sl, ro_none, ro_some, fs_seq, fs_nil, fs_brk, fs_cnt, fs_expr, fs_ret, fs_retN, fs_if, fs_set, fs_par, fs_asg, fs_sub, fs_aug, ri_val, ri_args, wp_some, wp_ok, wp_bind, List.map_cons, List.map_nil, List.length_cons, List.length_nil, List.replicate, List.cons_append, List.nil_append, List.getElem?_cons_zero, List.getElem?_cons_succ, List.set_cons_zero, List.set_cons_succ, Option.some.injEq, exists_eq_left', exists_eq_left, Nat.reduceAdd, Nat.reduceSub, Nat.reduceLeDiff, true_and, W.bl.injEq, W.int.injEq, W.str.injEq, W.tup.injEq, if_true, if_false, Bool.false_eq_true, Bool.not_true, Bool.not_false, truth_bl, truth_int, truth_tup, v_addI, v_subI, v_mod, v_fdiv, v_neg, v_lt, v_le, v_gt, v_ge, v_cint, v_cintB, v_cabs, v_cmax, v_cmin, v_lenT, v_lenF, v_ixT, v_ixF, v_revT, v_cutT, v_tupT, v_listT, v_eqI, v_neI, v_eqS, v_neS, Option.map_some, decide_eq_true_eq, decide_true, decide_false, and_self, and_true, Int.reduceToNat, Int.reduceNeg, Int.reduceLT, Int.reduceLE, Int.reduceAdd, Int.reduceSub, Int.reduceMul, Int.reduceBEq, Int.reduceBNe, Nat.reduceLT, Nat.reduceMul, Int.toNat_one, Int.toNat_zero, v_tupL hk, v_neTS]
      exact ⟨⟨_, _, _, rfl⟩, (f10.trans f11).trans f12⟩
end Ex

set_option Elab.async false
set_option linter.all false
set_option maxRecDepth 100000
set_option maxHeartbeats 4000000
set_option autoImplicit false
namespace Ex
open PySem L2 Mi
/-! ### the draws -/
theorem toss_j {μ : Mem} {n : Nat} {t : Int} (j : Jar n μ) (h0 : 0 < t) (h1 : t < 1073741824) : Rw (g__law_toss [.loc n, .int t] μ) fun w μ' => ∃ r : Nat, w = .int (r : Int) ∧ (r : Int) < t ∧ Jw n μ μ' := by
  obtain ⟨a, b, c, h⟩ := j.is
  refine (toss_w h h0 h1).imp ?_
  rintro w μ' ⟨r, a', c', rfl, g0, g1, rfl⟩
  exact ⟨r.toNat, by rw [Int.toNat_of_nonneg g0], by omega, ⟨⟨a', b, c', getL_set h⟩, Fr.set (List.mem_singleton.mpr rfl)⟩⟩
theorem pick_j {μ : Mem} {n k : Nat} {xs : List W} (j : Jar n μ) (hk : getL μ k = some xs) (hn : k ≠ n) (h0 : 0 < xs.length) (h1 : xs.length < 1000000) : Rw (g__law_pick [.loc n, .loc k] μ) fun w μ' => w ∈ xs ∧ Jw n μ μ' := by
  unfold g__law_pick b__law_pick
  simp only [two_eq, wo_addT, v_ipAdd, v_ipSub, wp_get2, rp_nil, rp_cons, wp_dict, isDct_new, ri_enumT, v_isNN, v_isNL, v_isNotN, v_isNotL, wp_fn, startW, wp_call, wp_C, wp_V, wp_bin, wp_un, wp_and, wp_or, wp_not, rt_V, rt_and, rt_or, rt_not, rt_bl, rt_yes, wp_if, wp_chain, ra_nil, ra_cons, wp_tup, wp_lst, wp_cb, wp_mt, wp_dict0, wp_sl, ro_none, ro_some, fs_seq, fs_nil, fs_brk, fs_cnt, fs_expr, fs_ret, fs_retN, fs_if, fs_set, fs_par, fs_asg, fs_sub, fs_aug, ri_val, ri_args, wp_some, wp_ok, wp_bind, List.map_cons, List.map_nil, List.length_cons, List.length_nil, List.replicate, List.cons_append, List.nil_append, List.getElem?_cons_zero, List.getElem?_cons_succ, List.set_cons_zero, List.set_cons_succ, Option.some.injEq, exists_eq_left', exists_eq_left, Nat.reduceAdd, Nat.reduceSub, Nat.reduceLeDiff, true_and, W.bl.injEq, W.int.injEq, W.str.injEq, W.tup.injEq, if_true, if_false, Bool.false_eq_true, Bool.not_true, Bool.not_false, truth_bl, truth_int, truth_tup, v_addI, v_subI, v_mod, v_fdiv, v_neg, v_lt, v_le, v_gt, v_ge, v_cint, v_cintB, v_cabs, v_cmax, v_cmin, v_lenT, v_lenF, v_ixT, v_ixF, v_revT, v_cutT, v_tupT, v_listT, v_eqI, v_neI, v_eqS, v_neS, Option.map_some, decide_eq_true_eq, decide_true, decide_false, and_self, and_true, Int.reduceToNat, Int.reduceNeg, Int.reduceLT, Int.reduceLE, Int.reduceAdd, Int.reduceSub, Int.reduceMul, Int.reduceBEq, Int.reduceBNe, Nat.reduceLT, Nat.reduceMul, Int.toNat_one, Int.toNat_zero, v_lenL hk]
  refine (toss_j j (by omega) (by omega)).imp ?_
  rintro w μ' ⟨r, rfl, hr, jw⟩
  have hr : r < xs.length := by omega
  have e : atI xs (r : Int) = some xs[r] := by
    rw [Mi.atI_nat]
    exact List.getElem?_eq_some_iff.mpr ⟨hr, rfl⟩
  simp only [two_eq, wo_addT, v_ipAdd, v_ipSub, wp_get2, rp_nil, rp_cons, wp_dict, isDct_new, ri_enumT, v_isNN, v_isNL, v_isNotN, v_isNotL, wp_fn, startW, wp_call, wp_C, wp_V, wp_bin, wp_un, wp_and, wp_or, wp_not, rt_V, rt_and, rt_or, rt_not, rt_bl, rt_yes, wp_if, wp_chain, ra_nil, ra_cons, wp_tup, wp_lst, wp_cb, wp_mt, wp_dict0, wp_sl, ro_none, ro_some, fs_seq, fs_nil, fs_brk, fs_cnt, fs_expr, fs_ret, fs_retN, fs_if, fs_set, fs_par, fs_asg, fs_sub, fs_aug, ri_val, ri_args, wp_some, wp_ok, wp_bind, List.map_cons, List.map_nil, List.length_cons, List.length_nil, List.replicate, List.cons_append, List.nil_append, List.getElem?_cons_zero, List.getElem?_cons_succ, List.set_cons_zero, List.set_cons_succ, Option.some.injEq, exists_eq_left', exists_eq_left, Nat.reduceAdd, Nat.reduceSub, Nat.reduceLeDiff, true_and, W.bl.injEq, W.int.injEq, W.str.injEq, W.tup.injEq, if_true, if_false, Bool.false_eq_true, Bool.not_true, Bool.not_false, truth_bl, truth_int, truth_tup, v_addI, v_subI, v_mod, v_fdiv, v_neg, v_lt, v_le, v_gt, v_ge, v_cint, v_cintB, v_cabs, v_cmax, v_cmin, v_lenT, v_lenF, v_ixT, v_ixF, v_revT, v_cutT, v_tupT, v_listT, v_eqI, v_neI, v_eqS, v_neS, Option.map_some, decide_eq_true_eq, decide_true, decide_false, and_self, and_true, Int.reduceToNat, Int.reduceNeg, Int.reduceLT, Int.reduceLE, Int.reduceAdd, Int.reduceSub, Int.reduceMul, Int.reduceBEq, Int.reduceBNe, Nat.reduceLT, Nat.reduceMul, Int.toNat_one, Int.toNat_zero, v_ixL (jw.getL hk hn), e]
  exact ⟨List.getElem_mem hr, jw⟩
/-! ### lines made -/
def Sm (ls : List (Str × Str)) : Prop := ∀ p ∈ ls, p.1.length ≤ 1000000 ∧ p.2.length ≤ 1000000
theorem lines_j {μ : Mem} {n size : Nat} (j : Jar n μ) (hs : size ≤ 12) : Rw (g__law_lines [.loc n, .int (size : Int)] μ) fun w μ' => Jw n μ μ' ∧ ∃ ls k, w = .tup [.tup (ls.map lw), .loc k] ∧ ls.length ≤ 12 ∧ Sm ls := by
  unfold g__law_lines b__law_lines
  simp only [two_eq, wo_addT, v_ipAdd, v_ipSub, wp_get2, rp_nil, rp_cons, wp_dict, isDct_new, ri_enumT, v_isNN, v_isNL, v_isNotN, v_isNotL, wp_fn, startW, wp_call, wp_C, wp_V, wp_bin, wp_un, wp_and, wp_or, wp_not, rt_V, rt_and, rt_or, rt_not, rt_bl, rt_yes, wp_if, wp_chain, ra_nil, ra_cons, wp_tup, wp_lst, wp_cb, wp_mt, wp_dict0, wp_sl, ro_none, ro_some, fs_seq, fs_nil, fs_brk, fs_cnt, fs_expr, fs_ret, fs_retN, fs_if, fs_set, fs_par, fs_asg, fs_sub, fs_aug, ri_val, ri_args, wp_some, wp_ok, wp_bind, List.map_cons, List.map_nil, List.length_cons, List.length_nil, List.replicate, List.cons_append, List.nil_append, List.getElem?_cons_zero, List.getElem?_cons_succ, List.set_cons_zero, List.set_cons_succ, Option.some.injEq, exists_eq_left', exists_eq_left, Nat.reduceAdd, Nat.reduceSub, Nat.reduceLeDiff, true_and, W.bl.injEq, W.int.injEq, W.str.injEq, W.tup.injEq, if_true, if_false, Bool.false_eq_true, Bool.not_true, Bool.not_false, truth_bl, truth_int, truth_tup, v_addI, v_subI, v_mod, v_fdiv, v_neg, v_lt, v_le, v_gt, v_ge, v_cint, v_cintB, v_cabs, v_cmax, v_cmin, v_lenT, v_lenF, v_ixT, v_ixF, v_revT, v_cutT, v_tupT, v_listT, v_eqI, v_neI, v_eqS, v_neS, Option.map_some, decide_eq_true_eq, decide_true, decide_false, and_self, and_true, Int.reduceToNat, Int.reduceNeg, Int.reduceLT, Int.reduceLE, Int.reduceAdd, Int.reduceSub, Int.reduceMul, Int.reduceBEq, Int.reduceBNe, Nat.reduceLT, Nat.reduceMul, Int.toNat_one, Int.toNat_zero]
  have jl := j.lt
  refine for_w (rangeW 0 size) (fun i δ μ' => ∃ (a b c : Option W) (ls : List (Str × Str)) (hs : List Str), δ = [some (.loc n), some (.int (size : Int)), a, some (.loc μ.length), some (.loc (μ.length + 1)), b, c] ∧ ls.length = i ∧ hs.length ≤ i ∧ getL μ' μ.length = some (ls.map lw) ∧ getL μ' (μ.length + 1) = some (hs.map .str) ∧ Sm ls ∧ (∀ z ∈ hs, z.length ≤ 1000000) ∧ Jw n μ μ') ?_ ?hz ?_ ?_
  case hz =>
    rw [rangeW_len]
    omega
  · simp only [two_eq, wo_addT, v_ipAdd, v_ipSub, wp_get2, rp_nil, rp_cons, wp_dict, isDct_new, ri_enumT, v_isNN, v_isNL, v_isNotN, v_isNotL, wp_fn, startW, wp_call, wp_C, wp_V, wp_bin, wp_un, wp_and, wp_or, wp_not, rt_V, rt_and, rt_or, rt_not, rt_bl, rt_yes, wp_if, wp_chain, ra_nil, ra_cons, wp_tup, wp_lst, wp_cb, wp_mt, wp_dict0, wp_sl, ro_none, ro_some, fs_seq, fs_nil, fs_brk, fs_cnt, fs_expr, fs_ret, fs_retN, fs_if, fs_set, fs_par, fs_asg, fs_sub, fs_aug, ri_val, ri_args, wp_some, wp_ok, wp_bind, List.map_cons, List.map_nil, List.length_cons, List.length_nil, List.replicate, List.cons_append, List.nil_append, List.getElem?_cons_zero, List.getElem?_cons_succ, List.set_cons_zero, List.set_cons_succ, Option.some.injEq, exists_eq_left', exists_eq_left, Nat.reduceAdd, Nat.reduceSub, Nat.reduceLeDiff, true_and, W.bl.injEq, W.int.injEq, W.str.injEq, W.tup.injEq, if_true, if_false, Bool.false_eq_true, Bool.not_true, Bool.not_false, truth_bl, truth_int, truth_tup, v_addI, v_subI, v_mod, v_fdiv, v_neg, v_lt, v_le, v_gt, v_ge, v_cint, v_cintB, v_cabs, v_cmax, v_cmin, v_lenT, v_lenF, v_ixT, v_ixF, v_revT, v_cutT, v_tupT, v_listT, v_eqI, v_neI, v_eqS, v_neS, Option.map_some, decide_eq_true_eq, decide_true, decide_false, and_self, and_true, Int.reduceToNat, Int.reduceNeg, Int.reduceLT, Int.reduceLE, Int.reduceAdd, Int.reduceSub, Int.reduceMul, Int.reduceBEq, Int.reduceBNe, Nat.reduceLT, Nat.reduceMul, Int.toNat_one, Int.toNat_zero]
    rw [ri_rng1 (by omega)]
    refine ⟨.inl (by simp), none, none, none, [], [], ?_, rfl, Nat.le_refl _, ?_, ?_, (fun _ h => by cases h), (fun _ h => by cases h), ?_⟩
    · simp
    · rw [List.append_assoc]
      simp [getL]
    · simp [getL]
    · exact ((Jw.refl j).app _).app _
  · rintro i x δ μ1 hx ⟨a, b, c, ls, hs', rfl, hl, hh, g1, g2, sm, sh, jw⟩
    obtain ⟨hi, rfl⟩ := rangeW_get hx
    refine ⟨_, rfl, ?_⟩
    simp only [two_eq, wo_addT, v_ipAdd, v_ipSub, wp_get2, rp_nil, rp_cons, wp_dict, isDct_new, ri_enumT, v_isNN, v_isNL, v_isNotN, v_isNotL, wp_fn, startW, wp_call, wp_C, wp_V, wp_bin, wp_un, wp_and, wp_or, wp_not, rt_V, rt_and, rt_or, rt_not, rt_bl, rt_yes, wp_if, wp_chain, ra_nil, ra_cons, wp_tup, wp_lst, wp_cb, wp_mt, wp_dict0, wp_sl, ro_none, ro_some, fs_seq, fs_nil, fs_brk, fs_cnt, fs_expr, fs_ret, fs_retN, fs_if, fs_set, fs_par, fs_asg, fs_sub, fs_aug, ri_val, ri_args, wp_some, wp_ok, wp_bind, List.map_cons, List.map_nil, List.length_cons, List.length_nil, List.replicate, List.cons_append, List.nil_append, List.getElem?_cons_zero, List.getElem?_cons_succ, List.set_cons_zero, List.set_cons_succ, Option.some.injEq, exists_eq_left', exists_eq_left, Nat.reduceAdd, Nat.reduceSub, Nat.reduceLeDiff, true_and, W.bl.injEq, W.int.injEq, W.str.injEq, W.tup.injEq, if_true, if_false, Bool.false_eq_true, Bool.not_true, Bool.not_false, truth_bl, truth_int, truth_tup, v_addI, v_subI, v_mod, v_fdiv, v_neg, v_lt, v_le, v_gt, v_ge, v_cint, v_cintB, v_cabs, v_cmax, v_cmin, v_lenT, v_lenF, v_ixT, v_ixF, v_revT, v_cutT, v_tupT, v_listT, v_eqI, v_neI, v_eqS, v_neS, Option.map_some, decide_eq_true_eq, decide_true, decide_false, and_self, and_true, Int.reduceToNat, Int.reduceNeg, Int.reduceLT, Int.reduceLE, Int.reduceAdd, Int.reduceSub, Int.reduceMul, Int.reduceBEq, Int.reduceBNe, Nat.reduceLT, Nat.reduceMul, Int.toNat_one, Int.toNat_zero]
    refine (toss_j jw.jar (by omega) (by omega)).imp ?_
    rintro w μ2 ⟨way, rfl, hway, jw2⟩
    have g1 := jw2.getL g1 (by omega)
    have g2 := jw2.getL g2 (by omega)
    have jw := jw.trans jw2
    have jl2 := jw.jar.lt
    simp only [two_eq, wo_addT, v_ipAdd, v_ipSub, wp_get2, rp_nil, rp_cons, wp_dict, isDct_new, ri_enumT, v_isNN, v_isNL, v_isNotN, v_isNotL, wp_fn, startW, wp_call, wp_C, wp_V, wp_bin, wp_un, wp_and, wp_or, wp_not, rt_V, rt_and, rt_or, rt_not, rt_bl, rt_yes, wp_if, wp_chain, ra_nil, ra_cons, wp_tup, wp_lst, wp_cb, wp_mt, wp_dict0, wp_sl, ro_none, ro_some, fs_seq, fs_nil, fs_brk, fs_cnt, fs_expr, fs_ret, fs_retN, fs_if, fs_set, fs_par, fs_asg, fs_sub, fs_aug, ri_val, ri_args, wp_some, wp_ok, wp_bind, List.map_cons, List.map_nil, List.length_cons, List.length_nil, List.replicate, List.cons_append, List.nil_append, List.getElem?_cons_zero, List.getElem?_cons_succ, List.set_cons_zero, List.set_cons_succ, Option.some.injEq, exists_eq_left', exists_eq_left, Nat.reduceAdd, Nat.reduceSub, Nat.reduceLeDiff, true_and, W.bl.injEq, W.int.injEq, W.str.injEq, W.tup.injEq, if_true, if_false, Bool.false_eq_true, Bool.not_true, Bool.not_false, truth_bl, truth_int, truth_tup, v_addI, v_subI, v_mod, v_fdiv, v_neg, v_lt, v_le, v_gt, v_ge, v_cint, v_cintB, v_cabs, v_cmax, v_cmin, v_lenT, v_lenF, v_ixT, v_ixF, v_revT, v_cutT, v_tupT, v_listT, v_eqI, v_neI, v_eqS, v_neS, Option.map_some, decide_eq_true_eq, decide_true, decide_false, and_self, and_true, Int.reduceToNat, Int.reduceNeg, Int.reduceLT, Int.reduceLE, Int.reduceAdd, Int.reduceSub, Int.reduceMul, Int.reduceBEq, Int.reduceBNe, Nat.reduceLT, Nat.reduceMul, Int.toNat_one, Int.toNat_zero]
    refine (pick_j (jw.jar.app _) getL_new (by omega) (by decide) (by decide)).imp ?_
    rintro name μ3 ⟨hn, jw3⟩
    have g1 := jw3.getL (getL_app g1) (by omega)
    have g2 := jw3.getL (getL_app g2) (by omega)
    have jw := (jw.app _).trans jw3
    obtain ⟨nm, rfl, hnm⟩ : ∃ s : Str, name = .str s ∧ s.length ≤ 1000000 := by
      rcases List.mem_cons.mp hn with rfl | hn
      · exact ⟨_, rfl, by decide +kernel⟩
      · rcases List.mem_cons.mp hn with rfl | hn
        · exact ⟨_, rfl, by decide +kernel⟩
        · rw [List.mem_singleton.mp hn]
          exact ⟨_, rfl, by decide +kernel⟩
    have lt1 : (ls.map lw).length < 1000000 := by rw [List.length_map]; omega
    have lt2 : (hs'.map W.str).length < 1000000 := by rw [List.length_map]; omega
    have ln := jw.fr.len
    by_cases c1 : (way : Int) < 3
    · simp only [two_eq, wo_addT, v_ipAdd, v_ipSub, wp_get2, rp_nil, rp_cons, wp_dict, isDct_new, ri_enumT, v_isNN, v_isNL, v_isNotN, v_isNotL, wp_fn, startW, wp_call, wp_C, wp_V, wp_bin, wp_un, wp_and, wp_or, wp_not, rt_V, rt_and, rt_or, rt_not, rt_bl, rt_yes, wp_if, wp_chain, ra_nil, ra_cons, wp_tup, wp_lst, wp_cb, wp_mt, wp_dict0, wp_sl, ro_none, ro_some, fs_seq, fs_nil, fs_brk, fs_cnt, fs_expr, fs_ret, fs_retN, fs_if, fs_set, fs_par, fs_asg, fs_sub, fs_aug, ri_val, ri_args, wp_some, wp_ok, wp_bind, List.map_cons, List.map_nil, List.length_cons, List.length_nil, List.replicate, List.cons_append, List.nil_append, List.getElem?_cons_zero, List.getElem?_cons_succ, List.set_cons_zero, List.set_cons_succ, Option.some.injEq, exists_eq_left', exists_eq_left, Nat.reduceAdd, Nat.reduceSub, Nat.reduceLeDiff, true_and, W.bl.injEq, W.int.injEq, W.str.injEq, W.tup.injEq, if_true, if_false, Bool.false_eq_true, Bool.not_true, Bool.not_false, truth_bl, truth_int, truth_tup, v_addI, v_subI, v_mod, v_fdiv, v_neg, v_lt, v_le, v_gt, v_ge, v_cint, v_cintB, v_cabs, v_cmax, v_cmin, v_lenT, v_lenF, v_ixT, v_ixF, v_revT, v_cutT, v_tupT, v_listT, v_eqI, v_neI, v_eqS, v_neS, Option.map_some, decide_eq_true_eq, decide_true, decide_false, and_self, and_true, Int.reduceToNat, Int.reduceNeg, Int.reduceLT, Int.reduceLE, Int.reduceAdd, Int.reduceSub, Int.reduceMul, Int.reduceBEq, Int.reduceBNe, Nat.reduceLT, Nat.reduceMul, Int.toNat_one, Int.toNat_zero, c1, v_isTL g1, v_append g1 lt1]
      have g2' := getL_setN (n := μ.length) (o := .lst (ls.map lw ++ [.tup [.str "in", .str nm]])) g2 (by omega)
      simp only [two_eq, wo_addT, v_ipAdd, v_ipSub, wp_get2, rp_nil, rp_cons, wp_dict, isDct_new, ri_enumT, v_isNN, v_isNL, v_isNotN, v_isNotL, wp_fn, startW, wp_call, wp_C, wp_V, wp_bin, wp_un, wp_and, wp_or, wp_not, rt_V, rt_and, rt_or, rt_not, rt_bl, rt_yes, wp_if, wp_chain, ra_nil, ra_cons, wp_tup, wp_lst, wp_cb, wp_mt, wp_dict0, wp_sl, ro_none, ro_some, fs_seq, fs_nil, fs_brk, fs_cnt, fs_expr, fs_ret, fs_retN, fs_if, fs_set, fs_par, fs_asg, fs_sub, fs_aug, ri_val, ri_args, wp_some, wp_ok, wp_bind, List.map_cons, List.map_nil, List.length_cons, List.length_nil, List.replicate, List.cons_append, List.nil_append, List.getElem?_cons_zero, List.getElem?_cons_succ, List.set_cons_zero, List.set_cons_succ, Option.some.injEq, exists_eq_left', exists_eq_left, Nat.reduceAdd, Nat.reduceSub, Nat.reduceLeDiff, true_and, W.bl.injEq, W.int.injEq, W.str.injEq, W.tup.injEq, if_true, if_false, Bool.false_eq_true, Bool.not_true, Bool.not_false, truth_bl, truth_int, truth_tup, v_addI, v_subI, v_mod, v_fdiv, v_neg, v_lt, v_le, v_gt, v_ge, v_cint, v_cintB, v_cabs, v_cmax, v_cmin, v_lenT, v_lenF, v_ixT, v_ixF, v_revT, v_cutT, v_tupT, v_listT, v_eqI, v_neI, v_eqS, v_neS, Option.map_some, decide_eq_true_eq, decide_true, decide_false, and_self, and_true, Int.reduceToNat, Int.reduceNeg, Int.reduceLT, Int.reduceLE, Int.reduceAdd, Int.reduceSub, Int.reduceMul, Int.reduceBEq, Int.reduceBNe, Nat.reduceLT, Nat.reduceMul, Int.toNat_one, Int.toNat_zero, v_isTL g2', v_append g2' lt2]
      refine ⟨_, _, _, ls ++ [(("in" : Str), nm)], hs' ++ [nm], rfl, by simp [hl], by simp; omega, ?_, ?_, ?_, ?_, ?_⟩
      · rw [List.map_append]
        exact getL_setN (getL_set g1) (by omega)
      · rw [List.map_append]
        exact getL_set g2'
      · intro p hp
        rcases List.mem_append.mp hp with hp | hp
        · exact sm p hp
        · rw [List.mem_singleton.mp hp]
          exact ⟨by show Str.length ("in" : Str) ≤ _; decide +kernel, hnm⟩
      · intro p hp
        rcases List.mem_append.mp hp with hp | hp
        · exact sh p hp
        · rw [List.mem_singleton.mp hp]
          exact hnm
      · exact (jw.setF (Nat.le_refl _) j).setF (Nat.le_succ _) j
    · have out_ : ∀ (tag : Str) (μ4 : Mem) (a0 b c : Option W) (nm2 : Str), tag.length ≤ 1000000 → nm2.length ≤ 1000000 → ∀ hs2 : List Str, hs2.length ≤ i + 1 → (∀ z ∈ hs2, z.length ≤ 1000000) → getL μ4 μ.length = some (ls.map lw) → getL μ4 (μ.length + 1) = some (hs2.map .str) → Jw n μ μ4 →
          ∃ (a b' c' : Option W) (ls' : List (Str × Str)) (hs : List Str), [some (W.loc n), some (W.int (size : Int)), a0, some (.loc μ.length), some (.loc (μ.length + 1)), b, c] = [some (W.loc n), some (W.int (size : Int)), a, some (.loc μ.length), some (.loc (μ.length + 1)), b', c'] ∧ ls'.length = i + 1 ∧ hs.length ≤ i + 1 ∧ getL (μ4.set μ.length (.lst (ls.map lw ++ [.tup [.str tag, .str nm2]]))) μ.length = some (ls'.map lw) ∧ getL (μ4.set μ.length (.lst (ls.map lw ++ [.tup [.str tag, .str nm2]]))) (μ.length + 1) = some (hs.map .str) ∧ Sm ls' ∧ (∀ z ∈ hs, z.length ≤ 1000000) ∧ Jw n μ (μ4.set μ.length (.lst (ls.map lw ++ [.tup [.str tag, .str nm2]]))) := by
        intro tag μ4 a0 b c nm2 ht hm hs2 hh2 sh2 g1 g2 jw
        refine ⟨a0, b, c, ls ++ [(tag, nm2)], hs2, rfl, by simp [hl], hh2, ?_, getL_setN g2 (by omega), ?_, sh2, jw.setF (Nat.le_refl _) j⟩
        · rw [List.map_append]
          exact getL_set g1
        · intro p hp
          rcases List.mem_append.mp hp with hp | hp
          · exact sm p hp
          · rw [List.mem_singleton.mp hp]
            exact ⟨ht, hm⟩
      simp only [two_eq, wo_addT, v_ipAdd, v_ipSub, wp_get2, rp_nil, rp_cons, wp_dict, isDct_new, ri_enumT, v_isNN, v_isNL, v_isNotN, v_isNotL, wp_fn, startW, wp_call, wp_C, wp_V, wp_bin, wp_un, wp_and, wp_or, wp_not, rt_V, rt_and, rt_or, rt_not, rt_bl, rt_yes, wp_if, wp_chain, ra_nil, ra_cons, wp_tup, wp_lst, wp_cb, wp_mt, wp_dict0, wp_sl, ro_none, ro_some, fs_seq, fs_nil, fs_brk, fs_cnt, fs_expr, fs_ret, fs_retN, fs_if, fs_set, fs_par, fs_asg, fs_sub, fs_aug, ri_val, ri_args, wp_some, wp_ok, wp_bind, List.map_cons, List.map_nil, List.length_cons, List.length_nil, List.replicate, List.cons_append, List.nil_append, List.getElem?_cons_zero, List.getElem?_cons_succ, List.set_cons_zero, List.set_cons_succ, Option.some.injEq, exists_eq_left', exists_eq_left, Nat.reduceAdd, Nat.reduceSub, Nat.reduceLeDiff, true_and, W.bl.injEq, W.int.injEq, W.str.injEq, W.tup.injEq, if_true, if_false, Bool.false_eq_true, Bool.not_true, Bool.not_false, truth_bl, truth_int, truth_tup, v_addI, v_subI, v_mod, v_fdiv, v_neg, v_lt, v_le, v_gt, v_ge, v_cint, v_cintB, v_cabs, v_cmax, v_cmin, v_lenT, v_lenF, v_ixT, v_ixF, v_revT, v_cutT, v_tupT, v_listT, v_eqI, v_neI, v_eqS, v_neS, Option.map_some, decide_eq_true_eq, decide_true, decide_false, and_self, and_true, Int.reduceToNat, Int.reduceNeg, Int.reduceLT, Int.reduceLE, Int.reduceAdd, Int.reduceSub, Int.reduceMul, Int.reduceBEq, Int.reduceBNe, Nat.reduceLT, Nat.reduceMul, Int.toNat_one, Int.toNat_zero, c1]
      have test : Rw (if (way : Int) < 6 then tBl (mBin opNe (mV 4) (mLst aNil)) [some (.loc n), some (.int (size : Int)), some (.int (0 + (i : Int))), some (.loc μ.length), some (.loc (μ.length + 1)), some (.int (way : Int)), some (.str nm)] μ3 else .ok false μ3) fun b μ4 => (b = true → hs' ≠ []) ∧ Fr [] μ3 μ4 := by
        by_cases c2 : (way : Int) < 6
        · simp only [two_eq, wo_addT, v_ipAdd, v_ipSub, wp_get2, rp_nil, rp_cons, wp_dict, isDct_new, ri_enumT, v_isNN, v_isNL, v_isNotN, v_isNotL, wp_fn, startW, wp_call, wp_C, wp_V, wp_bin, wp_un, wp_and, wp_or, wp_not, rt_V, rt_and, rt_or, rt_not, rt_bl, rt_yes, wp_if, wp_chain, ra_nil, ra_cons, wp_tup, wp_lst, wp_cb, wp_mt, wp_dict0, wp_sl, ro_none, ro_some, fs_seq, fs_nil, fs_brk, fs_cnt, fs_expr, fs_ret, fs_retN, fs_if, fs_set, fs_par, fs_asg, fs_sub, fs_aug, ri_val, ri_args, wp_some, wp_ok, wp_bind, List.map_cons, List.map_nil, List.length_cons, List.length_nil, List.replicate, List.cons_append, List.nil_append, List.getElem?_cons_zero, List.getElem?_cons_succ, List.set_cons_zero, List.set_cons_succ, Option.some.injEq, exists_eq_left', exists_eq_left, Nat.reduceAdd, Nat.reduceSub, Nat.reduceLeDiff, true_and, W.bl.injEq, W.int.injEq, W.str.injEq, W.tup.injEq, if_true, if_false, Bool.false_eq_true, Bool.not_true, Bool.not_false, truth_bl, truth_int, truth_tup, v_addI, v_subI, v_mod, v_fdiv, v_neg, v_lt, v_le, v_gt, v_ge, v_cint, v_cintB, v_cabs, v_cmax, v_cmin, v_lenT, v_lenF, v_ixT, v_ixF, v_revT, v_cutT, v_tupT, v_listT, v_eqI, v_neI, v_eqS, v_neS, Option.map_some, decide_eq_true_eq, decide_true, decide_false, and_self, and_true, Int.reduceToNat, Int.reduceNeg, Int.reduceLT, Int.reduceLE, Int.reduceAdd, Int.reduceSub, Int.reduceMul, Int.reduceBEq, Int.reduceBNe, Nat.reduceLT, Nat.reduceMul, Int.toNat_one, Int.toNat_zero, c2, v_ne0 (getL_app g2) strs_data getL_new]
          refine ⟨fun z e => ?_, Fr.app _ _ _⟩
          rw [e] at z
          cases z
        · simp only [two_eq, wo_addT, v_ipAdd, v_ipSub, wp_get2, rp_nil, rp_cons, wp_dict, isDct_new, ri_enumT, v_isNN, v_isNL, v_isNotN, v_isNotL, wp_fn, startW, wp_call, wp_C, wp_V, wp_bin, wp_un, wp_and, wp_or, wp_not, rt_V, rt_and, rt_or, rt_not, rt_bl, rt_yes, wp_if, wp_chain, ra_nil, ra_cons, wp_tup, wp_lst, wp_cb, wp_mt, wp_dict0, wp_sl, ro_none, ro_some, fs_seq, fs_nil, fs_brk, fs_cnt, fs_expr, fs_ret, fs_retN, fs_if, fs_set, fs_par, fs_asg, fs_sub, fs_aug, ri_val, ri_args, wp_some, wp_ok, wp_bind, List.map_cons, List.map_nil, List.length_cons, List.length_nil, List.replicate, List.cons_append, List.nil_append, List.getElem?_cons_zero, List.getElem?_cons_succ, List.set_cons_zero, List.set_cons_succ, Option.some.injEq, exists_eq_left', exists_eq_left, Nat.reduceAdd, Nat.reduceSub, Nat.reduceLeDiff, true_and, W.bl.injEq, W.int.injEq, W.str.injEq, W.tup.injEq, if_true, if_false, Bool.false_eq_true, Bool.not_true, Bool.not_false, truth_bl, truth_int, truth_tup, v_addI, v_subI, v_mod, v_fdiv, v_neg, v_lt, v_le, v_gt, v_ge, v_cint, v_cintB, v_cabs, v_cmax, v_cmin, v_lenT, v_lenF, v_ixT, v_ixF, v_revT, v_cutT, v_tupT, v_listT, v_eqI, v_neI, v_eqS, v_neS, Option.map_some, decide_eq_true_eq, decide_true, decide_false, and_self, and_true, Int.reduceToNat, Int.reduceNeg, Int.reduceLT, Int.reduceLE, Int.reduceAdd, Int.reduceSub, Int.reduceMul, Int.reduceBEq, Int.reduceBNe, Nat.reduceLT, Nat.reduceMul, Int.toNat_one, Int.toNat_zero, c2]
          exact ⟨(fun z => by cases z), Fr.refl _ _⟩
      refine test.imp ?_
      rintro b μ4 ⟨hb, f4⟩
      have g1 := f4.getL g1 List.not_mem_nil
      have g2 := f4.getL g2 List.not_mem_nil
      have jw := jw.then_ f4
      cases b with
      | true =>
        rcases List.eq_nil_or_concat hs' with rfl | ⟨h', z, rfl⟩
        · exact absurd rfl (hb rfl)
        · rw [List.concat_eq_append] at g2 sh hh
          rw [List.map_append] at g2
          have q1 := getL_setN (n := μ.length + 1) (o := .lst (h'.map .str)) g1 (by omega)
          simp only [two_eq, wo_addT, v_ipAdd, v_ipSub, wp_get2, rp_nil, rp_cons, wp_dict, isDct_new, ri_enumT, v_isNN, v_isNL, v_isNotN, v_isNotL, wp_fn, startW, wp_call, wp_C, wp_V, wp_bin, wp_un, wp_and, wp_or, wp_not, rt_V, rt_and, rt_or, rt_not, rt_bl, rt_yes, wp_if, wp_chain, ra_nil, ra_cons, wp_tup, wp_lst, wp_cb, wp_mt, wp_dict0, wp_sl, ro_none, ro_some, fs_seq, fs_nil, fs_brk, fs_cnt, fs_expr, fs_ret, fs_retN, fs_if, fs_set, fs_par, fs_asg, fs_sub, fs_aug, ri_val, ri_args, wp_some, wp_ok, wp_bind, List.map_cons, List.map_nil, List.length_cons, List.length_nil, List.replicate, List.cons_append, List.nil_append, List.getElem?_cons_zero, List.getElem?_cons_succ, List.set_cons_zero, List.set_cons_succ, Option.some.injEq, exists_eq_left', exists_eq_left, Nat.reduceAdd, Nat.reduceSub, Nat.reduceLeDiff, true_and, W.bl.injEq, W.int.injEq, W.str.injEq, W.tup.injEq, if_true, if_false, Bool.false_eq_true, Bool.not_true, Bool.not_false, truth_bl, truth_int, truth_tup, v_addI, v_subI, v_mod, v_fdiv, v_neg, v_lt, v_le, v_gt, v_ge, v_cint, v_cintB, v_cabs, v_cmax, v_cmin, v_lenT, v_lenF, v_ixT, v_ixF, v_revT, v_cutT, v_tupT, v_listT, v_eqI, v_neI, v_eqS, v_neS, Option.map_some, decide_eq_true_eq, decide_true, decide_false, and_self, and_true, Int.reduceToNat, Int.reduceNeg, Int.reduceLT, Int.reduceLE, Int.reduceAdd, Int.reduceSub, Int.reduceMul, Int.reduceBEq, Int.reduceBNe, Nat.reduceLT, Nat.reduceMul, Int.toNat_one, Int.toNat_zero, v_isTL g1, v_isTL g2, v_pop g2, v_append q1 lt1]
          exact out_ "out" _ _ _ _ z (by decide +kernel) (sh z (by simp)) h' (by simp at hh; omega) (fun y hy => sh y (by simp [hy])) q1 (getL_set g2) (jw.setF (Nat.le_succ _) j)
      | false =>
        simp only [two_eq, wo_addT, v_ipAdd, v_ipSub, wp_get2, rp_nil, rp_cons, wp_dict, isDct_new, ri_enumT, v_isNN, v_isNL, v_isNotN, v_isNotL, wp_fn, startW, wp_call, wp_C, wp_V, wp_bin, wp_un, wp_and, wp_or, wp_not, rt_V, rt_and, rt_or, rt_not, rt_bl, rt_yes, wp_if, wp_chain, ra_nil, ra_cons, wp_tup, wp_lst, wp_cb, wp_mt, wp_dict0, wp_sl, ro_none, ro_some, fs_seq, fs_nil, fs_brk, fs_cnt, fs_expr, fs_ret, fs_retN, fs_if, fs_set, fs_par, fs_asg, fs_sub, fs_aug, ri_val, ri_args, wp_some, wp_ok, wp_bind, List.map_cons, List.map_nil, List.length_cons, List.length_nil, List.replicate, List.cons_append, List.nil_append, List.getElem?_cons_zero, List.getElem?_cons_succ, List.set_cons_zero, List.set_cons_succ, Option.some.injEq, exists_eq_left', exists_eq_left, Nat.reduceAdd, Nat.reduceSub, Nat.reduceLeDiff, true_and, W.bl.injEq, W.int.injEq, W.str.injEq, W.tup.injEq, if_true, if_false, Bool.false_eq_true, Bool.not_true, Bool.not_false, truth_bl, truth_int, truth_tup, v_addI, v_subI, v_mod, v_fdiv, v_neg, v_lt, v_le, v_gt, v_ge, v_cint, v_cintB, v_cabs, v_cmax, v_cmin, v_lenT, v_lenF, v_ixT, v_ixF, v_revT, v_cutT, v_tupT, v_listT, v_eqI, v_neI, v_eqS, v_neS, Option.map_some, decide_eq_true_eq, decide_true, decide_false, and_self, and_true, Int.reduceToNat, Int.reduceNeg, Int.reduceLT, Int.reduceLE, Int.reduceAdd, Int.reduceSub, Int.reduceMul, Int.reduceBEq, Int.reduceBNe, Nat.reduceLT, Nat.reduceMul, Int.toNat_one, Int.toNat_zero, v_isTL g1]
        by_cases c3 : ((way : Int) == 7) = true
        · simp only [two_eq, wo_addT, v_ipAdd, v_ipSub, wp_get2, rp_nil, rp_cons, wp_dict, isDct_new, ri_enumT, v_isNN, v_isNL, v_isNotN, v_isNotL, wp_fn, startW, wp_call, wp_C, wp_V, wp_bin, wp_un, wp_and, wp_or, wp_not, rt_V, rt_and, rt_or, rt_not, rt_bl, rt_yes, wp_if, wp_chain, ra_nil, ra_cons, wp_tup, wp_lst, wp_cb, wp_mt, wp_dict0, wp_sl, ro_none, ro_some, fs_seq, fs_nil, fs_brk, fs_cnt, fs_expr, fs_ret, fs_retN, fs_if, fs_set, fs_par, fs_asg, fs_sub, fs_aug, ri_val, ri_args, wp_some, wp_ok, wp_bind, List.map_cons, List.map_nil, List.length_cons, List.length_nil, List.replicate, List.cons_append, List.nil_append, List.getElem?_cons_zero, List.getElem?_cons_succ, List.set_cons_zero, List.set_cons_succ, Option.some.injEq, exists_eq_left', exists_eq_left, Nat.reduceAdd, Nat.reduceSub, Nat.reduceLeDiff, true_and, W.bl.injEq, W.int.injEq, W.str.injEq, W.tup.injEq, if_true, if_false, Bool.false_eq_true, Bool.not_true, Bool.not_false, truth_bl, truth_int, truth_tup, v_addI, v_subI, v_mod, v_fdiv, v_neg, v_lt, v_le, v_gt, v_ge, v_cint, v_cintB, v_cabs, v_cmax, v_cmin, v_lenT, v_lenF, v_ixT, v_ixF, v_revT, v_cutT, v_tupT, v_listT, v_eqI, v_neI, v_eqS, v_neS, Option.map_some, decide_eq_true_eq, decide_true, decide_false, and_self, and_true, Int.reduceToNat, Int.reduceNeg, Int.reduceLT, Int.reduceLE, Int.reduceAdd, Int.reduceSub, Int.reduceMul, Int.reduceBEq, Int.reduceBNe, Nat.reduceLT, Nat.reduceMul, Int.toNat_one, Int.toNat_zero, c3]
          refine (toss_j jw.jar (by decide) (by decide)).imp ?_
          rintro w μ5 ⟨r, rfl, hr, jw5⟩
          have g1 := jw5.getL g1 (by omega)
          have g2 := jw5.getL g2 (by omega)
          have jw := jw.trans jw5
          simp only [two_eq, wo_addT, v_ipAdd, v_ipSub, wp_get2, rp_nil, rp_cons, wp_dict, isDct_new, ri_enumT, v_isNN, v_isNL, v_isNotN, v_isNotL, wp_fn, startW, wp_call, wp_C, wp_V, wp_bin, wp_un, wp_and, wp_or, wp_not, rt_V, rt_and, rt_or, rt_not, rt_bl, rt_yes, wp_if, wp_chain, ra_nil, ra_cons, wp_tup, wp_lst, wp_cb, wp_mt, wp_dict0, wp_sl, ro_none, ro_some, fs_seq, fs_nil, fs_brk, fs_cnt, fs_expr, fs_ret, fs_retN, fs_if, fs_set, fs_par, fs_asg, fs_sub, fs_aug, ri_val, ri_args, wp_some, wp_ok, wp_bind, List.map_cons, List.map_nil, List.length_cons, List.length_nil, List.replicate, List.cons_append, List.nil_append, List.getElem?_cons_zero, List.getElem?_cons_succ, List.set_cons_zero, List.set_cons_succ, Option.some.injEq, exists_eq_left', exists_eq_left, Nat.reduceAdd, Nat.reduceSub, Nat.reduceLeDiff, true_and, W.bl.injEq, W.int.injEq, W.str.injEq, W.tup.injEq, if_true, if_false, Bool.false_eq_true, Bool.not_true, Bool.not_false, truth_bl, truth_int, truth_tup, v_addI, v_subI, v_mod, v_fdiv, v_neg, v_lt, v_le, v_gt, v_ge, v_cint, v_cintB, v_cabs, v_cmax, v_cmin, v_lenT, v_lenF, v_ixT, v_ixF, v_revT, v_cutT, v_tupT, v_listT, v_eqI, v_neI, v_eqS, v_neS, Option.map_some, decide_eq_true_eq, decide_true, decide_false, and_self, and_true, Int.reduceToNat, Int.reduceNeg, Int.reduceLT, Int.reduceLE, Int.reduceAdd, Int.reduceSub, Int.reduceMul, Int.reduceBEq, Int.reduceBNe, Nat.reduceLT, Nat.reduceMul, Int.toNat_one, Int.toNat_zero]
          cases c4 : ((r : Int) == 0) with
          | true =>
            simp only [two_eq, wo_addT, v_ipAdd, v_ipSub, wp_get2, rp_nil, rp_cons, wp_dict, isDct_new, ri_enumT, v_isNN, v_isNL, v_isNotN, v_isNotL, wp_fn, startW, wp_call, wp_C, wp_V, wp_bin, wp_un, wp_and, wp_or, wp_not, rt_V, rt_and, rt_or, rt_not, rt_bl, rt_yes, wp_if, wp_chain, ra_nil, ra_cons, wp_tup, wp_lst, wp_cb, wp_mt, wp_dict0, wp_sl, ro_none, ro_some, fs_seq, fs_nil, fs_brk, fs_cnt, fs_expr, fs_ret, fs_retN, fs_if, fs_set, fs_par, fs_asg, fs_sub, fs_aug, ri_val, ri_args, wp_some, wp_ok, wp_bind, List.map_cons, List.map_nil, List.length_cons, List.length_nil, List.replicate, List.cons_append, List.nil_append, List.getElem?_cons_zero, List.getElem?_cons_succ, List.set_cons_zero, List.set_cons_succ, Option.some.injEq, exists_eq_left', exists_eq_left, Nat.reduceAdd, Nat.reduceSub, Nat.reduceLeDiff, true_and, W.bl.injEq, W.int.injEq, W.str.injEq, W.tup.injEq, if_true, if_false, Bool.false_eq_true, Bool.not_true, Bool.not_false, truth_bl, truth_int, truth_tup, v_addI, v_subI, v_mod, v_fdiv, v_neg, v_lt, v_le, v_gt, v_ge, v_cint, v_cintB, v_cabs, v_cmax, v_cmin, v_lenT, v_lenF, v_ixT, v_ixF, v_revT, v_cutT, v_tupT, v_listT, v_eqI, v_neI, v_eqS, v_neS, Option.map_some, decide_eq_true_eq, decide_true, decide_false, and_self, and_true, Int.reduceToNat, Int.reduceNeg, Int.reduceLT, Int.reduceLE, Int.reduceAdd, Int.reduceSub, Int.reduceMul, Int.reduceBEq, Int.reduceBNe, Nat.reduceLT, Nat.reduceMul, Int.toNat_one, Int.toNat_zero, v_append g1 lt1]
            exact out_ "out" _ _ _ _ nm (by decide +kernel) hnm hs' (by omega) sh g1 g2 jw
          | false =>
            simp only [two_eq, wo_addT, v_ipAdd, v_ipSub, wp_get2, rp_nil, rp_cons, wp_dict, isDct_new, ri_enumT, v_isNN, v_isNL, v_isNotN, v_isNotL, wp_fn, startW, wp_call, wp_C, wp_V, wp_bin, wp_un, wp_and, wp_or, wp_not, rt_V, rt_and, rt_or, rt_not, rt_bl, rt_yes, wp_if, wp_chain, ra_nil, ra_cons, wp_tup, wp_lst, wp_cb, wp_mt, wp_dict0, wp_sl, ro_none, ro_some, fs_seq, fs_nil, fs_brk, fs_cnt, fs_expr, fs_ret, fs_retN, fs_if, fs_set, fs_par, fs_asg, fs_sub, fs_aug, ri_val, ri_args, wp_some, wp_ok, wp_bind, List.map_cons, List.map_nil, List.length_cons, List.length_nil, List.replicate, List.cons_append, List.nil_append, List.getElem?_cons_zero, List.getElem?_cons_succ, List.set_cons_zero, List.set_cons_succ, Option.some.injEq, exists_eq_left', exists_eq_left, Nat.reduceAdd, Nat.reduceSub, Nat.reduceLeDiff, true_and, W.bl.injEq, W.int.injEq, W.str.injEq, W.tup.injEq, if_true, if_false, Bool.false_eq_true, Bool.not_true, Bool.not_false, truth_bl, truth_int, truth_tup, v_addI, v_subI, v_mod, v_fdiv, v_neg, v_lt, v_le, v_gt, v_ge, v_cint, v_cintB, v_cabs, v_cmax, v_cmin, v_lenT, v_lenF, v_ixT, v_ixF, v_revT, v_cutT, v_tupT, v_listT, v_eqI, v_neI, v_eqS, v_neS, Option.map_some, decide_eq_true_eq, decide_true, decide_false, and_self, and_true, Int.reduceToNat, Int.reduceNeg, Int.reduceLT, Int.reduceLE, Int.reduceAdd, Int.reduceSub, Int.reduceMul, Int.reduceBEq, Int.reduceBNe, Nat.reduceLT, Nat.reduceMul, Int.toNat_one, Int.toNat_zero, v_append g1 lt1]
            exact out_ "say" _ _ _ _ nm (by decide +kernel) hnm hs' (by omega) sh g1 g2 jw
        · simp only [two_eq, wo_addT, v_ipAdd, v_ipSub, wp_get2, rp_nil, rp_cons, wp_dict, isDct_new, ri_enumT, v_isNN, v_isNL, v_isNotN, v_isNotL, wp_fn, startW, wp_call, wp_C, wp_V, wp_bin, wp_un, wp_and, wp_or, wp_not, rt_V, rt_and, rt_or, rt_not, rt_bl, rt_yes, wp_if, wp_chain, ra_nil, ra_cons, wp_tup, wp_lst, wp_cb, wp_mt, wp_dict0, wp_sl, ro_none, ro_some, fs_seq, fs_nil, fs_brk, fs_cnt, fs_expr, fs_ret, fs_retN, fs_if, fs_set, fs_par, fs_asg, fs_sub, fs_aug, ri_val, ri_args, wp_some, wp_ok, wp_bind, List.map_cons, List.map_nil, List.length_cons, List.length_nil, List.replicate, List.cons_append, List.nil_append, List.getElem?_cons_zero, List.getElem?_cons_succ, List.set_cons_zero, List.set_cons_succ, Option.some.injEq, exists_eq_left', exists_eq_left, Nat.reduceAdd, Nat.reduceSub, Nat.reduceLeDiff, true_and, W.bl.injEq, W.int.injEq, W.str.injEq, W.tup.injEq, if_true, if_false, Bool.false_eq_true, Bool.not_true, Bool.not_false, truth_bl, truth_int, truth_tup, v_addI, v_subI, v_mod, v_fdiv, v_neg, v_lt, v_le, v_gt, v_ge, v_cint, v_cintB, v_cabs, v_cmax, v_cmin, v_lenT, v_lenF, v_ixT, v_ixF, v_revT, v_cutT, v_tupT, v_listT, v_eqI, v_neI, v_eqS, v_neS, Option.map_some, decide_eq_true_eq, decide_true, decide_false, and_self, and_true, Int.reduceToNat, Int.reduceNeg, Int.reduceLT, Int.reduceLE, Int.reduceAdd, Int.reduceSub, Int.reduceMul, Int.reduceBEq, Int.reduceBNe, Nat.reduceLT, Nat.reduceMul, Int.toNat_one, Int.toNat_zero, c3, v_append g1 lt1]
          exact out_ "say" _ _ _ _ nm (by decide +kernel) hnm hs' (by omega) sh g1 g2 jw
  · rintro δ μ1 ⟨a, b, c, ls, hs', rfl, hl, hh, g1, g2, sm, sh, jw⟩
    rw [rangeW_len] at hl
    simp only [two_eq, wo_addT, v_ipAdd, v_ipSub, wp_get2, rp_nil, rp_cons, wp_dict, isDct_new, ri_enumT, v_isNN, v_isNL, v_isNotN, v_isNotL, wp_fn, startW, wp_call, wp_C, wp_V, wp_bin, wp_un, wp_and, wp_or, wp_not, rt_V, rt_and, rt_or, rt_not, rt_bl, rt_yes, wp_if, wp_chain, ra_nil, ra_cons, wp_tup, wp_lst, wp_cb, wp_mt, wp_dict0, wp_sl, ro_none, ro_some, fs_seq, fs_nil, fs_brk, fs_cnt, fs_expr, fs_ret, fs_retN, fs_if, fs_set, fs_par, fs_asg, fs_sub, fs_aug, ri_val, ri_args, wp_some, wp_ok, wp_bind, List.map_cons, List.map_nil, List.length_cons, List.length_nil, List.replicate, List.cons_append, List.nil_append, List.getElem?_cons_zero, List.getElem?_cons_succ, List.set_cons_zero, List.set_cons_succ, Option.some.injEq, exists_eq_left', exists_eq_left, Nat.reduceAdd, Nat.reduceSub, Nat.reduceLeDiff, true_and, W.bl.injEq, W.int.injEq, W.str.injEq, W.tup.injEq, if_true, if_false, Bool.false_eq_true, Bool.not_true, Bool.not_false, truth_bl, truth_int, truth_tup, v_addI, v_subI, v_mod, v_fdiv, v_neg, v_lt, v_le, v_gt, v_ge, v_cint, v_cintB, v_cabs, v_cmax, v_cmin, v_lenT, v_lenF, v_ixT, v_ixF, v_revT, v_cutT, v_tupT, v_listT, v_eqI, v_neI, v_eqS, v_neS, Option.map_some, decide_eq_true_eq, decide_true, decide_false, and_self, and_true, Int.reduceToNat, Int.reduceNeg, Int.reduceLT, Int.reduceLE, Int.reduceAdd, Int.reduceSub, Int.reduceMul, Int.reduceBEq, Int.reduceBNe, Nat.reduceLT, Nat.reduceMul, Int.toNat_one, Int.toNat_zero, v_tupL g1]
    exact ⟨jw, ls, _, rfl, by omega, sm⟩
end Ex

set_option Elab.async false
set_option linter.all false
set_option maxRecDepth 100000
set_option maxHeartbeats 4000000
set_option autoImplicit false
namespace Ex
open PySem L2 Mi
theorem gj_sub {μ : Mem} {n : Nat} {ls : List (Str × Str)} {xs : List W} (h : ∀ x ∈ xs, x ∈ ls.map lw) (hz : xs.length < 1000) (sm : Sm ls) : Gj n μ 5 (.tup xs) := by
  refine Gj.tup (k := 4) (by omega) fun x hx => ?_
  obtain ⟨p, hp, rfl⟩ := List.mem_map.mp (h x hx)
  refine Gj.tup (k := 3) (by simp) fun y hy => ?_
  rcases List.mem_cons.mp hy with rfl | hy
  · exact (sm p hp).1
  · rw [List.mem_singleton.mp hy]
    exact (sm p hp).2
theorem gj_lw {μ : Mem} {n : Nat} {ls : List (Str × Str)} (sm : Sm ls) {x : W} (h : x ∈ ls.map lw) : Gj n μ 4 x := by
  obtain ⟨p, hp, rfl⟩ := List.mem_map.mp h
  refine Gj.tup (k := 3) (by simp) fun y hy => ?_
  rcases List.mem_cons.mp hy with rfl | hy
  · exact (sm p hp).1
  · rw [List.mem_singleton.mp hy]
    exact (sm p hp).2
def AllG (n : Nat) (μ : Mem) (d : Nat) (xs : List W) : Prop := ∀ x ∈ xs, Gj n μ d x
theorem AllG.mv {n d : Nat} {μ μ' : Mem} {xs : List W} (h : AllG n μ d xs) (f : Fr [n] μ μ') : AllG n μ' d xs := fun x hx => (h x hx).mv f
theorem odd_j {μ : Mem} {n : Nat} {ls : List (Str × Str)} (j : Jar n μ) (hl : ls.length ≤ 12) (sm : Sm ls) : Rw (g__law_odd [.loc n, .tup (ls.map lw)] μ) fun w μ' => Jw n μ μ' ∧ VlJ n μ' w := by
  unfold g__law_odd b__law_odd
  rw [wp_fn, fs_seq]
  refine Fw.imp (D := { nx := fun δ μ' => ∃ r : Nat, r ≤ ls.length ∧ δ = [some (.loc n), some (.tup (ls.map lw)), some (.int (r : Int)), none, none] ∧ Jw n μ μ' }) ?_ ?_ (fun _ _ h => h.elim) (fun _ _ h => h.elim) (fun _ _ h => h.elim)
  · simp only [two_eq, wo_addT, v_ipAdd, v_ipSub, wp_get2, rp_nil, rp_cons, wp_dict, isDct_new, ri_enumT, v_isNN, v_isNL, v_isNotN, v_isNotL, wp_fn, startW, wp_call, wp_C, wp_V, wp_bin, wp_un, wp_and, wp_or, wp_not, rt_V, rt_and, rt_or, rt_not, rt_bl, rt_yes, wp_if, wp_chain, ra_nil, ra_cons, wp_tup, wp_lst, wp_cb, wp_mt, wp_dict0, wp_sl, ro_none, ro_some, fs_seq, fs_nil, fs_brk, fs_cnt, fs_expr, fs_ret, fs_retN, fs_if, fs_set, fs_par, fs_asg, fs_sub, fs_aug, ri_val, ri_args, wp_some, wp_ok, wp_bind, List.map_cons, List.map_nil, List.length_cons, List.length_nil, List.replicate, List.cons_append, List.nil_append, List.getElem?_cons_zero, List.getElem?_cons_succ, List.set_cons_zero, List.set_cons_succ, Option.some.injEq, exists_eq_left', exists_eq_left, Nat.reduceAdd, Nat.reduceSub, Nat.reduceLeDiff, true_and, W.bl.injEq, W.int.injEq, W.str.injEq, W.tup.injEq, if_true, if_false, Bool.false_eq_true, Bool.not_true, Bool.not_false, truth_bl, truth_int, truth_tup, v_addI, v_subI, v_mod, v_fdiv, v_neg, v_lt, v_le, v_gt, v_ge, v_cint, v_cintB, v_cabs, v_cmax, v_cmin, v_lenT, v_lenF, v_ixT, v_ixF, v_revT, v_cutT, v_tupT, v_listT, v_eqI, v_neI, v_eqS, v_neS, Option.map_some, decide_eq_true_eq, decide_true, decide_false, and_self, and_true, Int.reduceToNat, Int.reduceNeg, Int.reduceLT, Int.reduceLE, Int.reduceAdd, Int.reduceSub, Int.reduceMul, Int.reduceBEq, Int.reduceBNe, Nat.reduceLT, Nat.reduceMul, Int.toNat_one, Int.toNat_zero]
    refine (toss_j j (by omega) (by rw [List.length_map]; omega)).imp ?_
    rintro w μ' ⟨r, rfl, hr, jw⟩
    rw [List.length_map] at hr
    exact ⟨r, by omega, rfl, jw⟩
  rintro δ μ1 ⟨r, hr, rfl, jw⟩
  dsimp only
  rw [fs_seq]
  refine Fw.imp (D := { nx := fun δ μ' => ∃ kb xs, δ = [some (.loc n), some (.tup (ls.map lw)), some (.int (r : Int)), some (.loc kb), none] ∧ getL μ' kb = some xs ∧ kb ≠ n ∧ 0 < xs.length ∧ xs.length < 1000 ∧ AllG n μ' 5 xs ∧ Jw n μ μ' }) ?_ ?_ (fun _ _ h => h.elim) (fun _ _ h => h.elim) (fun _ _ h => h.elim)
  · simp only [two_eq, wo_addT, v_ipAdd, v_ipSub, wp_get2, rp_nil, rp_cons, wp_dict, isDct_new, ri_enumT, v_isNN, v_isNL, v_isNotN, v_isNotL, wp_fn, startW, wp_call, wp_C, wp_V, wp_bin, wp_un, wp_and, wp_or, wp_not, rt_V, rt_and, rt_or, rt_not, rt_bl, rt_yes, wp_if, wp_chain, ra_nil, ra_cons, wp_tup, wp_lst, wp_cb, wp_mt, wp_dict0, wp_sl, ro_none, ro_some, fs_seq, fs_nil, fs_brk, fs_cnt, fs_expr, fs_ret, fs_retN, fs_if, fs_set, fs_par, fs_asg, fs_sub, fs_aug, ri_val, ri_args, wp_some, wp_ok, wp_bind, List.map_cons, List.map_nil, List.length_cons, List.length_nil, List.replicate, List.cons_append, List.nil_append, List.getElem?_cons_zero, List.getElem?_cons_succ, List.set_cons_zero, List.set_cons_succ, Option.some.injEq, exists_eq_left', exists_eq_left, Nat.reduceAdd, Nat.reduceSub, Nat.reduceLeDiff, true_and, W.bl.injEq, W.int.injEq, W.str.injEq, W.tup.injEq, if_true, if_false, Bool.false_eq_true, Bool.not_true, Bool.not_false, truth_bl, truth_int, truth_tup, v_addI, v_subI, v_mod, v_fdiv, v_neg, v_lt, v_le, v_gt, v_ge, v_cint, v_cintB, v_cabs, v_cmax, v_cmin, v_lenT, v_lenF, v_ixT, v_ixF, v_revT, v_cutT, v_tupT, v_listT, v_eqI, v_neI, v_eqS, v_neS, Option.map_some, decide_eq_true_eq, decide_true, decide_false, and_self, and_true, Int.reduceToNat, Int.reduceNeg, Int.reduceLT, Int.reduceLE, Int.reduceAdd, Int.reduceSub, Int.reduceMul, Int.reduceBEq, Int.reduceBNe, Nat.reduceLT, Nat.reduceMul, Int.toNat_one, Int.toNat_zero]
    have lt := jw.jar.lt
    refine ⟨_, _, rfl, getL_new, by simp; omega, by simp, by simp, ?_, (jw.app _).app _⟩
    intro x hx
    simp only [List.mem_cons, List.not_mem_nil, or_false] at hx
    have gl : getL ((μ1 ++ [.lst [.str "say", .str "p"]]) ++ [.lst [.non, .tup [], .tup [.str "say"], .tup [.str "say", .str "A"], .tup [.str "say", .str "abcdefghi"], .tup [.str "tell", .str "p"], .loc μ1.length, .tup [.str "in", .int 1], .str "say", .int 0]]) μ1.length = some [.str "say", .str "p"] := getL_app getL_new
    have gs : ∀ y ∈ [W.str "say", W.str "p"], Gj n ((μ1 ++ [.lst [.str "say", .str "p"]]) ++ [.lst [.non, .tup [], .tup [.str "say"], .tup [.str "say", .str "A"], .tup [.str "say", .str "abcdefghi"], .tup [.str "tell", .str "p"], .loc μ1.length, .tup [.str "in", .int 1], .str "say", .int 0]]) 4 y := by
      intro y hy
      rcases List.mem_cons.mp hy with rfl | hy
      · exact gdB_gj (by decide +kernel)
      · rw [List.mem_singleton.mp hy]
        exact gdB_gj (by decide +kernel)
    have gloc := Gj.loc gl (Nat.ne_of_gt lt) (by decide) gs
    rcases hx with rfl | rfl | rfl | rfl | rfl | rfl | rfl | rfl | rfl | rfl
    all_goals first
      | exact gdB_gj (by decide +kernel)
      | exact gloc
  rintro δ μ2 ⟨kb, xs, rfl, gb, hb, x0, x1, gx, jw⟩
  dsimp only
  rw [fs_seq]
  have hk1 : (r : Int) + 1 = ((r + 1 : Nat) : Int) := rfl
  refine Fw.imp (D := { nx := fun δ μ' => ∃ ks ys, δ = [some (.loc n), some (.tup (ls.map lw)), some (.int (r : Int)), some (.loc kb), some (.loc ks)] ∧ getL μ' ks = some ys ∧ ks ≠ n ∧ ys.length = 4 ∧ AllG n μ' 5 ys ∧ getL μ' kb = some xs ∧ AllG n μ' 5 xs ∧ Jw n μ μ' }) ?_ ?_ (fun _ _ h => h.elim) (fun _ _ h => h.elim) (fun _ _ h => h.elim)
  · have hM : ∀ μ, opMul (.tup (((ls.map lw).take (r + 1)).drop r)) (.int 2) μ = some (.tup (List.replicate 2 (((ls.map lw).take (r + 1)).drop r)).flatten, μ) := fun μ => v_mulT ⟨by decide, by decide, by simp; omega⟩
    simp only [two_eq, wo_addT, v_ipAdd, v_ipSub, wp_get2, rp_nil, rp_cons, wp_dict, isDct_new, ri_enumT, v_isNN, v_isNL, v_isNotN, v_isNotL, wp_fn, startW, wp_call, wp_C, wp_V, wp_bin, wp_un, wp_and, wp_or, wp_not, rt_V, rt_and, rt_or, rt_not, rt_bl, rt_yes, wp_if, wp_chain, ra_nil, ra_cons, wp_tup, wp_lst, wp_cb, wp_mt, wp_dict0, wp_sl, ro_none, ro_some, fs_seq, fs_nil, fs_brk, fs_cnt, fs_expr, fs_ret, fs_retN, fs_if, fs_set, fs_par, fs_asg, fs_sub, fs_aug, ri_val, ri_args, wp_some, wp_ok, wp_bind, List.map_cons, List.map_nil, List.length_cons, List.length_nil, List.replicate, List.cons_append, List.nil_append, List.getElem?_cons_zero, List.getElem?_cons_succ, List.set_cons_zero, List.set_cons_succ, Option.some.injEq, exists_eq_left', exists_eq_left, Nat.reduceAdd, Nat.reduceSub, Nat.reduceLeDiff, true_and, W.bl.injEq, W.int.injEq, W.str.injEq, W.tup.injEq, if_true, if_false, Bool.false_eq_true, Bool.not_true, Bool.not_false, truth_bl, truth_int, truth_tup, v_addI, v_subI, v_mod, v_fdiv, v_neg, v_lt, v_le, v_gt, v_ge, v_cint, v_cintB, v_cabs, v_cmax, v_cmin, v_lenT, v_lenF, v_ixT, v_ixF, v_revT, v_cutT, v_tupT, v_listT, v_eqI, v_neI, v_eqS, v_neS, Option.map_some, decide_eq_true_eq, decide_true, decide_false, and_self, and_true, Int.reduceToNat, Int.reduceNeg, Int.reduceLT, Int.reduceLE, Int.reduceAdd, Int.reduceSub, Int.reduceMul, Int.reduceBEq, Int.reduceBNe, Nat.reduceLT, Nat.reduceMul, Int.toNat_one, Int.toNat_zero, hk1, cut_to, cut_from, cut_mid, hM]
    have lt := jw.jar.lt
    have zl : (ls.map lw).length ≤ 12 := by rw [List.length_map]; exact hl
    have z1 : ((ls.map lw).take r).length ≤ 12 := by simp; omega
    have z2 : ((ls.map lw).drop (r + 1)).length ≤ 12 := by simp; omega
    have z3 : (((ls.map lw).take (r + 1)).drop r).length ≤ 12 := by simp; omega
    have z4 : [((ls.map lw).take (r + 1)).drop r, ((ls.map lw).take (r + 1)).drop r].flatten.length ≤ 24 := by
      simp only [List.flatten_cons, List.flatten_nil, List.append_nil, List.length_append]
      omega
    refine ⟨by omega, by omega, by rw [List.length_append]; omega, _, _, rfl, getL_new, by omega, rfl, ?_, getL_app gb, gx.mv (Fr.app _ _ _), jw.app _⟩
    have m1 : ∀ x ∈ (ls.map lw).take r, x ∈ ls.map lw := fun x h => List.mem_of_mem_take h
    have m2 : ∀ x ∈ (ls.map lw).drop (r + 1), x ∈ ls.map lw := fun x h => List.mem_of_mem_drop h
    have m3 : ∀ x ∈ ((ls.map lw).take (r + 1)).drop r, x ∈ ls.map lw := fun x h => List.mem_of_mem_take (List.mem_of_mem_drop h)
    intro x hx
    simp only [List.mem_cons, List.not_mem_nil, or_false] at hx
    rcases hx with rfl | rfl | rfl | rfl
    · exact gj_sub m1 (by omega) sm
    · exact gj_sub (fun x h => List.mem_of_mem_drop h) (by rw [List.length_drop]; omega) sm
    · refine gj_sub (fun x h => ?_) (by rw [List.length_append]; omega) sm
      rcases List.mem_append.mp h with h | h
      · exact m1 x h
      · exact m2 x h
    · refine gj_sub (fun x h => ?_) (by rw [List.length_append, List.length_append]; omega) sm
      rcases List.mem_append.mp h with h | h
      · rcases List.mem_append.mp h with h | h
        · exact m1 x h
        · simp only [List.flatten_cons, List.flatten_nil, List.append_nil, List.mem_append, or_self] at h
          exact m3 x h
      · exact m2 x h
  rintro δ μ3 ⟨ks, ys, rfl, gs, hks, yl, gy, gb, gx, jw⟩
  dsimp only
  rw [fs_seq]
  refine Fw.imp (D := { nx := fun δ μ' => ∃ ks ys, δ = [some (.loc n), some (.tup (ls.map lw)), some (.int (r : Int)), some (.loc kb), some (.loc ks)] ∧ getL μ' ks = some ys ∧ ks ≠ n ∧ ys.length = 8 ∧ AllG n μ' 7 ys ∧ Jw n μ μ' }) ?_ ?_ (fun _ _ h => h.elim) (fun _ _ h => h.elim) (fun _ _ h => h.elim)
  · simp only [two_eq, wo_addT, v_ipAdd, v_ipSub, wp_get2, rp_nil, rp_cons, wp_dict, isDct_new, ri_enumT, v_isNN, v_isNL, v_isNotN, v_isNotL, wp_fn, startW, wp_call, wp_C, wp_V, wp_bin, wp_un, wp_and, wp_or, wp_not, rt_V, rt_and, rt_or, rt_not, rt_bl, rt_yes, wp_if, wp_chain, ra_nil, ra_cons, wp_tup, wp_lst, wp_cb, wp_mt, wp_dict0, wp_sl, ro_none, ro_some, fs_seq, fs_nil, fs_brk, fs_cnt, fs_expr, fs_ret, fs_retN, fs_if, fs_set, fs_par, fs_asg, fs_sub, fs_aug, ri_val, ri_args, wp_some, wp_ok, wp_bind, List.map_cons, List.map_nil, List.length_cons, List.length_nil, List.replicate, List.cons_append, List.nil_append, List.getElem?_cons_zero, List.getElem?_cons_succ, List.set_cons_zero, List.set_cons_succ, Option.some.injEq, exists_eq_left', exists_eq_left, Nat.reduceAdd, Nat.reduceSub, Nat.reduceLeDiff, true_and, W.bl.injEq, W.int.injEq, W.str.injEq, W.tup.injEq, if_true, if_false, Bool.false_eq_true, Bool.not_true, Bool.not_false, truth_bl, truth_int, truth_tup, v_addI, v_subI, v_mod, v_fdiv, v_neg, v_lt, v_le, v_gt, v_ge, v_cint, v_cintB, v_cabs, v_cmax, v_cmin, v_lenT, v_lenF, v_ixT, v_ixF, v_revT, v_cutT, v_tupT, v_listT, v_eqI, v_neI, v_eqS, v_neS, Option.map_some, decide_eq_true_eq, decide_true, decide_false, and_self, and_true, Int.reduceToNat, Int.reduceNeg, Int.reduceLT, Int.reduceLE, Int.reduceAdd, Int.reduceSub, Int.reduceMul, Int.reduceBEq, Int.reduceBNe, Nat.reduceLT, Nat.reduceMul, Int.toNat_one, Int.toNat_zero, cut_to, cut_from]
    have lt := jw.jar.lt
    have gs := getL_app (j := [.lst (ls.map lw)]) gs
    have gb := getL_app (j := [.lst (ls.map lw)]) gb
    have gv : getL (μ3 ++ [.lst (ls.map lw)]) μ3.length = some (ls.map lw) := getL_new
    have gx := gx.mv (Fr.app [n] μ3 [.lst (ls.map lw)])
    have gy := gy.mv (Fr.app [n] μ3 [.lst (ls.map lw)])
    have jw := jw.app [.lst (ls.map lw)]
    have hv : μ3.length ≠ n := by omega
    generalize μ3 ++ [.lst (ls.map lw)] = μ4 at gs gb gv gx gy jw ⊢
    generalize μ3.length = kv at gv hv ⊢
    refine (pick_j jw.jar gb hb x0 (by omega)).imp ?_
    rintro w1 μ5 ⟨hw1, jw5⟩
    have g1 := (gx w1 hw1).mv jw5.fr
    have gs := jw5.getL gs hks
    have gb := jw5.getL gb hb
    have gv := jw5.getL gv hv
    have gx := gx.mv jw5.fr
    have gy := gy.mv jw5.fr
    have jw := jw.trans jw5
    have zl : (ls.map lw).length ≤ 12 := by rw [List.length_map]; exact hl
    have z1 : ((ls.map lw).take r).length ≤ 12 := by simp; omega
    have z2 : ((ls.map lw).drop r).length ≤ 12 := by simp; omega
    refine ⟨by omega, by rw [List.length_append]; simp only [List.length_cons, List.length_nil]; omega, ?_⟩
    refine (pick_j jw.jar gb hb x0 (by omega)).imp ?_
    rintro w2 μ6 ⟨hw2, jw6⟩
    have g2 := (gx w2 hw2).mv jw6.fr
    have g1 := g1.mv jw6.fr
    have gs := jw6.getL gs hks
    have gv := jw6.getL gv hv
    have gy := gy.mv jw6.fr
    have jw := jw.trans jw6
    have lt := jw.jar.lt
    simp only [two_eq, wo_addT, v_ipAdd, v_ipSub, wp_get2, rp_nil, rp_cons, wp_dict, isDct_new, ri_enumT, v_isNN, v_isNL, v_isNotN, v_isNotL, wp_fn, startW, wp_call, wp_C, wp_V, wp_bin, wp_un, wp_and, wp_or, wp_not, rt_V, rt_and, rt_or, rt_not, rt_bl, rt_yes, wp_if, wp_chain, ra_nil, ra_cons, wp_tup, wp_lst, wp_cb, wp_mt, wp_dict0, wp_sl, ro_none, ro_some, fs_seq, fs_nil, fs_brk, fs_cnt, fs_expr, fs_ret, fs_retN, fs_if, fs_set, fs_par, fs_asg, fs_sub, fs_aug, ri_val, ri_args, wp_some, wp_ok, wp_bind, List.map_cons, List.map_nil, List.length_cons, List.length_nil, List.replicate, List.cons_append, List.nil_append, List.getElem?_cons_zero, List.getElem?_cons_succ, List.set_cons_zero, List.set_cons_succ, Option.some.injEq, exists_eq_left', exists_eq_left, Nat.reduceAdd, Nat.reduceSub, Nat.reduceLeDiff, true_and, W.bl.injEq, W.int.injEq, W.str.injEq, W.tup.injEq, if_true, if_false, Bool.false_eq_true, Bool.not_true, Bool.not_false, truth_bl, truth_int, truth_tup, v_addI, v_subI, v_mod, v_fdiv, v_neg, v_lt, v_le, v_gt, v_ge, v_cint, v_cintB, v_cabs, v_cmax, v_cmin, v_lenT, v_lenF, v_ixT, v_ixF, v_revT, v_cutT, v_tupT, v_listT, v_eqI, v_neI, v_eqS, v_neS, Option.map_some, decide_eq_true_eq, decide_true, decide_false, and_self, and_true, Int.reduceToNat, Int.reduceNeg, Int.reduceLT, Int.reduceLE, Int.reduceAdd, Int.reduceSub, Int.reduceMul, Int.reduceBEq, Int.reduceBNe, Nat.reduceLT, Nat.reduceMul, Int.toNat_one, Int.toNat_zero, v_addL (ys := [W.tup (ls.map lw).reverse, W.loc kv, W.tup ((ls.map lw).take r ++ [w1] ++ (ls.map lw).drop r), w2]) (getL_app gs) getL_new (by simp only [List.length_cons, List.length_nil]; omega)]
    generalize hn1 : [MO.lst [W.tup (ls.map lw).reverse, W.loc kv, W.tup ((ls.map lw).take r ++ [w1] ++ (ls.map lw).drop r), w2]] = n1
    generalize hn2 : [MO.lst (ys ++ [W.tup (ls.map lw).reverse, W.loc kv, W.tup ((ls.map lw).take r ++ [w1] ++ (ls.map lw).drop r), w2])] = n2
    refine ⟨_, _, rfl, by rw [← hn2]; exact getL_new, by rw [List.length_append]; omega, by simp [yl], ?_, (jw.app _).app _⟩
    have f : Fr [n] μ6 (μ6 ++ n1 ++ n2) := (Fr.app [n] μ6 n1).trans (Fr.app [n] _ n2)
    intro x hx
    rcases List.mem_append.mp hx with hx | hx
    · exact ((gy x hx).mv f).up (by decide)
    · simp only [List.mem_cons, List.not_mem_nil, or_false] at hx
      rcases hx with rfl | rfl | rfl | rfl
      · exact (gj_sub (fun x h => List.mem_reverse.mp h) (by rw [List.length_reverse]; omega) sm).up (by decide)
      · exact (Gj.loc (f.getL gv (by simpa using hv)) hv (by omega) fun x hx => gj_lw sm hx).up (by decide)
      · refine Gj.tup (k := 6) (by rw [List.length_append, List.length_append]; simp only [List.length_cons, List.length_nil]; omega) fun x hx => ?_
        rcases List.mem_append.mp hx with hx | hx
        · rcases List.mem_append.mp hx with hx | hx
          · exact (gj_lw sm (List.mem_of_mem_take hx)).up (by decide)
          · rw [List.mem_singleton.mp hx]
            exact (g1.mv f).up (by decide)
        · exact (gj_lw sm (List.mem_of_mem_drop hx)).up (by decide)
      · exact (g2.mv f).up (by decide)
  rintro δ μ4 ⟨ks, ys, rfl, gs, hks, yl, gy, jw⟩
  dsimp only
  simp only [two_eq, wo_addT, v_ipAdd, v_ipSub, wp_get2, rp_nil, rp_cons, wp_dict, isDct_new, ri_enumT, v_isNN, v_isNL, v_isNotN, v_isNotL, wp_fn, startW, wp_call, wp_C, wp_V, wp_bin, wp_un, wp_and, wp_or, wp_not, rt_V, rt_and, rt_or, rt_not, rt_bl, rt_yes, wp_if, wp_chain, ra_nil, ra_cons, wp_tup, wp_lst, wp_cb, wp_mt, wp_dict0, wp_sl, ro_none, ro_some, fs_seq, fs_nil, fs_brk, fs_cnt, fs_expr, fs_ret, fs_retN, fs_if, fs_set, fs_par, fs_asg, fs_sub, fs_aug, ri_val, ri_args, wp_some, wp_ok, wp_bind, List.map_cons, List.map_nil, List.length_cons, List.length_nil, List.replicate, List.cons_append, List.nil_append, List.getElem?_cons_zero, List.getElem?_cons_succ, List.set_cons_zero, List.set_cons_succ, Option.some.injEq, exists_eq_left', exists_eq_left, Nat.reduceAdd, Nat.reduceSub, Nat.reduceLeDiff, true_and, W.bl.injEq, W.int.injEq, W.str.injEq, W.tup.injEq, if_true, if_false, Bool.false_eq_true, Bool.not_true, Bool.not_false, truth_bl, truth_int, truth_tup, v_addI, v_subI, v_mod, v_fdiv, v_neg, v_lt, v_le, v_gt, v_ge, v_cint, v_cintB, v_cabs, v_cmax, v_cmin, v_lenT, v_lenF, v_ixT, v_ixF, v_revT, v_cutT, v_tupT, v_listT, v_eqI, v_neI, v_eqS, v_neS, Option.map_some, decide_eq_true_eq, decide_true, decide_false, and_self, and_true, Int.reduceToNat, Int.reduceNeg, Int.reduceLT, Int.reduceLE, Int.reduceAdd, Int.reduceSub, Int.reduceMul, Int.reduceBEq, Int.reduceBNe, Nat.reduceLT, Nat.reduceMul, Int.toNat_one, Int.toNat_zero]
  have zl : (ls.map lw).length ≤ 12 := by rw [List.length_map]; exact hl
  refine ⟨by omega, by omega, ?_⟩
  have gs := getL_app (j := [.dct []]) gs
  have gy := gy.mv (Fr.app [n] μ4 [.dct []])
  have gd : (μ4 ++ [MO.dct []])[μ4.length]? = some (.dct []) := by simp
  have hd : μ4.length ≠ n := Nat.ne_of_gt jw.jar.lt
  have jw := jw.app [.dct []]
  generalize μ4 ++ [MO.dct []] = μ5 at gs gy gd jw ⊢
  generalize μ4.length = kd at gd hd ⊢
  simp only [two_eq, wo_addT, v_ipAdd, v_ipSub, wp_get2, rp_nil, rp_cons, wp_dict, isDct_new, ri_enumT, v_isNN, v_isNL, v_isNotN, v_isNotL, wp_fn, startW, wp_call, wp_C, wp_V, wp_bin, wp_un, wp_and, wp_or, wp_not, rt_V, rt_and, rt_or, rt_not, rt_bl, rt_yes, wp_if, wp_chain, ra_nil, ra_cons, wp_tup, wp_lst, wp_cb, wp_mt, wp_dict0, wp_sl, ro_none, ro_some, fs_seq, fs_nil, fs_brk, fs_cnt, fs_expr, fs_ret, fs_retN, fs_if, fs_set, fs_par, fs_asg, fs_sub, fs_aug, ri_val, ri_args, wp_some, wp_ok, wp_bind, List.map_cons, List.map_nil, List.length_cons, List.length_nil, List.replicate, List.cons_append, List.nil_append, List.getElem?_cons_zero, List.getElem?_cons_succ, List.set_cons_zero, List.set_cons_succ, Option.some.injEq, exists_eq_left', exists_eq_left, Nat.reduceAdd, Nat.reduceSub, Nat.reduceLeDiff, true_and, W.bl.injEq, W.int.injEq, W.str.injEq, W.tup.injEq, if_true, if_false, Bool.false_eq_true, Bool.not_true, Bool.not_false, truth_bl, truth_int, truth_tup, v_addI, v_subI, v_mod, v_fdiv, v_neg, v_lt, v_le, v_gt, v_ge, v_cint, v_cintB, v_cabs, v_cmax, v_cmin, v_lenT, v_lenF, v_ixT, v_ixF, v_revT, v_cutT, v_tupT, v_listT, v_eqI, v_neI, v_eqS, v_neS, Option.map_some, decide_eq_true_eq, decide_true, decide_false, and_self, and_true, Int.reduceToNat, Int.reduceNeg, Int.reduceLT, Int.reduceLE, Int.reduceAdd, Int.reduceSub, Int.reduceMul, Int.reduceBEq, Int.reduceBNe, Nat.reduceLT, Nat.reduceMul, Int.toNat_one, Int.toNat_zero, v_addL (ys := [W.tup (W.tup [W.str "in", W.str "p"] :: ls.map lw), W.tup (ls.map lw ++ [W.tup [W.str "out", W.str "p"]]), W.loc kd, W.bl true, W.str "abc"]) (getL_app gs) getL_new (by simp only [List.length_cons, List.length_nil]; omega)]
  have lt := jw.jar.lt
  generalize hn1 : [MO.lst [W.tup (W.tup [W.str "in", W.str "p"] :: ls.map lw), W.tup (ls.map lw ++ [W.tup [W.str "out", W.str "p"]]), W.loc kd, W.bl true, W.str "abc"]] = n1
  have f1 : Fr [n] μ5 (μ5 ++ n1) := Fr.app [n] μ5 n1
  have jw := jw.app n1
  have l1 : μ5.length ≤ (μ5 ++ n1).length := f1.len
  generalize μ5 ++ n1 = μ6 at f1 jw l1 ⊢
  refine (pick_j (jw.jar.app _) getL_new (by omega) (by simp) (by simp [yl])).imp ?_
  rintro w μ7 ⟨hw, jw7⟩
  have f6 : Fr [n] μ5 μ7 := (f1.trans (Fr.app [n] μ6 _)).trans jw7.fr
  refine ⟨(jw.app _).trans jw7, ?_⟩
  rcases List.mem_append.mp hw with hw | hw
  · exact .inl (((gy w hw).mv f6).up (by decide))
  · simp only [List.mem_cons, List.not_mem_nil, or_false] at hw
    rcases hw with rfl | rfl | rfl | rfl | rfl
    · refine .inl (Gj.up (k := 5) (Gj.tup (k := 4) (by simp; omega) fun x hx => ?_) (by decide))
      rcases List.mem_cons.mp hx with rfl | hx
      · exact gdB_gj (by decide +kernel)
      · exact gj_lw sm hx
    · refine .inl (Gj.up (k := 5) (Gj.tup (k := 4) (by simp; omega) fun x hx => ?_) (by decide))
      rcases List.mem_append.mp hx with hx | hx
      · exact gj_lw sm hx
      · rw [List.mem_singleton.mp hx]
        exact gdB_gj (by decide +kernel)
    · exact .inr ⟨kd, [], hd, rfl, f6.at_ _ _ gd (by simpa using hd)⟩
    · exact .inl (gdB_gj (by decide +kernel))
    · exact .inl (gdB_gj (by decide +kernel))
end Ex

set_option Elab.async false
set_option linter.all false
set_option maxRecDepth 100000
set_option maxHeartbeats 4000000
set_option autoImplicit false
namespace Ex
open PySem L2 Mi
/-- a loop over a list made just now -/
theorem for_w' {mi : Sl → Mem → R Src} {T : Tg} {body : Sl → Mem → F} {δ : Sl} {μ : Mem} {D : En} {P : List W → Mem → Prop} (hm : Rw (mi δ μ) fun s μ1 => ∃ k ys, s = .dyn (getAt k) ∧ getL μ1 k = some ys ∧ P ys μ1)
    (go : ∀ k ys μ1, getL μ1 k = some ys → P ys μ1 → Fw (forL T body (getAt k) 1000000 0 δ μ1) D) : Fw (sFor mi T body δ μ) D := by
  rw [fs_for]
  refine hm.imp ?_
  rintro s μ1 ⟨k, ys, rfl, hk, hp⟩
  exact go k ys μ1 hk hp
theorem right_j {μ : Mem} {n : Nat} (j : Jar n μ) : Rw (g__law_right [.loc n] μ) fun w μ' => w = .bl true := by
  unfold g__law_right b__law_right
  simp only [two_eq, wo_addT, v_ipAdd, v_ipSub, wp_get2, rp_nil, rp_cons, wp_dict, isDct_new, ri_enumT, v_isNN, v_isNL, v_isNotN, v_isNotL, wp_fn, startW, wp_call, wp_C, wp_V, wp_bin, wp_un, wp_and, wp_or, wp_not, rt_V, rt_and, rt_or, rt_not, rt_bl, rt_yes, wp_if, wp_chain, ra_nil, ra_cons, wp_tup, wp_lst, wp_cb, wp_mt, wp_dict0, wp_sl, ro_none, ro_some, fs_seq, fs_nil, fs_brk, fs_cnt, fs_expr, fs_ret, fs_retN, fs_if, fs_set, fs_par, fs_asg, fs_sub, fs_aug, ri_val, ri_args, wp_some, wp_ok, wp_bind, List.map_cons, List.map_nil, List.length_cons, List.length_nil, List.replicate, List.cons_append, List.nil_append, List.getElem?_cons_zero, List.getElem?_cons_succ, List.set_cons_zero, List.set_cons_succ, Option.some.injEq, exists_eq_left', exists_eq_left, Nat.reduceAdd, Nat.reduceSub, Nat.reduceLeDiff, true_and, W.bl.injEq, W.int.injEq, W.str.injEq, W.tup.injEq, if_true, if_false, Bool.false_eq_true, Bool.not_true, Bool.not_false, truth_bl, truth_int, truth_tup, v_addI, v_subI, v_mod, v_fdiv, v_neg, v_lt, v_le, v_gt, v_ge, v_cint, v_cintB, v_cabs, v_cmax, v_cmin, v_lenT, v_lenF, v_ixT, v_ixF, v_revT, v_cutT, v_tupT, v_listT, v_eqI, v_neI, v_eqS, v_neS, Option.map_some, decide_eq_true_eq, decide_true, decide_false, and_self, and_true, Int.reduceToNat, Int.reduceNeg, Int.reduceLT, Int.reduceLE, Int.reduceAdd, Int.reduceSub, Int.reduceMul, Int.reduceBEq, Int.reduceBNe, Nat.reduceLT, Nat.reduceMul, Int.toNat_one, Int.toNat_zero]
  refine (toss_j j (by decide) (by decide)).imp ?_
  rintro w μ1 ⟨size, rfl, hs, jw1⟩
  refine (lines_j jw1.jar (by omega)).imp ?_
  rintro w μ2 ⟨jw2, ls, kh, rfl, hl, sm⟩
  have jw := jw1.trans jw2
  refine ⟨_, rfl, ?_⟩
  have lt := jw.jar.lt
  refine for_w' (P := fun ys μ' => (∀ x ∈ ys, VlJ n μ' x) ∧ ys.length < 1000000) ?_ ?_
  · simp only [two_eq, wo_addT, v_ipAdd, v_ipSub, wp_get2, rp_nil, rp_cons, wp_dict, isDct_new, ri_enumT, v_isNN, v_isNL, v_isNotN, v_isNotL, wp_fn, startW, wp_call, wp_C, wp_V, wp_bin, wp_un, wp_and, wp_or, wp_not, rt_V, rt_and, rt_or, rt_not, rt_bl, rt_yes, wp_if, wp_chain, ra_nil, ra_cons, wp_tup, wp_lst, wp_cb, wp_mt, wp_dict0, wp_sl, ro_none, ro_some, fs_seq, fs_nil, fs_brk, fs_cnt, fs_expr, fs_ret, fs_retN, fs_if, fs_set, fs_par, fs_asg, fs_sub, fs_aug, ri_val, ri_args, wp_some, wp_ok, wp_bind, List.map_cons, List.map_nil, List.length_cons, List.length_nil, List.replicate, List.cons_append, List.nil_append, List.getElem?_cons_zero, List.getElem?_cons_succ, List.set_cons_zero, List.set_cons_succ, Option.some.injEq, exists_eq_left', exists_eq_left, Nat.reduceAdd, Nat.reduceSub, Nat.reduceLeDiff, true_and, W.bl.injEq, W.int.injEq, W.str.injEq, W.tup.injEq, if_true, if_false, Bool.false_eq_true, Bool.not_true, Bool.not_false, truth_bl, truth_int, truth_tup, v_addI, v_subI, v_mod, v_fdiv, v_neg, v_lt, v_le, v_gt, v_ge, v_cint, v_cintB, v_cabs, v_cmax, v_cmin, v_lenT, v_lenF, v_ixT, v_ixF, v_revT, v_cutT, v_tupT, v_listT, v_eqI, v_neI, v_eqS, v_neS, Option.map_some, decide_eq_true_eq, decide_true, decide_false, and_self, and_true, Int.reduceToNat, Int.reduceNeg, Int.reduceLT, Int.reduceLE, Int.reduceAdd, Int.reduceSub, Int.reduceMul, Int.reduceBEq, Int.reduceBNe, Nat.reduceLT, Nat.reduceMul, Int.toNat_one, Int.toNat_zero]
    have zl : (ls.map lw).length ≤ 12 := by rw [List.length_map]; exact hl
    refine ⟨by omega, ?_⟩
    generalize hn1 : [MO.lst [W.tup (ls.map lw), W.tup (W.tup [W.str "in", W.str "p"] :: ls.map lw)]] = n1
    have g3 : getL (μ2 ++ n1) μ2.length = some [W.tup (ls.map lw), W.tup (W.tup [W.str "in", W.str "p"] :: ls.map lw)] := by
      rw [← hn1]
      exact getL_new
    have v3 : ∀ x ∈ [W.tup (ls.map lw), W.tup (W.tup [W.str "in", W.str "p"] :: ls.map lw)], VlJ n (μ2 ++ n1) x := by
      intro x hx
      rcases List.mem_cons.mp hx with rfl | hx
      · exact .inl ((gj_sub (fun x h => h) (by omega) sm).up (by decide))
      · rw [List.mem_singleton.mp hx]
        refine .inl (Gj.up (k := 5) (Gj.tup (k := 4) (by simp; omega) fun x hx => ?_) (by decide))
        rcases List.mem_cons.mp hx with rfl | hx
        · exact gdB_gj (by decide +kernel)
        · exact gj_lw sm hx
    have jw := jw.app n1
    have hk : μ2.length ≠ n := Nat.ne_of_gt lt
    generalize μ2 ++ n1 = μ3 at g3 v3 jw ⊢
    generalize μ2.length = k3 at g3 hk ⊢
    rw [wp_lc]
    simp only [two_eq, wo_addT, v_ipAdd, v_ipSub, wp_get2, rp_nil, rp_cons, wp_dict, isDct_new, ri_enumT, v_isNN, v_isNL, v_isNotN, v_isNotL, wp_fn, startW, wp_call, wp_C, wp_V, wp_bin, wp_un, wp_and, wp_or, wp_not, rt_V, rt_and, rt_or, rt_not, rt_bl, rt_yes, wp_if, wp_chain, ra_nil, ra_cons, wp_tup, wp_lst, wp_cb, wp_mt, wp_dict0, wp_sl, ro_none, ro_some, fs_seq, fs_nil, fs_brk, fs_cnt, fs_expr, fs_ret, fs_retN, fs_if, fs_set, fs_par, fs_asg, fs_sub, fs_aug, ri_val, ri_args, wp_some, wp_ok, wp_bind, List.map_cons, List.map_nil, List.length_cons, List.length_nil, List.replicate, List.cons_append, List.nil_append, List.getElem?_cons_zero, List.getElem?_cons_succ, List.set_cons_zero, List.set_cons_succ, Option.some.injEq, exists_eq_left', exists_eq_left, Nat.reduceAdd, Nat.reduceSub, Nat.reduceLeDiff, true_and, W.bl.injEq, W.int.injEq, W.str.injEq, W.tup.injEq, if_true, if_false, Bool.false_eq_true, Bool.not_true, Bool.not_false, truth_bl, truth_int, truth_tup, v_addI, v_subI, v_mod, v_fdiv, v_neg, v_lt, v_le, v_gt, v_ge, v_cint, v_cintB, v_cabs, v_cmax, v_cmin, v_lenT, v_lenF, v_ixT, v_ixF, v_revT, v_cutT, v_tupT, v_listT, v_eqI, v_neI, v_eqS, v_neS, Option.map_some, decide_eq_true_eq, decide_true, decide_false, and_self, and_true, Int.reduceToNat, Int.reduceNeg, Int.reduceLT, Int.reduceLE, Int.reduceAdd, Int.reduceSub, Int.reduceMul, Int.reduceBEq, Int.reduceBNe, Nat.reduceLT, Nat.reduceMul, Int.toNat_one, Int.toNat_zero]
    rw [ri_rng1 (by decide)]
    have comp := compX_w (δ := wipeW [some (.loc n), none, some (.tup (ls.map lw)), some (.loc kh), none, none, none, none] [7]) (T := .nm 7) (tt := tYesM) (te := mCall g__law_odd (aCons (mV 0) (aCons (mV 2) aNil))) (xs := rangeW 0 8) (μ := μ3) (I := fun i acc μ' => acc.length = i ∧ (∀ x ∈ acc, VlJ n μ' x) ∧ Jw n μ3 μ') ⟨rfl, (fun _ h => by cases h), Jw.refl jw.jar⟩ (by
      rintro i x acc μ' hx ⟨h1, h2, h3⟩
      refine ⟨_, rfl, ?_⟩
      simp only [two_eq, wo_addT, v_ipAdd, v_ipSub, wp_get2, rp_nil, rp_cons, wp_dict, isDct_new, ri_enumT, v_isNN, v_isNL, v_isNotN, v_isNotL, wp_fn, startW, wp_call, wp_C, wp_V, wp_bin, wp_un, wp_and, wp_or, wp_not, rt_V, rt_and, rt_or, rt_not, rt_bl, rt_yes, wp_if, wp_chain, ra_nil, ra_cons, wp_tup, wp_lst, wp_cb, wp_mt, wp_dict0, wp_sl, ro_none, ro_some, fs_seq, fs_nil, fs_brk, fs_cnt, fs_expr, fs_ret, fs_retN, fs_if, fs_set, fs_par, fs_asg, fs_sub, fs_aug, ri_val, ri_args, wp_some, wp_ok, wp_bind, List.map_cons, List.map_nil, List.length_cons, List.length_nil, List.replicate, List.cons_append, List.nil_append, List.getElem?_cons_zero, List.getElem?_cons_succ, List.set_cons_zero, List.set_cons_succ, Option.some.injEq, exists_eq_left', exists_eq_left, Nat.reduceAdd, Nat.reduceSub, Nat.reduceLeDiff, true_and, W.bl.injEq, W.int.injEq, W.str.injEq, W.tup.injEq, if_true, if_false, Bool.false_eq_true, Bool.not_true, Bool.not_false, truth_bl, truth_int, truth_tup, v_addI, v_subI, v_mod, v_fdiv, v_neg, v_lt, v_le, v_gt, v_ge, v_cint, v_cintB, v_cabs, v_cmax, v_cmin, v_lenT, v_lenF, v_ixT, v_ixF, v_revT, v_cutT, v_tupT, v_listT, v_eqI, v_neI, v_eqS, v_neS, Option.map_some, decide_eq_true_eq, decide_true, decide_false, and_self, and_true, Int.reduceToNat, Int.reduceNeg, Int.reduceLT, Int.reduceLE, Int.reduceAdd, Int.reduceSub, Int.reduceMul, Int.reduceBEq, Int.reduceBNe, Nat.reduceLT, Nat.reduceMul, Int.toNat_one, Int.toNat_zero, wipeW]
      refine (odd_j h3.jar hl sm).imp ?_
      rintro w μ4 ⟨h4, h5⟩
      refine ⟨by simp [h1], ?_, h3.trans h4⟩
      intro y hy
      rcases List.mem_append.mp hy with hy | hy
      · exact (h2 y hy).mv h4.fr
      · rw [List.mem_singleton.mp hy]
        exact h5)
    obtain ⟨ys, μ4, e, hy, va, jw4⟩ := comp
    rw [rangeW_len] at hy
    refine ⟨ys, μ4, e, by omega, ?_⟩
    have g4 := jw4.getL g3 hk
    simp only [two_eq, wo_addT, v_ipAdd, v_ipSub, wp_get2, rp_nil, rp_cons, wp_dict, isDct_new, ri_enumT, v_isNN, v_isNL, v_isNotN, v_isNotL, wp_fn, startW, wp_call, wp_C, wp_V, wp_bin, wp_un, wp_and, wp_or, wp_not, rt_V, rt_and, rt_or, rt_not, rt_bl, rt_yes, wp_if, wp_chain, ra_nil, ra_cons, wp_tup, wp_lst, wp_cb, wp_mt, wp_dict0, wp_sl, ro_none, ro_some, fs_seq, fs_nil, fs_brk, fs_cnt, fs_expr, fs_ret, fs_retN, fs_if, fs_set, fs_par, fs_asg, fs_sub, fs_aug, ri_val, ri_args, wp_some, wp_ok, wp_bind, List.map_cons, List.map_nil, List.length_cons, List.length_nil, List.replicate, List.cons_append, List.nil_append, List.getElem?_cons_zero, List.getElem?_cons_succ, List.set_cons_zero, List.set_cons_succ, Option.some.injEq, exists_eq_left', exists_eq_left, Nat.reduceAdd, Nat.reduceSub, Nat.reduceLeDiff, true_and, W.bl.injEq, W.int.injEq, W.str.injEq, W.tup.injEq, if_true, if_false, Bool.false_eq_true, Bool.not_true, Bool.not_false, truth_bl, truth_int, truth_tup, v_addI, v_subI, v_mod, v_fdiv, v_neg, v_lt, v_le, v_gt, v_ge, v_cint, v_cintB, v_cabs, v_cmax, v_cmin, v_lenT, v_lenF, v_ixT, v_ixF, v_revT, v_cutT, v_tupT, v_listT, v_eqI, v_neI, v_eqS, v_neS, Option.map_some, decide_eq_true_eq, decide_true, decide_false, and_self, and_true, Int.reduceToNat, Int.reduceNeg, Int.reduceLT, Int.reduceLE, Int.reduceAdd, Int.reduceSub, Int.reduceMul, Int.reduceBEq, Int.reduceBNe, Nat.reduceLT, Nat.reduceMul, Int.toNat_one, Int.toNat_zero, v_addL (getL_app g4) (getL_new (xs := ys)) (by simp; omega)]
    generalize hn2 : [MO.lst ys] = n2
    generalize hn3 : [MO.lst (W.tup (ls.map lw) :: W.tup (W.tup [W.str "in", W.str "p"] :: ls.map lw) :: ys)] = n3
    have gg : getL (μ4 ++ n2 ++ n3) (μ4 ++ n2).length = some ([W.tup (ls.map lw), W.tup (W.tup [W.str "in", W.str "p"] :: ls.map lw)] ++ ys) := by
      rw [← hn3]
      exact getL_new
    have f4 : Fr [n] μ4 (μ4 ++ n2 ++ n3) := (Fr.app [n] μ4 n2).trans (Fr.app [n] _ n3)
    refine ⟨⟨_, gg⟩, _, _, rfl, gg, ?_, by simp; omega⟩
    intro x hx
    rcases List.mem_append.mp hx with hx | hx
    · exact ((v3 x hx).mv jw4.fr).mv f4
    · exact (va x hx).mv f4
  · rintro k ys μ3 hk ⟨hv, hz⟩
    refine forL_w (n := k) (xs := ys) (I := fun i δ μ' => (∃ d0 d1 d2 d3 d4 d5 d6 d7, δ = [d0, d1, d2, d3, d4, d5, d6, d7]) ∧ Fr [] μ3 μ') (fun i δ μ' ⟨_, f⟩ => f.getL hk List.not_mem_nil) hz ⟨⟨_, _, _, _, _, _, _, _, rfl⟩, Fr.refl _ _⟩ ?_ (fun _ _ _ => True.intro)
    rintro i x δ μ4 hx ⟨⟨d0, d1, d2, d3, d4, d5, d6, d7, rfl⟩, f⟩
    refine ⟨_, rfl, ?_⟩
    refine Fw.imp (body_w ((hv x (List.mem_of_getElem? hx)).vl.fr f)) ?_ (fun _ _ h => h.elim) (fun _ _ h => h.elim) (fun _ _ h => h.elim)
    rintro δ' μ5 ⟨⟨e4, e5, e6, rfl⟩, f5⟩
    exact ⟨⟨_, _, _, _, _, _, _, _, rfl⟩, f.trans f5⟩
theorem jar_w {μ : Mem} {ns : List Int} {at_ : Nat} (ha : at_ < 8) : Rw (g__law_jar [.fl (ns.map .int), .int (at_ : Int)] μ) fun w μ' => w = .loc μ.length ∧ Jar μ.length μ' := by
  unfold g__law_jar b__law_jar
  have hp1 : ∀ μ, opPow (.int 10) (.int 59) μ = some (.int (10 ^ 59), μ) := fun μ => v_pow (by decide +kernel)
  have hp2 : ∀ μ, opPow (.int (10 ^ 59)) (.int 9) μ = some (.int ((10 ^ 59) ^ 9), μ) := fun μ => v_pow (by decide +kernel)
  have hp3 : ∀ μ, opPow (.int 10) (.int 18) μ = some (.int (10 ^ 18), μ) := fun μ => v_pow (by decide +kernel)
  have pos : (0 : Int) < (10 ^ 59) ^ 9 := by decide +kernel
  generalize (10 : Int) ^ 59 = A at hp1 hp2 pos
  generalize A ^ 9 = B at hp2 pos
  generalize (10 : Int) ^ 18 = C at hp3
  have cell : Rw (mIf (tBl (mBin opLt (mV 1) (mCb cLen (aCons (mV 0) aNil)))) (mBin opIx (mV 0) (mV 1)) (mBin opAdd (mBin opMul (mC (.int 59)) (mV 1)) (mC (.int 31))) [some (.fl (ns.map .int)), some (.int (at_ : Int)), none, none, none] μ) fun w μ' => (∃ c, w = .int c) ∧ μ' = μ := by
    simp only [two_eq, wo_addT, v_ipAdd, v_ipSub, wp_get2, rp_nil, rp_cons, wp_dict, isDct_new, ri_enumT, v_isNN, v_isNL, v_isNotN, v_isNotL, wp_fn, startW, wp_call, wp_C, wp_V, wp_bin, wp_un, wp_and, wp_or, wp_not, rt_V, rt_and, rt_or, rt_not, rt_bl, rt_yes, wp_if, wp_chain, ra_nil, ra_cons, wp_tup, wp_lst, wp_cb, wp_mt, wp_dict0, wp_sl, ro_none, ro_some, fs_seq, fs_nil, fs_brk, fs_cnt, fs_expr, fs_ret, fs_retN, fs_if, fs_set, fs_par, fs_asg, fs_sub, fs_aug, ri_val, ri_args, wp_some, wp_ok, wp_bind, List.map_cons, List.map_nil, List.length_cons, List.length_nil, List.replicate, List.cons_append, List.nil_append, List.getElem?_cons_zero, List.getElem?_cons_succ, List.set_cons_zero, List.set_cons_succ, Option.some.injEq, exists_eq_left', exists_eq_left, Nat.reduceAdd, Nat.reduceSub, Nat.reduceLeDiff, true_and, W.bl.injEq, W.int.injEq, W.str.injEq, W.tup.injEq, if_true, if_false, Bool.false_eq_true, Bool.not_true, Bool.not_false, truth_bl, truth_int, truth_tup, v_addI, v_subI, v_mod, v_fdiv, v_neg, v_lt, v_le, v_gt, v_ge, v_cint, v_cintB, v_cabs, v_cmax, v_cmin, v_lenT, v_lenF, v_ixT, v_ixF, v_revT, v_cutT, v_tupT, v_listT, v_eqI, v_neI, v_eqS, v_neS, Option.map_some, decide_eq_true_eq, decide_true, decide_false, and_self, and_true, Int.reduceToNat, Int.reduceNeg, Int.reduceLT, Int.reduceLE, Int.reduceAdd, Int.reduceSub, Int.reduceMul, Int.reduceBEq, Int.reduceBNe, Nat.reduceLT, Nat.reduceMul, Int.toNat_one, Int.toNat_zero]
    by_cases h : (at_ : Int) < ((ns.map W.int).length : Nat)
    · have h2 : at_ < ns.length := by rw [List.length_map] at h; omega
      have e : atI (ns.map W.int) (at_ : Int) = some (.int ns[at_]) := by
        rw [Mi.atI_nat, List.getElem?_map, List.getElem?_eq_some_iff.mpr ⟨h2, rfl⟩]
        rfl
      simp only [two_eq, wo_addT, v_ipAdd, v_ipSub, wp_get2, rp_nil, rp_cons, wp_dict, isDct_new, ri_enumT, v_isNN, v_isNL, v_isNotN, v_isNotL, wp_fn, startW, wp_call, wp_C, wp_V, wp_bin, wp_un, wp_and, wp_or, wp_not, rt_V, rt_and, rt_or, rt_not, rt_bl, rt_yes, wp_if, wp_chain, ra_nil, ra_cons, wp_tup, wp_lst, wp_cb, wp_mt, wp_dict0, wp_sl, ro_none, ro_some, fs_seq, fs_nil, fs_brk, fs_cnt, fs_expr, fs_ret, fs_retN, fs_if, fs_set, fs_par, fs_asg, fs_sub, fs_aug, ri_val, ri_args, wp_some, wp_ok, wp_bind, List.map_cons, List.map_nil, List.length_cons, List.length_nil, List.replicate, List.cons_append, List.nil_append, List.getElem?_cons_zero, List.getElem?_cons_succ, List.set_cons_zero, List.set_cons_succ, Option.some.injEq, exists_eq_left', exists_eq_left, Nat.reduceAdd, Nat.reduceSub, Nat.reduceLeDiff, true_and, W.bl.injEq, W.int.injEq, W.str.injEq, W.tup.injEq, if_true, if_false, Bool.false_eq_true, Bool.not_true, Bool.not_false, truth_bl, truth_int, truth_tup, v_addI, v_subI, v_mod, v_fdiv, v_neg, v_lt, v_le, v_gt, v_ge, v_cint, v_cintB, v_cabs, v_cmax, v_cmin, v_lenT, v_lenF, v_ixT, v_ixF, v_revT, v_cutT, v_tupT, v_listT, v_eqI, v_neI, v_eqS, v_neS, Option.map_some, decide_eq_true_eq, decide_true, decide_false, and_self, and_true, Int.reduceToNat, Int.reduceNeg, Int.reduceLT, Int.reduceLE, Int.reduceAdd, Int.reduceSub, Int.reduceMul, Int.reduceBEq, Int.reduceBNe, Nat.reduceLT, Nat.reduceMul, Int.toNat_one, Int.toNat_zero, h, e]
      exact ⟨_, rfl⟩
    · simp only [two_eq, wo_addT, v_ipAdd, v_ipSub, wp_get2, rp_nil, rp_cons, wp_dict, isDct_new, ri_enumT, v_isNN, v_isNL, v_isNotN, v_isNotL, wp_fn, startW, wp_call, wp_C, wp_V, wp_bin, wp_un, wp_and, wp_or, wp_not, rt_V, rt_and, rt_or, rt_not, rt_bl, rt_yes, wp_if, wp_chain, ra_nil, ra_cons, wp_tup, wp_lst, wp_cb, wp_mt, wp_dict0, wp_sl, ro_none, ro_some, fs_seq, fs_nil, fs_brk, fs_cnt, fs_expr, fs_ret, fs_retN, fs_if, fs_set, fs_par, fs_asg, fs_sub, fs_aug, ri_val, ri_args, wp_some, wp_ok, wp_bind, List.map_cons, List.map_nil, List.length_cons, List.length_nil, List.replicate, List.cons_append, List.nil_append, List.getElem?_cons_zero, List.getElem?_cons_succ, List.set_cons_zero, List.set_cons_succ, Option.some.injEq, exists_eq_left', exists_eq_left, Nat.reduceAdd, Nat.reduceSub, Nat.reduceLeDiff, true_and, W.bl.injEq, W.int.injEq, W.str.injEq, W.tup.injEq, if_true, if_false, Bool.false_eq_true, Bool.not_true, Bool.not_false, truth_bl, truth_int, truth_tup, v_addI, v_subI, v_mod, v_fdiv, v_neg, v_lt, v_le, v_gt, v_ge, v_cint, v_cintB, v_cabs, v_cmax, v_cmin, v_lenT, v_lenF, v_ixT, v_ixF, v_revT, v_cutT, v_tupT, v_listT, v_eqI, v_neI, v_eqS, v_neS, Option.map_some, decide_eq_true_eq, decide_true, decide_false, and_self, and_true, Int.reduceToNat, Int.reduceNeg, Int.reduceLT, Int.reduceLE, Int.reduceAdd, Int.reduceSub, Int.reduceMul, Int.reduceBEq, Int.reduceBNe, Nat.reduceLT, Nat.reduceMul, Int.toNat_one, Int.toNat_zero, h, v_mulL]
      exact ⟨_, rfl⟩
  rw [wp_fn, fs_seq, fs_set]
  refine cell.imp ?_
  rintro w μ' ⟨⟨c, rfl⟩, rfl⟩
  simp only [two_eq, wo_addT, v_ipAdd, v_ipSub, wp_get2, rp_nil, rp_cons, wp_dict, isDct_new, ri_enumT, v_isNN, v_isNL, v_isNotN, v_isNotL, wp_fn, startW, wp_call, wp_C, wp_V, wp_bin, wp_un, wp_and, wp_or, wp_not, rt_V, rt_and, rt_or, rt_not, rt_bl, rt_yes, wp_if, wp_chain, ra_nil, ra_cons, wp_tup, wp_lst, wp_cb, wp_mt, wp_dict0, wp_sl, ro_none, ro_some, fs_seq, fs_nil, fs_brk, fs_cnt, fs_expr, fs_ret, fs_retN, fs_if, fs_set, fs_par, fs_asg, fs_sub, fs_aug, ri_val, ri_args, wp_some, wp_ok, wp_bind, List.map_cons, List.map_nil, List.length_cons, List.length_nil, List.replicate, List.cons_append, List.nil_append, List.getElem?_cons_zero, List.getElem?_cons_succ, List.set_cons_zero, List.set_cons_succ, Option.some.injEq, exists_eq_left', exists_eq_left, Nat.reduceAdd, Nat.reduceSub, Nat.reduceLeDiff, true_and, W.bl.injEq, W.int.injEq, W.str.injEq, W.tup.injEq, if_true, if_false, Bool.false_eq_true, Bool.not_true, Bool.not_false, truth_bl, truth_int, truth_tup, v_addI, v_subI, v_mod, v_fdiv, v_neg, v_lt, v_le, v_gt, v_ge, v_cint, v_cintB, v_cabs, v_cmax, v_cmin, v_lenT, v_lenF, v_ixT, v_ixF, v_revT, v_cutT, v_tupT, v_listT, v_eqI, v_neI, v_eqS, v_neS, Option.map_some, decide_eq_true_eq, decide_true, decide_false, and_self, and_true, Int.reduceToNat, Int.reduceNeg, Int.reduceLT, Int.reduceLE, Int.reduceAdd, Int.reduceSub, Int.reduceMul, Int.reduceBEq, Int.reduceBNe, Nat.reduceLT, Nat.reduceMul, Int.toNat_one, Int.toNat_zero, hp1, hp2, hp3, pos, v_mulM, v_mulL]
  exact ⟨_, _, _, getL_new⟩
theorem law_w (ns : List Int) : Rw (g_law [.fl (ns.map .int)] []) fun w _ => w = .bl true := by
  unfold g_law b_law
  rw [wp_fn, fs_seq]
  refine Fw.imp (D := { nx := fun δ μ => ∃ d1, δ = [some (.fl (ns.map .int)), d1, none, none] }) ?_ ?_ (fun _ _ h => h.elim) (fun _ _ h => h.elim) (fun _ _ h => h.elim)
  · rw [fs_for]
    have hm : Rw (iArgs rng1 (aCons (mCb cMax (aCons (mC (.int 1)) (aCons (mCb cMin (aCons (mC (.int 8)) (aCons (mCb cLen (aCons (mV 0) (aNil))) (aNil)))) (aNil)))) (aNil)) (startW 4 [.fl (ns.map .int)]) []) fun s μ1 => ∃ t : Nat, t ≤ 8 ∧ s = .items (rangeW 0 t) := by
      simp only [two_eq, wo_addT, v_ipAdd, v_ipSub, wp_get2, rp_nil, rp_cons, wp_dict, isDct_new, ri_enumT, v_isNN, v_isNL, v_isNotN, v_isNotL, wp_fn, startW, wp_call, wp_C, wp_V, wp_bin, wp_un, wp_and, wp_or, wp_not, rt_V, rt_and, rt_or, rt_not, rt_bl, rt_yes, wp_if, wp_chain, ra_nil, ra_cons, wp_tup, wp_lst, wp_cb, wp_mt, wp_dict0, wp_sl, ro_none, ro_some, fs_seq, fs_nil, fs_brk, fs_cnt, fs_expr, fs_ret, fs_retN, fs_if, fs_set, fs_par, fs_asg, fs_sub, fs_aug, ri_val, ri_args, wp_some, wp_ok, wp_bind, List.map_cons, List.map_nil, List.length_cons, List.length_nil, List.replicate, List.cons_append, List.nil_append, List.getElem?_cons_zero, List.getElem?_cons_succ, List.set_cons_zero, List.set_cons_succ, Option.some.injEq, exists_eq_left', exists_eq_left, Nat.reduceAdd, Nat.reduceSub, Nat.reduceLeDiff, true_and, W.bl.injEq, W.int.injEq, W.str.injEq, W.tup.injEq, if_true, if_false, Bool.false_eq_true, Bool.not_true, Bool.not_false, truth_bl, truth_int, truth_tup, v_addI, v_subI, v_mod, v_fdiv, v_neg, v_lt, v_le, v_gt, v_ge, v_cint, v_cintB, v_cabs, v_cmax, v_cmin, v_lenT, v_lenF, v_ixT, v_ixF, v_revT, v_cutT, v_tupT, v_listT, v_eqI, v_neI, v_eqS, v_neS, Option.map_some, decide_eq_true_eq, decide_true, decide_false, and_self, and_true, Int.reduceToNat, Int.reduceNeg, Int.reduceLT, Int.reduceLE, Int.reduceAdd, Int.reduceSub, Int.reduceMul, Int.reduceBEq, Int.reduceBNe, Nat.reduceLT, Nat.reduceMul, Int.toNat_one, Int.toNat_zero]
      generalize ht : (if (if (((ns.map W.int).length : Nat) : Int) < 8 then (((ns.map W.int).length : Nat) : Int) else 8) > 1 then (if (((ns.map W.int).length : Nat) : Int) < 8 then (((ns.map W.int).length : Nat) : Int) else 8) else 1) = t
      have hb : 1 ≤ t ∧ t ≤ 8 := by
        rw [← ht]
        split
        · split at * <;> omega
        · omega
      rw [ri_rng1 (by omega)]
      exact ⟨t.toNat, by omega, rfl⟩
    refine hm.imp ?_
    rintro s μ1 ⟨t, ht, rfl⟩
    refine forX_w (fun i δ μ => ∃ d1, δ = [some (.fl (ns.map .int)), d1, none, none]) ⟨none, rfl⟩ ?_ (fun _ _ h => h)
    rintro i x δ μ hx ⟨d1, rfl⟩
    obtain ⟨hi, rfl⟩ := rangeW_get hx
    rw [Int.zero_add]
    refine ⟨_, rfl, ?_⟩
    simp only [two_eq, wo_addT, v_ipAdd, v_ipSub, wp_get2, rp_nil, rp_cons, wp_dict, isDct_new, ri_enumT, v_isNN, v_isNL, v_isNotN, v_isNotL, wp_fn, startW, wp_call, wp_C, wp_V, wp_bin, wp_un, wp_and, wp_or, wp_not, rt_V, rt_and, rt_or, rt_not, rt_bl, rt_yes, wp_if, wp_chain, ra_nil, ra_cons, wp_tup, wp_lst, wp_cb, wp_mt, wp_dict0, wp_sl, ro_none, ro_some, fs_seq, fs_nil, fs_brk, fs_cnt, fs_expr, fs_ret, fs_retN, fs_if, fs_set, fs_par, fs_asg, fs_sub, fs_aug, ri_val, ri_args, wp_some, wp_ok, wp_bind, List.map_cons, List.map_nil, List.length_cons, List.length_nil, List.replicate, List.cons_append, List.nil_append, List.getElem?_cons_zero, List.getElem?_cons_succ, List.set_cons_zero, List.set_cons_succ, Option.some.injEq, exists_eq_left', exists_eq_left, Nat.reduceAdd, Nat.reduceSub, Nat.reduceLeDiff, true_and, W.bl.injEq, W.int.injEq, W.str.injEq, W.tup.injEq, if_true, if_false, Bool.false_eq_true, Bool.not_true, Bool.not_false, truth_bl, truth_int, truth_tup, v_addI, v_subI, v_mod, v_fdiv, v_neg, v_lt, v_le, v_gt, v_ge, v_cint, v_cintB, v_cabs, v_cmax, v_cmin, v_lenT, v_lenF, v_ixT, v_ixF, v_revT, v_cutT, v_tupT, v_listT, v_eqI, v_neI, v_eqS, v_neS, Option.map_some, decide_eq_true_eq, decide_true, decide_false, and_self, and_true, Int.reduceToNat, Int.reduceNeg, Int.reduceLT, Int.reduceLE, Int.reduceAdd, Int.reduceSub, Int.reduceMul, Int.reduceBEq, Int.reduceBNe, Nat.reduceLT, Nat.reduceMul, Int.toNat_one, Int.toNat_zero]
    refine (jar_w (by omega)).imp ?_
    rintro w μ2 ⟨rfl, j⟩
    refine (right_j j).imp ?_
    rintro w μ3 rfl
    simp only [two_eq, wo_addT, v_ipAdd, v_ipSub, wp_get2, rp_nil, rp_cons, wp_dict, isDct_new, ri_enumT, v_isNN, v_isNL, v_isNotN, v_isNotL, wp_fn, startW, wp_call, wp_C, wp_V, wp_bin, wp_un, wp_and, wp_or, wp_not, rt_V, rt_and, rt_or, rt_not, rt_bl, rt_yes, wp_if, wp_chain, ra_nil, ra_cons, wp_tup, wp_lst, wp_cb, wp_mt, wp_dict0, wp_sl, ro_none, ro_some, fs_seq, fs_nil, fs_brk, fs_cnt, fs_expr, fs_ret, fs_retN, fs_if, fs_set, fs_par, fs_asg, fs_sub, fs_aug, ri_val, ri_args, wp_some, wp_ok, wp_bind, List.map_cons, List.map_nil, List.length_cons, List.length_nil, List.replicate, List.cons_append, List.nil_append, List.getElem?_cons_zero, List.getElem?_cons_succ, List.set_cons_zero, List.set_cons_succ, Option.some.injEq, exists_eq_left', exists_eq_left, Nat.reduceAdd, Nat.reduceSub, Nat.reduceLeDiff, true_and, W.bl.injEq, W.int.injEq, W.str.injEq, W.tup.injEq, if_true, if_false, Bool.false_eq_true, Bool.not_true, Bool.not_false, truth_bl, truth_int, truth_tup, v_addI, v_subI, v_mod, v_fdiv, v_neg, v_lt, v_le, v_gt, v_ge, v_cint, v_cintB, v_cabs, v_cmax, v_cmin, v_lenT, v_lenF, v_ixT, v_ixF, v_revT, v_cutT, v_tupT, v_listT, v_eqI, v_neI, v_eqS, v_neS, Option.map_some, decide_eq_true_eq, decide_true, decide_false, and_self, and_true, Int.reduceToNat, Int.reduceNeg, Int.reduceLT, Int.reduceLE, Int.reduceAdd, Int.reduceSub, Int.reduceMul, Int.reduceBEq, Int.reduceBNe, Nat.reduceLT, Nat.reduceMul, Int.toNat_one, Int.toNat_zero]
    exact ⟨_, rfl⟩
  · rintro δ μ ⟨d1, rfl⟩
    simp only [two_eq, wo_addT, v_ipAdd, v_ipSub, wp_get2, rp_nil, rp_cons, wp_dict, isDct_new, ri_enumT, v_isNN, v_isNL, v_isNotN, v_isNotL, wp_fn, startW, wp_call, wp_C, wp_V, wp_bin, wp_un, wp_and, wp_or, wp_not, rt_V, rt_and, rt_or, rt_not, rt_bl, rt_yes, wp_if, wp_chain, ra_nil, ra_cons, wp_tup, wp_lst, wp_cb, wp_mt, wp_dict0, wp_sl, ro_none, ro_some, fs_seq, fs_nil, fs_brk, fs_cnt, fs_expr, fs_ret, fs_retN, fs_if, fs_set, fs_par, fs_asg, fs_sub, fs_aug, ri_val, ri_args, wp_some, wp_ok, wp_bind, List.map_cons, List.map_nil, List.length_cons, List.length_nil, List.replicate, List.cons_append, List.nil_append, List.getElem?_cons_zero, List.getElem?_cons_succ, List.set_cons_zero, List.set_cons_succ, Option.some.injEq, exists_eq_left', exists_eq_left, Nat.reduceAdd, Nat.reduceSub, Nat.reduceLeDiff, true_and, W.bl.injEq, W.int.injEq, W.str.injEq, W.tup.injEq, if_true, if_false, Bool.false_eq_true, Bool.not_true, Bool.not_false, truth_bl, truth_int, truth_tup, v_addI, v_subI, v_mod, v_fdiv, v_neg, v_lt, v_le, v_gt, v_ge, v_cint, v_cintB, v_cabs, v_cmax, v_cmin, v_lenT, v_lenF, v_ixT, v_ixF, v_revT, v_cutT, v_tupT, v_listT, v_eqI, v_neI, v_eqS, v_neS, Option.map_some, decide_eq_true_eq, decide_true, decide_false, and_self, and_true, Int.reduceToNat, Int.reduceNeg, Int.reduceLT, Int.reduceLE, Int.reduceAdd, Int.reduceSub, Int.reduceMul, Int.reduceBEq, Int.reduceBNe, Nat.reduceLT, Nat.reduceMul, Int.toNat_one, Int.toNat_zero]
    have vl : ∀ (μ : Mem) (w : W), gdB 19 w = true → Vl μ w := fun μ w h => .inl (Gd.up (gdB_gd h) (by decide))
    refine (is_log_w (vl _ _ (by decide +kernel))).imp ?_
    rintro r μ1 ⟨rfl, f1⟩
    refine (is_log_w (vl _ _ (by decide +kernel))).imp ?_
    rintro r μ2 ⟨rfl, f2⟩
    refine (is_piece_w (vl _ _ (by decide +kernel))).imp ?_
    rintro r μ3 ⟨rfl, f3⟩
    refine (is_piece_w (vl _ _ (by decide +kernel))).imp ?_
    rintro r μ4 ⟨rfl, f4⟩
    refine (is_log_w (vl _ _ (by decide +kernel))).imp ?_
    rintro r μ5 ⟨rfl, f5⟩
    try simp only [two_eq, wo_addT, v_ipAdd, v_ipSub, wp_get2, rp_nil, rp_cons, wp_dict, isDct_new, ri_enumT, v_isNN, v_isNL, v_isNotN, v_isNotL, wp_fn, startW, wp_call, wp_C, wp_V, wp_bin, wp_un, wp_and, wp_or, wp_not, rt_V, rt_and, rt_or, rt_not, rt_bl, rt_yes, wp_if, wp_chain, ra_nil, ra_cons, wp_tup, wp_lst, wp_cb, wp_mt, wp_dict0, wp_sl, ro_none, ro_some, fs_seq, fs_nil, fs_brk, fs_cnt, fs_expr, fs_ret, fs_retN, fs_if, fs_set, fs_par, fs_asg, fs_sub, fs_aug, ri_val, ri_args, wp_some, wp_ok, wp_bind, List.map_cons, List.map_nil, List.length_cons, List.length_nil, List.replicate, List.cons_append, List.nil_append, List.getElem?_cons_zero, List.getElem?_cons_succ, List.set_cons_zero, List.set_cons_succ, Option.some.injEq, exists_eq_left', exists_eq_left, Nat.reduceAdd, Nat.reduceSub, Nat.reduceLeDiff, true_and, W.bl.injEq, W.int.injEq, W.str.injEq, W.tup.injEq, if_true, if_false, Bool.false_eq_true, Bool.not_true, Bool.not_false, truth_bl, truth_int, truth_tup, v_addI, v_subI, v_mod, v_fdiv, v_neg, v_lt, v_le, v_gt, v_ge, v_cint, v_cintB, v_cabs, v_cmax, v_cmin, v_lenT, v_lenF, v_ixT, v_ixF, v_revT, v_cutT, v_tupT, v_listT, v_eqI, v_neI, v_eqS, v_neS, Option.map_some, decide_eq_true_eq, decide_true, decide_false, and_self, and_true, Int.reduceToNat, Int.reduceNeg, Int.reduceLT, Int.reduceLE, Int.reduceAdd, Int.reduceSub, Int.reduceMul, Int.reduceBEq, Int.reduceBNe, Nat.reduceLT, Nat.reduceMul, Int.toNat_one, Int.toNat_zero]
    have b1 : isLog (.tup [.tup [.str "in", .str "main"], .tup [.str "out", .str "main"]]) = true := by decide +kernel
    have b2 : isLog (.tup [.tup [.str "in", .str "main"], .tup [.str "out", .str "main"], .tup [.str "in", .str "main"], .tup [.str "out", .str "main"]]) = false := by decide +kernel
    have b3 : isPiece (.tup [.tup [.str "in", .str "main"], .tup [.str "out", .str "main"], .tup [.str "in", .str "main"], .tup [.str "out", .str "main"]]) = true := by decide +kernel
    have b4 : isPiece (.tup []) = true := by decide +kernel
    have b5 : isLog (.tup []) = false := by decide +kernel
    have b6 : isLog (.tup [.tup [.str "in", .str "main"], .tup [.str "out", .str "main"], .tup [.str "say", .str "a"]]) = false := by decide +kernel
    rw [b1, b2, b3, b4, b5]
    refine (is_log_w (vl _ _ (by decide +kernel))).imp ?_
    rintro r μ6 ⟨rfl, f6⟩
    rw [b6]
    have g6 := getL_app (j := [.lst [.bl false]]) (f6.getL getL_new List.not_mem_nil)
    simp only [two_eq, wo_addT, v_ipAdd, v_ipSub, wp_get2, rp_nil, rp_cons, wp_dict, isDct_new, ri_enumT, v_isNN, v_isNL, v_isNotN, v_isNotL, wp_fn, startW, wp_call, wp_C, wp_V, wp_bin, wp_un, wp_and, wp_or, wp_not, rt_V, rt_and, rt_or, rt_not, rt_bl, rt_yes, wp_if, wp_chain, ra_nil, ra_cons, wp_tup, wp_lst, wp_cb, wp_mt, wp_dict0, wp_sl, ro_none, ro_some, fs_seq, fs_nil, fs_brk, fs_cnt, fs_expr, fs_ret, fs_retN, fs_if, fs_set, fs_par, fs_asg, fs_sub, fs_aug, ri_val, ri_args, wp_some, wp_ok, wp_bind, List.map_cons, List.map_nil, List.length_cons, List.length_nil, List.replicate, List.cons_append, List.nil_append, List.getElem?_cons_zero, List.getElem?_cons_succ, List.set_cons_zero, List.set_cons_succ, Option.some.injEq, exists_eq_left', exists_eq_left, Nat.reduceAdd, Nat.reduceSub, Nat.reduceLeDiff, true_and, W.bl.injEq, W.int.injEq, W.str.injEq, W.tup.injEq, if_true, if_false, Bool.false_eq_true, Bool.not_true, Bool.not_false, truth_bl, truth_int, truth_tup, v_addI, v_subI, v_mod, v_fdiv, v_neg, v_lt, v_le, v_gt, v_ge, v_cint, v_cintB, v_cabs, v_cmax, v_cmin, v_lenT, v_lenF, v_ixT, v_ixF, v_revT, v_cutT, v_tupT, v_listT, v_eqI, v_neI, v_eqS, v_neS, Option.map_some, decide_eq_true_eq, decide_true, decide_false, and_self, and_true, Int.reduceToNat, Int.reduceNeg, Int.reduceLT, Int.reduceLE, Int.reduceAdd, Int.reduceSub, Int.reduceMul, Int.reduceBEq, Int.reduceBNe, Nat.reduceLT, Nat.reduceMul, Int.toNat_one, Int.toNat_zero, v_addL g6 getL_new (by decide)]
    generalize μ6 ++ [MO.lst [W.bl false]] = μ7
    have g7 : getL (μ7 ++ [MO.lst [.bl true, .bl false, .bl true, .bl true, .bl false, .bl false]]) μ7.length = some [.bl true, .bl false, .bl true, .bl true, .bl false, .bl false] := getL_new
    generalize μ7 ++ [MO.lst [.bl true, .bl false, .bl true, .bl true, .bl false, .bl false]] = μ8 at g7 ⊢
    have g8 := getL_app (j := [MO.lst [.bl true, .bl false, .bl true, .bl true, .bl false, .bl false]]) g7
    have g9 : getL (μ8 ++ [MO.lst [.bl true, .bl false, .bl true, .bl true, .bl false, .bl false]]) μ8.length = some [.bl true, .bl false, .bl true, .bl true, .bl false, .bl false] := getL_new
    generalize μ8 ++ [MO.lst [.bl true, .bl false, .bl true, .bl true, .bl false, .bl false]] = μ9 at g8 g9 ⊢
    have e : opEq (.loc μ7.length) (.loc μ8.length) μ9 = some (.bl true, μ9) := by
      rw [v_eq (d := .list [.bool true, .bool false, .bool true, .bool true, .bool false, .bool false]) (e := .list [.bool true, .bool false, .bool true, .bool true, .bool false, .bool false]) (by simp [toD, g8, mapO]) (by simp [toD, g9, mapO])]
      rfl
    simp only [two_eq, wo_addT, v_ipAdd, v_ipSub, wp_get2, rp_nil, rp_cons, wp_dict, isDct_new, ri_enumT, v_isNN, v_isNL, v_isNotN, v_isNotL, wp_fn, startW, wp_call, wp_C, wp_V, wp_bin, wp_un, wp_and, wp_or, wp_not, rt_V, rt_and, rt_or, rt_not, rt_bl, rt_yes, wp_if, wp_chain, ra_nil, ra_cons, wp_tup, wp_lst, wp_cb, wp_mt, wp_dict0, wp_sl, ro_none, ro_some, fs_seq, fs_nil, fs_brk, fs_cnt, fs_expr, fs_ret, fs_retN, fs_if, fs_set, fs_par, fs_asg, fs_sub, fs_aug, ri_val, ri_args, wp_some, wp_ok, wp_bind, List.map_cons, List.map_nil, List.length_cons, List.length_nil, List.replicate, List.cons_append, List.nil_append, List.getElem?_cons_zero, List.getElem?_cons_succ, List.set_cons_zero, List.set_cons_succ, Option.some.injEq, exists_eq_left', exists_eq_left, Nat.reduceAdd, Nat.reduceSub, Nat.reduceLeDiff, true_and, W.bl.injEq, W.int.injEq, W.str.injEq, W.tup.injEq, if_true, if_false, Bool.false_eq_true, Bool.not_true, Bool.not_false, truth_bl, truth_int, truth_tup, v_addI, v_subI, v_mod, v_fdiv, v_neg, v_lt, v_le, v_gt, v_ge, v_cint, v_cintB, v_cabs, v_cmax, v_cmin, v_lenT, v_lenF, v_ixT, v_ixF, v_revT, v_cutT, v_tupT, v_listT, v_eqI, v_neI, v_eqS, v_neS, Option.map_some, decide_eq_true_eq, decide_true, decide_false, and_self, and_true, Int.reduceToNat, Int.reduceNeg, Int.reduceLT, Int.reduceLE, Int.reduceAdd, Int.reduceSub, Int.reduceMul, Int.reduceBEq, Int.reduceBNe, Nat.reduceLT, Nat.reduceMul, Int.toNat_one, Int.toNat_zero, e]
    refine (open_calls_w (ls := [(("in" : Str), ("main" : Str)), ("out", "main")]) (vl _ _ (by decide +kernel)) b1).imp ?_
    rintro r μ10 ⟨f10, ns10, h10, rfl⟩
    have e10 : opened [] [(("in" : Str), ("main" : Str)), ("out", "main")] = some [] := by decide +kernel
    rw [e10] at h10
    cases h10
    simp only [two_eq, wo_addT, v_ipAdd, v_ipSub, wp_get2, rp_nil, rp_cons, wp_dict, isDct_new, ri_enumT, v_isNN, v_isNL, v_isNotN, v_isNotL, wp_fn, startW, wp_call, wp_C, wp_V, wp_bin, wp_un, wp_and, wp_or, wp_not, rt_V, rt_and, rt_or, rt_not, rt_bl, rt_yes, wp_if, wp_chain, ra_nil, ra_cons, wp_tup, wp_lst, wp_cb, wp_mt, wp_dict0, wp_sl, ro_none, ro_some, fs_seq, fs_nil, fs_brk, fs_cnt, fs_expr, fs_ret, fs_retN, fs_if, fs_set, fs_par, fs_asg, fs_sub, fs_aug, ri_val, ri_args, wp_some, wp_ok, wp_bind, List.map_cons, List.map_nil, List.length_cons, List.length_nil, List.replicate, List.cons_append, List.nil_append, List.getElem?_cons_zero, List.getElem?_cons_succ, List.set_cons_zero, List.set_cons_succ, Option.some.injEq, exists_eq_left', exists_eq_left, Nat.reduceAdd, Nat.reduceSub, Nat.reduceLeDiff, true_and, W.bl.injEq, W.int.injEq, W.str.injEq, W.tup.injEq, if_true, if_false, Bool.false_eq_true, Bool.not_true, Bool.not_false, truth_bl, truth_int, truth_tup, v_addI, v_subI, v_mod, v_fdiv, v_neg, v_lt, v_le, v_gt, v_ge, v_cint, v_cintB, v_cabs, v_cmax, v_cmin, v_lenT, v_lenF, v_ixT, v_ixF, v_revT, v_cutT, v_tupT, v_listT, v_eqI, v_neI, v_eqS, v_neS, Option.map_some, decide_eq_true_eq, decide_true, decide_false, and_self, and_true, Int.reduceToNat, Int.reduceNeg, Int.reduceLT, Int.reduceLE, Int.reduceAdd, Int.reduceSub, Int.reduceMul, Int.reduceBEq, Int.reduceBNe, Nat.reduceLT, Nat.reduceMul, Int.toNat_one, Int.toNat_zero, v_eqT0 (xs := []) ⟨[], rfl⟩, List.isEmpty_nil]
theorem pure_law (ns : List Int) : ∃ μ, g_law [.fl (ns.map .int)] [] = .ok (.bl true) μ := by
  obtain ⟨a, μ, e, rfl⟩ := (law_w ns).ok
  exact ⟨μ, e⟩
end Ex

open PySem PySem.W PySem.Calls PyProof.Rows
theorem PySem.Challenge.cw_waystolog_k01_names_lines_logs_and_piece_holds : PySem.Challenge.rw_waystolog_k01_names_lines_logs_and_piece.Holds := by
  w_on; o_law
  refine HandSHeadRun.head_any (r := Ex.RowX) (q := view Ex.RowX.prog [26]) (H := Ex.hk) (ob := Ex.ob) (M := 4000) (loose := Ex.others) (d := HandSHeadRun.topDef Ex.RowX.prog 26) (kwd := []) Ex.ob_eq
    (by kernel_rfl) (fun s => by kernel_rfl) Ex.run (by kernel_rfl) (by kernel_rfl) (by kernel_rfl) (by rfl) (by first | assumption | decide +kernel) (by decide +kernel) ⟨rfl, rfl, rfl, rfl, rfl, by decide +kernel⟩ ?hw ?hc
  case hw => w_witness2
  case hc =>
    refine Mi.walk_M (l := PySem.Challenge.rw_waystolog_k01_names_lines_logs_and_piece) (n := 63) (k := 8) (x := "script") rfl (by decide) (by kernel_rfl) ⟨rfl, by decide, by decide⟩ ?F
    intro w mg fa h Y G hm
    have name : (HandSHeadRun.topDef Ex.RowX.prog 26).name = ("law" : PySem.Str) := by kernel_rfl
    rw [name] at hm
    exact Ex.law_of (fun ns _ _ => Ex.pure_law ns) Y G hm

