import PyProof.Rows.All
import Wide.All
import OpenK.AllK
import Wide.FinOn
import HandS.ForMost
import HandS.Exc
import HandS.Lambda
import HandS.ExcOwn
import HandS.WordsExc
import HandS.TupMul
import HandS.TupAny
import HandS.TupLen
import HandS.Deep
import HandS.Wide
import HandS.IsInst
import HandS.Conv
import HandS.SortRule
import HandS.SortInts
import KE.GoesMore
import HandS.Zip
import KE.KDictZip
import KE.GoesZip
import HandS.More
import HandS.SetFor
import HandS.Style
import HandS.EndOwn
import HandS.ExcInit
import KE.KExcSuper
import HandS.TryMany
import HandS.ExcField
import HandS.ExcValue
import HandS.ExcIs
import KE.KExcIs
import HandS.DeepEq
import PyProof.NeKinds
import PySem.Challenge.RW_slideyards_k00_errors
set_option Elab.async false
set_option linter.all false
set_option maxRecDepth 100000
set_option maxHeartbeats 4000000
/-! PvA: data P, how it lies on the heap (RP); owned containers D (RD); a frame's state (St); what a step may change (Step). -/
namespace PV
open PySem L2

inductive P where
  | non | bl (b : Bool) | int (i : Int) | str (s : Str)
  | tup (xs : List P) | lst (xs : List P)
  | dK (ks : List Key) (vs : List P) | dT (ks : List (List Key)) (vs : List P)
  | ins (c : String) (ns : List String) (vs : List P)
  /-- a list that can't be changed by anybody: the script -/
  | fz (xs : List P)
  /-- an exception of an own class, its fields the last one first -/
  | exv (c : String) (ns : List String) (vs : List P)
  deriving Inhabited

abbrev ofS (x : String) : Str := Str.ofString x

inductive Own where
  | free | out | at (i : Nat) | res | tmp
  /-- a table of code objects of the name q -/
  | tab (q : Str)
  deriving DecidableEq
abbrev Om := Addr → Own

/-- a tuple never changes -/
def isT : HO → Bool
  | .tup _ => true
  | .frz _ (.tup _) => true
  | .ext _ => true
  | _ => false

/-- the script: a locked list, or one that the text has written -/
def SqZ (K : PySem.W.Frag) (H : Hp) (N : Addr → Prop) (a : Addr) (vs : List V) : Prop := (∃ o, H a = some (.frz o (.lst vs)) ∧ N a) ∨
  ∃ (o : Obj) (its : Array Value) (n : Nat), K.lookup a = some o ∧ o.cls = .type "list" ∧ o.dict = none ∧ o.data = .seq its n ∧ its.size ≤ sizeLine ∧ Vals vs its.toList
theorem SqZ.sq {K : PySem.W.Frag} {H : Hp} {N : Addr → Prop} {a : Addr} {vs : List V} (h : SqZ K H N a vs) : SqL K H a vs := by
  rcases h with ⟨o, h, _⟩ | h
  · exact .inl (.inr ⟨o, h⟩)
  · exact .inr h
/-- the exception of class C, its dict at d, stands at a -/
def ExO (C a : Addr) (d : Option Addr) (o : HO) : Prop := ∃ φ : Heap → Prop, o = .ext φ ∧ ∀ h, φ h → ∃ (oe : Obj) (us : Array Value), h.get? a = some oe ∧ oe.cls = .ref C ∧ oe.dict = d ∧ oe.data = .fields us
/-- its fields -/
def EXd (H : Hp) (d : Option Addr) (fs : List (Str × V)) : Prop := match d with
  | some dx => ∃ φ : Heap → Prop, H dx = some (.ext φ) ∧ ∀ h, φ h → ∃ mA, h.Ns1 dx mA ∧ ∀ f, RelO (fs.lookup f) (mA f)
  | none => fs = []
mutual
inductive RP (K : PySem.W.Frag) (cl : String → Option Addr) (H : Hp) (N : Addr → Prop) : P → V → Prop
  | non : RP K cl H N .non .non
  | bl (b : Bool) : RP K cl H N (.bl b) (.bl b)
  | int (i : Int) : RP K cl H N (.int i) (.int i)
  | str (x : Str) : RP K cl H N (.str x) (.str x)
  | tup {a : Addr} {vs : List V} {xs : List P} : H a = some (.tup vs) → RPs K cl H N xs vs → RP K cl H N (.tup xs) (.ref a)
  | fz {a : Addr} {vs : List V} {xs : List P} : SqZ K H N a vs → RPs K cl H N xs vs → RP K cl H N (.fz xs) (.ref a)
  | lst {a : Addr} {vs : List V} {xs : List P} : H a = some (.lst vs) → N a → RPs K cl H N xs vs → RP K cl H N (.lst xs) (.ref a)
  | dK {a : Addr} {kvs : List (Key × V)} {ks : List Key} {xs : List P} : Rd H a (.dK kvs) → N a → kvs.map (·.1) = ks → RPs K cl H N xs (kvs.map (·.2)) → RP K cl H N (.dK ks xs) (.ref a)
  | dT {a : Addr} {kvs : List (List Key × V)} {ks : List (List Key)} {xs : List P} : Rd H a (.dT kvs) → N a → kvs.map (·.1) = ks → RPs K cl H N xs (kvs.map (·.2)) → RP K cl H N (.dT ks xs) (.ref a)
  | ins {a C dx : Addr} {fs : List (Str × V)} {c : String} {ns : List String} {xs : List P} : H a = some (.ins C dx fs) → N a → cl c = some C → fs.map (·.1) = ns.map ofS → RPs K cl H N xs (fs.map (·.2)) → RP K cl H N (.ins c ns xs) (.ref a)
  | exv {a C : Addr} {d : Option Addr} {o : HO} {fs : List (Str × V)} {c : String} {ns : List String} {xs : List P} : H a = some o → ExO C a d o → cl c = some C → EXd H d fs → fs.map (·.1) = ns.map ofS → RPs K cl H N xs (fs.map (·.2)) → RP K cl H N (.exv c ns xs) (.ref a)
inductive RPs (K : PySem.W.Frag) (cl : String → Option Addr) (H : Hp) (N : Addr → Prop) : List P → List V → Prop
  | nil : RPs K cl H N [] []
  | cons {x : P} {v : V} {xs : List P} {vs : List V} : RP K cl H N x v → RPs K cl H N xs vs → RPs K cl H N (x :: xs) (v :: vs)
end

section
variable {K : PySem.W.Frag} {cl : String → Option Addr} {H H' : Hp} {N N' : Addr → Prop}
theorem rd_ne {a : Addr} {u : HO} (h : L2.Rd H a u) : H a ≠ none := by
  rcases h with h | ⟨o, h⟩ <;> (rw [h]; intro z; cases z)
theorem rd_keep {a : Addr} {u : HO} (h : L2.Rd H a u) (k : ∀ o, H a = some o → H' a = some o) : L2.Rd H' a u := by
  rcases h with h | ⟨o, h⟩
  · exact .inl (k _ h)
  · exact .inr ⟨o, k _ h⟩
theorem sqL_keep {a : Addr} {vs : List V} (h : SqL K H a vs) (k : ∀ o, H a = some o → H' a = some o) : SqL K H' a vs := by
  rcases h with h | h
  · exact .inl (rd_keep h k)
  · exact .inr h
theorem sqT_keep {a : Addr} {vs : List V} (h : SqT K H a vs) (k : ∀ a o, H a = some o → isT o = true → H' a = some o) : SqT K H' a vs := by
  rcases h with (h | ⟨o, h⟩) | h
  · exact .inl (.inl (k _ _ h rfl))
  · exact .inl (.inr ⟨o, k _ _ h rfl⟩)
  · exact .inr h
/-- a dict may be locked for good (a loop walks it) -/
def isD : HO → Bool
  | .dK _ => true
  | .dT _ => true
  | .tbl _ => true
  | _ => false
/-- a table of code objects: it may grow at any time -/
def isTb : HO → Bool
  | .tbl _ => true
  | _ => false
def Kp (H' : Hp) (a : Addr) (o : HO) : Prop := H' a = some o ∨ (isD o = true ∧ ∃ od, H' a = some (.frz od o)) ∨ isTb o = true
theorem Kp.of {a : Addr} {o : HO} (k : Kp H' a o) (h : isD o = false) : H' a = some o := by
  rcases k with k | ⟨k, _⟩ | k
  · exact k
  · rw [h] at k; cases k
  · cases o <;> first | (cases k; done) | (cases h; done)
theorem Kp.rd {a : Addr} {o : HO} (h : L2.Rd H a o) (k : ∀ u, H a = some u → Kp H' a u) (hb : isTb o = false := by rfl) : L2.Rd H' a o := by
  rcases h with h | ⟨od, h⟩
  · rcases k _ h with k | ⟨_, od, k⟩ | k
    · exact .inl k
    · exact .inr ⟨od, k⟩
    · rw [hb] at k; cases k
  · exact .inr ⟨od, (k _ h).of rfl⟩
/-- data stands while its cells and all tuples stand -/
structure Keeps (H H' : Hp) (N N' : Addr → Prop) : Prop where
  fr : ∀ a o, H a = some o → N a → Kp H' a o
  tp : ∀ a o, H a = some o → isT o = true → H' a = some o
  nn : ∀ a, N a → H a ≠ none → N' a
theorem ExO.isT {C a : Addr} {d : Option Addr} {o : HO} (h : ExO C a d o) : isT o = true := by
  obtain ⟨φ, rfl, _⟩ := h; rfl
theorem EXd.keep {d : Option Addr} {fs : List (Str × V)} (h : EXd H d fs) (k : ∀ a o, H a = some o → isT o = true → H' a = some o) : EXd H' d fs := by
  cases d with
  | none => exact h
  | some dx => obtain ⟨φ, h1, h2⟩ := h; exact ⟨φ, k _ _ h1 rfl, h2⟩
mutual
theorem RP.keep (k : Keeps H H' N N') : ∀ (x : P) (v : V), RP K cl H N x v → RP K cl H' N' x v
  | .non, _, h => by cases h; exact .non
  | .bl _, _, h => by cases h; exact .bl _
  | .int _, _, h => by cases h; exact .int _
  | .str _, _, h => by cases h; exact .str _
  | .tup xs, _, h => by
    cases h with
    | tup h1 h2 => exact .tup (k.tp _ _ h1 rfl) (RPs.keep k xs _ h2)
  | .lst xs, _, h => by
    cases h with
    | lst h1 h2 h3 => exact .lst ((k.fr _ _ h1 h2).of rfl) (k.nn _ h2 (by rw [h1]; intro z; cases z)) (RPs.keep k xs _ h3)
  | .fz xs, _, h => by
    cases h with
    | fz h1 h3 =>
      refine .fz ?_ (RPs.keep k xs _ h3)
      rcases h1 with ⟨o, h1, h2⟩ | h1
      · exact .inl ⟨o, (k.fr _ _ h1 h2).of rfl, k.nn _ h2 (by rw [h1]; intro z; cases z)⟩
      · exact .inr h1
  | .dK ks xs, _, h => by
    cases h with
    | dK h1 h2 h0 h3 => exact .dK (Kp.rd h1 fun o e => k.fr _ o e h2) (k.nn _ h2 (rd_ne h1)) h0 (RPs.keep k xs _ h3)
  | .dT ks xs, _, h => by
    cases h with
    | dT h1 h2 h0 h3 => exact .dT (Kp.rd h1 fun o e => k.fr _ o e h2) (k.nn _ h2 (rd_ne h1)) h0 (RPs.keep k xs _ h3)
  | .ins c ns xs, _, h => by
    cases h with
    | ins h1 h2 h3 h4 h5 => exact .ins ((k.fr _ _ h1 h2).of rfl) (k.nn _ h2 (by rw [h1]; intro z; cases z)) h3 h4 (RPs.keep k xs _ h5)
  | .exv c ns xs, _, h => by
    cases h with
    | exv h1 h2 h3 h4 h5 h6 => exact .exv (k.tp _ _ h1 h2.isT) h2 h3 (h4.keep k.tp) h5 (RPs.keep k xs _ h6)
theorem RPs.keep (k : Keeps H H' N N') : ∀ (xs : List P) (vs : List V), RPs K cl H N xs vs → RPs K cl H' N' xs vs
  | [], _, h => by cases h; exact .nil
  | x :: xs, _, h => by
    cases h with
    | cons h1 h2 => exact .cons (RP.keep k x _ h1) (RPs.keep k xs _ h2)
end
theorem RPs.length : ∀ {xs : List P} {vs : List V}, RPs K cl H N xs vs → xs.length = vs.length
  | [], _, h => by cases h; rfl
  | x :: xs, _, h => by
    cases h with
    | cons h1 h2 => simp [RPs.length h2]
theorem RPs.get : ∀ {xs : List P} {vs : List V} {i : Nat} {x : P}, RPs K cl H N xs vs → xs[i]? = some x → ∃ v, vs[i]? = some v ∧ RP K cl H N x v
  | [], _, _, _, _, e => by simp at e
  | y :: xs, _, i, x, h, e => by
    cases h with
    | cons h1 h2 =>
      cases i with
      | zero => simp at e; subst e; exact ⟨_, rfl, h1⟩
      | succ i =>
        obtain ⟨v, e1, r⟩ := RPs.get (i := i) (x := x) h2 (by simpa using e)
        exact ⟨v, by simpa using e1, r⟩
theorem RPs.get' {xs : List P} {vs : List V} {i : Nat} {v : V} (h : RPs K cl H N xs vs) (e : vs[i]? = some v) : ∃ x, xs[i]? = some x ∧ RP K cl H N x v := by
  have hl := h.length
  have hi : i < xs.length := by
    have := (List.getElem?_eq_some_iff.mp e).1
    omega
  obtain ⟨w, e1, r⟩ := h.get (List.getElem?_eq_getElem hi)
  rw [e] at e1; cases e1
  exact ⟨_, List.getElem?_eq_getElem hi, r⟩
theorem RPs.append : ∀ {xs ys : List P} {vs ws : List V}, RPs K cl H N xs vs → RPs K cl H N ys ws → RPs K cl H N (xs ++ ys) (vs ++ ws)
  | [], _, _, _, h, g => by cases h; exact g
  | x :: xs, _, _, _, h, g => by
    cases h with
    | cons h1 h2 => exact .cons h1 (RPs.append h2 g)
theorem RPs.set : ∀ {xs : List P} {vs : List V} {x : P} {v : V} (i : Nat), RPs K cl H N xs vs → RP K cl H N x v → RPs K cl H N (xs.set i x) (vs.set i v)
  | [], _, _, _, _, h, _ => by cases h; exact .nil
  | y :: xs, _, _, _, i, h, g => by
    cases h with
    | cons h1 h2 =>
      cases i with
      | zero => exact .cons g h2
      | succ i => exact .cons h1 (RPs.set i h2 g)
theorem RPs.take : ∀ {xs : List P} {vs : List V} (n : Nat), RPs K cl H N xs vs → RPs K cl H N (xs.take n) (vs.take n)
  | [], _, n, h => by cases h; simp; exact .nil
  | x :: xs, _, 0, h => .nil
  | x :: xs, _, n + 1, h => by
    cases h with
    | cons h1 h2 => exact .cons h1 (RPs.take n h2)
theorem RPs.drop : ∀ {xs : List P} {vs : List V} (n : Nat), RPs K cl H N xs vs → RPs K cl H N (xs.drop n) (vs.drop n)
  | [], _, n, h => by cases h; simp; exact .nil
  | x :: xs, _, 0, h => h
  | x :: xs, _, n + 1, h => by
    cases h with
    | cons h1 h2 => exact RPs.drop n h2
theorem RPs.eraseIdx : ∀ {xs : List P} {vs : List V} (n : Nat), RPs K cl H N xs vs → RPs K cl H N (xs.eraseIdx n) (vs.eraseIdx n)
  | [], _, n, h => by cases h; simp; exact .nil
  | x :: xs, _, 0, h => by
    cases h with
    | cons h1 h2 => exact h2
  | x :: xs, _, n + 1, h => by
    cases h with
    | cons h1 h2 => exact .cons h1 (RPs.eraseIdx n h2)
theorem RPs.reverse : ∀ {xs : List P} {vs : List V}, RPs K cl H N xs vs → RPs K cl H N xs.reverse vs.reverse
  | [], _, h => by cases h; exact .nil
  | x :: xs, _, h => by
    cases h with
    | cons h1 h2 =>
      rw [List.reverse_cons, List.reverse_cons]
      exact (RPs.reverse h2).append (.cons h1 .nil)
theorem RPs.repl {x : P} {v : V} (h : RP K cl H N x v) : ∀ n : Nat, RPs K cl H N (List.replicate n x) (List.replicate n v)
  | 0 => .nil
  | n + 1 => .cons h (RPs.repl h n)
theorem RPs.flat {xs : List P} {vs : List V} (h : RPs K cl H N xs vs) : ∀ n : Nat, RPs K cl H N (List.replicate n xs).flatten (List.replicate n vs).flatten
  | 0 => .nil
  | n + 1 => by
    rw [List.replicate_succ, List.replicate_succ, List.flatten_cons, List.flatten_cons]
    exact h.append (RPs.flat h n)
theorem RPs.ints : ∀ {ns : List Int} {vs : List V}, RPs K cl H N (ns.map P.int) vs → vs = ns.map V.int
  | [], _, h => by cases h; rfl
  | n :: ns, _, h => by
    cases h with
    | cons h1 h2 => cases h1; rw [RPs.ints h2]; rfl
theorem RPs.of_ints : ∀ (ns : List Int), RPs K cl H N (ns.map P.int) (ns.map V.int)
  | [] => .nil
  | n :: ns => .cons (.int n) (RPs.of_ints ns)
theorem RPs.strs : ∀ {ns : List Str} {vs : List V}, RPs K cl H N (ns.map P.str) vs → vs = ns.map V.str
  | [], _, h => by cases h; rfl
  | n :: ns, _, h => by
    cases h with
    | cons h1 h2 => cases h1; rw [RPs.strs h2]; rfl
theorem RPs.of_strs : ∀ (ns : List Str), RPs K cl H N (ns.map P.str) (ns.map V.str)
  | [] => .nil
  | n :: ns => .cons (.str n) (RPs.of_strs ns)
theorem RPs.bls : ∀ {ns : List Bool} {vs : List V}, RPs K cl H N (ns.map P.bl) vs → vs = ns.map V.bl
  | [], _, h => by cases h; rfl
  | n :: ns, _, h => by
    cases h with
    | cons h1 h2 => cases h1; rw [RPs.bls h2]; rfl
end

/-! ### owned containers -/
inductive D where
  | p (x : P)
  | lst (xs : List P)
  | dK (ks : List Key) (vs : List P) | dT (ks : List (List Key)) (vs : List P)
  | ins (c : String) (ns : List String) (vs : List P)
  | lk (d : D)
  deriving Inhabited

def D.owned : D → Bool
  | .p _ => false
  | _ => true
/-- as data: to be read -/
def D.view : D → P
  | .p x => x
  | .lst xs => .lst xs
  | .dK ks vs => .dK ks vs
  | .dT ks vs => .dT ks vs
  | .ins c ns vs => .ins c ns vs
  | .lk d => d.view

abbrev Fr (ω : Om) : Addr → Prop := fun a => ω a = .free

inductive RD (K : PySem.W.Frag) (cl : String → Option Addr) (H : Hp) (ω : Om) (i : Own) : D → V → Prop
  | p {x : P} {v : V} : RP K cl H (Fr ω) x v → RD K cl H ω i (.p x) v
  | lst {a : Addr} {vs : List V} {xs : List P} : H a = some (.lst vs) → ω a = i → RPs K cl H (Fr ω) xs vs → RD K cl H ω i (.lst xs) (.ref a)
  | dK {a : Addr} {kvs : List (Key × V)} {ks : List Key} {xs : List P} : H a = some (.dK kvs) → ω a = i → kvs.map (·.1) = ks → RPs K cl H (Fr ω) xs (kvs.map (·.2)) → RD K cl H ω i (.dK ks xs) (.ref a)
  | dT {a : Addr} {kvs : List (List Key × V)} {ks : List (List Key)} {xs : List P} : H a = some (.dT kvs) → ω a = i → kvs.map (·.1) = ks → RPs K cl H (Fr ω) xs (kvs.map (·.2)) → RD K cl H ω i (.dT ks xs) (.ref a)
  | ins {a C dx : Addr} {fs : List (Str × V)} {c : String} {ns : List String} {xs : List P} : H a = some (.ins C dx fs) → ω a = i → cl c = some C → fs.map (·.1) = ns.map ofS → RPs K cl H (Fr ω) xs (fs.map (·.2)) → RD K cl H ω i (.ins c ns xs) (.ref a)
  | lk {d : D} {v : V} : RD K cl H ω i d v → RD K cl H ω i (.lk d) v

/-- data with its root exempt from N -/
inductive RO (K : PySem.W.Frag) (cl : String → Option Addr) (H : Hp) (N : Addr → Prop) : P → V → Prop
  | p {x : P} {v : V} : RP K cl H N x v → RO K cl H N x v
  | lst {a : Addr} {vs : List V} {xs : List P} : H a = some (.lst vs) → RPs K cl H N xs vs → RO K cl H N (.lst xs) (.ref a)
  | dK {a : Addr} {kvs : List (Key × V)} {ks : List Key} {xs : List P} : H a = some (.dK kvs) → kvs.map (·.1) = ks → RPs K cl H N xs (kvs.map (·.2)) → RO K cl H N (.dK ks xs) (.ref a)
  | dT {a : Addr} {kvs : List (List Key × V)} {ks : List (List Key)} {xs : List P} : H a = some (.dT kvs) → kvs.map (·.1) = ks → RPs K cl H N xs (kvs.map (·.2)) → RO K cl H N (.dT ks xs) (.ref a)
  | ins {a C dx : Addr} {fs : List (Str × V)} {c : String} {ns : List String} {xs : List P} : H a = some (.ins C dx fs) → cl c = some C → fs.map (·.1) = ns.map ofS → RPs K cl H N xs (fs.map (·.2)) → RO K cl H N (.ins c ns xs) (.ref a)

section
variable {K : PySem.W.Frag} {cl : String → Option Addr} {H H' : Hp} {ω ω' : Om} {i : Own}
theorem RD.view : ∀ {d : D} {v : V}, RD K cl H ω i d v → RO K cl H (Fr ω) d.view v
  | .p x, _, h => by cases h with | p h => exact .p h
  | .lst xs, _, h => by cases h with | lst h1 h2 h3 => exact .lst h1 h3
  | .dK ks xs, _, h => by cases h with | dK h1 h2 h0 h3 => exact .dK h1 h0 h3
  | .dT ks xs, _, h => by cases h with | dT h1 h2 h0 h3 => exact .dT h1 h0 h3
  | .ins c ns xs, _, h => by cases h with | ins h1 h2 h3 h4 h5 => exact .ins h1 h3 h4 h5
  | .lk d, _, h => by cases h with | lk h => exact RD.view (d := d) h
theorem RO.lst_inv {N : Addr → Prop} {xs : List P} {v : V} (h : RO K cl H N (.lst xs) v) : ∃ a vs, v = .ref a ∧ H a = some (.lst vs) ∧ RPs K cl H N xs vs := by
  cases h with
  | p h => cases h with | lst h1 h2 h3 => exact ⟨_, _, rfl, h1, h3⟩
  | lst h1 h3 => exact ⟨_, _, rfl, h1, h3⟩
theorem RO.fz_inv {N : Addr → Prop} {xs : List P} {v : V} (h : RO K cl H N (.fz xs) v) : ∃ a vs, v = .ref a ∧ SqL K H a vs ∧ RPs K cl H N xs vs := by
  cases h with
  | p h => cases h with | fz h1 h3 => exact ⟨_, _, rfl, h1.sq, h3⟩
theorem RO.dK_inv {N : Addr → Prop} {ks : List Key} {xs : List P} {v : V} (h : RO K cl H N (.dK ks xs) v) : ∃ (a : Addr) (kvs : List (Key × V)), v = .ref a ∧ Rd H a (.dK kvs) ∧ kvs.map (·.1) = ks ∧ RPs K cl H N xs (kvs.map (·.2)) := by
  cases h with
  | p h => cases h with | dK h1 h2 h0 h3 => exact ⟨_, _, rfl, h1, h0, h3⟩
  | dK h1 h0 h3 => exact ⟨_, _, rfl, .inl h1, h0, h3⟩
theorem RO.dT_inv {N : Addr → Prop} {ks : List (List Key)} {xs : List P} {v : V} (h : RO K cl H N (.dT ks xs) v) : ∃ (a : Addr) (kvs : List (List Key × V)), v = .ref a ∧ Rd H a (.dT kvs) ∧ kvs.map (·.1) = ks ∧ RPs K cl H N xs (kvs.map (·.2)) := by
  cases h with
  | p h => cases h with | dT h1 h2 h0 h3 => exact ⟨_, _, rfl, h1, h0, h3⟩
  | dT h1 h0 h3 => exact ⟨_, _, rfl, .inl h1, h0, h3⟩
theorem RO.int_inv {N : Addr → Prop} {i : Int} {v : V} (h : RO K cl H N (.int i) v) : v = .int i := by cases h with | p h => cases h; rfl
theorem RO.bl_inv {N : Addr → Prop} {i : Bool} {v : V} (h : RO K cl H N (.bl i) v) : v = .bl i := by cases h with | p h => cases h; rfl
theorem RO.str_inv {N : Addr → Prop} {i : Str} {v : V} (h : RO K cl H N (.str i) v) : v = .str i := by cases h with | p h => cases h; rfl
theorem RO.non_inv {N : Addr → Prop} {v : V} (h : RO K cl H N .non v) : v = .non := by cases h with | p h => cases h; rfl
theorem RO.tup_inv {N : Addr → Prop} {xs : List P} {v : V} (h : RO K cl H N (.tup xs) v) : ∃ a vs, v = .ref a ∧ H a = some (.tup vs) ∧ RPs K cl H N xs vs := by
  cases h with
  | p h => cases h with | tup h1 h3 => exact ⟨_, _, rfl, h1, h3⟩

/-- what a step from one state to another may change -/
structure Step (ω : Om) (H : Hp) (ω' : Om) (H' : Hp) : Prop where
  fr : ∀ a o, H a = some o → ω a = .free → Kp H' a o
  ot : ∀ a o, H a = some o → ω a = .out → isTb o = false → H' a = some o
  out : ∀ a, ω a = .out → ω' a = .out
  fz : ∀ a, ω a = .free → H a ≠ none → ω' a = .free
  th : ∀ a, H a ≠ none → H' a ≠ none
  tb : ∀ a q, ω a = .tab q → ω' a = .tab q
/-- a table: all its code objects bear the name q -/
def TabW (ω : Om) (H : Hp) (a : Addr) (q : Str) : Prop := ∃ ps : Array Value, H a = some (.tbl ps) ∧ TriplesOk ps.toList ∧ ∀ (pos : Pos) (cv : Value), codeAmong pos ps.toList = some cv → ∃ c, cv = .ref c ∧ H c = some (LamX.CodeO c q) ∧ ω c = .free
def TabN (n : String) : String := "#" ++ n
def LamN (n : String) : Str := ofS n ++ ".<locals>." ++ "<lambda>"
/-- owned things are tracked, and no tuples; the tables that cl names -/
structure Dom (cl : String → Option Addr) (ω : Om) (H : Hp) : Prop where
  dom : ∀ a, ω a ≠ .free → ∃ o, H a = some o ∧ isT o = false
  tab : ∀ a q, ω a = .tab q → TabW ω H a q
  tbs : ∀ n a, cl (TabN n) = some a → ω a = .tab (LamN n)
theorem TabW.keep {a : Addr} {q : Str} (t : TabW ω H a q) (fr : ∀ c o, H c = some o → ω c = .free → Kp H' c o) (fz : ∀ c, ω c = .free → H c ≠ none → ω' c = .free) (k : ∀ o, H a = some o → H' a = some o) : TabW ω' H' a q := by
  obtain ⟨ps, h1, h2, h3⟩ := t
  refine ⟨ps, k _ h1, h2, fun pos cv e => ?_⟩
  obtain ⟨c, rfl, h4, h5⟩ := h3 pos cv e
  refine ⟨c, rfl, (fr c _ h4 h5).of rfl, fz c h5 (by rw [h4]; intro z; cases z)⟩

theorem Dom.fresh (d : Dom cl ω H) {a : Addr} (h : H a = none) : ω a = .free := by
  cases e : ω a with
  | free => rfl
  | out => obtain ⟨o, h', _⟩ := d.dom a (by rw [e]; intro z; cases z); rw [h] at h'; cases h'
  | _ => obtain ⟨o, h', _⟩ := d.dom a (by rw [e]; intro z; cases z); rw [h] at h'; cases h'
theorem Dom.tup (d : Dom cl ω H) {a : Addr} {o : HO} (h : H a = some o) (t : isT o = true) : ω a = .free := by
  cases e : ω a with
  | free => rfl
  | out => obtain ⟨o', h', t'⟩ := d.dom a (by rw [e]; intro z; cases z); rw [h] at h'; cases h'; rw [t] at t'; cases t'
  | _ => obtain ⟨o', h', t'⟩ := d.dom a (by rw [e]; intro z; cases z); rw [h] at h'; cases h'; rw [t] at t'; cases t'

theorem Step.refl : Step ω H ω H := ⟨fun _ _ h _ => .inl h, fun _ _ h _ _ => h, fun _ h => h, fun _ h _ => h, fun _ h => h, fun _ _ h => h⟩
theorem Step.trans {ω1 ω2 : Om} {H1 H2 : Hp} (a : Step ω H ω1 H1) (b : Step ω1 H1 ω2 H2) : Step ω H ω2 H2 where
  fr := fun x o h w => by
    have h2 := a.fz x w (by rw [h]; intro z; cases z)
    rcases a.fr x o h w with h1 | ⟨h1, od, h3⟩ | h1
    · exact b.fr x o h1 h2
    · exact .inr (.inl ⟨h1, od, (b.fr x _ h3 h2).of rfl⟩)
    · exact .inr (.inr h1)
  ot := fun x o h w z => b.ot x o (a.ot x o h w z) (a.out x w) z
  out := fun x h => b.out x (a.out x h)
  fz := fun x h t => b.fz x (a.fz x h t) (a.th x t)
  th := fun x h => b.th x (a.th x h)
  tb := fun x q h => b.tb x q (a.tb x q h)
theorem Step.keeps (s : Step ω H ω' H') (d : Dom cl ω H) : Keeps H H' (Fr ω) (Fr ω') :=
  ⟨fun a o h n => s.fr a o h n, fun a o h t => (s.fr a o h (d.tup h t)).of (by cases o <;> first | rfl | cases t), fun a n h => s.fz a n h⟩
/-- the same for data alone -/
structure Wk (ω : Om) (H : Hp) (ω' : Om) (H' : Hp) : Prop where
  fr : ∀ a o, H a = some o → ω a = .free → Kp H' a o
  fz : ∀ a, ω a = .free → H a ≠ none → ω' a = .free
  th : ∀ a, H a ≠ none → H' a ≠ none
theorem Step.wk (s : Step ω H ω' H') : Wk ω H ω' H' := ⟨s.fr, s.fz, s.th⟩
theorem Wk.keeps (s : Wk ω H ω' H') (d : Dom cl ω H) : Keeps H H' (Fr ω) (Fr ω') :=
  ⟨fun a o h n => s.fr a o h n, fun a o h t => (s.fr a o h (d.tup h t)).of (by cases o <;> first | rfl | cases t), fun a n h => s.fz a n h⟩
theorem Wk.rp (s : Wk ω H ω' H') (d : Dom cl ω H) {x : P} {v : V} (h : RP K cl H (Fr ω) x v) : RP K cl H' (Fr ω') x v := RP.keep (s.keeps d) x v h
theorem Wk.rps (s : Wk ω H ω' H') (d : Dom cl ω H) {x : List P} {v : List V} (h : RPs K cl H (Fr ω) x v) : RPs K cl H' (Fr ω') x v := RPs.keep (s.keeps d) x v h
theorem Step.rp (s : Step ω H ω' H') (d : Dom cl ω H) {x : P} {v : V} (h : RP K cl H (Fr ω) x v) : RP K cl H' (Fr ω') x v := RP.keep (s.keeps d) x v h
theorem Step.rps (s : Step ω H ω' H') (d : Dom cl ω H) {x : List P} {v : List V} (h : RPs K cl H (Fr ω) x v) : RPs K cl H' (Fr ω') x v := RPs.keep (s.keeps d) x v h
end
end PV

set_option Elab.async false
set_option linter.all false
set_option maxRecDepth 100000
set_option maxHeartbeats 4000000
/-! PvB: a frame's state, what a piece of code yields (R), expressions as functions on states (M), the reading tM. -/
namespace PV
open PySem L2

abbrev Env := List (Option D)
inductive O where
  | v (x : P) | at (i : Nat)
inductive R (α : Type) where
  | ok (a : α) (σ : Env) | exc (c : String) (ns : List String) (vs : List P) (σ : Env) | stuck
def R.bind {α β : Type} (r : R α) (k : α → Env → R β) : R β := match r with
  | .ok a σ => k a σ
  | .exc c ns vs σ => .exc c ns vs σ
  | .stuck => .stuck
@[simp] theorem R.bind_ok {α β : Type} (a : α) (σ : Env) (k : α → Env → R β) : (R.ok a σ).bind k = k a σ := rfl
@[simp] theorem R.bind_exc {α β : Type} (c ns vs) (σ : Env) (k : α → Env → R β) : (R.exc c ns vs σ : R α).bind k = .exc c ns vs σ := rfl
@[simp] theorem R.bind_stuck {α β : Type} (k : α → Env → R β) : (R.stuck : R α).bind k = .stuck := rfl
abbrev M := Env → R O
abbrev MT := Env → R Bool
abbrev MA := Env → R (List O)
inductive RS where
  | next (σ : Env) | ret (d : D) (σ : Env) | brk (σ : Env) | cont (σ : Env) | exc (c : String) (ns : List String) (vs : List P) (σ : Env) | stuck
abbrev MS := Env → RS

def O.get (σ : Env) : O → Option P
  | .v x => some x
  | .at i => match σ[i]? with
    | some (some d) => some d.view
    | _ => none
@[simp] theorem O.get_v (σ : Env) (x : P) : O.get σ (.v x) = some x := rfl

/-- what a text's place fixes: the written part, the classes' addresses, the parameters as handed in, the wish about exceptions -/
structure G where
  K : PySem.W.Frag
  cl : String → Option Addr
  /-- the parameters that may be owned things, by their numbers -/
  io : List Nat
  /-- what was handed in -/
  ρ : List V
  Ω : WX

structure Sta (g : G) (ω : Om) (H : Hp) (σD : Env) (σ : L2.St) : Prop where
  len : σD.length = σ.length
  rd : ∀ (i : Nat) (d : D), σD[i]? = some (some d) → ∃ v, σ[i]? = some (some v) ∧ RD g.K g.cl H ω (.at i) d v
  par : ∀ (i : Nat) (v : V), i ∈ g.io → g.ρ[i]? = some v → σ[i]? = some (some v)
  dom : Dom g.cl ω H

inductive OV (g : G) (ω : Om) (H : Hp) (σ : L2.St) : O → V → Prop
  | v {x : P} {v : V} : RP g.K g.cl H (Fr ω) x v → OV g ω H σ (.v x) v
  | at {i : Nat} {v : V} : σ[i]? = some (some v) → OV g ω H σ (.at i) v
inductive OVs (g : G) (ω : Om) (H : Hp) (σ : L2.St) : List O → List V → Prop
  | nil : OVs g ω H σ [] []
  | cons {o : O} {v : V} {os : List O} {vs : List V} : OV g ω H σ o v → OVs g ω H σ os vs → OVs g ω H σ (o :: os) (v :: vs)

/-- an own exception: its class, its fields in its dict -/
def EX (g : G) (ω : Om) (H : Hp) (c : String) (ns : List String) (vs : List P) (cls : Value) (d : Option Addr) : Prop :=
  ∃ (C dx : Addr) (fs : List (Str × V)), cls = .ref C ∧ d = some dx ∧ g.cl c = some C ∧ H dx = some (.xd fs) ∧ fs.map (·.1) = ns.map ofS ∧ RPs g.K g.cl H (Fr ω) vs (fs.map (·.2))

def Post (g : G) (ω : Om) (H : Hp) (σ : L2.St) {β : Type} (r : R β) (k : β → Env → Om → Hp → Prop) : Prop := match r with
  | .ok b σD' => ∀ ω' H', Step ω H ω' H' → Sta g ω' H' σD' σ → k b σD' ω' H'
  | .exc c ns vs σD' => ∀ ω' H' C d, Step ω H ω' H' → Sta g ω' H' σD' σ → EX g ω' H' c ns vs C d → g.Ω C d σ H'
  | .stuck => False

def tM (g : G) (m : M) : TE := fun σ H Q => ∃ ω σD, Sta g ω H σD σ ∧ Post g ω H σ (m σD) fun o _ ω' H' => ∀ v, OV g ω' H' σ o v → Q v H'
def tT (g : G) (m : MT) : TT := fun σ H Q => ∃ ω σD, Sta g ω H σD σ ∧ Post g ω H σ (m σD) fun b _ _ H' => Q b H'
def tA (g : G) (m : MA) : TA := fun σ H Q => ∃ ω σD, Sta g ω H σD σ ∧ Post g ω H σ (m σD) fun os _ ω' H' => ∀ vs, OVs g ω' H' σ os vs → Q vs H'

section
variable {g : G} {ω ω' : Om} {H H' : Hp} {σD σD' : Env} {σ : L2.St}
theorem Post.shift {β : Type} {r : R β} {k : β → Env → Om → Hp → Prop} (s : Step ω H ω' H') (h : Post g ω H σ r k) : Post g ω' H' σ r k := by
  cases r with
  | ok b σD' => exact fun ω2 H2 s2 st => h ω2 H2 (s.trans s2) st
  | exc c ns vs σD' => exact fun ω2 H2 C d s2 st => h ω2 H2 C d (s.trans s2) st
  | stuck => exact h
theorem Post.imp {β : Type} {r : R β} {k k' : β → Env → Om → Hp → Prop} (h : Post g ω H σ r k) (f : ∀ b σD' ω' H', Step ω H ω' H' → Sta g ω' H' σD' σ → k b σD' ω' H' → k' b σD' ω' H') : Post g ω H σ r k' := by
  cases r with
  | ok b σD' => exact fun ω2 H2 s2 st => f _ _ _ _ s2 st (h ω2 H2 s2 st)
  | exc c ns vs σD' => exact h
  | stuck => exact h
theorem Post.ok {β : Type} {b : β} {k : β → Env → Om → Hp → Prop} (h : Post g ω H σ (.ok b σD) k) (st : Sta g ω H σD σ) : k b σD ω H := h ω H .refl st
theorem Post.bind {α β : Type} {r : R α} {f : α → Env → R β} {k : β → Env → Om → Hp → Prop} (h : Post g ω H σ (r.bind f) k) : Post g ω H σ r fun a σD' ω' H' => Post g ω' H' σ (f a σD') k := by
  cases r with
  | ok b σD' => exact fun ω2 H2 s2 st => Post.shift s2 h
  | exc c ns vs σD' => exact h
  | stuck => exact h
theorem OV.step {o : O} {v : V} (h : OV g ω H σ o v) (s : Step ω H ω' H') (d : Dom g.cl ω H) : OV g ω' H' σ o v := by
  cases h with
  | v h => exact .v (s.rp d h)
  | «at» h => exact .at h
theorem OVs.step {o : List O} {v : List V} (h : OVs g ω H σ o v) (s : Step ω H ω' H') (d : Dom g.cl ω H) : OVs g ω' H' σ o v := by
  induction h with
  | nil => exact .nil
  | cons h _ ih => exact .cons (h.step s d) ih
theorem Sta.get (st : Sta g ω H σD σ) {o : O} {v : V} {x : P} (h : OV g ω H σ o v) (e : o.get σD = some x) : RO g.K g.cl H (Fr ω) x v := by
  cases h with
  | v h => cases e; exact .p h
  | «at» h =>
    rename_i i
    dsimp only [O.get] at e
    cases q : σD[i]? with
    | none => rw [q] at e; cases e
    | some o =>
      cases o with
      | none => rw [q] at e; cases e
      | some d =>
        rw [q] at e
        cases e
        obtain ⟨w, e1, r⟩ := st.rd i d q
        rw [h] at e1; cases e1
        exact r.view

/-- all that stood stands, as far as it matters: nothing owned is touched -/
theorem Step.same (s : Same H H') : Step ω H ω H' := ⟨fun a o h _ => .inl (s a o h), fun a o h _ _ => s a o h, fun _ h => h, fun _ h _ => h, fun a h => by
  cases e : H a with
  | none => exact absurd e h
  | some o => (rw [s a o e]; intro z; cases z), fun _ _ h => h⟩
theorem Dom.same {cl : String → Option Addr} (d : Dom cl ω H) (s : Same H H') : Dom cl ω H' := ⟨fun a h => by
  obtain ⟨o, e, t⟩ := d.dom a h
  exact ⟨o, s a o e, t⟩, fun a q h => (d.tab a q h).keep (fun c o h _ => .inl (s c o h)) (fun _ h _ => h) (fun o h => s a o h), d.tbs⟩
theorem same_keeps {N : Addr → Prop} (s : Same H H') : Keeps H H' N N := ⟨fun a o h _ => .inl (s a o h), fun a o h _ => s a o h, fun _ h _ => h⟩
theorem RD.same {K : PySem.W.Frag} {cl : String → Option Addr} {i : Own} (s : Same H H') : ∀ {d : D} {v : V}, RD K cl H ω i d v → RD K cl H' ω i d v
  | .p x, _, h => by cases h with | p h => exact .p (RP.keep (same_keeps s) _ _ h)
  | .lst xs, _, h => by cases h with | lst h1 h2 h3 => exact .lst (s _ _ h1) h2 (RPs.keep (same_keeps s) _ _ h3)
  | .dK ks xs, _, h => by cases h with | dK h1 h2 h0 h3 => exact .dK (s _ _ h1) h2 h0 (RPs.keep (same_keeps s) _ _ h3)
  | .dT ks xs, _, h => by cases h with | dT h1 h2 h0 h3 => exact .dT (s _ _ h1) h2 h0 (RPs.keep (same_keeps s) _ _ h3)
  | .ins c ns xs, _, h => by cases h with | ins h1 h2 h3 h4 h5 => exact .ins (s _ _ h1) h2 h3 h4 (RPs.keep (same_keeps s) _ _ h5)
  | .lk d, _, h => by cases h with | lk h => exact .lk (RD.same s h)
theorem Sta.same (st : Sta g ω H σD σ) (s : Same H H') : Sta g ω H' σD σ := ⟨st.len, fun i d e => by
  obtain ⟨v, e1, r⟩ := st.rd i d e
  exact ⟨v, e1, r.same s⟩, st.par, st.dom.same s⟩
theorem Same.new {a : Addr} {o : HO} (h : H a = none) : Same H (upd H a o) := fun b u e => by
  rw [upd_ne (ne_of_none e h)]; exact e
end

/-! ### judgements weakened to a reading -/
theorem pe_weak {X : Cx} {e : Expr} {t t' : TE} (h : PE X e t) (f : ∀ σ H Q, t' σ H Q → t σ H Q) : PE X e t' := ⟨fun pins s σ H Q I q => h.run pins s σ H Q I (f _ _ _ q)⟩
theorem pt_weak {X : Cx} {e : Expr} {t t' : TT} (h : PT X e t) (f : ∀ σ H Q, t' σ H Q → t σ H Q) : PT X e t' := ⟨fun pins s σ H Q I q => h.run pins s σ H Q I (f _ _ _ q)⟩
theorem pw_weak {X : Cx} {e : Expr} {t t' : TT} (h : PW X e t) (f : ∀ σ H Q, t' σ H Q → t σ H Q) : PW X e t' := ⟨fun wh pins s σ H Q I q => h.run wh pins s σ H Q I (f _ _ _ q)⟩
theorem pa_weak {X : Cx} {e : List Expr} {t t' : TA} (h : PA X e t) (f : ∀ σ H Q, t' σ H Q → t σ H Q) : PA X e t' := ⟨fun pos pins s σ H Q I q => h.run pos pins s σ H Q I (f _ _ _ q)⟩
theorem ps_weak {X : Cx} {e : Stmt} {t t' : TS} (h : PS X e t) (f : ∀ D σ H, t' D σ H → t D σ H) : PS X e t' := ⟨fun pins s σ H D I q => h.run pins s σ H D I (f _ _ _ q)⟩
theorem pss_weak {X : Cx} {e : List Stmt} {t t' : TS} (h : PSs X e t) (f : ∀ D σ H, t' D σ H → t D σ H) : PSs X e t' := ⟨fun pins s σ H D I q => h.run pins s σ H D I (f _ _ _ q)⟩
theorem pe_or' {X : Cx} {e : Expr} {t t' : TE} (h : PE X e t) (h' : PE X e t') : PE X e (fun σ H Q => t σ H Q ∨ t' σ H Q) := ⟨fun pins s σ H Q I q => q.elim (h.run pins s σ H Q I) (h'.run pins s σ H Q I)⟩

section
variable {X : Cx} {g : G}
/-! ### constants, names -/
def mC (x : P) : M := fun σ => .ok (.v x) σ
theorem tM_C {x : P} {v : V} (r : ∀ K cl H N, RP K cl H N x v) (σ : L2.St) (H : Hp) (Q : VK) (h : tM g (mC x) σ H Q) : tC v σ H Q := by
  obtain ⟨ω, σD, st, q⟩ := h
  exact (Post.ok q st) v (.v (r _ _ _ _))
theorem de_int {i j pos} : PE X (.Constant (.int i) j pos) (tM g (mC (.int i))) := pe_weak pe_int (tM_C fun _ _ _ _ => .int i)
theorem de_bl {b j pos} : PE X (.Constant (.bool b) j pos) (tM g (mC (.bl b))) := pe_weak pe_bl (tM_C fun _ _ _ _ => .bl b)
theorem de_non {j pos} : PE X (.Constant .none j pos) (tM g (mC .non)) := pe_weak pe_non (tM_C fun _ _ _ _ => .non)
theorem de_str {x j pos} : PE X (.Constant (.str x) j pos) (tM g (mC (.str x))) := pe_weak pe_str (tM_C fun _ _ _ _ => .str x)
/-- a name of the def: data, or the place of an owned thing -/
def mV (i : Nat) : M := fun σ => match σ[i]? with
  | some (some (.p x)) => .ok (.v x) σ
  | some (some _) => .ok (.at i) σ
  | _ => .stuck
theorem tM_V {i : Nat} (σ : L2.St) (H : Hp) (Q : VK) (h : tM g (mV i) σ H Q) : tVar i σ H Q := by
  obtain ⟨ω, σD, st, q⟩ := h
  unfold mV at q
  cases e : σD[i]? with
  | none => rw [e] at q; exact q.elim
  | some o =>
    cases o with
    | none => rw [e] at q; exact q.elim
    | some d =>
      rw [e] at q
      obtain ⟨v, e1, r⟩ := st.rd i d e
      refine ⟨v, e1, ?_⟩
      cases d with
      | p x => cases r with | p r => exact (Post.ok q st) v (.v r)
      | lst _ => exact (Post.ok q st) v (.at e1)
      | dK _ _ => exact (Post.ok q st) v (.at e1)
      | dT _ _ => exact (Post.ok q st) v (.at e1)
      | ins _ _ _ => exact (Post.ok q st) v (.at e1)
      | lk _ => exact (Post.ok q st) v (.at e1)
theorem de_var (i : Nat) {x : Str} {pos : Pos} (hN : X.N[i]? = some x := by rfl) (hv : Vis X.env.scope x := by first | exact Or.inl rfl | exact Or.inr (Or.inl rfl) | exact Or.inr (Or.inr rfl)) (hd : (x == ("__debug__" : Str)) = false := by decide)
    (hcd : (x == ("__classdict__" : Str)) = false := by decide) : PE X (.Name x pos) (tM g (mV i)) := pe_weak (pe_var hN hv hd hcd) tM_V
/-- a module's constant -/
theorem de_glob {x : Str} {p : P} {v : V} {u : Value} {pos : Pos} (hg : Gl X x) (hm : X.mg x = some u) (r : RelV v u) (rp : ∀ H N, RP g.K g.cl H N p v) (hd : (x == ("__debug__" : Str)) = false := by decide) : PE X (.Name x pos) (tM g (mC p)) :=
  pe_weak (pe_glob hg hm r hd) fun σ H Q h => by
    obtain ⟨ω, σD, st, q⟩ := h
    exact (Post.ok q st) v (.v (rp _ _))

/-! ### operations by values -/
def Prim1 (K : PySem.W.Frag) (cl : String → Option Addr) (r : V → Hp → VK → Prop) (f : P → Option P) : Prop :=
  ∀ (ω : Om) (H : Hp) (x z : P) (vx : V) (Q : VK), Dom cl ω H → RO K cl H (Fr ω) x vx → f x = some z → (∀ H' v, Same H H' → RP K cl H' (Fr ω) z v → Q v H') → r vx H Q
def Prim2 (K : PySem.W.Frag) (cl : String → Option Addr) (r : R2) (f : P → P → Option P) : Prop :=
  ∀ (ω : Om) (H : Hp) (x y z : P) (vx vy : V) (Q : VK), Dom cl ω H → RO K cl H (Fr ω) x vx → RO K cl H (Fr ω) y vy → f x y = some z → (∀ H' v, Same H H' → RP K cl H' (Fr ω) z v → Q v H') → r vx vy H Q
def R.lift (σ : Env) : Option P → R O
  | some z => .ok (.v z) σ
  | none => .stuck
@[simp] theorem R.lift_some (σ : Env) (z : P) : R.lift σ (some z) = .ok (.v z) σ := rfl
def mOp1 (f : P → Option P) (a : M) : M := fun σ => (a σ).bind fun oa σ1 => R.lift σ1 ((oa.get σ1).bind f)
def mOp2 (f : P → P → Option P) (a b : M) : M := fun σ => (a σ).bind fun oa σ1 => (b σ1).bind fun ob σ2 => R.lift σ2 ((oa.get σ2).bind fun x => (ob.get σ2).bind fun y => f x y)
theorem lift_post {ω : Om} {H : Hp} {σ : L2.St} {σD : Env} {o : Option P} {k : O → Env → Om → Hp → Prop} (h : Post g ω H σ (R.lift σD o) k) : ∃ z, o = some z ∧ Post g ω H σ (.ok (.v z) σD) k := by
  cases o with
  | none => exact h.elim
  | some z => exact ⟨z, rfl, h⟩
theorem tM_op1 {r : V → Hp → VK → Prop} {f : P → Option P} {a : M} (hp : Prim1 g.K g.cl r f) (σ : L2.St) (H : Hp) (Q : VK) (h : tM g (mOp1 f a) σ H Q) : tM g a σ H fun x H1 => r x H1 Q := by
  obtain ⟨ω, σD, st, q⟩ := h
  refine ⟨ω, σD, st, q.bind.imp fun oa σ1 ω1 H1 s1 st1 q1 v ov => ?_⟩
  obtain ⟨z, e, q1⟩ := lift_post q1
  obtain ⟨x, e1, e2⟩ := Option.bind_eq_some_iff.mp e
  refine hp ω1 H1 x z v Q st1.dom (st1.get ov e1) e2 fun H' u sm rz => ?_
  exact q1 ω1 H' (.same sm) (st1.same sm) u (.v rz)
theorem tM_op2 {r : R2} {f : P → P → Option P} {a b : M} (hp : Prim2 g.K g.cl r f) (σ : L2.St) (H : Hp) (Q : VK) (h : tM g (mOp2 f a b) σ H Q) : tOp r (tM g a) (tM g b) σ H Q := by
  obtain ⟨ω, σD, st, q⟩ := h
  refine ⟨ω, σD, st, q.bind.imp fun oa σ1 ω1 H1 s1 st1 q1 va ova => ⟨ω1, σ1, st1, q1.bind.imp fun ob σ2 ω2 H2 s2 st2 q2 vb ovb => ?_⟩⟩
  obtain ⟨z, e, q2⟩ := lift_post q2
  obtain ⟨x, e1, e⟩ := Option.bind_eq_some_iff.mp e
  obtain ⟨y, e2, e⟩ := Option.bind_eq_some_iff.mp e
  refine hp ω2 H2 x y z va vb Q st2.dom (st2.get (ova.step s2 st1.dom) e1) (st2.get ovb e2) e fun H' u sm rz => ?_
  exact q2 ω2 H' (.same sm) (st2.same sm) u (.v rz)
theorem de_bin {op : Operator} {r : R2} {f : P → P → Option P} {a b : Expr} {ma mb : M} {pos : Pos} (ho : OpR X (binaryOp op) r) (hp : Prim2 g.K g.cl r f) (ha : PE X a (tM g ma)) (hb : PE X b (tM g mb)) : PE X (.BinOp a op b pos) (tM g (mOp2 f ma mb)) :=
  pe_weak (pe_op ho ha hb) (tM_op2 hp)
theorem de_cmp {op : CmpOp} {r : R2} {f : P → P → Option P} {a b : Expr} {ma mb : M} {pos : Pos} (ho : OpR X (compareOp op) r) (hp : Prim2 g.K g.cl r f) (ha : PE X a (tM g ma)) (hb : PE X b (tM g mb)) (hm : behindInMarks op b = false := by first | exact nomark _ | rfl) : PE X (.Compare a [op] [b] pos) (tM g (mOp2 f ma mb)) :=
  pe_weak (pe_cmpR ho ha hb hm) (tM_op2 hp)
theorem de_ix {r : R2} {f : P → P → Option P} {a b : Expr} {ma mb : M} {pos : Pos} (ho : IxR X r) (hp : Prim2 g.K g.cl r f) (ha : PE X a (tM g ma)) (hb : PE X b (tM g mb)) (hs : PlainIx b := by exact fun _ _ => rfl) : PE X (.Subscript a b pos) (tM g (mOp2 f ma mb)) :=
  pe_weak (pe_ix ho ha hb hs) (tM_op2 hp)
theorem de_un {op : UnaryOp} {r : V → Hp → VK → Prop} {f : P → Option P} {a : Expr} {ma : M} {pos : Pos} (ho : UnR X (unaryOp op) r) (hp : Prim1 g.K g.cl r f) (ha : PE X a (tM g ma)) : PE X (.UnaryOp op a pos) (tM g (mOp1 f ma)) :=
  pe_weak (pe_un ho ha) (tM_op1 hp)

/-! ### arguments -/
def mAs : List M → MA
  | [] => fun σ => .ok [] σ
  | m :: ms => fun σ => (m σ).bind fun o σ1 => (mAs ms σ1).bind fun os σ2 => .ok (o :: os) σ2
theorem da_nil : PA X [] (tA g (mAs [])) := pa_weak pa_nil fun σ H Q h => by
  obtain ⟨ω, σD, st, q⟩ := h
  exact (Post.ok q st) [] .nil
theorem da_cons {e : Expr} {es : List Expr} {m : M} {ms : List M} (ha : PE X e (tM g m)) (hr : PA X es (tA g (mAs ms))) (hs : starEach (e :: es) X.env = (false, eval e X.env) :: starEach es X.env := by rfl) : PA X (e :: es) (tA g (mAs (m :: ms))) :=
  pa_weak (pa_cons ha hr hs) fun σ H Q h => by
    obtain ⟨ω, σD, st, q⟩ := h
    refine ⟨ω, σD, st, q.bind.imp fun oa σ1 ω1 H1 s1 st1 q1 va ova => ⟨ω1, σ1, st1, q1.bind.imp fun os σ2 ω2 H2 s2 st2 q2 vs ovs => ?_⟩⟩
    exact (Post.ok q2 st2) _ (.cons (ova.step s2 st1.dom) ovs)
/-- the data of some operands -/
def getAll (σ : Env) : List O → Option (List P)
  | [] => some []
  | o :: os => (o.get σ).bind fun x => (getAll σ os).bind fun xs => some (x :: xs)
@[simp] theorem getAll_nil (σ : Env) : getAll σ [] = some [] := rfl
@[simp] theorem getAll_cons (σ : Env) (o : O) (os : List O) : getAll σ (o :: os) = (o.get σ).bind fun x => (getAll σ os).bind fun xs => some (x :: xs) := rfl
inductive ROs (K : PySem.W.Frag) (cl : String → Option Addr) (H : Hp) (N : Addr → Prop) : List P → List V → Prop
  | nil : ROs K cl H N [] []
  | cons {x : P} {v : V} {xs : List P} {vs : List V} : RO K cl H N x v → ROs K cl H N xs vs → ROs K cl H N (x :: xs) (v :: vs)
theorem Sta.getAll {ω : Om} {H : Hp} {σD : Env} {σ : L2.St} (st : Sta g ω H σD σ) {os : List O} {vs : List V} (h : OVs g ω H σ os vs) : ∀ {xs : List P}, getAll σD os = some xs → ROs g.K g.cl H (Fr ω) xs vs := by
  induction h with
  | nil => intro xs e; cases e; exact .nil
  | cons h1 _ ih =>
    intro xs e
    obtain ⟨x, e1, e⟩ := Option.bind_eq_some_iff.mp e
    obtain ⟨ys, e2, e⟩ := Option.bind_eq_some_iff.mp e
    cases e
    exact .cons (st.get h1 e1) (ih e2)
def PrimN (K : PySem.W.Frag) (cl : String → Option Addr) (r : List V → Hp → VK → Prop) (f : List P → Option P) : Prop :=
  ∀ (ω : Om) (H : Hp) (xs : List P) (z : P) (vs : List V) (Q : VK), Dom cl ω H → ROs K cl H (Fr ω) xs vs → f xs = some z → (∀ H' v, Same H H' → RP K cl H' (Fr ω) z v → Q v H') → r vs H Q
def mPrim (f : List P → Option P) (ms : List M) : M := fun σ => (mAs ms σ).bind fun os σ1 => R.lift σ1 ((getAll σ1 os).bind f)
theorem tM_prim {r : List V → Hp → VK → Prop} {f : List P → Option P} {ms : List M} (hp : PrimN g.K g.cl r f) (σ : L2.St) (H : Hp) (Q : VK) (h : tM g (mPrim f ms) σ H Q) : tA g (mAs ms) σ H fun vs H1 => r vs H1 Q := by
  obtain ⟨ω, σD, st, q⟩ := h
  refine ⟨ω, σD, st, q.bind.imp fun os σ1 ω1 H1 s1 st1 q1 vs ov => ?_⟩
  obtain ⟨z, e, q1⟩ := lift_post q1
  obtain ⟨xs, e1, e2⟩ := Option.bind_eq_some_iff.mp e
  refine hp ω1 H1 xs z vs Q st1.dom (st1.getAll ov e1) e2 fun H' u sm rz => ?_
  exact q1 ω1 H' (.same sm) (st1.same sm) u (.v rz)
theorem de_blt {id : String} {r : List V → Hp → VK → Prop} {f : List P → Option P} {x : Str} {e : Expr} {es : List Expr} {ms : List M} {p pos : Pos} (hc : CallR X (.builtin id) r) (hp : PrimN g.K g.cl r f) (hg : Gl X x) (hm : X.mg x = none) (hv : bootBuiltins x = some (.builtin id)) (ha : PA X (e :: es) (tA g (mAs ms)))
    (hn : x ≠ "__name__" := by decide) (hdb : (x == ("__debug__" : Str)) = false := by decide) (he : starEach (e :: es) X.env = (false, eval e X.env) :: starEach es X.env := by rfl) (hpl : (backTo pos (starEach es X.env)).any (·.1) = false := by rfl) : PE X (.Call (.Name x p) (e :: es) [] pos) (tM g (mPrim f ms)) :=
  pe_weak (pe_callB hc hg hm hv ha hn hdb he hpl) (tM_prim hp)
theorem de_bty {T : String} {r : List V → Hp → VK → Prop} {f : List P → Option P} {x : Str} {e : Expr} {es : List Expr} {ms : List M} {p pos : Pos} (hc : CallR X (.type T) r) (hp : PrimN g.K g.cl r f) (hg : Gl X x) (hm : X.mg x = none) (hv : bootBuiltins x = some (.type T)) (ha : PA X (e :: es) (tA g (mAs ms)))
    (hn : x ≠ "__name__" := by decide) (hdb : (x == ("__debug__" : Str)) = false := by decide) (he : starEach (e :: es) X.env = (false, eval e X.env) :: starEach es X.env := by rfl) (hpl : (backTo pos (starEach es X.env)).any (·.1) = false := by rfl) : PE X (.Call (.Name x p) (e :: es) [] pos) (tM g (mPrim f ms)) :=
  pe_weak (pe_callTy hc hg hm hv ha hn hdb he hpl) (tM_prim hp)
/-- a tuple of data: owned parts may not stand in it -/
def pureAll : List O → Option (List P)
  | [] => some []
  | .v x :: os => (pureAll os).bind fun xs => some (x :: xs)
  | .at _ :: _ => none
@[simp] theorem pureAll_nil : pureAll [] = some [] := rfl
@[simp] theorem pureAll_cons (x : P) (os : List O) : pureAll (.v x :: os) = (pureAll os).bind fun xs => some (x :: xs) := rfl
theorem pureAll_ok {ω : Om} {H : Hp} {σ : L2.St} {os : List O} {vs : List V} (h : OVs g ω H σ os vs) : ∀ {xs : List P}, pureAll os = some xs → RPs g.K g.cl H (Fr ω) xs vs := by
  induction h with
  | nil => intro xs e; cases e; exact .nil
  | cons h1 _ ih =>
    intro xs e
    cases h1 with
    | v h1 =>
      obtain ⟨ys, e2, e⟩ := Option.bind_eq_some_iff.mp e
      cases e
      exact .cons h1 (ih e2)
    | «at» _ => cases e
/-- the longest line -/
def fits (n : Nat) : Option Unit := if n ≤ sizeLine then some () else none
def mTup (ms : List M) : M := fun σ => (mAs ms σ).bind fun os σ1 => R.lift σ1 ((pureAll os).bind fun xs => if xs.length ≤ sizeLine then some (.tup xs) else none)
theorem de_tup {es : List Expr} {ms : List M} {x1} {pos : Pos} (ha : PA X es (tA g (mAs ms))) : PE X (.Tuple es x1 pos) (tM g (mTup ms)) :=
  pe_weak (pe_tup ha) fun σ H Q h => by
    obtain ⟨ω, σD, st, q⟩ := h
    refine ⟨ω, σD, st, q.bind.imp fun os σ1 ω1 H1 s1 st1 q1 vs ov => ?_⟩
    obtain ⟨z, e, q1⟩ := lift_post q1
    obtain ⟨xs, e1, e2⟩ := Option.bind_eq_some_iff.mp e
    have rp := pureAll_ok ov e1
    split at e2
    · rename_i hl
      cases e2
      refine ⟨by rw [← rp.length]; exact hl, fun p hp => ?_⟩
      have sm : Same H1 (upd H1 p (.tup vs)) := Same.new hp
      exact q1 ω1 _ (.same sm) (st1.same sm) _ (.v (.tup upd_same (RPs.keep (same_keeps sm) _ _ rp)))
    · cases e2
/-- a list that is handed on as data -/
def mLst (ms : List M) : M := fun σ => (mAs ms σ).bind fun os σ1 => R.lift σ1 ((pureAll os).bind fun xs => if xs.length ≤ sizeLine then some (.lst xs) else none)
theorem de_lst {es : List Expr} {ms : List M} {pos : Pos} (ha : PA X es (tA g (mAs ms))) : PE X (.List es pos) (tM g (mLst ms)) :=
  pe_weak (pe_lst ha) fun σ H Q h => by
    obtain ⟨ω, σD, st, q⟩ := h
    refine ⟨ω, σD, st, q.bind.imp fun os σ1 ω1 H1 s1 st1 q1 vs ov => ?_⟩
    obtain ⟨z, e, q1⟩ := lift_post q1
    obtain ⟨xs, e1, e2⟩ := Option.bind_eq_some_iff.mp e
    have rp := pureAll_ok ov e1
    split at e2
    · rename_i hl
      cases e2
      refine ⟨by rw [← rp.length]; exact hl, fun p hp => ?_⟩
      have sm : Same H1 (upd H1 p (.lst vs)) := Same.new hp
      exact q1 ω1 _ (.same sm) (st1.same sm) _ (.v (.lst upd_same (st1.dom.fresh hp) (RPs.keep (same_keeps sm) _ _ rp)))
    · cases e2

/-! ### tests -/
def mTe (m : M) : MT := fun σ => (m σ).bind fun o σ1 => match o.get σ1 with
  | some (.bl b) => .ok b σ1
  | _ => .stuck
theorem tT_e {m : M} (σ : L2.St) (H : Hp) (Q : Bool → Hp → Prop) (h : tT g (mTe m) σ H Q) : tTest (tM g m) σ H Q := by
  obtain ⟨ω, σD, st, q⟩ := h
  refine ⟨ω, σD, st, q.bind.imp fun oa σ1 ω1 H1 s1 st1 q1 v ov => ?_⟩
  cases e : oa.get σ1 with
  | none => rw [e] at q1; exact q1.elim
  | some x =>
    rw [e] at q1
    have ro := st1.get ov e
    cases x with
    | bl b =>
      refine ⟨b, ?_, Post.ok q1 st1⟩
      cases ro with | p ro => cases ro; rfl
    | _ => exact q1.elim
theorem dt_cmp {op : CmpOp} {r : R2} {f : P → P → Option P} {a b : Expr} {ma mb : M} {pos : Pos} (ho : OpR X (compareOp op) r) (hp : Prim2 g.K g.cl r f) (ha : PE X a (tM g ma)) (hb : PE X b (tM g mb)) (hm : behindInMarks op b = false := by first | exact nomark _ | rfl) : PT X (.Compare a [op] [b] pos) (tT g (mTe (mOp2 f ma mb))) := by
  refine pt_weak (pt_cmpR ho ha hb hm) fun σ H Q h => ?_
  obtain ⟨ω, σD, st, q⟩ := tT_e σ H Q h
  exact tM_op2 hp σ H _ ⟨ω, σD, st, q⟩
theorem dt_val {e : Expr} {m : M} (he : PE X e (tM g m)) (hw : ∀ whole, isTrue e X.env whole = (do let v ← whole; standAt e.pos; holding [v] (truthy v)) := by intro _; rfl) : PT X e (tT g (mTe m)) :=
  pt_weak (pt_val he hw) fun σ H Q h => tT_e σ H Q h
def mNotT (m : MT) : MT := fun σ => (m σ).bind fun b σ1 => .ok (!b) σ1
theorem dt_not {a : Expr} {m : MT} {pos : Pos} (ha : PT X a (tT g m)) : PT X (.UnaryOp .Not a pos) (tT g (mNotT m)) := pt_weak (pt_not ha) fun σ H Q h => by
  obtain ⟨ω, σD, st, q⟩ := h
  exact ⟨ω, σD, st, q.bind.imp fun b σ1 ω1 H1 s1 st1 q1 => Post.ok q1 st1⟩
def mAndT (a b : MT) : MT := fun σ => (a σ).bind fun x σ1 => if x = true then b σ1 else .ok false σ1
def mOrT (a b : MT) : MT := fun σ => (a σ).bind fun x σ1 => if x = true then .ok true σ1 else b σ1
theorem dw_and1 {a : Expr} {m : MT} {pos : Pos} (ha : PT X a (tT g m)) : PW X (.BoolOp .And [a] pos) (tT g m) := pw_and1 ha
theorem dw_or1 {a : Expr} {m : MT} {pos : Pos} (ha : PT X a (tT g m)) : PW X (.BoolOp .Or [a] pos) (tT g m) := pw_or1 ha
theorem dw_and {a b : Expr} {rest : List Expr} {ma mb : MT} {pos : Pos} (ha : PT X a (tT g ma)) (hb : PW X (.BoolOp .And (b :: rest) pos) (tT g mb)) : PW X (.BoolOp .And (a :: b :: rest) pos) (tT g (mAndT ma mb)) := pw_weak (pw_and ha hb) fun σ H Q h => by
  obtain ⟨ω, σD, st, q⟩ := h
  refine ⟨ω, σD, st, q.bind.imp fun x σ1 ω1 H1 s1 st1 q1 => ?_⟩
  cases x with
  | true => exact ⟨ω1, σ1, st1, q1⟩
  | false => exact Post.ok q1 st1
theorem dw_or {a b : Expr} {rest : List Expr} {ma mb : MT} {pos : Pos} (ha : PT X a (tT g ma)) (hb : PW X (.BoolOp .Or (b :: rest) pos) (tT g mb)) : PW X (.BoolOp .Or (a :: b :: rest) pos) (tT g (mOrT ma mb)) := pw_weak (pw_or ha hb) fun σ H Q h => by
  obtain ⟨ω, σD, st, q⟩ := h
  refine ⟨ω, σD, st, q.bind.imp fun x σ1 ω1 H1 s1 st1 q1 => ?_⟩
  cases x with
  | false => exact ⟨ω1, σ1, st1, q1⟩
  | true => exact Post.ok q1 st1
/-- and, or, not, if-else as values -/
def mAndV (a b : M) : M := fun σ => (mTe a σ).bind fun x σ1 => if x = true then b σ1 else .ok (.v (.bl false)) σ1
def mOrV (a b : M) : M := fun σ => (mTe a σ).bind fun x σ1 => if x = true then .ok (.v (.bl true)) σ1 else b σ1
def mNotV (a : M) : M := fun σ => (mTe a σ).bind fun x σ1 => .ok (.v (.bl (!x))) σ1
theorem tT_e' {ω : Om} {H : Hp} {σ : L2.St} {σD : Env} {m : M} {k : Bool → Env → Om → Hp → Prop} (st : Sta g ω H σD σ) (h : Post g ω H σ (mTe m σD) k) : Post g ω H σ (m σD) fun o σ1 ω1 H1 => ∀ v, OV g ω1 H1 σ o v → ∃ b, v = .bl b ∧ k b σ1 ω1 H1 := by
  refine h.bind.imp fun oa σ1 ω1 H1 s1 st1 q1 v ov => ?_
  cases e : oa.get σ1 with
  | none => rw [e] at q1; exact q1.elim
  | some x =>
    rw [e] at q1
    have ro := st1.get ov e
    cases x with
    | bl b =>
      refine ⟨b, ?_, Post.ok q1 st1⟩
      cases ro with | p ro => cases ro; rfl
    | _ => exact q1.elim
theorem de_one {op} {a : Expr} {m : M} {pos : Pos} (h : PE X a (tM g m)) : PE X (.BoolOp op [a] pos) (tM g m) := pe_one h
theorem de_and {a b : Expr} {rest : List Expr} {ma mb : M} {pos : Pos} (ha : PE X a (tM g ma)) (hb : PE X (.BoolOp .And (b :: rest) pos) (tM g mb)) : PE X (.BoolOp .And (a :: b :: rest) pos) (tM g (mAndV ma mb)) := pe_weak (pe_and ha hb) fun σ H Q h => by
  obtain ⟨ω, σD, st, q⟩ := h
  refine ⟨ω, σD, st, (tT_e' st q.bind).imp fun o σ1 ω1 H1 s1 st1 q1 v ov => ?_⟩
  obtain ⟨b, e, q1⟩ := q1 v ov
  refine ⟨b, e, ?_⟩
  cases b with
  | true => exact ⟨ω1, σ1, st1, q1⟩
  | false => exact Post.ok q1 st1 _ (.v (.bl false))
theorem de_or {a b : Expr} {rest : List Expr} {ma mb : M} {pos : Pos} (ha : PE X a (tM g ma)) (hb : PE X (.BoolOp .Or (b :: rest) pos) (tM g mb)) : PE X (.BoolOp .Or (a :: b :: rest) pos) (tM g (mOrV ma mb)) := pe_weak (pe_or ha hb) fun σ H Q h => by
  obtain ⟨ω, σD, st, q⟩ := h
  refine ⟨ω, σD, st, (tT_e' st q.bind).imp fun o σ1 ω1 H1 s1 st1 q1 v ov => ?_⟩
  obtain ⟨b, e, q1⟩ := q1 v ov
  refine ⟨b, e, ?_⟩
  cases b with
  | false => exact ⟨ω1, σ1, st1, q1⟩
  | true => exact Post.ok q1 st1 _ (.v (.bl true))
theorem de_not {a : Expr} {m : M} {pos : Pos} (ha : PE X a (tM g m)) : PE X (.UnaryOp .Not a pos) (tM g (mNotV m)) := pe_weak (pe_not ha) fun σ H Q h => by
  obtain ⟨ω, σD, st, q⟩ := h
  refine ⟨ω, σD, st, (tT_e' st q.bind).imp fun o σ1 ω1 H1 s1 st1 q1 v ov => ?_⟩
  obtain ⟨b, e, q1⟩ := q1 v ov
  exact ⟨b, e, Post.ok q1 st1 _ (.v (.bl _))⟩
def mIfE (c : MT) (a b : M) : M := fun σ => (c σ).bind fun x σ1 => if x = true then a σ1 else b σ1
theorem de_if {c a b : Expr} {mc : MT} {ma mb : M} {pos : Pos} (hc : PT X c (tT g mc)) (ha : PE X a (tM g ma)) (hb : PE X b (tM g mb)) : PE X (.IfExp c a b pos) (tM g (mIfE mc ma mb)) := pe_weak (pe_ifExp hc ha hb) fun σ H Q h => by
  obtain ⟨ω, σD, st, q⟩ := h
  refine ⟨ω, σD, st, q.bind.imp fun x σ1 ω1 H1 s1 st1 q1 => ?_⟩
  cases x with
  | true => exact ⟨ω1, σ1, st1, q1⟩
  | false => exact ⟨ω1, σ1, st1, q1⟩
end
end PV

set_option Elab.async false
set_option linter.all false
set_option maxRecDepth 100000
set_option maxHeartbeats 4000000
/-! PvC: statements on states; freezing; owned things made and changed; blocks, tests, loops. -/
namespace PV
open PySem L2

/-! ### lists of slots -/
theorem set_get {α : Type} {l : List α} {i j : Nat} {x y : α} (h : (l.set i x)[j]? = some y) : (i = j ∧ x = y ∧ i < l.length) ∨ (i ≠ j ∧ l[j]? = some y) := by
  by_cases e : i = j
  · subst e
    rw [List.getElem?_set_self'] at h
    cases q : l[i]? with
    | none => rw [q] at h; cases h
    | some z =>
      rw [q] at h
      exact .inl ⟨rfl, by simpa using h, (List.getElem?_eq_some_iff.mp q).1⟩
  · rw [List.getElem?_set_ne e] at h
    exact .inr ⟨e, h⟩
theorem set_lt {α : Type} {l : List α} {i : Nat} {x : α} (h : i < l.length) : (l.set i x)[i]? = some x := by
  rw [List.getElem?_set_self h]
theorem get_lt {α : Type} {l : List α} {i : Nat} {x : α} (h : l[i]? = some x) : i < l.length := (List.getElem?_eq_some_iff.mp h).1

section
variable {g : G} {ω ω' : Om} {H H' : Hp} {σD σD' : Env} {σ : L2.St}

/-! ### another ownership over the same heap -/
theorem Keeps.own (h : ∀ a, ω a = .free → ω' a = .free) : Keeps H H (Fr ω) (Fr ω') := ⟨fun _ _ e _ => .inl e, fun _ _ e _ => e, fun a e _ => h a e⟩
theorem RD.keep2 {K : PySem.W.Frag} {cl : String → Option Addr} {w w' : Own} (k : Keeps H H' (Fr ω) (Fr ω')) (hc : ∀ a o, H a = some o → ω a = w → isTb o = false → H' a = some o) (hw : ∀ a, H a ≠ none → ω a = w → ω' a = w') : ∀ {d : D} {v : V}, RD K cl H ω w d v → RD K cl H' ω' w' d v
  | .p x, _, h => by cases h with | p h => exact .p (RP.keep k _ _ h)
  | .lst xs, _, h => by cases h with | lst h1 h2 h3 => exact .lst (hc _ _ h1 h2 rfl) (hw _ (by rw [h1]; intro z; cases z) h2) (RPs.keep k _ _ h3)
  | .dK ks xs, _, h => by cases h with | dK h1 h2 h0 h3 => exact .dK (hc _ _ h1 h2 rfl) (hw _ (by rw [h1]; intro z; cases z) h2) h0 (RPs.keep k _ _ h3)
  | .dT ks xs, _, h => by cases h with | dT h1 h2 h0 h3 => exact .dT (hc _ _ h1 h2 rfl) (hw _ (by rw [h1]; intro z; cases z) h2) h0 (RPs.keep k _ _ h3)
  | .ins c ns xs, _, h => by cases h with | ins h1 h2 h3 h4 h5 => exact .ins (hc _ _ h1 h2 rfl) (hw _ (by rw [h1]; intro z; cases z) h2) h3 h4 (RPs.keep k _ _ h5)
  | .lk d, _, h => by cases h with | lk h => exact .lk (RD.keep2 k hc hw h)
theorem RD.own {K : PySem.W.Frag} {cl : String → Option Addr} {w w' : Own} (hf : ∀ a, ω a = .free → ω' a = .free) (hw : ∀ a, ω a = w → ω' a = w') {d : D} {v : V} (h : RD K cl H ω w d v) : RD K cl H ω' w' d v :=
  RD.keep2 (Keeps.own hf) (fun _ _ e _ _ => e) (fun a _ e => hw a e) h
/-- an owned thing becomes data -/
theorem RD.frz {K : PySem.W.Frag} {cl : String → Option Addr} {w : Own} (hf : ∀ a, ω a = .free → ω' a = .free) (hw : ∀ a, ω a = w → ω' a = .free) : ∀ {d : D} {v : V}, RD K cl H ω w d v → RP K cl H (Fr ω') d.view v
  | .p x, _, h => by cases h with | p h => exact RP.keep (Keeps.own hf) _ _ h
  | .lst xs, _, h => by cases h with | lst h1 h2 h3 => exact .lst h1 (hw _ h2) (RPs.keep (Keeps.own hf) _ _ h3)
  | .dK ks xs, _, h => by cases h with | dK h1 h2 h0 h3 => exact .dK (.inl h1) (hw _ h2) h0 (RPs.keep (Keeps.own hf) _ _ h3)
  | .dT ks xs, _, h => by cases h with | dT h1 h2 h0 h3 => exact .dT (.inl h1) (hw _ h2) h0 (RPs.keep (Keeps.own hf) _ _ h3)
  | .ins c ns xs, _, h => by cases h with | ins h1 h2 h3 h4 h5 => exact .ins h1 (hw _ h2) h3 h4 (RPs.keep (Keeps.own hf) _ _ h5)
  | .lk d, _, h => by cases h with | lk h => exact RD.frz (d := d) hf hw h
/-- what is owned under w goes to w' -/
def ren (ω : Om) (w w' : Own) : Om := fun a => if ω a = w then w' else ω a
theorem ren_free {w w' : Own} (hw : w ≠ .free) {a : Addr} (h : ω a = .free) : ren ω w w' a = .free := by
  unfold ren; rw [h, if_neg (Ne.symm hw)]
theorem ren_at {w w' : Own} {a : Addr} (h : ω a = w) : ren ω w w' a = w' := by unfold ren; rw [if_pos h]
theorem ren_ne {w w' u : Own} {a : Addr} (h : ω a = u) (ne : u ≠ w) : ren ω w w' a = u := by unfold ren; rw [h, if_neg ne]
theorem ren_tab {w w' : Own} (h2 : ∀ q, w' ≠ .tab q) {a : Addr} {q : Str} (h : ren ω w w' a = .tab q) : ω a = .tab q := by
  unfold ren at h
  split at h
  · exact absurd h (h2 q)
  · exact h
theorem Step.ren {w w' : Own} (hw : w ≠ .free) (hw2 : w ≠ .out) (h1 : ∀ q, w ≠ .tab q := by intro _ z; cases z) : Step ω H (ren ω w w') H := ⟨fun _ _ h _ => .inl h, fun _ _ h _ _ => h, fun a h => ren_ne h (Ne.symm hw2), fun a h _ => ren_free hw h, fun _ h => h, fun _ q h => ren_ne h (Ne.symm (h1 q))⟩
theorem Dom.ren {cl : String → Option Addr} (d : Dom cl ω H) {w w' : Own} (hw : w ≠ .free) (h1 : ∀ q, w ≠ .tab q := by intro _ z; cases z) (h2 : ∀ q, w' ≠ .tab q := by intro _ z; cases z) : Dom cl (ren ω w w') H := ⟨fun a h => by
  refine d.dom a fun e => h (ren_free hw e), fun a q h => (d.tab a q (ren_tab h2 h)).keep (fun _ _ h _ => .inl h) (fun a h _ => ren_free hw h) (fun _ h => h), fun n a h => ren_ne (d.tbs n a h) (Ne.symm (h1 _))⟩

/-! ### the state, a slot stored -/
theorem Sta.setP (st : Sta g ω H σD σ) {i : Nat} {x : P} {v : V} (hi : i ∉ g.io) (r : RP g.K g.cl H (Fr ω) x v) : Sta g ω H (σD.set i (some (.p x))) (σ.set i (some v)) where
  len := by rw [List.length_set, List.length_set]; exact st.len
  rd := fun j d e => by
    rcases set_get e with ⟨e1, e2, e3⟩ | ⟨e1, e2⟩
    · subst e1
      cases e2
      exact ⟨v, set_lt (by rw [← st.len]; exact e3), .p r⟩
    · rw [List.getElem?_set_ne e1]
      exact st.rd j d e2
  par := fun j w hj hw => by
    rw [List.getElem?_set_ne (by rintro rfl; exact hi hj)]
    exact st.par j w hj hw
  dom := st.dom
/-- the thing in slot i becomes data -/
theorem Sta.frz (st : Sta g ω H σD σ) {i : Nat} {d : D} (e : σD[i]? = some (some d)) : Sta g (ren ω (.at i) .free) H (σD.set i (some (.p d.view))) σ where
  len := by rw [List.length_set]; exact st.len
  rd := fun j d' e' => by
    have hf : ∀ a, ω a = .free → ren ω (.at i) .free a = .free := fun a h => ren_free (by intro z; cases z) h
    rcases set_get e' with ⟨e1, e2, e3⟩ | ⟨e1, e2⟩
    · subst e1
      cases e2
      obtain ⟨v, e4, r⟩ := st.rd i d e
      exact ⟨v, e4, .p (r.frz hf fun a h => ren_at h)⟩
    · obtain ⟨v, e4, r⟩ := st.rd j d' e2
      exact ⟨v, e4, r.own hf fun a h => ren_ne h (fun z => e1 (by cases z; rfl))⟩
  par := st.par
  dom := st.dom.ren (by intro z; cases z)
theorem Sta.lt (st : Sta g ω H σD σ) {i : Nat} {o : Option D} (e : σD[i]? = some o) : i < σ.length := by rw [← st.len]; exact get_lt e

/-- an operand as data: an owned thing is frozen for good -/
def frz (o : O) (σ : Env) : R P := match o with
  | .v x => .ok x σ
  | .at i => match σ[i]? with
    | some (some (.lk _)) => .stuck
    | some (some d) => .ok d.view (σ.set i (some (.p d.view)))
    | _ => .stuck
@[simp] theorem frz_v (x : P) (σ : Env) : frz (.v x) σ = .ok x σ := rfl
theorem frz_ok {o : O} {v : V} {k : P → Env → Om → Hp → Prop} (st : Sta g ω H σD σ) (ov : OV g ω H σ o v) (h : Post g ω H σ (frz o σD) k) :
    ∃ x σ1 ω1, Step ω H ω1 H ∧ Sta g ω1 H σ1 σ ∧ RP g.K g.cl H (Fr ω1) x v ∧ frz o σD = .ok x σ1 ∧ k x σ1 ω1 H := by
  cases ov with
  | v r => exact ⟨_, σD, ω, .refl, st, r, rfl, Post.ok h st⟩
  | «at» e1 =>
    rename_i i
    dsimp only [frz] at h ⊢
    cases e : σD[i]? with
    | none => rw [e] at h; exact h.elim
    | some o =>
      cases o with
      | none => rw [e] at h; exact h.elim
      | some d =>
        obtain ⟨v', e4, r⟩ := st.rd i d e
        rw [e1] at e4
        cases e4
        have hs : Step ω H (ren ω (.at i) .free) H := .ren (by intro z; cases z) (by intro z; cases z)
        have go : ∀ (q : Post g ω H σ (.ok d.view (σD.set i (some (.p d.view)))) k), ∃ x σ1 ω1, Step ω H ω1 H ∧ Sta g ω1 H σ1 σ ∧ RP g.K g.cl H (Fr ω1) x v ∧ (R.ok d.view (σD.set i (some (.p d.view))) : R P) = .ok x σ1 ∧ k x σ1 ω1 H := fun q =>
          ⟨_, _, _, hs, st.frz e, r.frz (fun a h => ren_free (by intro z; cases z) h) (fun a h => ren_at h), rfl, q _ _ hs (st.frz e)⟩
        rw [e] at h
        cases d with
        | lk _ => exact h.elim
        | p _ => exact go h
        | lst _ => exact go h
        | dK _ _ => exact go h
        | dT _ _ => exact go h
        | ins _ _ _ => exact go h

/-! ### statements -/
def PostS (g : G) (ω : Om) (H : Hp) (r : RS) (D : Ends) : Prop := match r with
  | .next σD' => ∀ ω' H' σ', Step ω H ω' H' → Sta g ω' H' σD' σ' → D.nx σ' H'
  | .brk σD' => ∀ ω' H' σ', Step ω H ω' H' → Sta g ω' H' σD' σ' → D.bk σ' H'
  | .cont σD' => ∀ ω' H' σ', Step ω H ω' H' → Sta g ω' H' σD' σ' → D.ct σ' H'
  | .ret d σD' => ∀ ω' H' σ' v, Step ω H ω' H' → Sta g ω' H' σD' σ' → RD g.K g.cl H' ω' .res d v → D.rt v H'
  | .exc c ns vs σD' => ∀ ω' H' σ' C d, Step ω H ω' H' → Sta g ω' H' σD' σ' → EX g ω' H' c ns vs C d → g.Ω C d σ' H'
  | .stuck => False
def tS (g : G) (m : MS) : TS := fun D σ H => ∃ ω σD, Sta g ω H σD σ ∧ PostS g ω H (m σD) D
theorem PostS.shift {r : RS} {D : Ends} (s : Step ω H ω' H') (h : PostS g ω H r D) : PostS g ω' H' r D := by
  cases r with
  | next σD' => exact fun ω2 H2 σ2 s2 st => h ω2 H2 σ2 (s.trans s2) st
  | brk σD' => exact fun ω2 H2 σ2 s2 st => h ω2 H2 σ2 (s.trans s2) st
  | cont σD' => exact fun ω2 H2 σ2 s2 st => h ω2 H2 σ2 (s.trans s2) st
  | ret d σD' => exact fun ω2 H2 σ2 v s2 st => h ω2 H2 σ2 v (s.trans s2) st
  | exc c ns vs σD' => exact fun ω2 H2 σ2 C d s2 st => h ω2 H2 σ2 C d (s.trans s2) st
  | stuck => exact h
def R.toS {α : Type} (r : R α) (k : α → Env → RS) : RS := match r with
  | .ok a σ => k a σ
  | .exc c ns vs σ => .exc c ns vs σ
  | .stuck => .stuck
@[simp] theorem R.toS_ok {α : Type} (a : α) (σ : Env) (k : α → Env → RS) : (R.ok a σ).toS k = k a σ := rfl
@[simp] theorem R.toS_exc {α : Type} (c ns vs) (σ : Env) (k : α → Env → RS) : (R.exc c ns vs σ : R α).toS k = .exc c ns vs σ := rfl
@[simp] theorem R.toS_stuck {α : Type} (k : α → Env → RS) : (R.stuck : R α).toS k = .stuck := rfl
theorem PostS.of {α : Type} {r : R α} {k : α → Env → RS} {D : Ends} (h : PostS g ω H (r.toS k) D) : Post g ω H σ r fun a σD' ω' H' => PostS g ω' H' (k a σD') D := by
  cases r with
  | ok b σD' => exact fun ω2 H2 s2 st => PostS.shift s2 h
  | exc c ns vs σD' => exact fun ω2 H2 C d s2 st x => h ω2 H2 σ C d s2 st x
  | stuck => exact h
end

section
variable {X : Cx} {g : G}
def mNil : MS := fun σ => .next σ
def mSeq (a b : MS) : MS := fun σ => match a σ with
  | .next σ1 => b σ1
  | r => r
theorem dss_nil : PSs X [] (tS g mNil) := pss_weak pss_nil fun D σ H h => by
  obtain ⟨ω, σD, st, q⟩ := h
  exact q ω H σ .refl st
theorem dss_cons {st : Stmt} {rest : List Stmt} {a b : MS} (h1 : PS X st (tS g a)) (h2 : PSs X rest (tS g b)) : PSs X (st :: rest) (tS g (mSeq a b)) := pss_weak (pss_cons h1 h2) fun D σ H h => by
  obtain ⟨ω, σD, st, q⟩ := h
  refine ⟨ω, σD, st, ?_⟩
  unfold mSeq at q
  cases e : a σD with
  | next σ1 =>
    rw [e] at q
    exact fun ω' H' σ' s st' => ⟨ω', σ1, st', PostS.shift s q⟩
  | ret d σ1 => rw [e] at q; exact q
  | brk σ1 => rw [e] at q; exact q
  | cont σ1 => rw [e] at q; exact q
  | exc c ns vs σ1 => rw [e] at q; exact q
  | stuck => rw [e] at q; exact q
theorem dss_one {st : Stmt} {a : MS} (h1 : PS X st (tS g a)) : PSs X [st] (tS g a) := pss_one h1
def mNever : MS := fun _ => .stuck
theorem ds_never {st : Stmt} : PS X st (tS g mNever) := ps_weak ps_never fun D σ H h => by
  obtain ⟨ω, σD, st, q⟩ := h
  exact q
theorem ds_pass {pos : Pos} : PS X (.Pass pos) (tS g mNil) := ps_weak ps_pass fun D σ H h => by
  obtain ⟨ω, σD, st, q⟩ := h
  exact q ω H σ .refl st
theorem ds_doc {x j pos pos'} : PS X (.Expr (.Constant (.str x) j pos) pos') (tS g mNil) := ps_weak ps_doc fun D σ H h => by
  obtain ⟨ω, σD, st, q⟩ := h
  exact q ω H σ .refl st
def mBreak : MS := fun σ => .brk σ
def mCont : MS := fun σ => .cont σ
theorem ds_break {pos : Pos} : PS X (.Break pos) (tS g mBreak) := ps_weak ps_break fun D σ H h => by
  obtain ⟨ω, σD, st, q⟩ := h
  exact q ω H σ .refl st
theorem ds_cont {pos : Pos} : PS X (.Continue pos) (tS g mCont) := ps_weak ps_continue fun D σ H h => by
  obtain ⟨ω, σD, st, q⟩ := h
  exact q ω H σ .refl st
def mDrop (m : M) : MS := fun σ => (m σ).toS fun _ σ1 => .next σ1
theorem ds_expr {e : Expr} {m : M} {pos : Pos} (he : PE X e (tM g m)) (hs : swapsWith e none pos.line X.env = pure false := by rfl) : PS X (.Expr e pos) (tS g (mDrop m)) := ps_weak (ps_expr he hs) fun D σ H h => by
  obtain ⟨ω, σD, st, q⟩ := h
  exact ⟨ω, σD, st, (PostS.of q).imp fun o σ1 ω1 H1 s1 st1 q1 v ov => q1 ω1 H1 σ .refl st1⟩
def mRet (m : M) : MS := fun σ => (m σ).toS fun o σ1 => (frz o σ1).toS fun x σ2 => .ret (.p x) σ2
theorem ds_ret {e : Expr} {m : M} {pos : Pos} (he : PE X e (tM g m)) : PS X (.Return (some e) pos) (tS g (mRet m)) := ps_weak (ps_ret he) fun D σ H h => by
  obtain ⟨ω, σD, st, q⟩ := h
  refine ⟨ω, σD, st, (PostS.of q).imp fun o σ1 ω1 H1 s1 st1 q1 v ov => ?_⟩
  obtain ⟨x, σ2, ω2, s2, st2, r, e, q2⟩ := frz_ok st1 ov (PostS.of q1)
  exact q2 ω2 H1 σ v .refl st2 (.p r)
def mRetN : MS := fun σ => .ret (.p .non) σ
theorem ds_retN {pos : Pos} : PS X (.Return none pos) (tS g mRetN) := ps_weak ps_retN fun D σ H h => by
  obtain ⟨ω, σD, st, q⟩ := h
  exact q ω H σ .non .refl st (.p .non)
def mIf (c : MT) (a b : MS) : MS := fun σ => (c σ).toS fun x σ1 => if x = true then a σ1 else b σ1
theorem ds_if {c : Expr} {a b : List Stmt} {mc : MT} {ma mb : MS} {pos : Pos} (hc : PT X c (tT g mc)) (ha : PSs X a (tS g ma)) (hb : PSs X b (tS g mb)) : PS X (.If c a b pos) (tS g (mIf mc ma mb)) := ps_weak (ps_if hc ha hb) fun D σ H h => by
  obtain ⟨ω, σD, st, q⟩ := h
  refine ⟨ω, σD, st, (PostS.of q).imp fun x σ1 ω1 H1 s1 st1 q1 => ?_⟩
  cases x with
  | true => exact ⟨ω1, σ1, st1, q1⟩
  | false => exact ⟨ω1, σ1, st1, q1⟩
/-- x = e, as data -/
def mSet (i : Nat) (m : M) : MS := fun σ => (m σ).toS fun o σ1 => (frz o σ1).toS fun x σ2 => .next (σ2.set i (some (.p x)))
theorem ds_set {i : Nat} {x : Str} {e : Expr} {m : M} {pos pos' : Pos} (hN : X.N.Nodup) (hi : X.N[i]? = some x) (hx : Loc X.env.scope x) (hio : i ∉ g.io) (he : PE X e (tM g m)) (hs : swapsWith e (some (.Name x pos')) pos.line X.env = pure false := by rfl)
    (hf : X.fn x = true ∨ X.env.scope.names.lookup x = some .local := by first | exact .inl rfl | exact .inr rfl | assumption) : PS X (.Assign [.Name x pos'] e pos) (tS g (mSet i m)) := ps_weak (ps_set hN hi hx he hs hf) fun D σ H h => by
  obtain ⟨ω, σD, st, q⟩ := h
  refine ⟨ω, σD, st, (PostS.of q).imp fun o σ1 ω1 H1 s1 st1 q1 v ov => ?_⟩
  obtain ⟨y, σ2, ω2, s2, st2, r, e, q2⟩ := frz_ok st1 ov (PostS.of q1)
  exact q2 ω2 H1 _ .refl (st2.setP hio r)

/-! ### owned things made -/
abbrev MF := Env → R D
def tF (g : G) (m : MF) : TE := fun σ H Q => ∃ ω σD, Sta g ω H σD σ ∧ Post g ω H σ (m σD) fun d _ ω' H' => ∀ v, RD g.K g.cl H' ω' .tmp d v → Q v H'
/-- x = e, owned -/
def mSetF (i : Nat) (m : MF) : MS := fun σ => (m σ).toS fun d σ1 => .next (σ1.set i (some d))
/-- to slot i: what is there is left, the new thing comes -/
def give (ω : Om) (i : Nat) : Om := ren (ren ω (.at i) .free) .tmp (.at i)
theorem Step.give {ω : Om} {H : Hp} (i : Nat) : Step ω H (give ω i) H := (Step.ren (by intro z; cases z) (by intro z; cases z)).trans (.ren (by intro z; cases z) (by intro z; cases z))
theorem Sta.setD {ω : Om} {H : Hp} {σD : Env} {σ : L2.St} (st : Sta g ω H σD σ) {i : Nat} {d : D} {v : V} (hi : i ∉ g.io) (r : RD g.K g.cl H ω .tmp d v) : Sta g (give ω i) H (σD.set i (some d)) (σ.set i (some v)) where
  len := by rw [List.length_set, List.length_set]; exact st.len
  rd := fun j d' e => by
    have hf : ∀ a, ω a = .free → give ω i a = .free := fun a h => ren_free (by intro z; cases z) (ren_free (by intro z; cases z) h)
    rcases set_get e with ⟨e1, e2, e3⟩ | ⟨e1, e2⟩
    · subst e1
      cases e2
      exact ⟨v, set_lt (by rw [← st.len]; exact e3), r.own hf fun a h => ren_at (ren_ne h (by intro z; cases z))⟩
    · rw [List.getElem?_set_ne e1]
      obtain ⟨v', e4, r'⟩ := st.rd j d' e2
      exact ⟨v', e4, r'.own hf fun a h => ren_ne (ren_ne h (fun z => e1 (by cases z; rfl))) (by intro z; cases z)⟩
  par := fun j w hj hw => by
    rw [List.getElem?_set_ne (by rintro rfl; exact hi hj)]
    exact st.par j w hj hw
  dom := (st.dom.ren (by intro z; cases z)).ren (by intro z; cases z)
theorem ds_setF {i : Nat} {x : Str} {e : Expr} {m : MF} {pos pos' : Pos} (hN : X.N.Nodup) (hi : X.N[i]? = some x) (hx : Loc X.env.scope x) (hio : i ∉ g.io) (he : PE X e (tF g m)) (hs : swapsWith e (some (.Name x pos')) pos.line X.env = pure false := by rfl)
    (hf : X.fn x = true ∨ X.env.scope.names.lookup x = some .local := by first | exact .inl rfl | exact .inr rfl | assumption) : PS X (.Assign [.Name x pos'] e pos) (tS g (mSetF i m)) := ps_weak (ps_set hN hi hx he hs hf) fun D σ H h => by
  obtain ⟨ω, σD, st, q⟩ := h
  refine ⟨ω, σD, st, (PostS.of q).imp fun d σ1 ω1 H1 s1 st1 q1 v r => ?_⟩
  exact q1 _ H1 _ (.give i) (st1.setD hio r)
/-- return of an owned thing -/
def mRetF (m : MF) : MS := fun σ => (m σ).toS fun d σ1 => .ret d σ1
theorem ds_retF {e : Expr} {m : MF} {pos : Pos} (he : PE X e (tF g m)) : PS X (.Return (some e) pos) (tS g (mRetF m)) := ps_weak (ps_ret he) fun D σ H h => by
  obtain ⟨ω, σD, st, q⟩ := h
  refine ⟨ω, σD, st, (PostS.of q).imp fun d σ1 ω1 H1 s1 st1 q1 v r => ?_⟩
  refine q1 (ren ω1 .tmp .res) H1 σ v (.ren (by intro z; cases z) (by intro z; cases z)) ⟨st1.len, fun j d' e => ?_, st1.par, st1.dom.ren (by intro z; cases z)⟩ (r.own (fun a h => ren_free (by intro z; cases z) h) fun a h => ren_at h)
  obtain ⟨v', e4, r'⟩ := st1.rd j d' e
  exact ⟨v', e4, r'.own (fun a h => ren_free (by intro z; cases z) h) fun a h => ren_ne h (by intro z; cases z)⟩
/-- a new thing laid at p, under tmp -/
def lay (ω : Om) (p : Addr) : Om := fun a => if a = p then .tmp else ω a
theorem lay_new {ω : Om} {H : Hp} {σD : Env} {σ : L2.St} (st : Sta g ω H σD σ) {p : Addr} {o : HO} (hp : H p = none) (ht : isT o = false) : Step ω H (lay ω p) (upd H p o) ∧ Sta g (lay ω p) (upd H p o) σD σ ∧ ∀ x v, RP g.K g.cl H (Fr ω) x v → RP g.K g.cl (upd H p o) (Fr (lay ω p)) x v := by
  have ne : ∀ a o, H a = some o → a ≠ p := fun a o h => ne_of_none h hp
  have hl : ∀ a, H a ≠ none → lay ω p a = ω a := fun a h => by
    unfold lay
    exact if_neg (by intro e; exact h (by rw [e]; exact hp))
  have nn : ∀ a, ω a ≠ .free → H a ≠ none := fun a h => by
    obtain ⟨o, e, _⟩ := st.dom.dom a h
    rw [e]; intro z; cases z
  have s : Step ω H (lay ω p) (upd H p o) := ⟨fun a u h _ => .inl (by rw [upd_ne (ne a u h)]; exact h), fun a u h _ _ => by rw [upd_ne (ne a u h)]; exact h, fun a h => by
      rw [hl a (nn a (by rw [h]; intro z; cases z))]; exact h, fun a h t => by rw [hl a t]; exact h, fun a h => by
      cases e : H a with
      | none => exact absurd e h
      | some u => (rw [upd_ne (ne a u e), e]; intro z; cases z), fun a q h => by
      rw [hl a (nn a (by rw [h]; intro z; cases z))]; exact h⟩
  have tabs : ∀ a q, lay ω p a = .tab q → ω a = .tab q := fun a q h => by
    unfold lay at h
    split at h
    · cases h
    · exact h
  refine ⟨s, ⟨st.len, fun j d e => ?_, st.par, ⟨fun a h => ?_, fun a q h => (st.dom.tab a q (tabs a q h)).keep s.fr s.fz (fun u h => by rw [upd_ne (ne a u h)]; exact h), fun n a h => s.tb a _ (st.dom.tbs n a h)⟩⟩, fun x v r => s.rp st.dom r⟩
  · obtain ⟨v, e1, r⟩ := st.rd j d e
    exact ⟨v, e1, r.keep2 (s.keeps st.dom) (fun a u h _ _ => Same.new hp a u h) fun a t h => by rw [hl a t]; exact h⟩
  · by_cases e : a = p
    · subst e
      exact ⟨o, upd_same, ht⟩
    · obtain ⟨u, e2, t⟩ := st.dom.dom a (by unfold lay at h; rw [if_neg e] at h; exact h)
      exact ⟨u, by rw [upd_ne e]; exact e2, t⟩
end
end PV

set_option Elab.async false
set_option linter.all false
set_option maxRecDepth 100000
set_option maxHeartbeats 4000000
/-! PvD: a def's meaning as a function on data (FS), its promise (spOf), a body that keeps it (fn_sem), the calls. -/
namespace PV
open PySem L2

inductive FR where
  | ok (d : D) (fin : List D) | exc (c : String) (ns : List String) (vs : List P) (fin : List D) | stuck
abbrev FS := List D → FR

def finOf (io : List Nat) (σ : Env) : Nat → List D → Option (List D)
  | _, [] => some []
  | j, a :: as => match (if j ∈ io then (match σ[j]? with | some (some d) => some d | _ => none) else some a), finOf io σ (j + 1) as with
    | some d, some r => some (d :: r)
    | _, _ => none
def okArgs (io : List Nat) : Nat → List D → Bool
  | _, [] => true
  | j, a :: as => (decide (j ∈ io) || !a.owned) && okArgs io (j + 1) as
def fnEnd (io : List Nat) (args : List D) (r : RS) : FR := match r with
  | .next σ => match finOf io σ 0 args with
    | some f => .ok (.p .non) f
    | none => .stuck
  | .ret d σ => match finOf io σ 0 args with
    | some f => .ok d f
    | none => .stuck
  | .exc c ns vs σ => match finOf io σ 0 args with
    | some f => .exc c ns vs f
    | none => .stuck
  | _ => .stuck
def fnOf (np nl : Nat) (io : List Nat) (body : MS) : FS := fun args =>
  if args.length = np ∧ okArgs io 0 args = true then fnEnd io args (body (args.map some ++ List.replicate nl none)) else .stuck

/-- arguments, or what is left of them -/
def RDs (K : PySem.W.Frag) (cl : String → Option Addr) (H : Hp) (ω : Om) (ds : List D) (vs : List V) : Prop := ∀ (j : Nat) (d : D) (v : V), ds[j]? = some d → vs[j]? = some v → RD K cl H ω (.at j) d v
def EXs (K : PySem.W.Frag) (cl : String → Option Addr) (ω : Om) (H : Hp) (c : String) (ns : List String) (vs : List P) (cls : Value) (d : Option Addr) : Prop :=
  ∃ (C dx : Addr) (fs : List (Str × V)), cls = .ref C ∧ d = some dx ∧ cl c = some C ∧ H dx = some (.xd fs) ∧ fs.map (·.1) = ns.map ofS ∧ RPs K cl H (Fr ω) vs (fs.map (·.2))
def CallPost (K : PySem.W.Frag) (cl : String → Option Addr) (ω : Om) (H : Hp) (vs : List V) (r : FR) (Q : VK) (E : XK) : Prop := match r with
  | .ok d fin => ∀ ω' H' v, Step ω H ω' H' → Dom cl ω' H' → RDs K cl H' ω' fin vs → RD K cl H' ω' .res d v → Q v H'
  | .exc c ns xs fin => ∀ ω' H' C dx, Step ω H ω' H' → Dom cl ω' H' → RDs K cl H' ω' fin vs → EXs K cl ω' H' c ns xs C dx → E C dx H'
  | .stuck => False
def spOf (K : PySem.W.Frag) (cl : String → Option Addr) (np : Nat) (f : FS) : Sp := fun vs H Q E => ∃ (ω : Om) (ds : List D), vs.length = np ∧ ds.length = np ∧ RDs K cl H ω ds vs ∧ Dom cl ω H ∧ CallPost K cl ω H vs (f ds) Q E

theorem finOf_get {io : List Nat} {σ : Env} : ∀ {as : List D} {k : Nat} {fin : List D}, finOf io σ k as = some fin → ∀ (j : Nat) (d : D), fin[j]? = some d → (k + j ∈ io ∧ σ[k + j]? = some (some d)) ∨ (k + j ∉ io ∧ as[j]? = some d)
  | [], k, fin, h, j, d, e => by cases h; simp at e
  | a :: as, k, fin, h, j, d, e => by
    unfold finOf at h
    split at h
    · rename_i d0 r e0 er
      cases h
      cases j with
      | zero =>
        simp at e
        subst e
        by_cases hk : k ∈ io
        · rw [if_pos hk] at e0
          cases q : σ[k]? with
          | none => rw [q] at e0; cases e0
          | some o =>
            cases o with
            | none => rw [q] at e0; cases e0
            | some d1 =>
              rw [q] at e0
              exact .inl ⟨hk, congrArg some e0⟩
        · rw [if_neg hk] at e0
          exact .inr ⟨hk, by simpa using e0⟩
      | succ j =>
        have e' : r[j]? = some d := by simpa using e
        have z := finOf_get er j d e'
        rw [show k + 1 + j = k + (j + 1) by omega] at z
        rcases z with z | ⟨z1, z2⟩
        · exact .inl z
        · exact .inr ⟨z1, by simpa using z2⟩
    · cases h
theorem okArgs_get {io : List Nat} : ∀ {as : List D} {k : Nat}, okArgs io k as = true → ∀ (j : Nat) (d : D), as[j]? = some d → k + j ∉ io → ∃ x, d = .p x
  | [], k, h, j, d, e, _ => by simp at e
  | a :: as, k, h, j, d, e, hn => by
    unfold okArgs at h
    rw [Bool.and_eq_true, Bool.or_eq_true] at h
    cases j with
    | zero =>
      simp at e
      subst e
      rcases h.1 with h1 | h1
      · exact absurd (of_decide_eq_true h1) hn
      · cases a with
        | p x => exact ⟨x, rfl⟩
        | _ => simp [D.owned] at h1
    | succ j => exact okArgs_get h.2 j d (by simpa using e) (by rw [show k + 1 + j = k + (j + 1) by omega]; exact hn)

section
variable {P : Program} {w : World} {K : PySem.W.Frag} {mg : Str → Option Value} {base : Heap} {cl : String → Option Addr}
/-- THE RULE for a def -/
theorem fn_sem {x qual : Str} {st : Stmt} {f : Addr} {fd : FuncData} {N ps : List Str} {k np nl : Nat} {io : List Nat} {body : MS} (F : Fun K x qual st f fd) (S : FnScope N ps (defScope st)) (hnp : ps.length = np) (hnl : N.length = np + nl)
    (h : ∀ (cdv : Value) (A : Around) (outer : List PySem.Env) (s : Shared) (H : Hp) (vs : List V) (E : XK), Room k (A.deeper (PyProof.Rows.envOfC qual (defScope st) s.heap.objs.size f cdv)) →
      PSs (cxOf (L2.CX P w) P w K mg base N qual (defScope st) f cdv A outer s H E) (defBody st) (tS ⟨K, cl, io, vs, fun C d _ H => E C d H⟩ body)) :
    FnOk P w K mg base (L2.CX P w) (k + 1) f fd ps (spOf K cl np (fnOf np nl io body)) := by
  refine F.okX S (fun vs H Q E ⟨_, _, hv, _⟩ => by rw [hnp]; exact hv) fun cdv A outer s H vs Q E hr hsp => ?_
  obtain ⟨ω, ds, hv, hd, rd, dm, q⟩ := hsp
  refine ⟨tS ⟨K, cl, io, vs, fun C d _ H => E C d H⟩ body, h cdv A outer s H vs E hr, ω, ds.map some ++ List.replicate nl none, ?_, ?_⟩
  · have hst : L2.start N vs = vs.map some ++ List.replicate nl none := by
      unfold L2.start
      rw [hnl, hv, Nat.add_sub_cancel_left]
    rw [hst]
    refine ⟨by simp [hv, hd], fun i d e => ?_, fun i v _ e => ?_, dm⟩
    · have hi : i < ds.length := by
        refine Nat.lt_of_not_le fun hle => ?_
        rw [List.getElem?_append_right (by simpa using hle)] at e
        obtain ⟨_, e2⟩ := List.getElem?_eq_some_iff.mp e
        simp at e2
      rw [List.getElem?_append_left (by simpa using hi)] at e
      have e1 : ds[i]? = some d := by simpa using e
      have hi2 : i < vs.length := by omega
      refine ⟨vs[i], ?_, rd i d _ e1 (List.getElem?_eq_getElem hi2)⟩
      rw [List.getElem?_append_left (by simpa using hi2)]
      simp [hi2]
    · have hi2 := get_lt e
      show (vs.map some ++ List.replicate nl none)[i]? = some (some v)
      rw [List.getElem?_append_left (by simpa using hi2)]
      simpa using e
  · unfold fnOf at q
    by_cases hc : ds.length = np ∧ okArgs io 0 ds = true
    · rw [if_pos hc] at q
      have fins : ∀ {σD' : Env} {fin : List D} {ω' : Om} {H' : Hp} {σ' : L2.St}, finOf io σD' 0 ds = some fin → Step ω H ω' H' → Sta ⟨K, cl, io, vs, fun C d _ H => E C d H⟩ ω' H' σD' σ' → RDs K cl H' ω' fin vs := fun {σD' fin ω' H' σ'} hf s st j d v e1 e2 => by
        rcases finOf_get hf j d e1 with ⟨z1, z2⟩ | ⟨z1, z2⟩
        · rw [Nat.zero_add] at z1 z2
          obtain ⟨v', e3, r⟩ := st.rd j d z2
          have e4 : σ'[j]? = some (some v) := st.par j v z1 e2
          rw [e3] at e4; cases e4
          exact r
        · obtain ⟨y, rfl⟩ := okArgs_get hc.2 j d z2 z1
          have r := rd j _ v z2 e2
          cases r with | p r => exact .p (s.rp dm r)
      show PostS _ ω H (body (ds.map some ++ List.replicate nl none)) _
      cases e : body (ds.map some ++ List.replicate nl none) with
      | next σD' =>
        rw [e] at q
        unfold fnEnd at q
        intro ω' H' σ' s st
        cases hf : finOf io σD' 0 ds with
        | none => simp only [hf] at q; exact q.elim
        | some fin =>
          simp only [hf] at q
          exact q ω' H' .non s st.dom (fins hf s st) (.p .non)
      | ret d σD' =>
        rw [e] at q
        unfold fnEnd at q
        intro ω' H' σ' v s st r
        cases hf : finOf io σD' 0 ds with
        | none => simp only [hf] at q; exact q.elim
        | some fin =>
          simp only [hf] at q
          exact q ω' H' v s st.dom (fins hf s st) r
      | exc c ns xs σD' =>
        rw [e] at q
        unfold fnEnd at q
        intro ω' H' σ' C d s st r
        cases hf : finOf io σD' 0 ds with
        | none => simp only [hf] at q; exact q.elim
        | some fin =>
          simp only [hf] at q
          exact q ω' H' C d s st.dom (fins hf s st) r
      | brk σD' => rw [e] at q; exact False.elim q
      | cont σD' => rw [e] at q; exact False.elim q
      | stuck => rw [e] at q; exact q
    · rw [if_neg hc] at q
      exact q.elim
end

/-! ### calls -/
def takeAll (σ : Env) : List O → Option (List D)
  | [] => some []
  | .v x :: os => (takeAll σ os).bind fun ds => some (.p x :: ds)
  | .at i :: os => match σ[i]? with
    | some (some d) => (takeAll σ os).bind fun ds => some (d :: ds)
    | _ => none
def giveBack (σ : Env) : List O → List D → Env
  | .at i :: os, d :: ds => (giveBack σ os ds).set i (some d)
  | .v _ :: os, _ :: ds => giveBack σ os ds
  | _, _ => σ
def atIx (i : Nat) : Nat → List O → Option Nat
  | _, [] => none
  | k, .at j :: os => if i = j then some k else atIx i (k + 1) os
  | k, .v _ :: os => atIx i (k + 1) os
/-- no slot twice -/
def once : List O → Bool
  | [] => true
  | .at i :: os => (match atIx i 0 os with | none => true | some _ => false) && once os
  | .v _ :: os => once os
def callEnd (σ1 : Env) (os : List O) (f : FS) : R D := match takeAll σ1 os with
  | some ds => if once os = true then (match f ds with
    | .ok d fin => .ok d (giveBack σ1 os fin)
    | .exc c ns vs fin => .exc c ns vs (giveBack σ1 os fin)
    | .stuck => .stuck) else .stuck
  | none => .stuck
def mCall (f : FS) (ms : List M) : M := fun σ => (mAs ms σ).bind fun os σ1 => (callEnd σ1 os f).bind fun d σ2 => .ok (.v d.view) σ2
def mCallF (f : FS) (ms : List M) : MF := fun σ => (mAs ms σ).bind fun os σ1 => callEnd σ1 os f

theorem atIx_some {i : Nat} : ∀ {os : List O} {k j : Nat}, atIx i k os = some j → ∃ m, j = k + m ∧ os[m]? = some (.at i)
  | [], k, j, h => by cases h
  | .at i' :: os, k, j, h => by
    unfold atIx at h
    split at h
    · rename_i e
      cases h; subst e
      exact ⟨0, rfl, rfl⟩
    · obtain ⟨m, e1, e2⟩ := atIx_some h
      exact ⟨m + 1, by omega, by simpa using e2⟩
  | .v _ :: os, k, j, h => by
    unfold atIx at h
    obtain ⟨m, e1, e2⟩ := atIx_some h
    exact ⟨m + 1, by omega, by simpa using e2⟩
theorem atIx_none {i : Nat} : ∀ {os : List O} {k : Nat}, atIx i k os = none → ∀ m : Nat, os[m]? ≠ some (.at i)
  | [], k, h, m => by simp
  | .at i' :: os, k, h, m => by
    unfold atIx at h
    split at h
    · cases h
    · rename_i ne
      cases m with
      | zero => simp; exact fun z => ne z.symm
      | succ m => simpa using atIx_none h m
  | .v _ :: os, k, h, m => by
    unfold atIx at h
    cases m with
    | zero => simp
    | succ m => simpa using atIx_none h m
theorem atIx_once : ∀ {os : List O} {k m : Nat} {i : Nat}, once os = true → os[m]? = some (.at i) → atIx i k os = some (k + m)
  | [], k, m, i, _, e => by simp at e
  | .at i' :: os, k, m, i, h, e => by
    unfold once at h
    rw [Bool.and_eq_true] at h
    unfold atIx
    cases m with
    | zero =>
      simp at e
      subst e
      rw [if_pos rfl]; rfl
    | succ m =>
      have e' : os[m]? = some (.at i) := by simpa using e
      split
      · rename_i q
        subst q
        exfalso
        have h1 := h.1
        cases q : atIx i 0 os with
        | none => exact atIx_none q m e'
        | some _ => rw [q] at h1; cases h1
      · rw [atIx_once h.2 e']
        congr 1; omega
  | .v _ :: os, k, m, i, h, e => by
    unfold once at h
    unfold atIx
    cases m with
    | zero => simp at e
    | succ m =>
      have e' : os[m]? = some (.at i) := by simpa using e
      rw [atIx_once h e']
      congr 1; omega
theorem takeAll_get {σ : Env} : ∀ {os : List O} {ds : List D}, takeAll σ os = some ds → ds.length = os.length ∧ ∀ (j : Nat) (d : D), ds[j]? = some d → (∃ x, os[j]? = some (.v x) ∧ d = .p x) ∨ (∃ i, os[j]? = some (.at i) ∧ σ[i]? = some (some d))
  | [], ds, h => by cases h; exact ⟨rfl, fun j d e => by simp at e⟩
  | .v x :: os, ds, h => by
    unfold takeAll at h
    obtain ⟨r, e1, e2⟩ := Option.bind_eq_some_iff.mp h
    cases e2
    obtain ⟨l, g⟩ := takeAll_get e1
    refine ⟨by simp [l], fun j d e => ?_⟩
    cases j with
    | zero => simp at e; exact .inl ⟨x, rfl, e.symm⟩
    | succ j => simpa using g j d (by simpa using e)
  | .at i :: os, ds, h => by
    unfold takeAll at h
    split at h
    · rename_i d0 q
      obtain ⟨r, e1, e2⟩ := Option.bind_eq_some_iff.mp h
      cases e2
      obtain ⟨l, g⟩ := takeAll_get e1
      refine ⟨by simp [l], fun j d e => ?_⟩
      cases j with
      | zero => simp at e; subst e; exact .inr ⟨i, rfl, q⟩
      | succ j => simpa using g j d (by simpa using e)
    · cases h
theorem giveBack_len {σ : Env} : ∀ (os : List O) (ds : List D), (giveBack σ os ds).length = σ.length
  | [], _ => rfl
  | .at _ :: _, [] => rfl
  | .v _ :: _, [] => rfl
  | .at i :: os, d :: ds => by
    unfold giveBack
    rw [List.length_set]; exact giveBack_len os ds
  | .v _ :: os, d :: ds => by
    unfold giveBack
    exact giveBack_len os ds
/-- a slot behind a call: as it was, or what the callee left of its argument -/
theorem giveBack_get {σ : Env} {m : Nat} {d : D} : ∀ {os : List O} {ds : List D}, (giveBack σ os ds)[m]? = some (some d) → ((∀ j : Nat, j < ds.length → os[j]? ≠ some (O.at m)) ∧ σ[m]? = some (some d)) ∨ ∃ j : Nat, os[j]? = some (O.at m) ∧ ds[j]? = some d
  | [], _, e => .inl ⟨by simp, e⟩
  | .at _ :: _, [], e => .inl ⟨by simp, e⟩
  | .v _ :: _, [], e => .inl ⟨by simp, e⟩
  | .at i :: os, d0 :: ds, e => by
    unfold giveBack at e
    rcases set_get e with ⟨e1, e2, e3⟩ | ⟨e1, e2⟩
    · subst e1
      cases e2
      exact .inr ⟨0, rfl, rfl⟩
    · rcases giveBack_get e2 with ⟨z1, z2⟩ | ⟨j, z1, z2⟩
      · refine .inl ⟨fun j hj => ?_, z2⟩
        cases j with
        | zero => simp; exact e1
        | succ j => simpa using z1 j (by simpa using hj)
      · exact .inr ⟨j + 1, by simpa using z1, by simpa using z2⟩
  | .v _ :: os, d0 :: ds, e => by
    unfold giveBack at e
    rcases giveBack_get e with ⟨z1, z2⟩ | ⟨j, z1, z2⟩
    · refine .inl ⟨fun j hj => ?_, z2⟩
      cases j with
      | zero => simp
      | succ j => simpa using z1 j (by simpa using hj)
    · exact .inr ⟨j + 1, by simpa using z1, by simpa using z2⟩

/-- the ownership that the callee sees; the caller's behind the call -/
def inCall (ω : Om) (os : List O) : Om := fun a => match ω a with
  | .free => .free
  | .at i => (match atIx i 0 os with
    | some j => .at j
    | none => .out)
  | .tab q => .tab q
  | _ => .out
def outCall (ω ω' : Om) (os : List O) : Om := fun a => match ω' a with
  | .free => .free
  | .out => ω a
  | .at j => (match os[j]? with
    | some (.at i) => .at i
    | _ => .free)
  | .res => .tmp
  | .tmp => .free
  | .tab q => .tab q
section
variable {g : G} {ω ω' : Om} {H H' : Hp} {σD : Env} {σ : L2.St} {os : List O} {vs : List V}
theorem inCall_free {a : Addr} : inCall ω os a = .free ↔ ω a = .free := by
  unfold inCall
  cases e : ω a with
  | free => simp
  | «at» i =>
    simp only
    constructor
    · intro h
      cases q : atIx i 0 os with
      | none => rw [q] at h; cases h
      | some j => rw [q] at h; cases h
    · intro h; cases h
  | _ => simp
theorem inCall_out {a : Addr} (h : ω a = .out) : inCall ω os a = .out := by
  unfold inCall; rw [h]
theorem inCall_tab {a : Addr} {q : Str} : inCall ω os a = .tab q ↔ ω a = .tab q := by
  unfold inCall
  cases e : ω a with
  | «at» i =>
    simp only
    constructor
    · intro h
      cases q : atIx i 0 os with
      | none => rw [q] at h; cases h
      | some j => rw [q] at h; cases h
    · intro h; cases h
  | _ => simp
theorem Step.call (dm : Dom g.cl ω H) (s : Step (inCall ω os) H ω' H') : Step ω H (outCall ω ω' os) H' where
  fr := fun a o h w => s.fr a o h (inCall_free.mpr w)
  ot := fun a o h w z => s.ot a o h (inCall_out w) z
  out := fun a h => by
    unfold outCall
    rw [s.out a (inCall_out h)]
    exact h
  fz := fun a h t => by
    unfold outCall
    rw [s.fz a (inCall_free.mpr h) t]
  th := s.th
  tb := fun a q h => by
    unfold outCall
    rw [s.tb a q (inCall_tab.mpr h)]
theorem outCall_free {a : Addr} (h : ω' a = .free) : outCall ω ω' os a = .free := by unfold outCall; rw [h]
theorem OVs.get {j : Nat} {o : O} : ∀ {os : List O} {vs : List V} {j : Nat}, OVs g ω H σ os vs → os[j]? = some o → ∃ v, vs[j]? = some v ∧ OV g ω H σ o v
  | _, _, _, .nil, e => by simp at e
  | _, _, 0, .cons h _, e => by simp at e; subst e; exact ⟨_, rfl, h⟩
  | _, _, j + 1, .cons _ t, e => by
    obtain ⟨v, e1, r⟩ := OVs.get (j := j) t (by simpa using e)
    exact ⟨v, by simpa using e1, r⟩
theorem OVs.length (h : OVs g ω H σ os vs) : os.length = vs.length := by
  induction h with
  | nil => rfl
  | cons _ _ ih => simp [ih]
theorem call_in (st : Sta g ω H σD σ) (ov : OVs g ω H σ os vs) {ds : List D} (ht : takeAll σD os = some ds) (ho : once os = true) : RDs g.K g.cl H (inCall ω os) ds vs ∧ Dom g.cl (inCall ω os) H := by
  refine ⟨fun j d v e1 e2 => ?_, ⟨fun a h => st.dom.dom a fun e => h (inCall_free.mpr e), fun a q h => (st.dom.tab a q (inCall_tab.mp h)).keep (fun _ _ h _ => .inl h) (fun a h _ => inCall_free.mpr h) (fun _ h => h), fun n a h => inCall_tab.mpr (st.dom.tbs n a h)⟩⟩
  rcases (takeAll_get ht).2 j d e1 with ⟨x, h1, rfl⟩ | ⟨i, h1, h2⟩
  · obtain ⟨v', e3, r⟩ := ov.get (j := j) h1
    rw [e2] at e3; cases e3
    cases r with | v r => exact .p (RP.keep (Keeps.own fun a h => inCall_free.mpr h) _ _ r)
  · obtain ⟨v', e3, r⟩ := ov.get (j := j) h1
    rw [e2] at e3; cases e3
    cases r with
    | «at» r =>
      obtain ⟨v', e4, r'⟩ := st.rd i d h2
      rw [r] at e4; cases e4
      refine r'.own (fun a h => inCall_free.mpr h) fun a h => ?_
      unfold inCall
      rw [h]
      show (match atIx i 0 os with | some j => Own.at j | none => .out) = _
      rw [atIx_once ho h1, Nat.zero_add]
theorem call_out (st : Sta g ω H σD σ) (ov : OVs g ω H σ os vs) (ho : once os = true) {fin : List D} (hl : fin.length = os.length) (s : Step (inCall ω os) H ω' H') (dm : Dom g.cl ω' H') (rd : RDs g.K g.cl H' ω' fin vs) :
    Sta g (outCall ω ω' os) H' (giveBack σD os fin) σ where
  len := by rw [giveBack_len]; exact st.len
  rd := fun m d e => by
    rcases giveBack_get e with ⟨z1, z2⟩ | ⟨j, z1, z2⟩
    · obtain ⟨v, e1, r⟩ := st.rd m d z2
      have hno : ∀ a, ω a = .at m → inCall ω os a = .out := fun a h => by
        unfold inCall
        rw [h]
        show (match atIx m 0 os with | some j => Own.at j | none => .out) = _
        cases q : atIx m 0 os with
        | none => rfl
        | some j =>
          obtain ⟨n, e2, e3⟩ := atIx_some q
          exact absurd e3 (z1 n (by rw [hl]; exact get_lt (x := O.at m) e3))
      refine ⟨v, e1, r.keep2 ((Step.call st.dom s).keeps st.dom) (fun a o h w z => s.ot a o h (hno a w) z) fun a t w => ?_⟩
      unfold outCall
      rw [s.out a (hno a w)]
      exact w
    · obtain ⟨v, e2, r⟩ := ov.get (j := j) z1
      cases r with
      | «at» r =>
        refine ⟨v, r, (rd j d v z2 e2).own (fun a h => outCall_free h) fun a h => ?_⟩
        unfold outCall
        rw [h]
        show (match os[j]? with | some (.at i) => Own.at i | _ => .free) = _
        rw [z1]
  par := st.par
  dom := ⟨fun a h => dm.dom a fun e => h (outCall_free e), fun a q h => by
    have e : ω' a = .tab q := by
      unfold outCall at h
      cases z : ω' a with
      | out => rw [z] at h; dsimp only at h; rw [s.tb a q (inCall_tab.mpr h)] at z; cases z
      | tab q' => rw [z] at h; dsimp only at h; exact h
      | free => rw [z] at h; cases h
      | res => rw [z] at h; cases h
      | tmp => rw [z] at h; cases h
      | «at» j =>
        rw [z] at h
        dsimp only at h
        split at h <;> cases h
    exact (dm.tab a q e).keep (fun _ _ h _ => .inl h) (fun c h _ => outCall_free h) (fun _ h => h), fun n a h => by
    unfold outCall
    rw [s.tb a _ (inCall_tab.mpr (st.dom.tbs n a h))]⟩
end

/-- what a call leaves, the callee's promise as premise -/
theorem call_run {g : G} {ω : Om} {H : Hp} {σD : Env} {σ : L2.St} {os : List O} {vs : List V} {np : Nat} {f : FS} {Q : VK} (hf : ∀ ds d fin, f ds = .ok d fin → fin.length = ds.length) (hf' : ∀ ds c ns xs fin, f ds = .exc c ns xs fin → fin.length = ds.length) (hnp : os.length = np) (st : Sta g ω H σD σ) (ov : OVs g ω H σ os vs)
    (h : Post g ω H σ (callEnd σD os f) fun d _ ω' H' => ∀ v, RD g.K g.cl H' ω' .tmp d v → Q v H') : spOf g.K g.cl np f vs H Q (fun C d H' => g.Ω C d σ H') := by
  unfold callEnd at h
  cases e1 : takeAll σD os with
  | none => rw [e1] at h; exact h.elim
  | some ds =>
    rw [e1] at h
    by_cases ho : once os = true
    · simp only [ho, if_true] at h
      obtain ⟨rd, dm⟩ := call_in st ov e1 ho
      have hl := (takeAll_get e1).1
      refine ⟨inCall ω os, ds, by rw [← ov.length]; exact hnp, by rw [hl]; exact hnp, rd, dm, ?_⟩
      cases e2 : f ds with
      | stuck => rw [e2] at h; exact h.elim
      | ok d fin =>
        rw [e2] at h
        intro ω' H' v s dm' rd' r
        refine h _ H' (Step.call st.dom s) (call_out st ov ho (by rw [hf _ _ _ e2, hl]) s dm' rd') v (r.own (fun a h => outCall_free h) fun a h => ?_)
        unfold outCall; rw [h]
      | exc c ns xs fin =>
        rw [e2] at h
        intro ω' H' C dx s dm' rd' x
        refine h _ H' C dx (Step.call st.dom s) (call_out st ov ho (by rw [hf' _ _ _ _ _ e2, hl]) s dm' rd') ?_
        obtain ⟨C', dx', fs, h1, h2, h3, h4, h5, h6⟩ := x
        exact ⟨C', dx', fs, h1, h2, h3, h4, h5, RPs.keep (Keeps.own fun a h => outCall_free h) _ _ h6⟩
    · rw [Bool.not_eq_true] at ho
      simp only [ho] at h
      exact h.elim
end PV

set_option Elab.async false
set_option linter.all false
set_option maxRecDepth 100000
set_option maxHeartbeats 4000000
/-! PvE: calls of defs, instances made, fields, things changed in place. -/
namespace PV
open PySem L2

/-- a def that may be called by its name -/
structure Callee (P : Program) (w : World) (K : PySem.W.Frag) (mg : Str → Option Value) (base : Heap) (cl : String → Option Addr) (x : Str) (k np : Nat) (f : FS) : Prop where
  ex : ∃ (a : Addr) (fd : FuncData) (ps : List Str), FnOk P w K mg base (L2.CX P w) k a fd ps (spOf K cl np f) ∧ mg x = some (.ref a) ∧ PySem.W.keepIn K (.ref a) = true ∧ Binds K fd ps []
  fin : ∀ ds d fin, f ds = .ok d fin → fin.length = ds.length
  fin' : ∀ ds c ns xs fin, f ds = .exc c ns xs fin → fin.length = ds.length
/-- a class that may be made by its name -/
structure Maker (P : Program) (w : World) (K : PySem.W.Frag) (mg : Str → Option Value) (base : Heap) (cl : String → Option Addr) (x : Str) (c : String) (k np : Nat) (f : FS) : Prop where
  ex : ∃ (C a : Addr) (fd : FuncData) (ps : List Str), Mk K C a ∧ FnOk P w K mg base (L2.CX P w) k a fd ps (spOf K cl (np + 1) f) ∧ mg x = some (.ref C) ∧ cl c = some C ∧ Binds K fd ps []
  fin : ∀ ds d fin, f ds = .ok d fin → fin.length = ds.length
  fin' : ∀ ds c ns xs fin, f ds = .exc c ns xs fin → fin.length = ds.length

theorem finOf_len {io : List Nat} {σ : Env} : ∀ {as : List D} {k : Nat} {fin : List D}, finOf io σ k as = some fin → fin.length = as.length
  | [], k, fin, h => by cases h; rfl
  | a :: as, k, fin, h => by
    unfold finOf at h
    split at h
    · rename_i d0 r e0 er
      cases h
      simp [finOf_len er]
    · cases h
theorem fnOf_fin {np nl : Nat} {io : List Nat} {body : MS} {ds : List D} {d : D} {fin : List D} (h : fnOf np nl io body ds = .ok d fin) : fin.length = ds.length := by
  unfold fnOf fnEnd at h
  split at h
  · split at h
    · split at h
      · rename_i e; cases h; exact finOf_len e
      · cases h
    · split at h
      · rename_i e; cases h; exact finOf_len e
      · cases h
    · split at h <;> cases h
    · cases h
  · cases h
theorem fnOf_fin' {np nl : Nat} {io : List Nat} {body : MS} {ds : List D} {c ns xs} {fin : List D} (h : fnOf np nl io body ds = .exc c ns xs fin) : fin.length = ds.length := by
  unfold fnOf fnEnd at h
  split at h
  · split at h
    · split at h <;> cases h
    · split at h <;> cases h
    · split at h
      · rename_i e; cases h; exact finOf_len e
      · cases h
    · cases h
  · cases h

section
variable {X : Cx} {g : G}
theorem mAs_len : ∀ {ms : List M} {σ : Env} {os : List O} {σ' : Env}, mAs ms σ = .ok os σ' → os.length = ms.length
  | [], σ, os, σ', h => by cases h; rfl
  | m :: ms, σ, os, σ', h => by
    unfold mAs at h
    cases e : m σ with
    | ok o σ1 =>
      rw [e, R.bind_ok] at h
      cases e2 : mAs ms σ1 with
      | ok r σ2 =>
        rw [e2, R.bind_ok] at h
        cases h
        simp [mAs_len e2]
      | exc _ _ _ _ => rw [e2] at h; cases h
      | stuck => rw [e2] at h; cases h
    | exc _ _ _ _ => rw [e] at h; cases h
    | stuck => rw [e] at h; cases h
theorem Post.withEq {ω : Om} {H : Hp} {σ : L2.St} {β : Type} {r : R β} {k : β → Env → Om → Hp → Prop} (h : Post g ω H σ r k) : Post g ω H σ r fun b σD' ω' H' => r = .ok b σD' ∧ k b σD' ω' H' := by
  cases r with
  | ok b σD' => exact fun ω2 H2 s2 st => ⟨rfl, h ω2 H2 s2 st⟩
  | exc c ns vs σD' => exact h
  | stuck => exact h
theorem tA_call {f : FS} {ms : List M} {np : Nat} {Q : VK} {σ : L2.St} {H : Hp} (hf : ∀ ds d fin, f ds = .ok d fin → fin.length = ds.length) (hf' : ∀ ds c ns xs fin, f ds = .exc c ns xs fin → fin.length = ds.length) (hn : ms.length = np) (h : tF g (mCallF f ms) σ H Q) :
    tA g (mAs ms) σ H fun vs H1 => spOf g.K g.cl np f vs H1 Q (fun C d H' => g.Ω C d σ H') := by
  obtain ⟨ω, σD, st, q⟩ := h
  refine ⟨ω, σD, st, q.bind.withEq.imp fun os σ1 ω1 H1 s1 st1 q1 vs ov => ?_⟩
  refine call_run hf hf' ((mAs_len q1.1).trans hn) st1 ov ?_
  exact q1.2
theorem call_frz {f : FS} {ms : List M} {Q : VK} (σ : L2.St) (H : Hp) (h : tM g (mCall f ms) σ H Q) : tF g (mCallF f ms) σ H Q := by
  obtain ⟨ω, σD, st, q⟩ := h
  refine ⟨ω, σD, st, ?_⟩
  have q2 : Post g ω H σ ((mCallF f ms σD).bind fun d σ2 => R.ok (O.v d.view) σ2) (fun o _ ω' H' => ∀ v, OV g ω' H' σ o v → Q v H') := by
    have e : mCall f ms σD = (mCallF f ms σD).bind fun d σ2 => R.ok (O.v d.view) σ2 := by
      unfold mCall mCallF
      cases mAs ms σD <;> rfl
    rw [← e]; exact q
  refine q2.bind.imp fun d σ1 ω1 H1 s1 st1 q1 v r => ?_
  have st2 : Sta g (ren ω1 .tmp .free) H1 σ1 σ := ⟨st1.len, fun j d' e => by
    obtain ⟨v', e4, r'⟩ := st1.rd j d' e
    exact ⟨v', e4, r'.own (fun a h => ren_free (by intro z; cases z) h) fun a h => ren_ne h (by intro z; cases z)⟩, st1.par, st1.dom.ren (by intro z; cases z)⟩
  exact q1 _ H1 (.ren (by intro z; cases z) (by intro z; cases z)) st2 v (.v (r.frz (fun a h => ren_free (by intro z; cases z) h) fun a h => ren_at h))
theorem de_callF {x : Str} {k np : Nat} {f : FS} {e : Expr} {es : List Expr} {ms : List M} {p pos : Pos} (F : Callee X.prog X.w X.K X.mg X.base g.cl x k np f) (hK : g.K = X.K) (hr : Room k X.A) (tk : Takes X g.Ω) (hg : Gl X x) (ha : PA X (e :: es) (tA g (mAs ms))) (hn : ms.length = np := by rfl)
    (hdb : (x == ("__debug__" : Str)) = false := by decide) (he : starEach (e :: es) X.env = (false, eval e X.env) :: starEach es X.env := by rfl) (hpl : (backTo pos (starEach es X.env)).any (·.1) = false := by rfl) : PE X (.Call (.Name x p) (e :: es) [] pos) (tF g (mCallF f ms)) := by
  obtain ⟨⟨a, fd, ps, F1, h1, h2, h3⟩, hf, hf'⟩ := F
  refine pe_weak (pe_callS F1 hr hg h1 h2 h3 (passAt tk) ha hdb he hpl) fun σ H Q h => ?_
  have q := tA_call hf hf' hn h
  rw [hK] at q
  exact q
theorem de_call {x : Str} {k np : Nat} {f : FS} {e : Expr} {es : List Expr} {ms : List M} {p pos : Pos} (F : Callee X.prog X.w X.K X.mg X.base g.cl x k np f) (hK : g.K = X.K) (hr : Room k X.A) (tk : Takes X g.Ω) (hg : Gl X x) (ha : PA X (e :: es) (tA g (mAs ms))) (hn : ms.length = np := by rfl)
    (hdb : (x == ("__debug__" : Str)) = false := by decide) (he : starEach (e :: es) X.env = (false, eval e X.env) :: starEach es X.env := by rfl) (hpl : (backTo pos (starEach es X.env)).any (·.1) = false := by rfl) : PE X (.Call (.Name x p) (e :: es) [] pos) (tM g (mCall f ms)) :=
  pe_weak (de_callF F hK hr tk hg ha hn hdb he hpl) fun σ H Q h => call_frz σ H h

/-! ### fields -/
theorem ofS_inj {a b : String} (h : ofS a = ofS b) : a = b := by
  unfold ofS at h
  rw [Str.ofString_eq_toList, Str.ofString_eq_toList] at h
  have h1 : (a.toList.map Char.toNat).toArray = (b.toList.map Char.toNat).toArray := congrArg Str.cps h
  have h2 : a.toList.map Char.toNat = b.toList.map Char.toNat := by simpa using congrArg Array.toList h1
  have inj : ∀ c d : Char, c.toNat = d.toNat → c = d := fun c d e => by
    apply Char.ext
    exact UInt32.toNat_inj.mp e
  have h3 : a.toList = b.toList := List.map_inj_right (fun c d => inj c d) |>.mp h2
  exact String.toList_inj.mp h3
def lookF (f : String) : List String → List P → Option P
  | n :: ns, x :: xs => if n = f then some x else lookF f ns xs
  | _, _ => none
def putFP (f : String) (y : P) : List String → List P → List String × List P
  | n :: ns, x :: xs => if n = f then (n :: ns, y :: xs) else let r := putFP f y ns xs; (n :: r.1, x :: r.2)
  | _, _ => ([f], [y])
theorem lookF_ok {K : PySem.W.Frag} {cl : String → Option Addr} {H : Hp} {N : Addr → Prop} {f : String} : ∀ {ns : List String} {xs : List P} {fs : List (Str × V)} {x : P}, fs.map (·.1) = ns.map ofS → RPs K cl H N xs (fs.map (·.2)) → lookF f ns xs = some x → ∃ v, fs.lookup (ofS f) = some v ∧ RP K cl H N x v
  | [], _, _, _, _, _, h => by cases h
  | n :: ns, [], _, _, _, _, h => by cases h
  | n :: ns, y :: xs, [], _, e, _, _ => by cases e
  | n :: ns, y :: xs, (m, v) :: fs, x, e, r, h => by
    cases r with
    | cons r1 r2 =>
      have e1 : m = ofS n := (List.cons.inj e).1
      have e2 : fs.map (·.1) = ns.map ofS := (List.cons.inj e).2
      unfold lookF at h
      by_cases q : n = f
      · rw [if_pos q] at h
        cases h
        refine ⟨v, ?_, r1⟩
        rw [List.lookup_cons, e1, q]
        simp
      · rw [if_neg q] at h
        obtain ⟨u, h1, h2⟩ := lookF_ok e2 r2 h
        refine ⟨u, ?_, h2⟩
        rw [List.lookup_cons, e1]
        have : (ofS f == ofS n) = false := beq_eq_false_iff_ne.mpr fun z => q (ofS_inj z).symm
        rw [this]
        exact h1
structure FldOk (K : PySem.W.Frag) (cl : String → Option Addr) (c f : String) : Prop where
  ex : ∃ C, cl c = some C ∧ Cls K C ∧ NoAttr K C (ofS f)
def pAttr (cs : List String) (f : String) : P → Option P
  | .ins c ns xs => if c ∈ cs then lookF f ns xs else none
  | _ => none
theorem RO.ins_inv {K : PySem.W.Frag} {cl : String → Option Addr} {H : Hp} {N : Addr → Prop} {c : String} {ns : List String} {xs : List P} {v : V} (h : RO K cl H N (.ins c ns xs) v) : ∃ a C dx fs, v = .ref a ∧ H a = some (.ins C dx fs) ∧ cl c = some C ∧ fs.map (·.1) = ns.map ofS ∧ RPs K cl H N xs (fs.map (·.2)) := by
  cases h with
  | p h => cases h with | ins h1 h2 h3 h4 h5 => exact ⟨_, _, _, _, rfl, h1, h3, h4, h5⟩
  | ins h1 h3 h4 h5 => exact ⟨_, _, _, _, rfl, h1, h3, h4, h5⟩
theorem de_attr {e : Expr} {m : M} {f : String} {cs : List String} {pos : Pos} (he : PE X e (tM g m)) (hK : g.K = X.K) (hc : ∀ c ∈ cs, FldOk g.K g.cl c f) (hb : attributeBase e (ofS f) X.env (eval e X.env) = eval e X.env := by rfl) : PE X (.Attribute e (ofS f) pos) (tM g (mOp1 (pAttr cs f) m)) :=
  pe_weak (pe_fld he hb) fun σ H Q h => by
    obtain ⟨ω, σD, st, q⟩ := h
    refine ⟨ω, σD, st, q.bind.imp fun oa σ1 ω1 H1 s1 st1 q1 v ov => ?_⟩
    obtain ⟨z, e, q1⟩ := lift_post q1
    obtain ⟨x, e1, e2⟩ := Option.bind_eq_some_iff.mp e
    have ro := st1.get ov e1
    cases x with
    | ins c ns xs =>
      dsimp only [pAttr] at e2
      by_cases hcs : c ∈ cs
      · rw [if_pos hcs] at e2
        obtain ⟨a, C, dx, fs, rfl, h1, h2, h3, h4⟩ := ro.ins_inv
        obtain ⟨C', h5, h6, h7⟩ := (hc c hcs).ex
        rw [h2] at h5; cases h5
        obtain ⟨u, h8, h9⟩ := lookF_ok h3 h4 e2
        rw [hK] at h6 h7
        exact ⟨a, C, dx, fs, u, rfl, h1, h6, h7, h8, Post.ok q1 st1 u (.v h9)⟩
      · rw [if_neg hcs] at e2
        cases e2
    | _ => cases e2

theorem RPs.imp {K : PySem.W.Frag} {cl : String → Option Addr} {H H' : Hp} {N N' : Addr → Prop} (f : ∀ x v, RP K cl H N x v → RP K cl H' N' x v) : ∀ {xs : List P} {vs : List V}, RPs K cl H N xs vs → RPs K cl H' N' xs vs
  | [], _, h => by cases h; exact .nil
  | x :: xs, _, h => by
    cases h with
    | cons h1 h2 => exact .cons (f _ _ h1) (RPs.imp f h2)
/-! ### things changed in place -/
/-- the thing at a, owned under i, changed -/
theorem change {ω : Om} {H : Hp} {σD : Env} {σ : L2.St} (st : Sta g ω H σD σ) {i : Nat} {a : Addr} {o : HO} {d : D} (hi : i < σD.length) (hσ : σ[i]? = some (some (.ref a))) (ha : ω a = .at i) (ht : isT o = false) (hd : (∀ x v, RP g.K g.cl H (Fr ω) x v → RP g.K g.cl (upd H a o) (Fr ω) x v) → RD g.K g.cl (upd H a o) ω (.at i) d (.ref a)) :
    Step ω H ω (upd H a o) ∧ Sta g ω (upd H a o) (σD.set i (some d)) σ := by
  have ne : ∀ b, ω b ≠ .at i → b ≠ a := fun b h e => h (by rw [e]; exact ha)
  have s : Step ω H ω (upd H a o) := ⟨fun b u h w => .inl (by
      rw [upd_ne (ne b (by rw [w]; intro z; cases z))]; exact h), fun b u h w _ => by
      rw [upd_ne (ne b (by rw [w]; intro z; cases z))]; exact h, fun _ h => h, fun _ h _ => h, fun b h => by
      by_cases e : b = a
      · rw [e, upd_same]; intro z; cases z
      · rw [upd_ne e]; exact h, fun _ _ h => h⟩
  refine ⟨s, ⟨by rw [List.length_set]; exact st.len, fun j d' e => ?_, st.par, ⟨fun b h => ?_, fun b q h => (st.dom.tab b q h).keep s.fr s.fz (fun u h' => by rw [upd_ne (ne b (by rw [h]; intro z; cases z))]; exact h'), st.dom.tbs⟩⟩⟩
  · rcases set_get e with ⟨e1, e2, e3⟩ | ⟨e1, e2⟩
    · subst e1
      cases e2
      exact ⟨_, hσ, hd fun x v r => s.rp st.dom r⟩
    · obtain ⟨v, e3, r⟩ := st.rd j d' e2
      exact ⟨v, e3, r.keep2 (s.keeps st.dom) (fun b u h w _ => by rw [upd_ne (ne b (by rw [w]; intro z; cases z; exact e1 rfl))]; exact h) fun _ _ h => h⟩
  · by_cases e : b = a
    · subst e
      exact ⟨o, upd_same, ht⟩
    · obtain ⟨u, h1, h2⟩ := st.dom.dom b h
      exact ⟨u, by rw [upd_ne e]; exact h1, h2⟩
theorem Sta.tyList {ω : Om} {H : Hp} {σD : Env} {σ : L2.St} (st : Sta g ω H σD σ) {i : Nat} {xs : List P} (e : σD[i]? = some (some (.lst xs))) : ∃ a vs, σ[i]? = some (some (.ref a)) ∧ H a = some (.lst vs) ∧ ω a = .at i ∧ RPs g.K g.cl H (Fr ω) xs vs := by
  obtain ⟨v, e1, r⟩ := st.rd i _ e
  cases r with | lst h1 h2 h3 => exact ⟨_, _, e1, h1, h2, h3⟩
/-- xs.append(e), xs the list in slot i -/
def mApp (i : Nat) (m : M) : M := fun σ => match σ[i]? with
  | some (some (.lst _)) => (m σ).bind fun o σ1 => (frz o σ1).bind fun x σ2 => (match σ2[i]? with
    | some (some (.lst xs)) => if xs.length < sizeLine then .ok (.v .non) (σ2.set i (some (.lst (xs ++ [x])))) else .stuck
    | _ => .stuck)
  | _ => .stuck
theorem de_app {i : Nat} {e : Expr} {m : M} (he : PE X e (tBM X.K "list" rAppend (tVar i) (tCons (tM g m) tNil))) : PE X e (tM g (mApp i m)) :=
  pe_weak he fun σ H Q h => by
    obtain ⟨ω, σD, st, q⟩ := h
    unfold mApp at q
    split at q
    · rename_i xs0 e0
      obtain ⟨a, vs0, h1, h2, h3, h4⟩ := st.tyList e0
      refine ⟨_, h1, .inl ⟨rfl, vs0, SqL.of h2⟩, ω, σD, st, q.bind.imp fun o σ1 ω1 H1 s1 st1 q1 v ov => ?_⟩
      obtain ⟨y, σ2, ω2, s2, st2, r, e2, q2⟩ := frz_ok st1 ov q1.bind
      split at q2
      · rename_i xs e3
        obtain ⟨a', vs, h1', h5, h6, h7⟩ := st2.tyList e3
        rw [h1] at h1'; cases h1'
        split at q2
        · rename_i hl
          refine ⟨a, vs, v, rfl, rfl, h5, by rw [← h7.length]; exact hl, ?_⟩
          obtain ⟨s3, st3⟩ := change (o := .lst (vs ++ [v])) (d := .lst (xs ++ [y])) st2 (get_lt e3) h1 h6 rfl fun k => .lst upd_same h6 (RPs.append (RPs.imp k h7) (.cons (k _ _ r) .nil))
          exact q2 ω2 _ s3 st3 .non (.v .non)
        · exact q2.elim
      · exact q2.elim
    · exact q.elim
/-- xs.pop(e), xs the list in slot i; a place from the front -/
def mPop (i : Nat) (m : M) : M := fun σ => match σ[i]? with
  | some (some (.lst _)) => (m σ).bind fun o σ1 => (match o.get σ1, σ1[i]? with
    | some (.int k), some (some (.lst xs)) => (match ixN xs.length k with
      | some j => (match xs[j]? with
        | some x => if xs.length ≤ sizeLine then .ok (.v x) (σ1.set i (some (.lst (xs.eraseIdx j)))) else .stuck
        | none => .stuck)
      | none => .stuck)
    | _, _ => .stuck)
  | _ => .stuck
theorem de_pop {i : Nat} {e : Expr} {m : M} (he : PE X e (tBM X.K "list" rPopAt (tVar i) (tCons (tM g m) tNil))) : PE X e (tM g (mPop i m)) :=
  pe_weak he fun σ H Q h => by
    obtain ⟨ω, σD, st, q⟩ := h
    unfold mPop at q
    split at q
    · rename_i xs0 e0
      obtain ⟨a, vs0, h1, h2, h3, h4⟩ := st.tyList e0
      refine ⟨_, h1, .inl ⟨rfl, vs0, SqL.of h2⟩, ω, σD, st, q.bind.imp fun o σ1 ω1 H1 s1 st1 q1 v ov => ?_⟩
      split at q1
      · rename_i k xs e2 e3
        split at q1
        · rename_i j e4
          split at q1
          · rename_i y e5
            split at q1
            · rename_i hl
              have ro := st1.get ov e2
              obtain ⟨a', vs, h1', h5, h6, h7⟩ := st1.tyList e3
              rw [h1] at h1'; cases h1'
              have ev : v = .int k := by cases ro with | p ro => cases ro; rfl
              subst ev
              obtain ⟨u, h8, h9⟩ := h7.get e5
              obtain ⟨i1, i2, i3, i4⟩ := ixN_seq e4
              have hsz : (sizeLine : Int) < 2 ^ 63 := by decide
              obtain ⟨s3, st3⟩ := change (o := .lst (vs.eraseIdx j)) (d := .lst (xs.eraseIdx j)) st1 (get_lt e3) h1 h6 rfl fun k => .lst upd_same h6 (RPs.eraseIdx _ (RPs.imp k h7))
              refine ⟨a, vs, k, j, u, rfl, rfl, h5, by omega, by omega, by rw [← h7.length]; exact i1, h8, ?_⟩
              exact q1 ω1 _ s3 st3 u (.v (s3.rp st1.dom h9))
            · exact q1.elim
          · exact q1.elim
        · exact q1.elim
      · exact q1.elim
    · exact q.elim
end
end PV

set_option Elab.async false
set_option linter.all false
set_option maxRecDepth 100000
set_option maxHeartbeats 4000000
/-! PvF: what operators, comparisons, subscripts and built-in functions do to data. -/
namespace PV
open PySem L2

section
variable {K : PySem.W.Frag} {cl : String → Option Addr}
/-! ### numbers -/
def pI (f : Int → Int → Option P) : P → P → Option P
  | .int i, .int j => f i j
  | _, _ => none
theorem prim_I0 {f : Int → Int → Int} : Prim2 K cl (rI0 fun i j => .int (f i j)) (pI fun i j => some (.int (f i j))) := by
  intro ω H x y z vx vy Q dm hx hy e q
  cases x <;> cases y <;> first | cases e | skip
  obtain rfl := hx.int_inv
  obtain rfl := hy.int_inv
  exact ⟨_, _, rfl, rfl, q H _ (.refl H) (.int _)⟩
theorem prim_I {C : Int → Int → Prop} [∀ i j, Decidable (C i j)] {f : Int → Int → Int} : Prim2 K cl (rI C fun i j => .int (f i j)) (pI fun i j => if C i j then some (.int (f i j)) else none) := by
  intro ω H x y z vx vy Q dm hx hy e q
  cases x <;> cases y <;> first | cases e | skip
  obtain rfl := hx.int_inv
  obtain rfl := hy.int_inv
  dsimp only [pI] at e
  split at e
  · rename_i hc
    cases e
    exact ⟨_, _, rfl, rfl, hc, q H _ (.refl H) (.int _)⟩
  · cases e
theorem prim_cmp {f : Int → Int → Bool} : Prim2 K cl (rI0 fun i j => .bl (f i j)) (pI fun i j => some (.bl (f i j))) := by
  intro ω H x y z vx vy Q dm hx hy e q
  cases x <;> cases y <;> first | cases e | skip
  obtain rfl := hx.int_inv
  obtain rfl := hy.int_inv
  exact ⟨_, _, rfl, rfl, q H _ (.refl H) (.bl _)⟩
instance (i j : Int) : Decidable (CMulW i j) := by unfold CMulW; infer_instance
instance (i j : Int) : Decidable (CDivW i j) := by unfold CDivW; infer_instance
instance (i j : Int) : Decidable (CPow i j) := by unfold CPow; infer_instance
def pNeg : P → Option P
  | .int i => some (.int (-i))
  | _ => none
theorem prim_neg : Prim1 K cl (rU fun i => .int (-i)) pNeg := by
  intro ω H x z vx Q dm hx e q
  cases x <;> first | cases e | skip
  obtain rfl := hx.int_inv
  exact ⟨_, rfl, q H _ (.refl H) (.int _)⟩

/-! ### + and * -/
def rAddA (K : PySem.W.Frag) : R2 := fun x y H Q => (rI0 fun i j => V.int (i + j)) x y H Q ∨ (∃ i j, x = .str i ∧ y = .str j ∧ i.length + j.length ≤ sizeLine ∧ Q (.str (i ++ j)) H) ∨ rCat x y H Q ∨ rCatA K x y H Q
theorem op_addA {X : Cx} : OpR X (binaryOp .Add) (rAddA X.K) := .or op_add (.or op_add_str (.or op_cat op_catA))
def pAdd : P → P → Option P
  | .int i, .int j => some (.int (i + j))
  | .str i, .str j => if i.length + j.length ≤ sizeLine then some (.str (i ++ j)) else none
  | .lst xs, .lst ys => if xs.length + ys.length ≤ sizeLine then some (.lst (xs ++ ys)) else none
  | .tup xs, .tup ys => if xs.length + ys.length ≤ sizeLine then some (.tup (xs ++ ys)) else none
  | _, _ => none
theorem RPs.nil_iff {H : Hp} {N : Addr → Prop} {xs : List P} {vs : List V} (h : RPs K cl H N xs vs) : vs = [] ↔ xs = [] := by
  cases h with
  | nil => simp
  | cons _ _ => simp
theorem prim_add : Prim2 K cl (rAddA K) pAdd := by
  intro ω H x y z vx vy Q dm hx hy e q
  cases x <;> cases y <;> first | cases e | skip
  · obtain rfl := hx.int_inv
    obtain rfl := hy.int_inv
    exact .inl ⟨_, _, rfl, rfl, q H _ (.refl H) (.int _)⟩
  · obtain rfl := hx.str_inv
    obtain rfl := hy.str_inv
    dsimp only [pAdd] at e
    split at e
    · rename_i hc
      cases e
      exact .inr (.inl ⟨_, _, rfl, rfl, hc, q H _ (.refl H) (.str _)⟩)
    · cases e
  · obtain ⟨a, vs, rfl, h1, h2⟩ := hx.tup_inv
    obtain ⟨b, us, rfl, h3, h4⟩ := hy.tup_inv
    dsimp only [pAdd] at e
    split at e
    · rename_i hc
      cases e
      refine .inr (.inr (.inr ⟨a, b, vs, us, rfl, rfl, SqT.of h1, SqT.of h3, by rw [← h2.length, ← h4.length]; exact hc, fun e => ?_, fun e1 e2 => ?_, fun e1 e2 p hp => ?_⟩))
      · have := h2.nil_iff.mp e
        subst this
        exact q H _ (.refl H) (.tup h3 h4)
      · have := h4.nil_iff.mp e2
        subst this
        rw [List.append_nil] at q
        exact q H _ (.refl H) (.tup h1 h2)
      · exact q _ _ (Same.new hp) (.tup upd_same (RPs.keep (same_keeps (Same.new hp)) _ _ (h2.append h4)))
    · cases e
  · obtain ⟨a, vs, rfl, h1, h2⟩ := hx.lst_inv
    obtain ⟨b, us, rfl, h3, h4⟩ := hy.lst_inv
    dsimp only [pAdd] at e
    split at e
    · rename_i hc
      cases e
      refine .inr (.inr (.inl ⟨a, b, vs, us, rfl, rfl, h1, h3, by rw [← h2.length, ← h4.length]; exact hc, fun p hp => ?_⟩))
      exact q _ _ (Same.new hp) (.lst upd_same (dm.fresh hp) (RPs.keep (same_keeps (Same.new hp)) _ _ (h2.append h4)))
    · cases e
def rMulA (K : PySem.W.Frag) : R2 := fun x y H Q => (rI CMulW fun i j => V.int (i * j)) x y H Q ∨ rRep x y H Q ∨ rRepT K x y H Q
theorem op_mulA {X : Cx} : OpR X (binaryOp .Mult) (rMulA X.K) := .or op_mulW (.or op_rep op_repT)
def pMul : P → P → Option P
  | .int i, .int j => if CMulW i j then some (.int (i * j)) else none
  | .lst xs, .int k => if -(2 ^ 63) ≤ k ∧ k < 2 ^ 63 ∧ xs.length * k.toNat ≤ sizeLine then some (.lst (List.replicate k.toNat xs).flatten) else none
  | .tup xs, .int k => if xs ≠ [] ∧ 2 ≤ k ∧ k ≤ 1000 ∧ xs.length ≤ 1000 then some (.tup (List.replicate k.toNat xs).flatten) else none
  | _, _ => none
theorem prim_mul : Prim2 K cl (rMulA K) pMul := by
  intro ω H x y z vx vy Q dm hx hy e q
  cases x <;> cases y <;> first | cases e | skip
  · obtain rfl := hx.int_inv
    obtain rfl := hy.int_inv
    dsimp only [pMul] at e
    split at e
    · rename_i hc
      cases e
      exact .inl ⟨_, _, rfl, rfl, hc, q H _ (.refl H) (.int _)⟩
    · cases e
  · obtain rfl := hy.int_inv
    obtain ⟨a, vs, rfl, h1, h2⟩ := hx.tup_inv
    dsimp only [pMul] at e
    split at e
    · rename_i hc
      cases e
      refine .inr (.inr ⟨a, _, vs, rfl, rfl, SqT.of h1, fun z => hc.1 (h2.nil_iff.mp z), hc.2.1, hc.2.2.1, by rw [← h2.length]; exact hc.2.2.2, fun p hp => ?_⟩)
      exact q _ _ (Same.new hp) (.tup upd_same (RPs.keep (same_keeps (Same.new hp)) _ _ (h2.flat _)))
    · cases e
  · obtain rfl := hy.int_inv
    obtain ⟨a, vs, rfl, h1, h2⟩ := hx.lst_inv
    dsimp only [pMul] at e
    split at e
    · rename_i hc
      cases e
      refine .inr (.inl ⟨a, _, vs, rfl, rfl, h1, hc.1, hc.2.1, by rw [← h2.length]; exact hc.2.2, fun p hp => ?_⟩)
      exact q _ _ (Same.new hp) (.lst upd_same (dm.fresh hp) (RPs.keep (same_keeps (Same.new hp)) _ _ (h2.flat _)))
    · cases e

/-! ### == and in, of data -/
mutual
def P.py : P → Option PyData
  | .non => some .none
  | .bl b => some (.bool b)
  | .int i => some (.int i)
  | .str s => some (.str s)
  | .tup xs => (pyL xs).map .tuple
  | .lst xs => (pyL xs).map .list
  | .dK _ _ => none
  | .dT _ _ => none
  | .ins _ _ _ => none
  | .exv _ _ _ => none
  | .fz _ => none
def pyL : List P → Option (List PyData)
  | [] => some []
  | x :: xs => (P.py x).bind fun d => (pyL xs).map fun ds => d :: ds
end
mutual
theorem RP.dp {H : Hp} {N : Addr → Prop} : ∀ {x : P} {v : V} {d : PyData}, RP K cl H N x v → x.py = some d → Dp K H v d
  | .non, _, _, h, e => by cases h; cases e; exact .non
  | .bl b, _, _, h, e => by cases h; cases e; exact .bl _
  | .int b, _, _, h, e => by cases h; cases e; exact .int _
  | .str b, _, _, h, e => by cases h; cases e; exact .str _
  | .tup xs, _, _, h, e => by
    cases h with
    | tup h1 h2 =>
      simp only [P.py, Option.map_eq_some_iff] at e
      obtain ⟨ds, e1, rfl⟩ := e
      exact .tup (SqT.of h1) (RPs.dp h2 e1)
  | .lst xs, _, _, h, e => by
    cases h with
    | lst h1 _ h2 =>
      simp only [P.py, Option.map_eq_some_iff] at e
      obtain ⟨ds, e1, rfl⟩ := e
      exact .lst (SqL.of h1) (RPs.dp h2 e1)
  | .dK _ _, _, _, _, e => by cases e
  | .dT _ _, _, _, _, e => by cases e
  | .ins _ _ _, _, _, _, e => by cases e
  | .exv _ _ _, _, _, _, e => by cases e
  | .fz _, _, _, _, e => by cases e
theorem RPs.dp {H : Hp} {N : Addr → Prop} : ∀ {xs : List P} {vs : List V} {ds : List PyData}, RPs K cl H N xs vs → pyL xs = some ds → DpAll K H vs ds
  | [], _, _, h, e => by cases h; cases e; exact .nil
  | x :: xs, _, _, h, e => by
    cases h with
    | cons h1 h2 =>
      simp only [pyL] at e
      obtain ⟨d, e1, e2⟩ := Option.bind_eq_some_iff.mp e
      obtain ⟨ds, e3, rfl⟩ := Option.map_eq_some_iff.mp e2
      exact .cons (RP.dp h1 e1) (RPs.dp h2 e3)
end
theorem RO.dp {H : Hp} {N : Addr → Prop} {x : P} {v : V} {d : PyData} (h : RO K cl H N x v) (e : x.py = some d) : Dp K H v d := by
  cases h with
  | p h => exact h.dp e
  | lst h1 h2 =>
    simp only [P.py, Option.map_eq_some_iff] at e
    obtain ⟨ds, e1, rfl⟩ := e
    exact .lst (SqL.of h1) (RPs.dp h2 e1)
  | dK _ _ _ => cases e
  | dT _ _ _ => cases e
  | ins _ _ _ _ => cases e
/-- whether two data are equal; for data whose depth is below 64 -/
def pEqB (x y : P) : Option Bool := match x.py, y.py with
  | some d, some e => if SeqAt.shaped d = true ∧ SeqAt.shaped e = true then some (PyData.eqv d e) else none
  | _, _ => none
theorem pEqB_inv {x y : P} {b : Bool} (h : pEqB x y = some b) : ∃ d e, x.py = some d ∧ y.py = some e ∧ SeqAt.shaped d = true ∧ SeqAt.shaped e = true ∧ b = PyData.eqv d e := by
  unfold pEqB at h
  split at h
  · rename_i d e h1 h2
    split at h
    · rename_i hc
      cases h
      exact ⟨d, e, h1, h2, hc.1, hc.2, rfl⟩
    · cases h
  · cases h
def pEq (x y : P) : Option P := (pEqB x y).map P.bl
def pNe (x y : P) : Option P := (pEqB x y).map fun b => P.bl (!b)
theorem prim_eq : Prim2 K cl (rEqD K) pEq := by
  intro ω H x y z vx vy Q dm hx hy e q
  obtain ⟨b, e1, rfl⟩ := Option.map_eq_some_iff.mp e
  obtain ⟨d, d2, h1, h2, h3, h4, rfl⟩ := pEqB_inv e1
  exact ⟨d, d2, hx.dp h1, hy.dp h2, h3, h4, q H _ (.refl H) (.bl _)⟩
theorem prim_ne : Prim2 K cl (rNeD K) pNe := by
  intro ω H x y z vx vy Q dm hx hy e q
  obtain ⟨b, e1, rfl⟩ := Option.map_eq_some_iff.mp e
  obtain ⟨d, d2, h1, h2, h3, h4, rfl⟩ := pEqB_inv e1
  exact ⟨d, d2, hx.dp h1, hy.dp h2, h3, h4, q H _ (.refl H) (.bl _)⟩
def P.isNon : P → Bool
  | .non => true
  | _ => false
def pIsN (x : P) : P → Option P
  | .non => some (.bl x.isNon)
  | _ => none
def pNotN (x : P) : P → Option P
  | .non => some (.bl (!x.isNon))
  | _ => none
theorem RO.non_iff {H : Hp} {N : Addr → Prop} {x : P} {v : V} (h : RO K cl H N x v) : decide (v = .non) = x.isNon := by
  cases h with
  | p h => cases h <;> rfl
  | _ => rfl
theorem prim_isN : Prim2 K cl (fun x y H Q => y = .non ∧ Q (.bl (decide (x = .non))) H) pIsN := by
  intro ω H x y z vx vy Q dm hx hy e q
  cases y <;> cases e
  obtain rfl := hy.non_inv
  refine ⟨rfl, ?_⟩
  rw [hx.non_iff]
  exact q H _ (.refl H) (.bl _)
theorem prim_notN : Prim2 K cl (fun x y H Q => y = .non ∧ Q (.bl (!decide (x = .non))) H) pNotN := by
  intro ω H x y z vx vy Q dm hx hy e q
  cases y <;> cases e
  obtain rfl := hy.non_inv
  refine ⟨rfl, ?_⟩
  rw [hx.non_iff]
  exact q H _ (.refl H) (.bl _)

/-! ### x in ys -/
/-- in, not in over a tuple, data at any depth -/
def rInT (K : PySem.W.Frag) (neg : Bool) : R2 := fun x y H Q => ∃ d ds, Dp K H x d ∧ Dp K H y (.tuple ds) ∧ SeqAt.shaped d = true ∧ SeqAt.shaped (.tuple ds) = true ∧ Q (.bl (neg ^^ (ds.any fun z => PyData.eqv z d))) H
theorem room_inT {A : Around} {d : PyData} {ds : List PyData} (h : SeqAt.shaped d = true) (hu : A.units + 65 < cLine) : A.units + 1 + min (PyData.depthAll ds) d.depth < cLine := by
  have h1 := SeqAt.depth_of_shaped h
  have h2 : min (PyData.depthAll ds) d.depth ≤ d.depth := Nat.min_le_right _ _
  omega
theorem op_inT {X : Cx} (hu : X.A.units + 65 < cLine) : OpR X (compareOp .In) (rInT X.K false) := by
  intro pins s σ H x y v u Q I rx ry ⟨d, ds, hd, he, sd, se, q⟩
  obtain ⟨as, r1⟩ := Dp.reads I d x v hd rx
  obtain ⟨bs, r2⟩ := Dp.reads I _ y u he ry
  rw [Bool.false_xor] at q
  exact SeqAt.in_tuple_reads r2 r1 (SeqAt.canLay_of_shaped se) (SeqAt.canLay_of_shaped sd) (room_inT sd hu) ⟨.bl _, H, I, rfl, q⟩
theorem op_notInT {X : Cx} (hu : X.A.units + 65 < cLine) : OpR X (compareOp .NotIn) (rInT X.K true) := by
  intro pins s σ H x y v u Q I rx ry ⟨d, ds, hd, he, sd, se, q⟩
  obtain ⟨as, r1⟩ := Dp.reads I d x v hd rx
  obtain ⟨bs, r2⟩ := Dp.reads I _ y u he ry
  rw [Bool.true_xor] at q
  exact SeqAt.notIn_tuple_reads r2 r1 (SeqAt.canLay_of_shaped se) (SeqAt.canLay_of_shaped sd) (room_inT sd hu) ⟨.bl _, H, I, rfl, q⟩
/-- one of the equal ones -/
def anyEq (d : PyData) (ds : List PyData) : Bool := ds.any fun z => PyData.eqv z d
def rInA (K : PySem.W.Frag) (neg : Bool) : R2 := fun x y H Q => rInT K neg x y H Q ∨ (∃ d ds, Dp K H x d ∧ Dp K H y (.list ds) ∧ SeqAt.shaped d = true ∧ SeqAt.shaped (.list ds) = true ∧ Q (.bl (neg ^^ anyEq d ds)) H) ∨
  ∃ i j, x = .str i ∧ y = .str j ∧ Q (.bl (neg ^^ !(Builtin.Str.occurrences j i 0 j.length 1).isEmpty)) H
theorem op_inA {X : Cx} (hu : X.A.units + 65 < cLine) : OpR X (compareOp .In) (rInA X.K false) := by
  refine .or (op_inT hu) (.or ?_ ?_)
  · intro pins s σ H x y v u Q I rx ry ⟨d, ds, h1, h2, h3, h4, q⟩
    rw [Bool.false_xor] at q
    exact op_inD hu pins s σ H x y v u Q I rx ry ⟨d, ds, h1, h2, h3, h4, q⟩
  · intro pins s σ H x y v u Q I rx ry ⟨i, j, h1, h2, q⟩
    rw [Bool.false_xor] at q
    exact op_in_str pins s σ H x y v u Q I rx ry ⟨i, j, h1, h2, q⟩
theorem op_notInA {X : Cx} (hu : X.A.units + 65 < cLine) : OpR X (compareOp .NotIn) (rInA X.K true) := by
  refine .or (op_notInT hu) (.or ?_ ?_)
  · intro pins s σ H x y v u Q I rx ry ⟨d, ds, h1, h2, h3, h4, q⟩
    rw [Bool.true_xor] at q
    exact op_notInD hu pins s σ H x y v u Q I rx ry ⟨d, ds, h1, h2, h3, h4, q⟩
  · intro pins s σ H x y v u Q I rx ry ⟨i, j, h1, h2, q⟩
    rw [Bool.true_xor] at q
    exact op_notin_str pins s σ H x y v u Q I rx ry ⟨i, j, h1, h2, q⟩
def pInB (x y : P) : Option Bool := match x, y with
  | x, .tup ys => (match x.py, (P.tup ys).py with
    | some d, some (.tuple ds) => if SeqAt.shaped d = true ∧ SeqAt.shaped (.tuple ds) = true then some (anyEq d ds) else none
    | _, _ => none)
  | x, .lst ys => (match x.py, (P.lst ys).py with
    | some d, some (.list ds) => if SeqAt.shaped d = true ∧ SeqAt.shaped (.list ds) = true then some (anyEq d ds) else none
    | _, _ => none)
  | .str i, .str j => some (!(Builtin.Str.occurrences j i 0 j.length 1).isEmpty)
  | _, _ => none
def pIn (neg : Bool) (x y : P) : Option P := (pInB x y).map fun b => .bl (neg ^^ b)
theorem prim_in (neg : Bool) : Prim2 K cl (rInA K neg) (pIn neg) := by
  intro ω H x y z vx vy Q dm hx hy e q
  obtain ⟨b, e1, rfl⟩ := Option.map_eq_some_iff.mp e
  cases y with
  | tup ys =>
    have e2 : (match x.py, (P.tup ys).py with
    | some d, some (.tuple ds) => if SeqAt.shaped d = true ∧ SeqAt.shaped (.tuple ds) = true then some (anyEq d ds) else none
    | _, _ => none) = some b := by rw [← e1]; cases x <;> rfl
    split at e2
    · rename_i d ds h1 h2
      split at e2
      · rename_i hc
        cases e2
        exact .inl ⟨d, ds, hx.dp h1, hy.dp h2, hc.1, hc.2, q H _ (.refl H) (.bl _)⟩
      · cases e2
    · cases e2
  | lst ys =>
    have e2 : (match x.py, (P.lst ys).py with
    | some d, some (.list ds) => if SeqAt.shaped d = true ∧ SeqAt.shaped (.list ds) = true then some (anyEq d ds) else none
    | _, _ => none) = some b := by rw [← e1]; cases x <;> rfl
    split at e2
    · rename_i d ds h1 h2
      split at e2
      · rename_i hc
        cases e2
        exact .inr (.inl ⟨d, ds, hx.dp h1, hy.dp h2, hc.1, hc.2, q H _ (.refl H) (.bl _)⟩)
      · cases e2
    · cases e2
  | str j =>
    cases x <;> cases e1
    obtain rfl := hx.str_inv
    obtain rfl := hy.str_inv
    exact .inr (.inr ⟨_, _, rfl, rfl, q H _ (.refl H) (.bl _)⟩)
  | _ => cases x <;> cases e1

/-! ### subscripts -/
def pIx : P → P → Option P
  | .tup xs, .int i => atI xs i
  | .lst xs, .int i => atI xs i
  | .str z, .int i => if z.length ≤ sizeLine then (atI z.cps.toList i).map fun c => .str ⟨#[c]⟩ else none
  | _, _ => none
theorem RPs.atI {H : Hp} {N : Addr → Prop} {xs : List P} {vs : List V} {i : Int} {x : P} (h : RPs K cl H N xs vs) (e : L2.atI xs i = some x) : ∃ v, L2.atI vs i = some v ∧ RP K cl H N x v := by
  unfold L2.atI at e ⊢
  obtain ⟨j, e1, e2⟩ := Option.bind_eq_some_iff.mp e
  obtain ⟨v, e3, r⟩ := h.get e2
  refine ⟨v, ?_, r⟩
  rw [← h.length, e1]
  exact e3
theorem prim_ix : Prim2 K cl (rIx K) pIx := by
  intro ω H x y z vx vy Q dm hx hy e q
  cases x <;> cases y <;> first | (cases e; done) | skip
  · obtain rfl := hx.str_inv
    obtain rfl := hy.int_inv
    dsimp only [pIx] at e
    split at e
    · rename_i hl
      obtain ⟨c, e1, rfl⟩ := Option.map_eq_some_iff.mp e
      exact .inr (.inr ⟨_, _, c, rfl, rfl, hl, e1, q H _ (.refl H) (.str _)⟩)
    · cases e
  · obtain rfl := hy.int_inv
    obtain ⟨a, vs, rfl, h1, h2⟩ := hx.tup_inv
    obtain ⟨v, e1, r⟩ := h2.atI e
    exact .inr (.inl ⟨a, vs, _, v, rfl, rfl, SqT.of h1, e1, q H _ (.refl H) r⟩)
  · obtain rfl := hy.int_inv
    obtain ⟨a, vs, rfl, h1, h2⟩ := hx.lst_inv
    obtain ⟨v, e1, r⟩ := h2.atI e
    exact .inl ⟨a, vs, _, v, rfl, rfl, SqL.of h1, e1, q H _ (.refl H) r⟩
end
end PV

set_option Elab.async false
set_option linter.all false
set_option maxRecDepth 100000
set_option maxHeartbeats 4000000
/-! PvG: dicts, slices, len, list, tuple, isinstance, all, any. -/
namespace PV
open PySem L2

/-! ### dicts as data -/
def lookP {κ : Type} [DecidableEq κ] (k : κ) : List κ → List P → Option P
  | k' :: ks, x :: xs => if k' = k then some x else lookP k ks xs
  | _, _ => none
def setP {κ : Type} [DecidableEq κ] (k : κ) (y : P) : List κ → List P → List P
  | k' :: ks, x :: xs => (if k' = k then y else x) :: setP k y ks xs
  | _, xs => xs
def putP {κ : Type} [DecidableEq κ] (k : κ) (y : P) (ks : List κ) (xs : List P) : List κ × List P :=
  if k ∈ ks then (ks, setP k y ks xs) else (ks ++ [k], xs ++ [y])
def keyOf : P → Option Key
  | .int i => some (.inl i)
  | .str s => some (.inr s)
  | _ => none
def keysOf : List P → Option (List Key)
  | [] => some []
  | x :: xs => (keyOf x).bind fun k => (keysOf xs).map fun ks => k :: ks
section
variable {K : PySem.W.Frag} {cl : String → Option Addr} {H : Hp} {N : Addr → Prop}
theorem lookP_val {κ : Type} [DecidableEq κ] {k : κ} : ∀ {kvs : List (κ × V)} {xs : List P}, RPs K cl H N xs (kvs.map (·.2)) → (∀ x, lookP k (kvs.map (·.1)) xs = some x → ∃ v, valV kvs k = some v ∧ RP K cl H N x v) ∧ (lookP k (kvs.map (·.1)) xs = none → valV kvs k = none)
  | [], xs, h => by
    cases h
    exact ⟨fun x e => (by cases e), fun _ => rfl⟩
  | (k', v) :: kvs, xs, h => by
    cases h with
    | cons h1 h2 =>
      have ih := lookP_val (k := k) h2
      by_cases e : k' = k
      · refine ⟨fun x q => ?_, fun q => ?_⟩
        · simp only [List.map_cons, lookP, if_pos e] at q
          cases q
          exact ⟨v, by rw [valV_pos e], h1⟩
        · simp only [List.map_cons, lookP, if_pos e] at q
          cases q
      · refine ⟨fun x q => ?_, fun q => ?_⟩
        · simp only [List.map_cons, lookP, if_neg e] at q
          obtain ⟨u, z1, z2⟩ := ih.1 x q
          exact ⟨u, by rw [valV_neg e]; exact z1, z2⟩
        · simp only [List.map_cons, lookP, if_neg e] at q
          rw [valV_neg e]
          exact ih.2 q
theorem keyOf_ok {x : P} {v : V} {k : Key} (h : RO K cl H N x v) (e : keyOf x = some k) : v = kV k := by
  cases x <;> cases e
  · obtain rfl := h.int_inv; rfl
  · obtain rfl := h.str_inv; rfl
theorem keysOf_ok : ∀ {xs : List P} {vs : List V} {ks : List Key}, RPs K cl H N xs vs → keysOf xs = some ks → vs = ks.map kV
  | [], _, _, h, e => by cases h; cases e; rfl
  | x :: xs, _, _, h, e => by
    cases h with
    | cons h1 h2 =>
      simp only [keysOf] at e
      obtain ⟨k, e1, e2⟩ := Option.bind_eq_some_iff.mp e
      obtain ⟨ks, e3, rfl⟩ := Option.map_eq_some_iff.mp e2
      rw [keyOf_ok (.p h1) e1, keysOf_ok h2 e3]
      rfl
/-- what stands under a key: none where it can't be asked -/
def pGet? : P → P → Option (Option P)
  | .dK ks xs, k => (keyOf k).map fun k => lookP k ks xs
  | .dT ks xs, .tup ys => (keysOf ys).map fun k => lookP k ks xs
  | _, _ => none
theorem pGet_ok {d k : P} {r : Option P} {vd vk : V} (hd : RO K cl H N d vd) (hk : RO K cl H N k vk) (e : pGet? d k = some r) : ∃ a o, vd = .ref a ∧ DGet H a vk o ∧ (∀ x, r = some x → ∃ v, o = some v ∧ RP K cl H N x v) ∧ (r = none → o = none) := by
  cases d with
  | dK ks xs =>
    have e' : (keyOf k).map (fun k => lookP k ks xs) = some r := by rw [← e]; cases k <;> rfl
    obtain ⟨kk, e1, rfl⟩ := Option.map_eq_some_iff.mp e'
    obtain ⟨a, kvs, rfl, h1, h2, h3⟩ := hd.dK_inv
    have z := lookP_val (k := kk) h3
    rw [h2] at z
    exact ⟨a, valV kvs kk, rfl, .inl ⟨kvs, kk, h1, keyOf_ok hk e1, rfl⟩, z.1, z.2⟩
  | dT ks xs =>
    cases k <;> first | (cases e; done) | skip
    obtain ⟨kk, e1, rfl⟩ := Option.map_eq_some_iff.mp e
    obtain ⟨a, kvs, rfl, h1, h2, h3⟩ := hd.dT_inv
    obtain ⟨b, vs, rfl, h4, h5⟩ := hk.tup_inv
    have z := lookP_val (k := kk) h3
    rw [h2] at z
    rw [keysOf_ok h5 e1] at h4
    exact ⟨a, valV kvs kk, rfl, .inr ⟨kvs, kk, b, h1, rfl, h4, rfl⟩, z.1, z.2⟩
  | _ => cases k <;> cases e
end
def rDGet : R2 := fun x y H Q => ∃ a v, x = .ref a ∧ DGet H a y (some v) ∧ Q v H
def pDGet (d k : P) : Option P := (pGet? d k).bind id
section
variable {K : PySem.W.Frag} {cl : String → Option Addr}
theorem prim_dget : Prim2 K cl rDGet pDGet := by
  intro ω H x y z vx vy Q dm hx hy e q
  obtain ⟨r, e1, e2⟩ := Option.bind_eq_some_iff.mp e
  obtain ⟨a, o, rfl, g, h1, h2⟩ := pGet_ok hx hy e1
  obtain ⟨v, rfl, rp⟩ := h1 z e2
  exact ⟨a, v, rfl, g, q H v (.refl H) rp⟩
/-- x[i] of a list, tuple, text, dict -/
def pSub (x y : P) : Option P := match x with
  | .dK _ _ => pDGet x y
  | .dT _ _ => pDGet x y
  | _ => pIx x y
theorem prim_sub : Prim2 K cl (fun x y H Q => rIx K x y H Q ∨ rDGet x y H Q) pSub := by
  intro ω H x y z vx vy Q dm hx hy e q
  cases x with
  | dK _ _ => exact .inr (prim_dget ω H _ y z vx vy Q dm hx hy e q)
  | dT _ _ => exact .inr (prim_dget ω H _ y z vx vy Q dm hx hy e q)
  | _ => exact .inl (prim_ix ω H _ y z vx vy Q dm hx hy e q)
end
theorem ix_dict {X : Cx} (hu : X.A.units + 1 < cLine) : IxR X rDGet := by
  intro value slice pins s σ H x y v u Q I rx ry ⟨a, w, e, g, q⟩ hs
  subst e
  cases rx
  exact PyProof.Rows.tail_any (dict_typeIs I g) PySem.F.slot_dict_getitem.lookup (d_getItem hu I g ry fun w' s' I' r' => ⟨w, H, I', r', q⟩) hs
theorem ix_sub {X : Cx} (hu : X.A.units + 1 < cLine) : IxR X (fun x y H Q => rIx X.K x y H Q ∨ rDGet x y H Q) := by
  intro value slice pins s σ H x y v u Q I rx ry h hs
  rcases h with h | h
  · exact ix_seq value slice pins s σ H x y v u Q I rx ry h hs
  · exact ix_dict hu value slice pins s σ H x y v u Q I rx ry h hs
theorem de_sub {X : Cx} {g : G} {a b : Expr} {ma mb : M} {pos : Pos} (hu : X.A.units + 1 < cLine) (ha : PE X a (tM g ma)) (hb : PE X b (tM g mb)) (hK : g.K = X.K := by rfl) (hs : PlainIx b := by exact fun _ _ => rfl) : PE X (.Subscript a b pos) (tM g (mOp2 pSub ma mb)) :=
  de_ix (ix_sub hu) (by rw [← hK]; exact prim_sub) ha hb hs
end PV

set_option Elab.async false
set_option linter.all false
set_option maxRecDepth 100000
set_option maxHeartbeats 4000000
/-! PvH: in over anything, slices, len, list, tuple, isinstance, all, any, int. -/
namespace PV
open PySem L2

/-! ### in -/
def rInD2 (neg : Bool) : R2 := fun y x H Q => ∃ a o, x = .ref a ∧ DGet H a y o ∧ Q (.bl (neg ^^ o.isSome)) H
theorem op_inDict {X : Cx} (hu : X.A.units + 1 < cLine) : OpR X (compareOp .In) (rInD2 false) := by
  intro pins s σ H y x u v Q I ry rx ⟨a, o, e, g, q⟩
  subst e
  cases rx
  rw [Bool.false_xor] at q
  exact d_in hu I g ry fun s' I' => ⟨.bl _, H, I', rfl, q⟩
theorem op_notInDict {X : Cx} (hu : X.A.units + 1 < cLine) : OpR X (compareOp .NotIn) (rInD2 true) := by
  intro pins s σ H y x u v Q I ry rx ⟨a, o, e, g, q⟩
  subst e
  cases rx
  rw [Bool.true_xor] at q
  exact d_notIn hu I g ry fun s' I' => ⟨.bl _, H, I', rfl, q⟩
def rInAll (K : PySem.W.Frag) (neg : Bool) : R2 := fun x y H Q => rInA K neg x y H Q ∨ rInD2 neg x y H Q
theorem op_inAll {X : Cx} (hu : X.A.units + 65 < cLine) : OpR X (compareOp .In) (rInAll X.K false) := .or (op_inA hu) (op_inDict (by omega))
theorem op_notInAll {X : Cx} (hu : X.A.units + 65 < cLine) : OpR X (compareOp .NotIn) (rInAll X.K true) := .or (op_notInA hu) (op_notInDict (by omega))
def pHas (x y : P) : Option Bool := match y with
  | .dK _ _ => (pGet? y x).map Option.isSome
  | .dT _ _ => (pGet? y x).map Option.isSome
  | _ => pInB x y
def pInAll (neg : Bool) (x y : P) : Option P := (pHas x y).map fun b => .bl (neg ^^ b)
section
variable {K : PySem.W.Frag} {cl : String → Option Addr}
theorem prim_inD (neg : Bool) : Prim2 K cl (rInD2 neg) (fun x y => ((pGet? y x).map Option.isSome).map fun b => .bl (neg ^^ b)) := by
  intro ω H x y z vx vy Q dm hx hy e q
  obtain ⟨b, e1, rfl⟩ := Option.map_eq_some_iff.mp e
  obtain ⟨r, e2, rfl⟩ := Option.map_eq_some_iff.mp e1
  obtain ⟨a, o, rfl, g, h1, h2⟩ := pGet_ok hy hx e2
  refine ⟨a, o, rfl, g, ?_⟩
  have : o.isSome = r.isSome := by
    cases r with
    | none => rw [h2 rfl]; rfl
    | some x => obtain ⟨v, rfl, _⟩ := h1 x rfl; rfl
  rw [this]
  exact q H _ (.refl H) (.bl _)
theorem prim_inAll (neg : Bool) : Prim2 K cl (rInAll K neg) (pInAll neg) := by
  intro ω H x y z vx vy Q dm hx hy e q
  cases y with
  | dK _ _ => exact .inr (prim_inD neg ω H x _ z vx vy Q dm hx hy e q)
  | dT _ _ => exact .inr (prim_inD neg ω H x _ z vx vy Q dm hx hy e q)
  | _ => exact .inl (prim_in neg ω H x _ z vx vy Q dm hx hy e q)

/-! ### slices -/
def partOf : Option P → Option (Option Int)
  | none => some none
  | some (.int i) => some (some i)
  | _ => none
def rSlAll (K : PySem.W.Frag) : V → Option Int → Option Int → Hp → VK → Prop := fun x lo hi H Q => rSlL K x lo hi H Q ∨ rSlA K x lo hi H Q ∨ rSlS x lo hi H Q
theorem sl_all {X : Cx} : SlR X (rSlAll X.K) := by
  intro pins s σ H x v vl vu lo hi sl Q I rx hs pl pu h
  rcases h with h | h | h
  · exact sl_list pins s σ H x v vl vu lo hi sl Q I rx hs pl pu h
  · exact sl_tupA pins s σ H x v vl vu lo hi sl Q I rx hs pl pu h
  · exact sl_str pins s σ H x v vl vu lo hi sl Q I rx hs pl pu h
def cutP (xs : List P) (lo hi : Option Int) : List P := (xs.drop (HT.sIx xs.length 0 lo)).take (HT.sIx xs.length xs.length hi - HT.sIx xs.length 0 lo)
def pSlice (x : P) (lo hi : Option Int) : Option P := match x with
  | .lst xs => some (.lst (cutP xs lo hi))
  | .tup xs => some (.tup (cutP xs lo hi))
  | .str z => if z.length ≤ sizeLine then some (.str (cutS z lo hi)) else none
  | _ => none
theorem RPs.cut {H : Hp} {N : Addr → Prop} {xs : List P} {vs : List V} (h : RPs K cl H N xs vs) (lo hi : Option Int) : RPs K cl H N (cutP xs lo hi) (cutV vs lo hi) := by
  unfold cutP cutV
  rw [h.length]
  exact (h.drop _).take _
theorem prim_slice {ω : Om} {H : Hp} {x z : P} {vx : V} {lo hi : Option Int} {Q : VK} (dm : Dom cl ω H) (hx : RO K cl H (Fr ω) x vx) (e : pSlice x lo hi = some z) (q : ∀ H' v, Same H H' → RP K cl H' (Fr ω) z v → Q v H') : rSlAll K vx lo hi H Q := by
  cases x <;> first | (cases e; done) | skip
  · obtain rfl := hx.str_inv
    dsimp only [pSlice] at e
    split at e
    · rename_i hl
      cases e
      exact .inr (.inr ⟨_, rfl, hl, q H _ (.refl H) (.str _)⟩)
    · cases e
  · obtain ⟨a, vs, rfl, h1, h2⟩ := hx.tup_inv
    cases e
    refine .inr (.inl ⟨a, vs, rfl, SqT.of h1, fun h => ?_, fun _ p hp => ?_⟩)
    · refine q H _ (.refl H) (.tup h1 ?_)
      have := h2.cut lo hi
      unfold cutV at this
      rw [h.1, h.2] at this
      simpa using this
    · exact q _ _ (Same.new hp) (.tup upd_same (RPs.keep (same_keeps (Same.new hp)) _ _ (h2.cut lo hi)))
  · obtain ⟨a, vs, rfl, h1, h2⟩ := hx.lst_inv
    cases e
    refine .inl ⟨a, vs, rfl, SqL.of h1, fun p hp => ?_⟩
    exact q _ _ (Same.new hp) (.lst upd_same (dm.fresh hp) (RPs.keep (same_keeps (Same.new hp)) _ _ (h2.cut lo hi)))
end
/-- an optional part of a slice -/
abbrev MO := Env → R (Option Int)
def tO (g : G) (m : MO) : TO := fun σ H Q => ∃ ω σD, Sta g ω H σD σ ∧ Post g ω H σ (m σD) fun i _ _ H' => Q i H'
def mNoP : MO := fun σ => .ok none σ
def mPart (m : M) : MO := fun σ => (m σ).bind fun o σ1 => match o.get σ1 with
  | some (.int i) => .ok (some i) σ1
  | _ => .stuck
theorem po_weak {X : Cx} {e : Option Expr} {t t' : TO} (h : PO X e t) (f : ∀ σ H Q, t' σ H Q → t σ H Q) : PO X e t' := ⟨fun pins s σ H Q I q => h.run pins s σ H Q I (f _ _ _ q)⟩
section
variable {X : Cx} {g : G}
theorem do_none : PO X none (tO g mNoP) := po_weak po_none fun σ H Q h => by
  obtain ⟨ω, σD, st, q⟩ := h
  exact Post.ok q st
theorem do_some {e : Expr} {m : M} (he : PE X e (tM g m)) : PO X (some e) (tO g (mPart m)) := po_weak (po_some he) fun σ H Q h => by
  obtain ⟨ω, σD, st, q⟩ := h
  refine ⟨ω, σD, st, q.bind.imp fun o σ1 ω1 H1 s1 st1 q1 v ov => ?_⟩
  cases e : o.get σ1 with
  | none => rw [e] at q1; exact q1.elim
  | some x =>
    rw [e] at q1
    cases x with
    | int i => exact ⟨i, (st1.get ov e).int_inv, Post.ok q1 st1⟩
    | _ => exact q1.elim
def mSlice (m : M) (lo hi : MO) : M := fun σ => (m σ).bind fun o σ1 => (lo σ1).bind fun l σ2 => (hi σ2).bind fun u σ3 => R.lift σ3 ((o.get σ3).bind fun x => pSlice x l u)
theorem de_slice {e : Expr} {lo hi : Option Expr} {m : M} {ml mh : MO} {p2 pos : Pos} (he : PE X e (tM g m)) (hl : PO X lo (tO g ml)) (hu : PO X hi (tO g mh)) (hK : g.K = X.K := by rfl) : PE X (.Subscript e (.Slice lo hi none p2) pos) (tM g (mSlice m ml mh)) :=
  pe_weak (pe_slice sl_all he hl hu) fun σ H Q h => by
    obtain ⟨ω, σD, st, q⟩ := h
    refine ⟨ω, σD, st, q.bind.imp fun o σ1 ω1 H1 s1 st1 q1 v ov => ⟨ω1, σ1, st1, q1.bind.imp fun l σ2 ω2 H2 s2 st2 q2 => ⟨ω2, σ2, st2, q2.bind.imp fun u σ3 ω3 H3 s3 st3 q3 => ?_⟩⟩⟩
    obtain ⟨z, e, q3⟩ := lift_post q3
    obtain ⟨x, e1, e2⟩ := Option.bind_eq_some_iff.mp e
    rw [← hK]
    refine prim_slice st3.dom (st3.get ((ov.step s2 st1.dom).step s3 st2.dom) e1) e2 fun H' w sm r => ?_
    exact q3 ω3 H' (.same sm) (st3.same sm) w (.v r)
end

/-! ### built-in functions -/
section
variable {K : PySem.W.Frag} {cl : String → Option Addr}
def pF1 (f : P → Option P) : List P → Option P
  | [x] => f x
  | _ => none
def pF2 (f : P → P → Option P) : List P → Option P
  | [x, y] => f x y
  | _ => none
theorem ROs.one {H : Hp} {N : Addr → Prop} {x : P} {vs : List V} (h : ROs K cl H N [x] vs) : ∃ v, vs = [v] ∧ RO K cl H N x v := by
  cases h with | cons h1 h2 => cases h2; exact ⟨_, rfl, h1⟩
theorem ROs.two {H : Hp} {N : Addr → Prop} {x y : P} {vs : List V} (h : ROs K cl H N [x, y] vs) : ∃ v w, vs = [v, w] ∧ RO K cl H N x v ∧ RO K cl H N y w := by
  cases h with | cons h1 h2 => cases h2 with | cons h3 h4 => cases h4; exact ⟨_, _, rfl, h1, h3⟩
theorem primN1 {r : List V → Hp → VK → Prop} {f : P → Option P} (h : ∀ (ω : Om) (H : Hp) (x z : P) (v : V) (Q : VK), Dom cl ω H → RO K cl H (Fr ω) x v → f x = some z → (∀ H' v, Same H H' → RP K cl H' (Fr ω) z v → Q v H') → r [v] H Q) : PrimN K cl r (pF1 f) := by
  intro ω H xs z vs Q dm hx e q
  match xs, e with
  | [x], e =>
    obtain ⟨v, rfl, hv⟩ := hx.one
    exact h ω H x z v Q dm hv e q
theorem primN2 {r : List V → Hp → VK → Prop} {f : P → P → Option P} (h : ∀ (ω : Om) (H : Hp) (x y z : P) (v w : V) (Q : VK), Dom cl ω H → RO K cl H (Fr ω) x v → RO K cl H (Fr ω) y w → f x y = some z → (∀ H' v, Same H H' → RP K cl H' (Fr ω) z v → Q v H') → r [v, w] H Q) : PrimN K cl r (pF2 f) := by
  intro ω H xs z vs Q dm hx e q
  match xs, e with
  | [x, y], e =>
    obtain ⟨v, w, rfl, hv, hw⟩ := hx.two
    exact h ω H x y z v w Q dm hv hw e q
theorem CallR.or {X : Cx} {f : Value} {r r' : List V → Hp → VK → Prop} (h : CallR X f r) (h' : CallR X f r') : CallR X f fun xs H Q => r xs H Q ∨ r' xs H Q := by
  intro pins s σ H xs us Q I rv hh
  rcases hh with hh | hh
  · exact h pins s σ H xs us Q I rv hh
  · exact h' pins s σ H xs us Q I rv hh
/-- len -/
def rLenD : List V → Hp → VK → Prop := fun xs H Q => (∃ (a : Addr) (kvs : List (Key × V)), xs = [V.ref a] ∧ Rd H a (.dK kvs) ∧ Q (V.int ↑kvs.length) H) ∨ (∃ (a : Addr) (kvs : List (List Key × V)), xs = [V.ref a] ∧ Rd H a (.dT kvs) ∧ Q (V.int ↑kvs.length) H)
theorem call_lenD2 {X : Cx} : CallR X (.builtin "len") rLenD := by
  intro pins s σ H xs us Q I r h
  rcases h with ⟨a, kvs, e, hd, q⟩ | ⟨a, kvs, e, hd, q⟩
  · subst e
    obtain ⟨u, rfl, rx⟩ := vals1 r
    cases rx
    exact d_len I hd fun t s' I' => ⟨.int _, H, I', ⟨_, rfl⟩, q⟩
  · subst e
    obtain ⟨u, rfl, rx⟩ := vals1 r
    cases rx
    obtain ⟨z, hd', ys, rel, dd⟩ := dt_rd I.hok hd
    have hl : kvs.length = ys.length := Paired.length rel
    have hz : (sizeLine : Int) < 2 ^ 63 := by decide
    refine call_len_dictH hd' dd (by omega) ?_
    rw [← hl]
    exact ⟨.int _, H, I.tok _, ⟨_, rfl⟩, q⟩
def rLen (K : PySem.W.Frag) : List V → Hp → VK → Prop := fun xs H Q => (∃ x n, xs = [x] ∧ LenV K x H n ∧ Q (V.int ↑n) H) ∨ rLenD xs H Q
theorem call_lenA {X : Cx} : CallR X (.builtin "len") (rLen X.K) := CallR.or call_len call_lenD2
def pLen : P → Option P
  | .str z => if z.length ≤ sizeLine then some (.int z.length) else none
  | .tup xs => some (.int xs.length)
  | .lst xs => some (.int xs.length)
  | .fz xs => some (.int xs.length)
  | .dK ks _ => some (.int ks.length)
  | .dT ks _ => some (.int ks.length)
  | _ => none
theorem prim_len : PrimN K cl (rLen K) (pF1 pLen) := primN1 fun ω H x z v Q dm hx e q => by
  cases x <;> first | (cases e; done) | skip
  · obtain rfl := hx.str_inv
    dsimp only [pLen] at e
    split at e
    · rename_i hl
      cases e
      exact .inl ⟨_, _, rfl, ⟨hl, rfl⟩, q H _ (.refl H) (.int _)⟩
    · cases e
  · obtain ⟨a, vs, rfl, h1, h2⟩ := hx.tup_inv
    cases e
    exact .inl ⟨_, _, rfl, .inr ⟨vs, SqT.of h1, rfl⟩, by rw [← h2.length]; exact q H _ (.refl H) (.int _)⟩
  · obtain ⟨a, vs, rfl, h1, h2⟩ := hx.lst_inv
    cases e
    exact .inl ⟨_, _, rfl, .inl ⟨vs, SqL.of h1, rfl⟩, by rw [← h2.length]; exact q H _ (.refl H) (.int _)⟩
  · obtain ⟨a, kvs, rfl, h1, h2, h3⟩ := hx.dK_inv
    cases e
    refine .inr (.inl ⟨a, kvs, rfl, h1, ?_⟩)
    rw [← h2, List.length_map] at q
    exact q H _ (.refl H) (.int _)
  · obtain ⟨a, kvs, rfl, h1, h2, h3⟩ := hx.dT_inv
    cases e
    refine .inr (.inr ⟨a, kvs, rfl, h1, ?_⟩)
    rw [← h2, List.length_map] at q
    exact q H _ (.refl H) (.int _)
  · obtain ⟨a, vs, rfl, h1, h2⟩ := hx.fz_inv
    cases e
    exact .inl ⟨_, _, rfl, .inl ⟨vs, h1, rfl⟩, by rw [← h2.length]; exact q H _ (.refl H) (.int _)⟩
/-- int(x) of a number, a truth -/
def pInt : P → Option P
  | .int i => some (.int i)
  | .bl k => some (.int (if k = true then 1 else 0))
  | _ => none
theorem prim_int : PrimN K cl (fun xs H Q => (∃ i, xs = [V.int i] ∧ Q (V.int i) H) ∨ ∃ k, xs = [V.bl k] ∧ Q (V.int (if k = true then 1 else 0)) H) (pF1 pInt) := primN1 fun ω H x z v Q dm hx e q => by
  cases x <;> cases e
  · obtain rfl := hx.bl_inv
    exact .inr ⟨_, rfl, q H _ (.refl H) (.int _)⟩
  · obtain rfl := hx.int_inv
    exact .inl ⟨_, rfl, q H _ (.refl H) (.int _)⟩
/-- tuple(x) -/
def pTuple : P → Option P
  | .tup xs => some (.tup xs)
  | .lst xs => some (.tup xs)
  | .fz xs => some (.tup xs)
  | _ => none
def rTupleOf (K : PySem.W.Frag) : List V → Hp → VK → Prop := fun xs H Q => ∃ p ys, xs = [V.ref p] ∧ ((SqL K H p ys ∧ ∀ (l : Addr), H l = none → Q (V.ref l) (upd H l (HO.tup ys))) ∨ SqT K H p ys ∧ Q (V.ref p) H)
theorem prim_tuple : PrimN K cl (rTupleOf K) (pF1 pTuple) := primN1 fun ω H x z v Q dm hx e q => by
  cases x <;> cases e
  · obtain ⟨a, vs, rfl, h1, h2⟩ := hx.tup_inv
    exact ⟨a, vs, rfl, .inr ⟨SqT.of h1, q H _ (.refl H) (.tup h1 h2)⟩⟩
  · obtain ⟨a, vs, rfl, h1, h2⟩ := hx.lst_inv
    exact ⟨a, vs, rfl, .inl ⟨SqL.of h1, fun p hp => q _ _ (Same.new hp) (.tup upd_same (RPs.keep (same_keeps (Same.new hp)) _ _ h2))⟩⟩
  · obtain ⟨a, vs, rfl, h1, h2⟩ := hx.fz_inv
    exact ⟨a, vs, rfl, .inl ⟨h1, fun p hp => q _ _ (Same.new hp) (.tup upd_same (RPs.keep (same_keeps (Same.new hp)) _ _ h2))⟩⟩
/-- all, any of a list of truths -/
def blsOf : List P → Option (List Bool)
  | [] => some []
  | .bl b :: xs => (blsOf xs).map fun bs => b :: bs
  | _ :: _ => none
theorem blsOf_ok {H : Hp} {N : Addr → Prop} : ∀ {xs : List P} {vs : List V} {bs : List Bool}, RPs K cl H N xs vs → blsOf xs = some bs → vs = bs.map V.bl
  | [], _, _, h, e => by cases h; cases e; rfl
  | x :: xs, _, _, h, e => by
    cases h with
    | cons h1 h2 =>
      cases x <;> first | (cases e; done) | skip
      simp only [blsOf] at e
      obtain ⟨bs, e3, rfl⟩ := Option.map_eq_some_iff.mp e
      cases h1
      rw [blsOf_ok h2 e3]
      rfl
def pAll : P → Option P
  | .lst xs => (blsOf xs).map fun bs => .bl (bs.all id)
  | _ => none
def pAny : P → Option P
  | .lst xs => (blsOf xs).map fun bs => .bl (bs.any id)
  | _ => none
theorem prim_all : PrimN K cl (rAll K) (pF1 pAll) := primN1 fun ω H x z v Q dm hx e q => by
  cases x <;> first | (cases e; done) | skip
  obtain ⟨bs, e1, rfl⟩ := Option.map_eq_some_iff.mp e
  obtain ⟨a, vs, rfl, h1, h2⟩ := hx.lst_inv
  obtain rfl := blsOf_ok h2 e1
  exact ⟨a, bs, rfl, SqL.of h1, q H _ (.refl H) (.bl _)⟩
theorem prim_any : PrimN K cl (rAny K) (pF1 pAny) := primN1 fun ω H x z v Q dm hx e q => by
  cases x <;> first | (cases e; done) | skip
  obtain ⟨bs, e1, rfl⟩ := Option.map_eq_some_iff.mp e
  obtain ⟨a, vs, rfl, h1, h2⟩ := hx.lst_inv
  obtain rfl := blsOf_ok h2 e1
  exact ⟨a, bs, rfl, SqL.of h1, q H _ (.refl H) (.bl _)⟩
/-- isinstance(x, T), T a built-in type -/
def P.tyName : P → Option String
  | .non => some "NoneType"
  | .bl _ => some "bool"
  | .int _ => some "int"
  | .str _ => some "str"
  | .tup _ => some "tuple"
  | .lst _ => some "list"
  | .fz _ => none
  | .dK _ _ => some "dict"
  | .dT _ _ => none
  | .ins _ _ _ => none
  | .exv _ _ _ => none
theorem RO.ty {H : Hp} {N : Addr → Prop} {x : P} {v : V} {t : String} (h : RO K cl H N x v) (e : x.tyName = some t) : TyX K H v (.type t) := by
  cases x <;> cases e
  · obtain rfl := h.non_inv; exact .base .non
  · obtain rfl := h.bl_inv; exact .base (.bl _)
  · obtain rfl := h.int_inv; exact .base (.int _)
  · obtain rfl := h.str_inv; exact .base (.str _)
  · obtain ⟨a, vs, rfl, h1, h2⟩ := h.tup_inv; exact .base (.tup h1)
  · obtain ⟨a, vs, rfl, h1, h2⟩ := h.lst_inv; exact .base (.lst h1)
  · obtain ⟨a, kvs, rfl, h1, h2, h3⟩ := h.dK_inv
    rcases h1 with h1 | ⟨o, h1⟩
    · exact .base (.dK h1)
    · exact .fDict h1
def isTyB (t T : String) : Bool := decide (t = T) || (decide (t = "bool") && decide (T = "int"))
abbrev tyAsked : List String := ["int", "bool", "str", "tuple", "list", "dict"]
theorem kit_tab : ∀ t ∈ ["NoneType", "bool", "int", "str", "tuple", "list", "dict"], ∀ T ∈ tyAsked, PySem.W.kitOne K (.type t) (.type T) = some (isTyB t T) := by
  intro t ht T hT
  refine kit_ty ?_
  revert t T
  decide +kernel
theorem P.tyName_mem {x : P} {t : String} (e : x.tyName = some t) : t ∈ ["NoneType", "bool", "int", "str", "tuple", "list", "dict"] := by
  cases x <;> cases e <;> decide
/-- a class that is asked for, and what is answered -/
def IsOk (K : PySem.W.Frag) (cl : String → Option Addr) (u : Value) (tab : P → Option Bool) : Prop := ∀ (H : Hp) (N : Addr → Prop) (x : P) (v : V) (b : Bool), RO K cl H N x v → tab x = some b → ∃ t, TyX K H v t ∧ PySem.W.kitOne K t u = some b
def isTy (T : String) (x : P) : Option Bool := x.tyName.map fun t => isTyB t T
theorem isTy_ok {T : String} (hT : T ∈ tyAsked) : IsOk K cl (.type T) (isTy T) := fun H N x v b h e => by
  obtain ⟨t, e1, rfl⟩ := Option.map_eq_some_iff.mp e
  exact ⟨_, h.ty e1, kit_tab t (P.tyName_mem e1) T hT⟩
end
def pIs (tab : P → Option Bool) (x : P) : Option P := (tab x).map P.bl
theorem de_isi {X : Cx} {g : G} {e : Expr} {m : M} {c : V} {u : Value} {tab : P → Option Bool} (hk : IsOk g.K g.cl u tab) (hc : ClsV c u) (he : PE X e (tCB (rIsi X.K) (tCons (tM g m) (tCons (tC c) tNil)))) (hK : g.K = X.K := by rfl) : PE X e (tM g (mOp1 (pIs tab) m)) :=
  pe_weak he fun σ H Q h => by
    obtain ⟨ω, σD, st, q⟩ := h
    refine ⟨ω, σD, st, q.bind.imp fun o σ1 ω1 H1 s1 st1 q1 v ov => ?_⟩
    obtain ⟨z, e, q1⟩ := lift_post q1
    obtain ⟨x, e1, e2⟩ := Option.bind_eq_some_iff.mp e
    obtain ⟨b, e3, rfl⟩ := Option.map_eq_some_iff.mp e2
    obtain ⟨t, h1, h2⟩ := hk H1 _ x v b (st1.get ov e1) e3
    rw [hK] at h1 h2
    exact ⟨v, c, t, u, b, rfl, hc, h1, h2, Post.ok q1 st1 _ (.v (.bl b))⟩
/-- isinstance(x, (T, U)) -/
def pIs2 (tab tab' : P → Option Bool) (x : P) : Option P := match tab x, tab' x with
  | some b, some c => some (.bl (b || c))
  | _, _ => none
theorem de_isi2 {X : Cx} {g : G} {e : Expr} {m : M} {T U : String} (hT : T ∈ tyAsked) (hU : U ∈ tyAsked) (he : PE X e (tCB (rIsiT X.K) (tCons (tM g m) (tCons (tTup (tCons (tC (.ty T)) (tCons (tC (.ty U)) tNil))) tNil)))) (hK : g.K = X.K := by rfl) : PE X e (tM g (mOp1 (pIs2 (isTy T) (isTy U)) m)) :=
  pe_weak he fun σ H Q h => by
    obtain ⟨ω, σD, st, q⟩ := h
    refine ⟨ω, σD, st, q.bind.imp fun o σ1 ω1 H1 s1 st1 q1 v ov => ⟨by show 2 ≤ sizeLine; decide, fun p hp => ?_⟩⟩
    obtain ⟨z, e, q1⟩ := lift_post q1
    obtain ⟨x, e1, e2⟩ := Option.bind_eq_some_iff.mp e
    unfold pIs2 isTy at e2
    cases e3 : x.tyName with
    | none => rw [e3] at e2; cases e2
    | some t =>
      rw [e3] at e2
      cases e2
      have sm : Same H1 (upd H1 p (.tup [.ty T, .ty U])) := Same.new hp
      have h1 := (RO.ty (st1.get ov e1) e3)
      have st2 := st1.same sm
      have h2 := RO.ty (st2.get (ov.step (.same sm) st1.dom) e1) e3
      rw [hK] at h2
      refine ⟨v, p, [.ty T, .ty U], _, [.type T, .type U], _, rfl, upd_same, .cons (.ty T) (.cons (.ty U) .nil), h2, ?_, q1 ω1 _ (.same sm) st2 _ (.v (.bl _))⟩
      refine kitAny_cons (kit_tab t (P.tyName_mem e3) T hT) (fun hb => kitAny_cons (kit_tab t (P.tyName_mem e3) U hU) (fun hc => ?_) fun hc => ?_) fun hb => ?_
      · show PySem.W.kitAny X.K _ [] = some (isTyB t T || isTyB t U)
        rw [hb, hc]; exact kitAny_nil
      · show (isTyB t T || isTyB t U) = true
        rw [hc, Bool.or_true]
      · show (isTyB t T || isTyB t U) = true
        rw [hb, Bool.true_or]
end PV

set_option Elab.async false
set_option linter.all false
set_option maxRecDepth 100000
set_option maxHeartbeats 4000000
/-! PvI: owned things made; items, entries, fields stored; instances made. -/
namespace PV
open PySem L2
section
variable {X : Cx} {g : G}
/-! ### new owned things -/
theorem Post.laid {ω : Om} {H : Hp} {σD : Env} {σ : L2.St} {p : Addr} {o : HO} {d : D} {Q : VK} (st : Sta g ω H σD σ) (hp : H p = none) (ht : isT o = false)
    (h : Post g ω H σ (.ok d σD) fun d _ ω' H' => ∀ v, RD g.K g.cl H' ω' .tmp d v → Q v H') (r : (∀ x v, RP g.K g.cl H (Fr ω) x v → RP g.K g.cl (upd H p o) (Fr (lay ω p)) x v) → RD g.K g.cl (upd H p o) (lay ω p) .tmp d (.ref p)) : Q (.ref p) (upd H p o) := by
  obtain ⟨s, st', k⟩ := lay_new st hp ht
  exact h _ _ s st' _ (r k)
theorem lay_at {ω : Om} {p : Addr} : lay ω p p = .tmp := by unfold lay; rw [if_pos rfl]
def mLstF (ms : List M) : MF := fun σ => (mAs ms σ).bind fun os σ1 => match pureAll os with
  | some xs => if xs.length ≤ sizeLine then .ok (.lst xs) σ1 else .stuck
  | none => .stuck
theorem df_lst {es : List Expr} {ms : List M} {pos : Pos} (ha : PA X es (tA g (mAs ms))) : PE X (.List es pos) (tF g (mLstF ms)) :=
  pe_weak (pe_lst ha) fun σ H Q h => by
    obtain ⟨ω, σD, st, q⟩ := h
    refine ⟨ω, σD, st, q.bind.imp fun os σ1 ω1 H1 s1 st1 q1 vs ov => ?_⟩
    cases e : pureAll os with
    | none => rw [e] at q1; exact q1.elim
    | some xs =>
      rw [e] at q1
      have rp := pureAll_ok ov e
      dsimp only at q1
      split at q1
      · rename_i hl
        exact ⟨by rw [← rp.length]; exact hl, fun p hp => Post.laid st1 hp rfl q1 fun k => .lst upd_same lay_at (RPs.imp k rp)⟩
      · exact q1.elim
def mDK : MF := fun σ => .ok (.dK [] []) σ
def mDT : MF := fun σ => .ok (.dT [] []) σ
theorem df_dK {pos : Pos} : PE X (.Dict [] [] pos) (tF g mDK) := pe_weak pe_dnewK fun σ H Q h => by
  obtain ⟨ω, σD, st, q⟩ := h
  exact fun p hp => Post.laid st hp rfl q fun k => .dK upd_same lay_at rfl .nil
theorem df_dT {pos : Pos} : PE X (.Dict [] [] pos) (tF g mDT) := pe_weak pe_dnewT fun σ H Q h => by
  obtain ⟨ω, σD, st, q⟩ := h
  exact fun p hp => Post.laid st hp rfl q fun k => .dT upd_same lay_at rfl .nil
/-- built-ins and operators that make a new list -/
def PrimL (K : PySem.W.Frag) (cl : String → Option Addr) (r : List V → Hp → VK → Prop) (f : List P → Option (List P)) : Prop :=
  ∀ (ω : Om) (H : Hp) (xs zs : List P) (vs : List V) (Q : VK), Dom cl ω H → ROs K cl H (Fr ω) xs vs → f xs = some zs → (∀ l us, H l = none → RPs K cl H (Fr ω) zs us → Q (.ref l) (upd H l (.lst us))) → r vs H Q
def mPrimF (f : List P → Option (List P)) (ms : List M) : MF := fun σ => (mAs ms σ).bind fun os σ1 => match (getAll σ1 os).bind f with
  | some zs => .ok (.lst zs) σ1
  | none => .stuck
theorem tF_primL {r : List V → Hp → VK → Prop} {f : List P → Option (List P)} {ms : List M} (hp : PrimL g.K g.cl r f) (σ : L2.St) (H : Hp) (Q : VK) (h : tF g (mPrimF f ms) σ H Q) : tA g (mAs ms) σ H fun vs H1 => r vs H1 Q := by
  obtain ⟨ω, σD, st, q⟩ := h
  refine ⟨ω, σD, st, q.bind.imp fun os σ1 ω1 H1 s1 st1 q1 vs ov => ?_⟩
  cases e : (getAll σ1 os).bind f with
  | none => rw [e] at q1; exact q1.elim
  | some zs =>
    rw [e] at q1
    obtain ⟨xs, e1, e2⟩ := Option.bind_eq_some_iff.mp e
    exact hp ω1 H1 xs zs vs Q st1.dom (st1.getAll ov e1) e2 fun l us hl r => Post.laid st1 hl rfl q1 fun k => .lst upd_same lay_at (RPs.imp k r)
theorem primL_N {K : PySem.W.Frag} {cl : String → Option Addr} {r : List V → Hp → VK → Prop} {f : List P → Option (List P)} (h : PrimL K cl r f) : PrimN K cl r (fun xs => (f xs).map P.lst) := by
  intro ω H xs z vs Q dm hx e q
  obtain ⟨zs, e1, rfl⟩ := Option.map_eq_some_iff.mp e
  exact h ω H xs zs vs Q dm hx e1 fun l us hl r => q _ _ (Same.new hl) (.lst upd_same (dm.fresh hl) (RPs.keep (same_keeps (Same.new hl)) _ _ r))
/-- list(x) of a list or tuple -/
def pItems : List P → Option (List P)
  | [.lst xs] => some xs
  | [.tup xs] => some xs
  | [.fz xs] => some xs
  | _ => none
def rListOf (K : PySem.W.Frag) : List V → Hp → VK → Prop := fun xs H Q => ∃ p ys, xs = [V.ref p] ∧ (SqL K H p ys ∨ SqT K H p ys) ∧ ∀ (l : Addr), H l = none → Q (V.ref l) (upd H l (HO.lst ys))
theorem primL_list {K : PySem.W.Frag} {cl : String → Option Addr} : PrimL K cl (rListOf K) pItems := by
  intro ω H xs zs vs Q dm hx e q
  match xs, e with
  | [.lst ys], e =>
    cases e
    obtain ⟨v, rfl, hv⟩ := hx.one
    obtain ⟨a, us, rfl, h1, h2⟩ := hv.lst_inv
    exact ⟨a, us, rfl, .inl (SqL.of h1), fun l hl => q l us hl h2⟩
  | [.tup ys], e =>
    cases e
    obtain ⟨v, rfl, hv⟩ := hx.one
    obtain ⟨a, us, rfl, h1, h2⟩ := hv.tup_inv
    exact ⟨a, us, rfl, .inr (SqT.of h1), fun l hl => q l us hl h2⟩
  | [.fz ys], e =>
    cases e
    obtain ⟨v, rfl, hv⟩ := hx.one
    obtain ⟨a, us, rfl, h1, h2⟩ := hv.fz_inv
    exact ⟨a, us, rfl, .inl h1, fun l hl => q l us hl h2⟩
theorem df_lift {e : Expr} {r : List V → Hp → VK → Prop} {f : List P → Option (List P)} {ms : List M} (hp : PrimL g.K g.cl r f) (he : PE X e (tCB r (tA g (mAs ms)))) : PE X e (tF g (mPrimF f ms)) := pe_weak he fun σ H Q h => tF_primL hp σ H Q h
theorem de_lift {e : Expr} {r : List V → Hp → VK → Prop} {f : List P → Option P} {ms : List M} (hp : PrimN g.K g.cl r f) (he : PE X e (tCB r (tA g (mAs ms)))) : PE X e (tM g (mPrim f ms)) := pe_weak he fun σ H Q h => tM_prim hp σ H Q h
/-- list(range(n)) -/
def mRangeL (f : Int → Int → Option (List P)) (a b : M) : MF := fun σ => (a σ).bind fun oa σ1 => (b σ1).bind fun ob σ2 => match oa.get σ2, ob.get σ2 with
  | some (.int i), some (.int j) => (match f i j with
    | some zs => .ok (.lst zs) σ2
    | none => .stuck)
  | _, _ => .stuck
/-- operators that make a new list: [x] * n -/
def mOpF (f : P → P → Option P) (a b : M) : MF := fun σ => (a σ).bind fun oa σ1 => (b σ1).bind fun ob σ2 => match (oa.get σ2).bind fun x => (ob.get σ2).bind fun y => f x y with
  | some (.lst zs) => .ok (.lst zs) σ2
  | _ => .stuck
theorem df_mul {a b : Expr} {ma mb : M} {pos : Pos} (ha : PE X a (tM g ma)) (hb : PE X b (tM g mb)) (hK : g.K = X.K := by rfl) : PE X (.BinOp a .Mult b pos) (tF g (mOpF pMul ma mb)) :=
  pe_weak (pe_op op_mulA ha hb) fun σ H Q h => by
    obtain ⟨ω, σD, st, q⟩ := h
    refine ⟨ω, σD, st, q.bind.imp fun oa σ1 ω1 H1 s1 st1 q1 va ova => ⟨ω1, σ1, st1, q1.bind.imp fun ob σ2 ω2 H2 s2 st2 q2 vb ovb => ?_⟩⟩
    split at q2
    · rename_i zs e
      obtain ⟨x, e1, e⟩ := Option.bind_eq_some_iff.mp e
      obtain ⟨y, e2, e⟩ := Option.bind_eq_some_iff.mp e
      have hx := st2.get (ova.step s2 st1.dom) e1
      have hy := st2.get ovb e2
      cases x <;> cases y <;> first | (cases e; done) | (dsimp only [pMul] at e; split at e <;> cases e; done) | skip
      obtain rfl := hy.int_inv
      obtain ⟨l, vs, rfl, h1, h2⟩ := hx.lst_inv
      dsimp only [pMul] at e
      split at e
      · rename_i hc
        cases e
        refine .inr (.inl ⟨l, _, vs, rfl, rfl, h1, hc.1, hc.2.1, by rw [← h2.length]; exact hc.2.2, fun p hp => ?_⟩)
        exact Post.laid st2 hp rfl q2 fun k => .lst upd_same lay_at (RPs.imp k (h2.flat _))
      · cases e
    · exact q2.elim

/-! ### x[k] = e -/
def mSetIx (i : Nat) (mk me : M) : MS := fun σ => (me σ).toS fun o σ1 => (frz o σ1).toS fun x σ2 => match σ2[i]? with
  | some (some (.lst _)) => (mk σ2).toS fun ok σ3 => (match ok.get σ3, σ3[i]? with
    | some (.int k), some (some (.lst xs)) => (match ixN xs.length k with
      | some j => .next (σ3.set i (some (.lst (xs.set j x))))
      | none => .stuck)
    | _, _ => .stuck)
  | _ => .stuck
theorem ds_setIx {i : Nat} {mk me : M} {st : Stmt} (hs : PS X st (tAsg (tM g me) (gSub (tVar i) (tM g mk) rSetL))) : PS X st (tS g (mSetIx i mk me)) := ps_weak hs fun D σ H h => by
  obtain ⟨ω, σD, st, q⟩ := h
  refine ⟨ω, σD, st, (PostS.of q).imp fun o σ1 ω1 H1 s1 st1 q1 v ov => ?_⟩
  obtain ⟨x, σ2, ω2, s2, st2, r, e2, q2⟩ := frz_ok st1 ov (PostS.of q1)
  split at q2
  · rename_i xs0 e0
    obtain ⟨a, vs0, ha, _, _, _⟩ := st2.tyList e0
    have q3 := PostS.of (σ := σ) q2
    refine ⟨_, ha, ω2, σ2, st2, q3.imp fun ok σ3 ω3 H3 s3 st3 q4 vk ovk => ?_⟩
    split at q4
    · rename_i k xs e3 e4
      split at q4
      · rename_i j e5
        obtain ⟨a', vs, h1, h2, h3, h4⟩ := st3.tyList e4
        rw [ha] at h1; cases h1
        obtain ⟨s5, st5⟩ := change (o := .lst (vs.set j v)) (d := .lst (xs.set j x)) st3 (get_lt e4) ha h3 rfl fun kk => .lst upd_same h3 (RPs.set _ (RPs.imp kk h4) (kk _ _ (s3.rp st2.dom r)))
        refine ⟨a, vs, k, j, rfl, (st3.get ovk e3).int_inv, h2, by rw [← h4.length]; exact e5, ?_⟩
        exact q4 ω3 _ _ s5 st5
      · exact q4.elim
    · exact q4.elim
  · exact q2.elim
/-! ### d[k] = e -/
theorem setP_ok {κ : Type} [DecidableEq κ] {K : PySem.W.Frag} {cl : String → Option Addr} {H : Hp} {N : Addr → Prop} {k : κ} {y : P} {u : V} (r : RP K cl H N y u) : ∀ {kvs : List (κ × V)} {xs : List P}, RPs K cl H N xs (kvs.map (·.2)) →
    RPs K cl H N (setP k y (kvs.map (·.1)) xs) ((kvs.map fun kv => if kv.1 = k then (kv.1, u) else kv).map (·.2)) ∧ (kvs.map fun kv => if kv.1 = k then (kv.1, u) else kv).map (·.1) = kvs.map (·.1)
  | [], xs, h => by cases h; exact ⟨.nil, rfl⟩
  | (k', v) :: kvs, xs, h => by
    cases h with
    | cons h1 h2 =>
      obtain ⟨z1, z2⟩ := setP_ok (k := k) r h2
      by_cases e : k' = k
      · refine ⟨?_, ?_⟩
        · simp only [List.map_cons, setP, if_pos e]
          exact .cons r z1
        · simp only [List.map_cons, if_pos e]
          rw [z2]
      · refine ⟨?_, ?_⟩
        · simp only [List.map_cons, setP, if_neg e]
          exact .cons h1 z1
        · simp only [List.map_cons, if_neg e]
          rw [z2]
theorem putP_ok {κ : Type} [DecidableEq κ] {K : PySem.W.Frag} {cl : String → Option Addr} {H : Hp} {N : Addr → Prop} {k : κ} {y : P} {u : V} {kvs : List (κ × V)} {xs : List P} (r : RP K cl H N y u) (h : RPs K cl H N xs (kvs.map (·.2))) :
    (putK kvs k u).map (·.1) = (putP k y (kvs.map (·.1)) xs).1 ∧ RPs K cl H N (putP k y (kvs.map (·.1)) xs).2 ((putK kvs k u).map (·.2)) := by
  unfold putK putP
  by_cases e : k ∈ kvs.map (·.1)
  · have ha : (kvs.any fun kv => decide (kv.1 = k)) = true := by
      rw [List.any_eq_true]
      obtain ⟨p, hp, rfl⟩ := List.mem_map.mp e
      exact ⟨p, hp, by simp⟩
    rw [if_pos ha, if_pos e]
    obtain ⟨z1, z2⟩ := setP_ok (k := k) r h
    exact ⟨z2, z1⟩
  · have ha : ¬ (kvs.any fun kv => decide (kv.1 = k)) = true := by
      rw [List.any_eq_true]
      rintro ⟨p, hp, q⟩
      exact e (List.mem_map.mpr ⟨p, hp, of_decide_eq_true q⟩)
    rw [if_neg ha, if_neg e, List.map_append, List.map_append]
    exact ⟨rfl, h.append (.cons r .nil)⟩
def dPut : D → P → P → Option D
  | .dK ks xs, k, y => (keyOf k).bind fun k => if ks.length < sizeLine then some (.dK (putP k y ks xs).1 (putP k y ks xs).2) else none
  | .dT ks xs, .tup ys, y => (keysOf ys).bind fun k => if ks.length < sizeLine then some (.dT (putP k y ks xs).1 (putP k y ks xs).2) else none
  | _, _, _ => none
def mDPut (i : Nat) (mk me : M) : MS := fun σ => (me σ).toS fun o σ1 => (frz o σ1).toS fun x σ2 => match σ2[i]? with
  | some (some _) => (mk σ2).toS fun ok σ3 => (match ok.get σ3, σ3[i]? with
    | some k, some (some d) => (match dPut d k x with
      | some d' => .next (σ3.set i (some d'))
      | none => .stuck)
    | _, _ => .stuck)
  | _ => .stuck
theorem ds_dput {i : Nat} {mk me : M} {st : Stmt} (hs : PS X st (sDPut (tVar i) (tM g mk) (tM g me))) : PS X st (tS g (mDPut i mk me)) := ps_weak hs fun D σ H h => by
  obtain ⟨ω, σD, st, q⟩ := h
  refine ⟨ω, σD, st, (PostS.of q).imp fun o σ1 ω1 H1 s1 st1 q1 v ov => ?_⟩
  obtain ⟨x, σ2, ω2, s2, st2, r, e2, q2⟩ := frz_ok st1 ov (PostS.of q1)
  split at q2
  · rename_i d0 e0
    obtain ⟨v0, ha, _⟩ := st2.rd i _ e0
    have q3 := PostS.of (σ := σ) q2
    refine ⟨_, ha, ω2, σ2, st2, q3.imp fun ok σ3 ω3 H3 s3 st3 q4 vk ovk => ?_⟩
    split at q4
    · rename_i k d e3 e4
      split at q4
      · rename_i d' e5
        have rk := st3.get ovk e3
        have rx := s3.rp st2.dom r
        obtain ⟨v1, h1, rd⟩ := st3.rd i _ e4
        rw [ha] at h1; cases h1
        cases d with
        | dK ks xs =>
          have e6 : ((keyOf k).bind fun k => if ks.length < sizeLine then some (PV.D.dK (putP k x ks xs).1 (putP k x ks xs).2) else none) = some d' := by rw [← e5]; cases k <;> rfl
          obtain ⟨kk, e7, e8⟩ := Option.bind_eq_some_iff.mp e6
          split at e8
          · rename_i hl
            cases e8
            cases rd with
            | @dK a kvs _ _ h2 h3 h4 h5 =>
              subst h4
              obtain ⟨z1, z2⟩ := putP_ok (k := kk) rx h5
              obtain ⟨s5, st5⟩ := change (o := .dK (putK kvs kk v)) (d := .dK (putP kk x (kvs.map (·.1)) xs).1 (putP kk x (kvs.map (·.1)) xs).2) st3 (get_lt e4) ha h3 rfl fun kk => .dK upd_same h3 z1 (RPs.imp kk z2)
              exact ⟨a, _, rfl, .inl ⟨kvs, kk, h2, keyOf_ok rk e7, by simpa using hl, rfl⟩, q4 ω3 _ _ s5 st5⟩
          · cases e8
        | dT ks xs =>
          cases k <;> first | (cases e5; done) | skip
          rename_i ys
          obtain ⟨kk, e7, e8⟩ := Option.bind_eq_some_iff.mp e5
          split at e8
          · rename_i hl
            cases e8
            cases rd with
            | @dT a kvs _ _ h2 h3 h4 h5 =>
              subst h4
              obtain ⟨z1, z2⟩ := putP_ok (k := kk) rx h5
              obtain ⟨s5, st5⟩ := change (o := .dT (putK kvs kk v)) (d := .dT (putP kk x (kvs.map (·.1)) xs).1 (putP kk x (kvs.map (·.1)) xs).2) st3 (get_lt e4) ha h3 rfl fun kk => .dT upd_same h3 z1 (RPs.imp kk z2)
              obtain ⟨b, us, rfl, h6, h7⟩ := rk.tup_inv
              rw [keysOf_ok h7 e7] at h6
              exact ⟨a, _, rfl, .inr ⟨kvs, kk, b, h2, rfl, h6, by simpa using hl, rfl⟩, q4 ω3 _ _ s5 st5⟩
          · cases e8
        | _ => cases k <;> cases e5
      · exact q4.elim
    · exact q4.elim
  · exact q2.elim
/-! ### self.f = e -/
theorem putFP_ok {K : PySem.W.Frag} {cl : String → Option Addr} {H : Hp} {N : Addr → Prop} {f : String} {y : P} {u : V} (r : RP K cl H N y u) : ∀ {fs : List (Str × V)} {ns : List String} {xs : List P}, fs.map (·.1) = ns.map ofS → RPs K cl H N xs (fs.map (·.2)) →
    (putF (ofS f) u fs).map (·.1) = (putFP f y ns xs).1.map ofS ∧ RPs K cl H N (putFP f y ns xs).2 ((putF (ofS f) u fs).map (·.2))
  | [], ns, xs, e, h => by
    cases h
    cases ns with
    | nil => exact ⟨rfl, .cons r .nil⟩
    | cons n ns => cases e
  | (m, v) :: fs, ns, xs, e, h => by
    cases h with
    | @cons x _ xs _ h1 h2 =>
      cases ns with
      | nil => cases e
      | cons n ns =>
        have e1 : m = ofS n := (List.cons.inj e).1
        have e2 : fs.map (·.1) = ns.map ofS := (List.cons.inj e).2
        by_cases q : n = f
        · subst q
          have : putF (ofS n) u ((m, v) :: fs) = (m, u) :: fs := by
            show (if m = ofS n then (m, u) :: fs else _) = _
            rw [if_pos e1]
          rw [this]
          simp only [putFP, if_true]
          exact ⟨e, .cons r h2⟩
        · have : putF (ofS f) u ((m, v) :: fs) = (m, v) :: putF (ofS f) u fs := by
            show (if m = ofS f then _ else (m, v) :: putF (ofS f) u fs) = _
            rw [if_neg (by rw [e1]; exact fun z => q (ofS_inj z))]
          rw [this]
          simp only [putFP, if_neg q]
          obtain ⟨z1, z2⟩ := putFP_ok r e2 h2
          refine ⟨?_, .cons h1 z2⟩
          rw [List.map_cons, List.map_cons, e1]
          exact congrArg _ z1
def mFld (i : Nat) (cs : List String) (f : String) (me : M) : MS := fun σ => (me σ).toS fun o σ1 => (frz o σ1).toS fun x σ2 => match σ2[i]? with
  | some (some (.ins c ns xs)) => if c ∈ cs ∧ ns.length < 1000 then .next (σ2.set i (some (.ins c (putFP f x ns xs).1 (putFP f x ns xs).2))) else .stuck
  | _ => .stuck
theorem ds_fld {i : Nat} {cs : List String} {f : String} {me : M} {st : Stmt} (hc : ∀ c ∈ cs, FldOk g.K g.cl c f) (hs : PS X st (sFld X.K (tVar i) (tM g me) (ofS f))) (hK : g.K = X.K := by rfl) : PS X st (tS g (mFld i cs f me)) := ps_weak hs fun D σ H h => by
  obtain ⟨ω, σD, st, q⟩ := h
  refine ⟨ω, σD, st, (PostS.of q).imp fun o σ1 ω1 H1 s1 st1 q1 v ov => ?_⟩
  obtain ⟨x, σ2, ω2, s2, st2, r, e2, q2⟩ := frz_ok st1 ov (PostS.of q1)
  split at q2
  · rename_i c ns xs e0
    split at q2
    · rename_i hc2
      obtain ⟨v0, ha, rd⟩ := st2.rd i _ e0
      cases rd with
      | @ins a C dx fs _ _ _ h2 h3 h4 h5 h6 =>
        obtain ⟨C', h7, h8, h9⟩ := (hc c hc2.1).ex
        rw [h4] at h7; cases h7
        rw [hK] at h8 h9
        obtain ⟨z1, z2⟩ := putFP_ok (f := f) r h5 h6
        obtain ⟨s5, st5⟩ := change (o := .ins C dx (putF (ofS f) v fs)) (d := .ins c (putFP f x ns xs).1 (putFP f x ns xs).2) st2 (get_lt e0) ha h3 rfl fun kk => .ins upd_same h3 h4 z1 (RPs.imp kk z2)
        have hl : fs.length = ns.length := by
          have := congrArg List.length h5
          simpa using this
        exact ⟨_, ha, a, C, dx, fs, rfl, h2, h8, h9, by rw [hl]; exact hc2.2, q2 ω2 _ _ s5 st5⟩
    · exact q2.elim
  · exact q2.elim
end
end PV

set_option Elab.async false
set_option linter.all false
set_option maxRecDepth 100000
set_option maxHeartbeats 4000000
/-! PvJ: instances made by a class; targets; for; while. -/
namespace PV
open PySem L2
section
variable {X : Cx} {g : G}
/-! ### C(..) -/
theorem run_makeS {CX : CXT} {k : Nat} {C f : Addr} {fd : FuncData} {ps : List Str} {sp : Sp} {E : XK} {pins : List (Addr × Obj)} {σ : L2.St} {H : Hp} {s : Shared} {Q : VK} {us : List Value} {vs : List V} (M : Mk X.K C f) (F : FnOk X.prog X.w X.K X.mg X.base CX k f fd ps sp) (hr : Room (k + 1) X.A) (hb : Binds X.K fd ps [])
    (hx : PassesAt CX X σ E) (I : Inv X pins σ H s) (r : Vals vs us)
    (h : ∀ x dx, H x = none → H dx = none → dx ≠ x → sp (.ref x :: vs) (upd (upd H dx (.own x)) x (.ins C dx [])) (fun v H2 => v = .non ∧ Q (.ref x) H2) E) :
    wpAny (model X.prog X.w) X.A (call (.ref C) us) (EP X pins σ Q) X.xe s := by
  let n := s.heap.objs.size
  have fr : ∀ m, n ≤ m → H m = none := fun m hm => I.hok.fresh hm
  have hq := h (n + 1) n (fr _ (Nat.le_succ _)) (fr _ (Nat.le_refl _)) (Nat.ne_of_lt (Nat.lt_succ_self _))
  have J := Inv.made (C := C) I
  have rr : Vals (V.ref (n + 1) :: vs) (Value.ref (n + 1) :: us) := .cons rfl r
  have hl : (Value.ref (n + 1) :: us).length = ps.length := by
    rw [← rr.length]; exact F.len _ _ _ _ hq
  have bb := hb _ (Value.ref (n + 1) :: us) J.kIn (by rw [List.append_nil]; exact hl)
  rw [List.append_nil] at bb
  refine wpAny_call (make_map (f := f) I.kIn M.makes M.init (beq_iff_eq.mp M.fn) (codeAny_mono (F.run _ X.stack _ _ ⟨Value.ref (n + 1) :: us, []⟩ _ _ _ E (hr.make C us []) (J.env0.make C us []) bb rr hq) fun r s' z => ?_))
  cases r with
  | error e => exact hx pins _ _ e s' J z
  | ok fl =>
    cases fl with
    | ret u =>
      obtain ⟨v, H', K3, rv, ev, q3⟩ := J.after z
      subst ev
      exact ⟨rv, V.ref (n + 1), H', K3, rfl, q3⟩
    | next => exact False.elim z
    | brk => exact False.elim z
    | cont => exact False.elim z
def tMakeS (C : Addr) (sp : Sp) (E : L2.St → XK) (t : TA) : TE := fun σ H Q => t σ H fun vs H1 => ∀ x dx, H1 x = none → H1 dx = none → dx ≠ x →
  sp (.ref x :: vs) (upd (upd H1 dx (.own x)) x (.ins C dx [])) (fun v H2 => v = .non ∧ Q (.ref x) H2) (E σ)
theorem pe_makeS {CX : CXT} {k : Nat} {C f : Addr} {fd : FuncData} {ps : List Str} {sp : Sp} {E : L2.St → XK} {x : Str} {e : Expr} {es : List Expr} {t : TA} {p pos : Pos} (M : Mk X.K C f) (F : FnOk X.prog X.w X.K X.mg X.base CX k f fd ps sp) (hr : Room (k + 1) X.A) (hg : Gl X x) (hm : X.mg x = some (.ref C)) (hb : Binds X.K fd ps []) (hx : ∀ σ, PassesAt CX X σ (E σ))
    (ha : PA X (e :: es) t) (hdb : (x == ("__debug__" : Str)) = false := by decide) (he : starEach (e :: es) X.env = (false, eval e X.env) :: starEach es X.env := by rfl) (hpl : (backTo pos (starEach es X.env)).any (·.1) = false := by rfl) :
    PE X (.Call (.Name x p) (e :: es) [] pos) (tMakeS C sp E t) := ⟨fun pins s σ H Q I h =>
  wpAny_Call_Name_kw (ld_glob I hg hm (PySem.W.callWith_K (h₀ := X.base) I.ok.mod.kin M.kp (thn (ha.run pos pins s σ H _ I h) fun us s1 ⟨vs, H1, I1, r, q⟩ => ⟨I1.kIn, run_makeS M F hr hb (hx σ) I1 r q⟩) he hpl) hdb)⟩
/-- a new instance, made: what its __init__ leaves -/
def makeEnd (c : String) (f : FS) (σ1 : Env) (os : List O) : R D := match callEnd (σ1 ++ [some (.ins c [] [])]) (.at σ1.length :: os) f with
  | .ok (.p .non) σ2 => (match σ2[σ1.length]? with
    | some (some d) => .ok d (σ2.take σ1.length)
    | _ => .stuck)
  | .ok _ _ => .stuck
  | .exc c ns vs σ2 => .exc c ns vs (σ2.take σ1.length)
  | .stuck => .stuck
def mMakeF (c : String) (f : FS) (ms : List M) : MF := fun σ => (mAs ms σ).bind fun os σ1 => makeEnd c f σ1 os
def mMake (c : String) (f : FS) (ms : List M) : M := fun σ => (mMakeF c f ms σ).bind fun d σ2 => .ok (.v d.view) σ2
theorem Sta.more {ω : Om} {H : Hp} {σD : Env} {σ : L2.St} (st : Sta g ω H σD σ) (hio : ∀ i ∈ g.io, i < σD.length) {d : D} {v : V} (r : RD g.K g.cl H ω (.at σD.length) d v) {Ω : WX} : Sta { g with Ω := Ω } ω H (σD ++ [some d]) (σ ++ [some v]) where
  len := by simp [st.len]
  rd := fun i d' e => by
    by_cases hi : i < σD.length
    · rw [List.getElem?_append_left hi] at e
      obtain ⟨w, e1, r'⟩ := st.rd i d' e
      exact ⟨w, by rw [List.getElem?_append_left (by rw [← st.len]; exact hi)]; exact e1, r'⟩
    · have hi2 : i = σD.length := by
        have := get_lt e
        simp at this
        omega
      subst hi2
      rw [List.getElem?_append_right (Nat.le_refl _)] at e
      simp at e
      subst e
      exact ⟨v, by rw [List.getElem?_append_right (by rw [st.len]; exact Nat.le_refl _)]; simp [st.len], r⟩
  par := fun i w hi hw => by
    rw [List.getElem?_append_left (by rw [← st.len]; exact hio i hi)]
    exact st.par i w hi hw
  dom := st.dom
theorem Sta.less {ω : Om} {H : Hp} {σD : Env} {σ : L2.St} {v : V} {n : Nat} {Ω : WX} (hn : n = σ.length) (hl : σD.length = n + 1) (hio : ∀ i ∈ g.io, i < n) (st : Sta { g with Ω := Ω } ω H σD (σ ++ [some v])) : Sta g ω H (σD.take n) σ where
  len := by simp [hl]; omega
  rd := fun i d' e => by
    have hi : i < n := by
      have := get_lt e
      simp at this
      omega
    rw [List.getElem?_take_of_lt hi] at e
    obtain ⟨w, e1, r⟩ := st.rd i d' e
    rw [List.getElem?_append_left (by omega)] at e1
    exact ⟨w, e1, r⟩
  par := fun i w hi hw => by
    have e1 := st.par i w hi hw
    rw [List.getElem?_append_left (by have := hio i hi; omega)] at e1
    exact e1
  dom := st.dom
theorem callEnd_len {σ : Env} {os : List O} {f : FS} {d : D} {σ' : Env} (h : callEnd σ os f = .ok d σ') : σ'.length = σ.length := by
  unfold callEnd at h
  split at h
  · split at h
    · split at h
      · cases h; exact giveBack_len _ _
      · cases h
      · cases h
    · cases h
  · cases h
theorem callEnd_len' {σ : Env} {os : List O} {f : FS} {c ns vs} {σ' : Env} (h : callEnd σ os f = .exc c ns vs σ') : σ'.length = σ.length := by
  unfold callEnd at h
  split at h
  · split at h
    · split at h
      · cases h
      · cases h; exact giveBack_len _ _
      · cases h
    · cases h
  · cases h
theorem OVs.more {ω : Om} {H : Hp} {σ : L2.St} {os : List O} {vs : List V} {o : Option V} {Ω : WX} (h : OVs g ω H σ os vs) : OVs { g with Ω := Ω } ω H (σ ++ [o]) os vs := by
  induction h with
  | nil => exact .nil
  | cons h1 _ ih =>
    refine .cons ?_ ih
    cases h1 with
    | v r => exact .v r
    | «at» e => exact .at (by rw [List.getElem?_append_left (get_lt e)]; exact e)
theorem df_make {x : Str} {c : String} {k np : Nat} {f : FS} {e : Expr} {es : List Expr} {ms : List M} {p pos : Pos} (F : Maker X.prog X.w X.K X.mg X.base g.cl x c k np f) (hio : ∀ i ∈ g.io, i < X.N.length) (hr : Room (k + 1) X.A) (tk : Takes X g.Ω) (hg : Gl X x) (ha : PA X (e :: es) (tA g (mAs ms))) (hK : g.K = X.K := by rfl) (hn : ms.length = np := by rfl)
    (hN : ∀ (pins : List (Addr × Obj)) (σ : L2.St) (H : Hp) (s : Shared), Inv X pins σ H s → σ.length = X.N.length := by exact fun _ _ _ _ I => I.len)
    (hdb : (x == ("__debug__" : Str)) = false := by decide) (he : starEach (e :: es) X.env = (false, eval e X.env) :: starEach es X.env := by rfl) (hpl : (backTo pos (starEach es X.env)).any (·.1) = false := by rfl) : PE X (.Call (.Name x p) (e :: es) [] pos) (tF g (mMakeF c f ms)) := by
  obtain ⟨⟨C, a, fd, ps, M, F1, h1, hcl, h3⟩, hf, hf'⟩ := F
  have base : PE X (.Call (.Name x p) (e :: es) [] pos) (tMakeS C (spOf X.K g.cl (np + 1) f) (WE g.Ω) (tA g (mAs ms))) := pe_makeS M F1 hr hg h1 h3 (passAt tk) ha hdb he hpl
  refine ⟨fun pins s σ H Q I h => base.run pins s σ H Q I ?_⟩
  have hlen := hN pins σ H s I
  obtain ⟨ω, σD, st, q⟩ := h
  refine ⟨ω, σD, st, q.bind.withEq.imp fun os σ1 ω1 H1 s1 st1 q1 vs ov x dx hx hdx hne => ?_⟩
  obtain ⟨hos, q1⟩ := q1
  have n1 : σ1.length = σ.length := st1.len
  -- the new instance under its own place
  let n := σ1.length
  let H2 := upd (upd H1 dx (.own x)) x (.ins C dx [])
  let ω2 : Om := fun b => if b = x then .at n else if b = dx then .free else ω1 b
  have hx2 : H1 x = none := hx
  have sm : Same H1 H2 := fun b u e1 => by
    show upd (upd H1 dx (.own x)) x (.ins C dx []) b = some u
    rw [upd_ne (ne_of_none e1 hx), upd_ne (ne_of_none e1 hdx)]
    exact e1
  have hω : ∀ b, H1 b ≠ none → ω2 b = ω1 b := fun b hb => by
    show (if b = x then Own.at n else if b = dx then .free else ω1 b) = ω1 b
    rw [if_neg (by rintro rfl; exact hb hx), if_neg (by rintro rfl; exact hb hdx)]
  have nn : ∀ b, ω1 b ≠ .free → H1 b ≠ none := fun b hb => by
    obtain ⟨u, e1, _⟩ := st1.dom.dom b hb
    rw [e1]; intro z; cases z
  have s2 : Step ω1 H1 ω2 H2 := ⟨fun b u e1 _ => .inl (sm b u e1), fun b u e1 _ _ => sm b u e1, fun b e1 => by rw [hω b (nn b (by rw [e1]; intro z; cases z))]; exact e1, fun b e1 t => by rw [hω b t]; exact e1, fun b t => by
    cases e1 : H1 b with
    | none => exact absurd e1 t
    | some u => (rw [sm b u e1]; intro z; cases z), fun b q e1 => by rw [hω b (nn b (by rw [e1]; intro z; cases z))]; exact e1⟩
  have dm2 : Dom g.cl ω2 H2 := ⟨fun b hb => by
    by_cases e1 : b = x
    · subst e1
      exact ⟨_, upd_same, rfl⟩
    · by_cases e2 : b = dx
      · exact absurd (show ω2 b = .free by show (if b = x then _ else if b = dx then Own.free else _) = _; rw [if_neg e1, if_pos e2]) hb
      · have : ω2 b = ω1 b := by show (if b = x then _ else if b = dx then Own.free else ω1 b) = _; rw [if_neg e1, if_neg e2]
        obtain ⟨u, e3, t⟩ := st1.dom.dom b (by rw [← this]; exact hb)
        exact ⟨u, sm b u e3, t⟩, fun b q hb => by
    have e0 : ω1 b = .tab q := by
      change (if b = x then Own.at n else if b = dx then .free else ω1 b) = _ at hb
      split at hb
      · cases hb
      · split at hb
        · cases hb
        · exact hb
    exact (st1.dom.tab b q e0).keep s2.fr s2.fz (fun u e => sm b u e), fun m b e => s2.tb b _ (st1.dom.tbs m b e)⟩
  have st2 : Sta g ω2 H2 σ1 σ := ⟨st1.len, fun j d' e1 => by
    obtain ⟨v, e2, r⟩ := st1.rd j d' e1
    exact ⟨v, e2, r.keep2 (s2.keeps st1.dom) (fun b u e3 _ _ => sm b u e3) fun b t w => by rw [hω b t]; exact w⟩, st1.par, dm2⟩
  have hxn : ω2 x = .at n := by show (if x = x then _ else _) = _; rw [if_pos rfl]
  have hio1 : ∀ i ∈ g.io, i < σ1.length := fun i hi => by rw [n1, hlen]; exact hio i hi
  have st3 : Sta { g with Ω := fun C d _ H => g.Ω C d σ H } ω2 H2 (σ1 ++ [some (.ins c [] [])]) (σ ++ [some (.ref x)]) := st2.more hio1 (.ins upd_same hxn hcl rfl .nil)
  have ov3 : OVs { g with Ω := fun C d _ H => g.Ω C d σ H } ω2 H2 (σ ++ [some (.ref x)]) (.at σ1.length :: os) (.ref x :: vs) := .cons (.at (by rw [List.getElem?_append_right (by rw [n1]; exact Nat.le_refl _)]; simp [n1])) ((ov.step s2 st1.dom).more)
  have fin := call_run (np := np + 1) (Q := fun v H3 => v = .non ∧ Q (.ref x) H3) hf hf' (by simp [mAs_len hos, hn]) st3 ov3 (by
    have q2 : Post g ω2 H2 σ (makeEnd c f σ1 os) fun d _ ω' H' => ∀ v, RD g.K g.cl H' ω' .tmp d v → Q v H' := q1.shift s2
    unfold makeEnd at q2
    cases ec : callEnd (σ1 ++ [some (.ins c [] [])]) (.at σ1.length :: os) f with
    | stuck => rw [ec] at q2; exact q2.elim
    | exc c' ns' vs' σ4 =>
      rw [ec] at q2
      intro ω4 H4 C4 d4 s4 st4 x4
      have hl4 := callEnd_len' ec
      exact q2 ω4 H4 C4 d4 s4 (Sta.less n1 (by simpa using hl4) hio1 st4) x4
    | ok d0 σ4 =>
      rw [ec] at q2
      have hl4 := callEnd_len ec
      intro ω4 H4 s4 st4 v0 r0
      cases d0 with
      | p y =>
        cases y with
        | non =>
          have hv0 : v0 = .non := by cases r0 with | p r => cases r; rfl
          refine ⟨hv0, ?_⟩
          dsimp only at q2
          cases e5 : σ4[σ1.length]? with
          | none => rw [e5] at q2; exact q2.elim
          | some o =>
            cases o with
            | none => rw [e5] at q2; exact q2.elim
            | some d =>
              rw [e5] at q2
              obtain ⟨w, e6, r6⟩ := st4.rd _ _ e5
              have ew : w = .ref x := by
                rw [List.getElem?_append_right (by rw [n1]; exact Nat.le_refl _)] at e6
                simp [n1] at e6
                exact e6.symm
              subst ew
              have st5 := Sta.less (g := g) n1 (by simpa using hl4) hio1 st4
              refine q2 (ren ω4 (.at σ1.length) .tmp) H4 (s4.trans (.ren (by intro z; cases z) (by intro z; cases z))) ⟨st5.len, fun j d' e7 => ?_, st5.par, st5.dom.ren (by intro z; cases z)⟩ _ (r6.own (fun b hb => ren_free (by intro z; cases z) hb) fun b hb => ren_at hb)
              obtain ⟨v', e8, r8⟩ := st5.rd j d' e7
              have hj : j < σ1.length := by
                have := get_lt e7
                simp at this
                omega
              exact ⟨v', e8, r8.own (fun b hb => ren_free (by intro z; cases z) hb) fun b hb => ren_ne hb (by intro z; cases z; omega)⟩
        | _ => exact q2.elim
      | _ => exact q2.elim)
  rw [← hK]
  exact fin
end
end PV

set_option Elab.async false
set_option linter.all false
set_option maxRecDepth 100000
set_option maxHeartbeats 4000000
/-! PvK: instances as data; targets; what is walked; for, while. -/
namespace PV
open PySem L2
section
variable {X : Cx} {g : G}
theorem de_frz {e : Expr} {m : MF} (he : PE X e (tF g m)) : PE X e (tM g fun σ => (m σ).bind fun d σ2 => .ok (.v d.view) σ2) := pe_weak he fun σ H Q h => by
  obtain ⟨ω, σD, st, q⟩ := h
  refine ⟨ω, σD, st, q.bind.imp fun d σ1 ω1 H1 s1 st1 q1 v r => ?_⟩
  have st2 : Sta g (ren ω1 .tmp .free) H1 σ1 σ := ⟨st1.len, fun j d' e => by
    obtain ⟨v', e4, r'⟩ := st1.rd j d' e
    exact ⟨v', e4, r'.own (fun a h => ren_free (by intro z; cases z) h) fun a h => ren_ne h (by intro z; cases z)⟩, st1.par, st1.dom.ren (by intro z; cases z)⟩
  exact q1 _ H1 (.ren (by intro z; cases z) (by intro z; cases z)) st2 v (.v (r.frz (fun a h => ren_free (by intro z; cases z) h) fun a h => ren_at h))
theorem de_make {e : Expr} {c : String} {f : FS} {ms : List M} (he : PE X e (tF g (mMakeF c f ms))) : PE X e (tM g (mMake c f ms)) := de_frz he

/-! ### targets -/
abbrev MG := P → Env → Option Env
def PostN (g : G) (ω : Om) (H : Hp) (S : List Nat) (σ : L2.St) (r : Option Env) (Q : L2.St → Hp → Prop) : Prop := match r with
  | some σD' => ∀ ω' H' σ', Step ω H ω' H' → Sta g ω' H' σD' σ' → σ'.length = σ.length → (∀ j, j ∉ S → σ'[j]? = σ[j]?) → Q σ' H'
  | none => False
/-- a target that stores into the slots S alone -/
def tG (g : G) (S : List Nat) (m : MG) : TG := fun v σ H Q => ∃ ω σD p, Sta g ω H σD σ ∧ RP g.K g.cl H (Fr ω) p v ∧ PostN g ω H S σ (m p σD) Q
theorem pg_weak {e : Expr} {t t' : TG} (h : PG X e t) (f : ∀ v σ H Q, t' v σ H Q → t v σ H Q) : PG X e t' := ⟨fun pins s σ H v u Q I r q => h.run pins s σ H v u Q I r (f _ _ _ _ q)⟩
def mgN (i : Nat) : MG := fun x σ => some (σ.set i (some (.p x)))
theorem dg_name {i : Nat} {x : Str} {pos : Pos} (hN : X.N.Nodup) (hi : X.N[i]? = some x) (hx : Loc X.env.scope x) (hio : i ∉ g.io) (hf : X.fn x = true ∨ X.env.scope.names.lookup x = some .local := by first | exact .inl rfl | exact .inr rfl | assumption) : PG X (.Name x pos) (tG g [i] (mgN i)) :=
  pg_weak (pg_name hN hi hx hf) fun v σ H Q h => by
    obtain ⟨ω, σD, p, st, r, q⟩ := h
    exact q ω H _ .refl (st.setP hio r) (by simp) fun j hj => by rw [List.getElem?_set_ne (by rintro rfl; simp at hj)]
/-- several targets of one tuple -/
def mgAll : List MG → List P → Env → Option Env
  | [], [], σ => some σ
  | m :: ms, x :: xs, σ => (m x σ).bind fun σ1 => mgAll ms xs σ1
  | _, _, _ => none
def tGs (g : G) (S : List Nat) (ms : List MG) : TGs := fun vs σ H Q => ∃ ω σD ps, Sta g ω H σD σ ∧ RPs g.K g.cl H (Fr ω) ps vs ∧ PostN g ω H S σ (mgAll ms ps σD) Q
theorem pgs_weak {e : List Expr} {t t' : TGs} (h : PGs X e t) (f : ∀ v σ H Q, t' v σ H Q → t v σ H Q) : PGs X e t' := ⟨fun pins s σ H v u Q I r q => h.run pins s σ H v u Q I r (f _ _ _ _ q)⟩
theorem dgs_nil : PGs X [] (tGs g [] []) := pgs_weak pgs_nil fun vs σ H Q h => by
  obtain ⟨ω, σD, ps, st, r, q⟩ := h
  cases r with
  | nil => exact ⟨rfl, q ω H σ .refl st rfl fun _ _ => rfl⟩
  | cons _ _ => exact q.elim
theorem PostN.shift {ω ω' : Om} {H H' : Hp} {S : List Nat} {σ : L2.St} {r : Option Env} {Q : L2.St → Hp → Prop} (s : Step ω H ω' H') (h : PostN g ω H S σ r Q) : PostN g ω' H' S σ r Q := by
  cases r with
  | some σD' => exact fun ω2 H2 σ2 s2 st => h ω2 H2 σ2 (s.trans s2) st
  | none => exact h
theorem dgs_cons {e : Expr} {es : List Expr} {m : MG} {ms : List MG} {S S' : List Nat} (h1 : PG X e (tG g S m)) (h2 : PGs X es (tGs g S' ms)) (hs : (assignEach (e :: es) X.env).map (·.2) = assign e X.env :: (assignEach es X.env).map (·.2) := by rfl) : PGs X (e :: es) (tGs g (S ++ S') (m :: ms)) :=
  pgs_weak (pgs_cons h1 h2 hs) fun vs σ H Q h => by
    obtain ⟨ω, σD, ps, st, r, q⟩ := h
    cases r with
    | nil => exact q.elim
    | @cons x v xs vs r1 r2 =>
      refine ⟨v, vs, rfl, ω, σD, x, st, r1, ?_⟩
      unfold mgAll at q
      cases e1 : m x σD with
      | none => rw [e1] at q; exact q.elim
      | some σ1 =>
        rw [e1, Option.bind_some] at q
        intro ω1 H1 σ' s1 st1 hl hj
        refine ⟨ω1, σ1, xs, st1, s1.rps st.dom r2, ?_⟩
        have q2 := q.shift s1
        cases e2 : mgAll ms xs σ1 with
        | none => rw [e2] at q2; exact q2.elim
        | some σ2 =>
          rw [e2] at q2
          intro ω2 H2 σ'' s2 st2 hl2 hj2
          refine q2 ω2 H2 σ'' s2 st2 (hl2.trans hl) fun j hjn => ?_
          rw [List.mem_append, not_or] at hjn
          rw [hj2 j hjn.2, hj j hjn.1]
def mgTup (ms : List MG) : MG := fun x σ => match x with
  | .tup xs => if xs.length = ms.length then mgAll ms xs σ else none
  | _ => none
theorem dg_tup {es : List Expr} {k : Nat} {pos : Pos} {ms : List MG} {S : List Nat} (hc : X.calm = true) (h : PGs X es (tGs g S ms)) (hn : (assignEach es X.env).length = ms.length := by rfl) (hst : (assignEach es X.env).findIdx? (·.1) = none := by rfl) : PG X (.Tuple es k pos) (tG g S (mgTup ms)) :=
  pg_weak (pg_tup hc h hn hst) fun v σ H Q h => by
    obtain ⟨ω, σD, p, st, r, q⟩ := h
    unfold mgTup at q
    cases p with
    | tup xs =>
      dsimp only at q
      split at q
      · rename_i hl
        cases r with
        | tup h1 h2 => exact ⟨_, _, rfl, SqT.of h1, by rw [← h2.length]; exact hl, ω, σD, xs, st, h2, q⟩
      · exact q.elim
    | _ => exact q.elim
/-- x[k] as a target -/
def mgIx (i : Nat) (mk : M) : MG := fun x σ => match σ[i]? with
  | some (some (.lst _)) => (match mk σ with
    | .ok ok σ3 => (match ok.get σ3, σ3[i]? with
      | some (.int k), some (some (.lst xs)) => (match ixN xs.length k with
        | some j => some (σ3.set i (some (.lst (xs.set j x))))
        | none => none)
      | _, _ => none)
    | _ => none)
  | _ => none
theorem dg_ix {i : Nat} {mk : M} {e : Expr} (he : PG X e (gSub (tVar i) (tM g mk) rSetL)) : PG X e (tG g [] (mgIx i mk)) := pg_weak he fun v σ H Q h => by
  obtain ⟨ω, σ2, p, st2, r, q2⟩ := h
  unfold mgIx at q2
  split at q2
  · rename_i xs0 e0
    obtain ⟨a, vs0, ha, _, _, _⟩ := st2.tyList e0
    refine ⟨_, ha, ω, σ2, st2, ?_⟩
    cases em : mk σ2 with
    | stuck => rw [em] at q2; exact q2.elim
    | exc _ _ _ _ => rw [em] at q2; exact q2.elim
    | ok ok σ3 =>
      rw [em] at q2
      intro ω3 H3 s3 st3 vk ovk
      dsimp only at q2
      split at q2
      · rename_i k xs e3 e4
        split at q2
        · rename_i j e5
          obtain ⟨a', vs, h1, h2, h3, h4⟩ := st3.tyList e4
          rw [ha] at h1; cases h1
          obtain ⟨s5, st5⟩ := change (o := .lst (vs.set j v)) (d := .lst (xs.set j p)) st3 (get_lt e4) ha h3 rfl fun kk => .lst upd_same h3 (RPs.set _ (RPs.imp kk h4) (kk _ _ (s3.rp st2.dom r)))
          refine ⟨a, vs, k, j, rfl, (st3.get ovk e3).int_inv, h2, by rw [← h4.length]; exact e5, ?_⟩
          exact q2 ω3 _ σ (s3.trans s5) st5 rfl fun _ _ => rfl
        · exact q2.elim
      · exact q2.elim
  · exact q2.elim
def toN (r : Option Env) (k : Env → RS) : RS := match r with
  | some σ => k σ
  | none => .stuck
@[simp] theorem toN_some (σ : Env) (k : Env → RS) : toN (some σ) k = k σ := rfl
@[simp] theorem toN_none (k : Env → RS) : toN none k = .stuck := rfl
theorem PostN.of {ω : Om} {H : Hp} {S : List Nat} {σ : L2.St} {r : Option Env} {k : Env → RS} {D : Ends} (h : PostS g ω H (toN r k) D) : PostN g ω H S σ r fun σ' H' => ∃ ω' σD', Step ω H ω' H' ∧ Sta g ω' H' σD' σ' ∧ r = some σD' ∧ PostS g ω' H' (k σD') D := by
  cases r with
  | none => exact h
  | some σD' => exact fun ω' H' σ' s st _ _ => ⟨ω', σD', s, st, rfl, PostS.shift s h⟩
/-- target = e -/
def mAsg (mg : MG) (me : M) : MS := fun σ => (me σ).toS fun o σ1 => (frz o σ1).toS fun x σ2 => toN (mg x σ2) .next
theorem ds_asg {tg e : Expr} {S : List Nat} {mg : MG} {me : M} {pos : Pos} (he : PE X e (tM g me)) (hg : PG X tg (tG g S mg)) (hs : swapsWithSole [tg] e pos.line X.env = pure false := by rfl) (hw : swappedStores [tg] e X.env = pure none := by rfl)
    (h1 : (assignEach [tg] X.env).map (·.2) = [assign tg X.env] := by rfl) : PS X (.Assign [tg] e pos) (tS g (mAsg mg me)) := ps_weak (ps_asg he hg hs hw h1) fun D σ H h => by
  obtain ⟨ω, σD, st, q⟩ := h
  refine ⟨ω, σD, st, (PostS.of q).imp fun o σ1 ω1 H1 s1 st1 q1 v ov => ?_⟩
  obtain ⟨x, σ2, ω2, s2, st2, r, e2, q2⟩ := frz_ok st1 ov (PostS.of q1)
  refine ⟨ω2, σ2, x, st2, r, ?_⟩
  cases em : mg x σ2 with
  | none => rw [em] at q2; exact q2.elim
  | some σ3 =>
    rw [em] at q2
    exact fun ω3 H3 σ' s3 st3 _ _ => q2 ω3 H3 σ' s3 st3

/-! ### what is walked -/
/-- at every later state the walk yields the items, one after the other, then it stops -/
def Yld (K : PySem.W.Frag) (cl : String → Option Addr) (ω : Om) (H : Hp) (J : It) (items : List P) : Prop := ∀ ω' H', Wk ω H ω' H' → Dom cl ω' H' →
  (∀ i, i < items.length → J.go i H' ∧ ∀ x H3, J.yld i H' x H3 → Same H' H3 ∧ ∃ p, items[i]? = some p ∧ RP K cl H3 (Fr ω') p x) ∧ J.stop items.length H'
abbrev MI := Env → R (List P)
def tI (g : G) (m : MI) : TI := fun σ H R => ∃ ω σD, Sta g ω H σD σ ∧ Post g ω H σ (m σD) fun items σ1 ω1 H1 => ∀ J ω2 H2, Step ω1 H1 ω2 H2 → Sta g ω2 H2 σ1 σ → Yld g.K g.cl ω2 H2 J items → R J H2
theorem pi_weak {tg e : Expr} {t t' : TI} (h : PI X tg e t) (f : ∀ σ H R, t' σ H R → t σ H R) : PI X tg e t' := ⟨fun pins s σ H R I q => h.run pins s σ H R I (f _ _ _ q)⟩
theorem pi_or {tg e : Expr} {t t' : TI} (h : PI X tg e t) (h' : PI X tg e t') : PI X tg e fun σ H R => t σ H R ∨ t' σ H R := ⟨fun pins s σ H R I q => q.elim (h.run pins s σ H R I) (h'.run pins s σ H R I)⟩
theorem yld_list {K : PySem.W.Frag} {cl : String → Option Addr} {ω : Om} {H : Hp} {a : Addr} {vs : List V} {xs : List P} {u : HO} (hu : H a = some u) (hd : isD u = false) (hl : ∀ H' : Hp, H' a = some u → SqL K H' a vs) (ha : ω a = .free) (dm : Dom cl ω H) (r : RPs K cl H (Fr ω) xs vs) : Yld K cl ω H (Itl K a) xs := fun ω' H' s dm' => by
  have h1 := (s.fr a u hu ha).of hd
  have r' := s.rps dm r
  refine ⟨fun i hi => ⟨⟨vs, vs[i]'(by rw [← r.length]; exact hi), hl H' h1, by simp [← r.length, hi]⟩, fun x H3 y => ?_⟩, ⟨vs, hl H' h1, by rw [r.length]; exact Nat.le_refl _⟩⟩
  obtain ⟨rfl, y⟩ := y
  obtain ⟨p, e1, r1⟩ := r'.get' (y vs (hl _ h1))
  exact ⟨.refl _, p, e1, r1⟩
theorem SqZ.later {K : PySem.W.Frag} {ω ω' : Om} {H H' : Hp} {a : Addr} {vs : List V} (h : SqZ K H (Fr ω) a vs) (s : Wk ω H ω' H') : SqL K H' a vs := by
  rcases h with ⟨o, h, n⟩ | h
  · exact .inl (.inr ⟨o, (s.fr a _ h n).of rfl⟩)
  · exact .inr h
theorem yld_fz {K : PySem.W.Frag} {cl : String → Option Addr} {ω : Om} {H : Hp} {a : Addr} {vs : List V} {xs : List P} (h : SqZ K H (Fr ω) a vs) (dm : Dom cl ω H) (r : RPs K cl H (Fr ω) xs vs) : Yld K cl ω H (Itl K a) xs := fun ω' H' s dm' => by
  have h1 := h.later s
  have r' := s.rps dm r
  refine ⟨fun i hi => ⟨⟨vs, vs[i]'(by rw [← r.length]; exact hi), h1, by simp [← r.length, hi]⟩, fun x H3 y => ?_⟩, ⟨vs, h1, by rw [r.length]; exact Nat.le_refl _⟩⟩
  obtain ⟨rfl, y⟩ := y
  obtain ⟨p, e1, r1⟩ := r'.get' (y vs h1)
  exact ⟨.refl _, p, e1, r1⟩
theorem yld_tup {K : PySem.W.Frag} {cl : String → Option Addr} {ω : Om} {H : Hp} {a : Addr} {vs : List V} {xs : List P} (hu : H a = some (.tup vs)) (dm : Dom cl ω H) (r : RPs K cl H (Fr ω) xs vs) : Yld K cl ω H (Itt K a) xs := fun ω' H' s dm' => by
  have h1 := (s.fr a _ hu (dm.tup hu rfl)).of rfl
  have r' := s.rps dm r
  refine ⟨fun i hi => ⟨⟨vs, vs[i]'(by rw [← r.length]; exact hi), SqT.of h1, by simp [← r.length, hi]⟩, fun x H3 y => ?_⟩, ⟨vs, SqT.of h1, by rw [r.length]; exact Nat.le_refl _⟩⟩
  obtain ⟨rfl, y⟩ := y
  obtain ⟨p, e1, r1⟩ := r'.get' (y vs (SqT.of h1))
  exact ⟨.refl _, p, e1, r1⟩
end
end PV

set_option Elab.async false
set_option linter.all false
set_option maxRecDepth 100000
set_option maxHeartbeats 4000000
/-! PvL: for, while; lists, tuples, ranges walked. -/
namespace PV
open PySem L2
section
variable {X : Cx} {g : G}
/-! ### for -/
def loop (mg : MG) (mb : MS) : List P → Env → RS
  | [], σ => .next σ
  | x :: xs, σ => toN (mg x σ) fun σ1 => match mb σ1 with
    | .next σ2 => loop mg mb xs σ2
    | .cont σ2 => loop mg mb xs σ2
    | .brk σ2 => .next σ2
    | r => r
def mFor (mi : MI) (mg : MG) (mb : MS) : MS := fun σ => (mi σ).toS fun xs σ1 => loop mg mb xs σ1
theorem ds_for {iter tg : Expr} {body : List Stmt} {S : List Nat} {mi : MI} {mg : MG} {mb : MS} {pos : Pos} (hp : PassesOwn (model X.prog X.w) X.A X.env X.xe) (hc : X.calm = true) (hi : PI X tg iter (tI g mi)) (hg : PG X tg (tG g S mg)) (hb : PSs X body (tS g mb))
    (hs : ∀ x, foldedSetIterable iter X.env x = pure x := by intro _; rfl) : PS X (.For tg iter body [] pos) (tS g (mFor mi mg mb)) := ps_weak (ps_for hp hc hi hg hb hs) fun D σ H h => by
  obtain ⟨ω, σD, st, q⟩ := h
  refine ⟨ω, σD, st, (PostS.of q).imp fun xs σ1 ω1 H1 s1 st1 q1 J ω2 H2 s2 st2 yl => ?_⟩
  refine ⟨fun i m σ' H' => m = xs.length - i ∧ i ≤ xs.length ∧ ∃ ω' σD', Step ω2 H2 ω' H' ∧ Sta g ω' H' σD' σ' ∧ PostS g ω' H' (loop mg mb (xs.drop i) σD') D, ⟨_, rfl, Nat.zero_le _, ω2, σ1, .refl, st2, by rw [List.drop_zero]; exact q1.shift s2⟩, ?_⟩
  rintro i m σ' H' ⟨rfl, hi, ω', σD', s, st', q'⟩
  obtain ⟨y1, y2⟩ := yl ω' H' s.wk st'.dom
  by_cases hlt : i < xs.length
  · refine .inr ⟨(y1 i hlt).1, fun σ'' H'' => i + 1 ≤ xs.length ∧ ∃ ω' σD', Step ω2 H2 ω' H'' ∧ Sta g ω' H'' σD' σ'' ∧ PostS g ω' H'' (loop mg mb (xs.drop (i + 1)) σD') D, fun σ'' H'' ⟨h1, h2⟩ => ⟨_, by omega, rfl, h1, h2⟩, fun x H3 hy => ?_⟩
    obtain ⟨sm, p, e1, rp⟩ := (y1 i hlt).2 x H3 hy
    have ed : xs.drop i = p :: xs.drop (i + 1) := by
      rw [List.drop_eq_getElem_cons hlt]
      congr 1
      exact (List.getElem?_eq_some_iff.mp e1).2
    rw [ed] at q'
    unfold loop at q'
    have sm' : Step ω' H' ω' H3 := .same sm
    have q2 := PostN.of (S := S) (σ := σ') (q'.shift sm')
    refine ⟨ω', σD', p, st'.same sm, rp, ?_⟩
    cases em : mg p σD' with
    | none => rw [em] at q2; exact q2.elim
    | some σ4 =>
      rw [em] at q2
      intro ω5 H5 σ5 s5 st5 hl5 hj5
      obtain ⟨ω6, σ6, s6, st6, e6, q6⟩ := q2 ω5 H5 σ5 s5 st5 hl5 hj5
      cases e6
      refine ⟨ω6, σ4, st6, ?_⟩
      have hn : ∀ σ7, (∀ r, mb σ4 = r → (r = .next σ7 ∨ r = .cont σ7) → ∀ ω8 H8 σ8, Step ω6 H5 ω8 H8 → Sta g ω8 H8 σ7 σ8 → i + 1 ≤ xs.length ∧ ∃ ω' σD', Step ω2 H2 ω' H8 ∧ Sta g ω' H8 σD' σ8 ∧ PostS g ω' H8 (loop mg mb (xs.drop (i + 1)) σD') D) := fun σ7 r er hr ω8 H8 σ8 s8 st8 => by
        refine ⟨hlt, ω8, σ7, ((s.trans sm').trans s6).trans s8, st8, ?_⟩
        have q7 := q6.shift s8
        rw [er] at q7
        rcases hr with rfl | rfl <;> exact q7
      cases er : mb σ4 with
      | next σ7 => exact hn σ7 _ er (.inl rfl)
      | cont σ7 => exact hn σ7 _ er (.inr rfl)
      | brk σ7 => rw [er] at q6; exact q6
      | ret d σ7 => rw [er] at q6; exact q6
      | exc c ns vs σ7 => rw [er] at q6; exact q6
      | stuck => rw [er] at q6; exact q6
  · have e : i = xs.length := by omega
    subst e
    rw [List.drop_length] at q'
    exact .inl ⟨y2, q' ω' H' σ' .refl st'⟩
/-- a list or tuple, walked -/
def mSeqI (m : M) : MI := fun σ => (m σ).bind fun o σ1 => (frz o σ1).bind fun x σ2 => match x with
  | .lst xs => .ok xs σ2
  | .tup xs => .ok xs σ2
  | .fz xs => .ok xs σ2
  | _ => .stuck
def iSeq (K : PySem.W.Frag) (tl : TE) : TI := fun σ H R => tl σ H fun x H1 => (∃ a xs, x = .ref a ∧ SqL K H1 a xs ∧ R (Itl K a) H1) ∨ (∃ a xs, x = .ref a ∧ SqT K H1 a xs ∧ R (Itt K a) H1)
theorem pi_seq {tg l : Expr} {tl : TE} (hl : PE X l tl) : PI X tg l (iSeq X.K tl) := ⟨fun pins s σ H R I h => thn (hl.run pins s σ H _ I h) fun v s1 ⟨x, H1, I1, r1, q1⟩ => by
  have fp : ∀ (h' : Heap), (∀ b ∈ [s1.heap.objs.size], FpOk X pins H1 b) := fun _ b hb => by
    obtain rfl : b = s1.heap.objs.size := by simpa using hb
    exact I1.fpOk (Nat.le_refl _) (I1.hok.fresh (Nat.le_refl _))
  rcases q1 with ⟨a, xs, e, hq, q⟩ | ⟨a, xs, e, hq, q⟩
  · subst e
    cases r1
    obtain ⟨its, rv, p, hz⟩ := I1.list hq
    exact wpAny_pyIter_list p.isList ⟨s1.heap.objs.size, [s1.heap.objs.size], _, _, H1, rfl, I1.kept (t' := s1.toks) fun b o e => Heap.get?_push_of_some _ e, turn_list a _, ⟨_, Heap.get?_push_size _ rfl, rfl, rfl⟩, fp s1.heap, q⟩
  · subst e
    cases r1
    obtain ⟨its, rv, p, hz⟩ := I1.tuple hq
    exact wpAny_pyIter_tuple (show s1.heap.IsTuple a its.toArray from p) ⟨s1.heap.objs.size, [s1.heap.objs.size], _, _, H1, rfl, I1.kept (t' := s1.toks) fun b o e => Heap.get?_push_of_some _ e, turn_tuple a _, ⟨_, Heap.get?_push_size _ rfl, rfl, rfl⟩, fp s1.heap, q⟩⟩
theorem di_seq {tg l : Expr} {m : M} (hl : PE X l (tM g m)) (hK : g.K = X.K := by rfl) : PI X tg l (tI g (mSeqI m)) := pi_weak (pi_seq hl) fun σ H R h => by
  obtain ⟨ω, σD, st, q⟩ := h
  refine ⟨ω, σD, st, q.bind.imp fun o σ1 ω1 H1 s1 st1 q1 v ov => ?_⟩
  obtain ⟨x, σ2, ω2, s2, st2, r, e2, q2⟩ := frz_ok st1 ov q1.bind
  rw [← hK]
  cases x with
  | lst xs =>
    cases r with
    | lst h1 h2 h3 => exact .inl ⟨_, _, rfl, SqL.of h1, (Post.ok q2 st2) _ ω2 H1 .refl st2 (yld_list h1 rfl (fun H' e => SqL.of e) h2 st2.dom h3)⟩
  | tup xs =>
    cases r with
    | tup h1 h3 => exact .inr ⟨_, _, rfl, SqT.of h1, (Post.ok q2 st2) _ ω2 H1 .refl st2 (yld_tup h1 st2.dom h3)⟩
  | fz xs =>
    cases r with
    | fz h1 h3 => exact .inl ⟨_, _, rfl, h1.sq, (Post.ok q2 st2) _ ω2 H1 .refl st2 (yld_fz h1 st2.dom h3)⟩
  | _ => exact q2.elim
/-- range(n), range(a, b) -/
def rangeP (lo : Int) (n : Nat) : List P := (List.range n).map fun i => .int (lo + (i : Nat))
def mRg1 (m : M) : MI := fun σ => (mAs [m] σ).bind fun os σ1 => match getAll σ1 os with
  | some [.int j] => if -(2 ^ 62) ≤ j ∧ j < 2 ^ 62 then .ok (rangeP 0 j.toNat) σ1 else .stuck
  | _ => .stuck
def mRg2 (a b : M) : MI := fun σ => (mAs [a, b] σ).bind fun os σ1 => match getAll σ1 os with
  | some [.int i, .int j] => if -(2 ^ 62) ≤ i ∧ i < 2 ^ 62 ∧ -(2 ^ 62) ≤ j ∧ j < 2 ^ 62 then .ok (rangeP i (j - i).toNat) σ1 else .stuck
  | _ => .stuck
theorem yld_range {K : PySem.W.Frag} {cl : String → Option Addr} {ω : Om} {H : Hp} {lo : Int} {n : Nat} : Yld K cl ω H (Itr lo n) (rangeP lo n) := fun ω' H' s dm' => by
  refine ⟨fun i hi => ⟨show i < n by simpa [rangeP] using hi, fun x H3 y => ?_⟩, show n ≤ (rangeP lo n).length by simp [rangeP]⟩
  obtain ⟨rfl, rfl⟩ := y
  have hi' : i < n := by simpa [rangeP] using hi
  exact ⟨.refl _, .int (lo + (i : Nat)), by simp [rangeP, hi'], .int _⟩
theorem di_rg1 {tg e : Expr} {m : M} (he : PI X tg e (iRng1 (tA g (mAs [m])))) : PI X tg e (tI g (mRg1 m)) := pi_weak he fun σ H R h => by
  obtain ⟨ω, σD, st, q⟩ := h
  refine ⟨ω, σD, st, q.bind.imp fun os σ1 ω1 H1 s1 st1 q1 vs ov => ?_⟩
  split at q1
  · rename_i j e
    split at q1
    · rename_i hc
      obtain ⟨v, rfl, hv⟩ := (st1.getAll ov e).one
      exact ⟨j, by rw [hv.int_inv], hc.1, hc.2, (Post.ok q1 st1) _ ω1 H1 .refl st1 yld_range⟩
    · exact q1.elim
  · exact q1.elim
theorem di_rg2 {tg e : Expr} {a b : M} (he : PI X tg e (iRng2 (tA g (mAs [a, b])))) : PI X tg e (tI g (mRg2 a b)) := pi_weak he fun σ H R h => by
  obtain ⟨ω, σD, st, q⟩ := h
  refine ⟨ω, σD, st, q.bind.imp fun os σ1 ω1 H1 s1 st1 q1 vs ov => ?_⟩
  split at q1
  · rename_i i j e
    split at q1
    · rename_i hc
      obtain ⟨v, w, rfl, hv, hw⟩ := (st1.getAll ov e).two
      exact ⟨i, j, by rw [hv.int_inv, hw.int_inv], hc, (Post.ok q1 st1) _ ω1 H1 .refl st1 yld_range⟩
    · exact q1.elim
  · exact q1.elim
/-! ### while -/
def whileN (c : MT) (b : MS) : Nat → Env → RS
  | 0, _ => .stuck
  | n + 1, σ => (c σ).toS fun x σ1 => if x = true then (match b σ1 with
    | .next σ2 => whileN c b n σ2
    | .cont σ2 => whileN c b n σ2
    | .brk σ2 => .next σ2
    | r => r) else .next σ1
/-- enough turns for everybody -/
def turns : Nat := 10 ^ 30
def mWhile (c : MT) (b : MS) : MS := fun σ => whileN c b turns σ
theorem ds_while {c : Expr} {body : List Stmt} {mc : MT} {mb : MS} {pos : Pos} (hp : PassesOwn (model X.prog X.w) X.A X.env X.xe) (hc : PT X c (tT g mc)) (hb : PSs X body (tS g mb)) : PS X (.While c body [] pos) (tS g (mWhile mc mb)) := ps_weak (ps_while hp hc hb) fun D σ H h => by
  obtain ⟨ω, σD, st, q⟩ := h
  unfold mWhile at q
  refine ⟨fun m σ' H' => ∃ ω' σD', Step ω H ω' H' ∧ Sta g ω' H' σD' σ' ∧ PostS g ω' H' (whileN mc mb m σD') D, ⟨turns, ω, σD, .refl, st, q⟩, ?_⟩
  rintro m σ' H' ⟨ω', σD', s, st', q'⟩
  cases m with
  | zero => exact q'.elim
  | succ m =>
    unfold whileN at q'
    refine ⟨ω', σD', st', (PostS.of q').imp fun x σ1 ω1 H1 s1 st1 q1 => ?_⟩
    cases x with
    | false => exact q1 ω1 H1 σ' .refl st1
    | true =>
      refine ⟨fun σ'' H'' => ∃ ω' σD', Step ω H ω' H'' ∧ Sta g ω' H'' σD' σ'' ∧ PostS g ω' H'' (whileN mc mb m σD') D, fun σ'' H'' z => ⟨m, Nat.lt_succ_self _, z⟩, ω1, σ1, st1, ?_⟩
      simp only [if_true] at q1
      cases er : mb σ1 with
      | next σ7 => rw [er] at q1; exact fun ω8 H8 σ8 s8 st8 => ⟨ω8, σ7, (s.trans s1).trans s8, st8, q1.shift s8⟩
      | cont σ7 => rw [er] at q1; exact fun ω8 H8 σ8 s8 st8 => ⟨ω8, σ7, (s.trans s1).trans s8, st8, q1.shift s8⟩
      | brk σ7 => rw [er] at q1; exact q1
      | ret d σ7 => rw [er] at q1; exact q1
      | exc c ns vs σ7 => rw [er] at q1; exact q1
      | stuck => rw [er] at q1; exact q1
end
end PV

set_option Elab.async false
set_option linter.all false
set_option maxRecDepth 100000
set_option maxHeartbeats 4000000
/-! PvM: list comprehensions. -/
namespace PV
open PySem L2
def wipeE (σ : Env) : List Nat → Env
  | [] => σ
  | v :: vs => (wipeE σ vs).set v none
theorem wipeE_len (σ : Env) : ∀ vs : List Nat, (wipeE σ vs).length = σ.length
  | [] => rfl
  | v :: vs => by
    show ((wipeE σ vs).set v none).length = _
    rw [List.length_set, wipeE_len σ vs]
theorem wipeE_get {σ : Env} {i : Nat} {d : D} : ∀ {vs : List Nat}, (wipeE σ vs)[i]? = some (some d) → σ[i]? = some (some d) ∧ i ∉ vs
  | [], h => ⟨h, by simp⟩
  | v :: vs, h => by
    rcases set_get (show ((wipeE σ vs).set v none)[i]? = _ from h) with ⟨e1, e2, _⟩ | ⟨e1, e2⟩
    · cases e2
    · obtain ⟨z1, z2⟩ := wipeE_get e2
      exact ⟨z1, by simp only [List.mem_cons, not_or]; exact ⟨fun z => e1 z.symm, z2⟩⟩
theorem wipe_in {σ : L2.St} {i : Nat} : ∀ {vs : List Nat}, i ∈ vs → i < σ.length → (wipe σ vs)[i]? = some none
  | v :: vs, h, hl => by
    show ((wipe σ vs).set v none)[i]? = _
    by_cases e : v = i
    · subst e
      rw [List.getElem?_set_self (by rw [wipe_length]; exact hl)]
    · rw [List.getElem?_set_ne e]
      exact wipe_in ((List.mem_cons.mp h).resolve_left fun z => e z.symm) hl
theorem wipe_again {σ σ2 : L2.St} {vs S : List Nat} (hl : σ2.length = (wipe σ vs).length) (hj : ∀ j, j ∉ S → σ2[j]? = (wipe σ vs)[j]?) (hS : ∀ j ∈ S, j ∈ vs) : wipe σ2 vs = wipe σ vs := by
  rw [wipe_length] at hl
  apply List.ext_getElem?
  intro j
  by_cases h : j ∈ vs
  · by_cases hj2 : j < σ.length
    · rw [wipe_in h (by rw [hl]; exact hj2), wipe_in h hj2]
    · rw [List.getElem?_eq_none (by rw [wipe_length]; omega), List.getElem?_eq_none (by rw [wipe_length]; omega)]
  · rw [wipe_out h]
    exact hj j fun z => h (hS j z)
section
variable {X : Cx} {g : G}
theorem Sta.wipe {ω : Om} {H : Hp} {σD : Env} {σ : L2.St} (st : Sta g ω H σD σ) {vs : List Nat} (hv : ∀ v ∈ vs, v ∉ g.io) : Sta g ω H (wipeE σD vs) (wipe σ vs) where
  len := by rw [wipeE_len, wipe_length]; exact st.len
  rd := fun i d e => by
    obtain ⟨e1, e2⟩ := wipeE_get e
    rw [wipe_out e2]
    exact st.rd i d e1
  par := fun i v hi e => by
    rw [wipe_out fun z => hv i z hi]
    exact st.par i v hi e
  dom := st.dom
def cLoop (mg : MG) (mt : MT) (me : M) (vs : List Nat) : List P → List P → Env → R (List P)
  | [], acc, σ => .ok acc σ
  | x :: xs, acc, σ => match mg x σ with
    | some σ1 => (match mt σ1 with
      | .ok b σ2 => if b = true then (match me σ2 with
        | .ok o σ3 => (match frz o σ3 with
          | .ok y σ4 => if acc.length < sizeLine then cLoop mg mt me vs xs (acc ++ [y]) (wipeE σ4 vs) else .stuck
          | _ => .stuck)
        | _ => .stuck) else cLoop mg mt me vs xs acc (wipeE σ2 vs)
      | _ => .stuck)
    | none => .stuck
def pureAt (σ : Env) (v : Nat) : Bool := match σ[v]? with
  | some (some d) => !d.owned
  | _ => true
def backE (σ1 : Env) : List Nat → Env → Env
  | [], σ2 => σ2
  | v :: vs, σ2 => (backE σ1 vs σ2).set v (match σ1[v]? with | some o => o | none => none)
def mCompR (vs : List Nat) (mi : MI) (mg : MG) (mt : MT) (me : M) : Env → R (List P) := fun σ => (mi σ).bind fun xs σ1 => if (vs.all (pureAt σ1)) = true then (match cLoop mg mt me vs xs [] (wipeE σ1 vs) with
  | .ok zs σ2 => .ok zs (backE σ1 vs σ2)
  | _ => .stuck) else .stuck
abbrev G.nox (g : G) : G := { g with Ω := fun _ _ _ _ => False }
theorem Sta.nox {ω : Om} {H : Hp} {σD : Env} {σ : L2.St} (st : Sta g ω H σD σ) : Sta g.nox ω H σD σ := ⟨st.len, st.rd, st.par, st.dom⟩
theorem Sta.unnox {ω : Om} {H : Hp} {σD : Env} {σ : L2.St} (st : Sta g.nox ω H σD σ) : Sta g ω H σD σ := ⟨st.len, st.rd, st.par, st.dom⟩
theorem backE_len (σ1 : Env) : ∀ (vs : List Nat) (σ2 : Env), (backE σ1 vs σ2).length = σ2.length
  | [], _ => rfl
  | v :: vs, σ2 => by
    show ((backE σ1 vs σ2).set v _).length = _
    rw [List.length_set, backE_len]
theorem backE_get {σ1 : Env} {i : Nat} {d : D} : ∀ {vs : List Nat} {σ2 : Env}, (backE σ1 vs σ2)[i]? = some (some d) → (i ∈ vs ∧ σ1[i]? = some (some d)) ∨ (i ∉ vs ∧ σ2[i]? = some (some d))
  | [], σ2, h => .inr ⟨by simp, h⟩
  | v :: vs, σ2, h => by
    rcases set_get (show ((backE σ1 vs σ2).set v _)[i]? = _ from h) with ⟨e1, e2, _⟩ | ⟨e1, e2⟩
    · subst e1
      refine .inl ⟨by simp, ?_⟩
      split at e2
      · rename_i o e3
        rw [e3, e2]
      · cases e2
    · rcases backE_get e2 with ⟨z1, z2⟩ | ⟨z1, z2⟩
      · exact .inl ⟨by simp [z1], z2⟩
      · exact .inr ⟨by simp only [List.mem_cons, not_or]; exact ⟨fun z => e1 z.symm, z1⟩, z2⟩
/-- a parked list changes: nobody's business -/
theorem poke {ω : Om} {H : Hp} {σD : Env} {σ : L2.St} (st : Sta g ω H σD σ) {p : Addr} {o : HO} (hp : ω p = .out) (ht : isT o = false) : Sta g ω (upd H p o) σD σ ∧ ∀ x v, RP g.K g.cl H (Fr ω) x v → RP g.K g.cl (upd H p o) (Fr ω) x v := by
  have ne : ∀ a, ω a ≠ .out → a ≠ p := fun a h e => h (by rw [e]; exact hp)
  have k : Keeps H (upd H p o) (Fr ω) (Fr ω) := ⟨fun a u h w => .inl (by rw [upd_ne (ne a (by rw [show ω a = .free from w]; intro z; cases z))]; exact h), fun a u h t => by
    rw [upd_ne (ne a (by rw [st.dom.tup h t]; intro z; cases z))]; exact h, fun _ h _ => h⟩
  refine ⟨⟨st.len, fun i d e => ?_, st.par, ⟨fun a h => ?_, fun a q h => (st.dom.tab a q h).keep k.fr (fun _ h _ => h) (fun u e => by rw [upd_ne (ne a (by rw [h]; intro z; cases z))]; exact e), st.dom.tbs⟩⟩, fun x v r => RP.keep k _ _ r⟩
  · obtain ⟨v, e1, r⟩ := st.rd i d e
    exact ⟨v, e1, r.keep2 k (fun a u h w _ => by rw [upd_ne (ne a (by rw [w]; intro z; cases z))]; exact h) fun _ _ h => h⟩
  · by_cases e : a = p
    · subst e
      exact ⟨o, upd_same, ht⟩
    · obtain ⟨u, h1, h2⟩ := st.dom.dom a h
      exact ⟨u, by rw [upd_ne e]; exact h1, h2⟩
/-- from before the list was there -/
theorem Step.poke {ω ω' : Om} {H H' : Hp} (s : Step ω H ω' H') {p : Addr} {o : HO} (hp : H p = none) : Step ω H ω' (upd H' p o) where
  fr := fun a u h w => by
    have ne := ne_of_none h hp
    rcases s.fr a u h w with z | ⟨z1, od, z2⟩ | z
    · exact .inl (by rw [upd_ne ne]; exact z)
    · exact .inr (.inl ⟨z1, od, by rw [upd_ne ne]; exact z2⟩)
    · exact .inr (.inr z)
  ot := fun a u h w z => by rw [upd_ne (ne_of_none h hp)]; exact s.ot a u h w z
  out := s.out
  fz := s.fz
  th := fun a h => by
    by_cases e : a = p
    · rw [e, upd_same]; intro z; cases z
    · rw [upd_ne e]; exact s.th a h
  tb := s.tb
/-- a comprehension's reading: what is wanted of the list at its place -/
theorem comp_core {wi : TI} {S vs : List Nat} {mi : MI} {mg : MG} {mt : MT} {me : M} {σ : L2.St} {H : Hp} {Q : VK} (hS : ∀ j ∈ S, j ∈ vs) (hv : ∀ v ∈ vs, v ∉ g.io) (ω : Om) (σD : Env) (st : Sta g ω H σD σ)
    (h : Post g ω H σ (mCompR vs mi mg mt me σD) fun zs σ2 ω2 H2 => ∀ p us, ω2 p = .tmp → H2 p = some (.lst us) → RPs g.K g.cl H2 (Fr ω2) zs us → Q (.ref p) H2) :
    tLc (tI g mi) (tG g.nox S mg) (tT g.nox mt) (tM g.nox me) vs σ H Q := by
  refine ⟨ω, σD, st, h.bind.imp fun xs σ1 ω1 H1 s1 st1 q1 J ω2 H2 s2 st2 yl D hD => ?_⟩
  have q2 := q1.shift s2
  clear q1
  by_cases hpure : (vs.all (pureAt σ1)) = true
  · simp only [if_pos hpure] at q2
    obtain ⟨sl, stl, kl⟩ := lay_new (o := .lst []) st2 hD rfl
    have sr : Step (lay ω2 D) (upd H2 D (.lst [])) (ren (lay ω2 D) .tmp .out) (upd H2 D (.lst [])) := .ren (by intro z; cases z) (by intro z; cases z)
    have str : Sta g (ren (lay ω2 D) .tmp .out) (upd H2 D (.lst [])) σ1 σ := ⟨stl.len, fun j d' e => by
      obtain ⟨v', e4, r'⟩ := stl.rd j d' e
      exact ⟨v', e4, r'.own (fun a h => ren_free (by intro z; cases z) h) fun a h => ren_ne h (by intro z; cases z)⟩, stl.par, stl.dom.ren (by intro z; cases z)⟩
    have hDo : ren (lay ω2 D) .tmp .out D = .out := ren_at lay_at
    have s0 : Step ω2 H2 (ren (lay ω2 D) .tmp .out) (upd H2 D (.lst [])) := sl.trans sr
    -- what comes at the end
    have fin : ∀ zs σ2 ω3 H3 us, Step ω2 H2 ω3 H3 → Sta g ω3 H3 (wipeE σ2 vs) (wipe σ vs) → ω3 D = .out → H3 D = some (.lst us) → RPs g.K g.cl H3 (Fr ω3) zs us → (∃ Qr, Post g ω2 H2 σ (.ok zs (backE σ1 vs σ2) : R (List P)) Qr ∧ Qr = fun zs σ2 ω2 H2 => ∀ p us, ω2 p = .tmp → H2 p = some (.lst us) → RPs g.K g.cl H2 (Fr ω2) zs us → Q (.ref p) H2) → (wipeE σ2 vs).length = σ2.length → Q (.ref D) H3 := fun zs σ2 ω3 H3 us s3 st3 o3 h3 r3 ⟨Qr, hq, eq⟩ hlen => by
      subst eq
      let ω4 : Om := fun a => if a = D then .tmp else ω3 a
      have hf : ∀ a, ω3 a = .free → ω4 a = .free := fun a h => by
        show (if a = D then Own.tmp else ω3 a) = _
        rw [if_neg (by rintro rfl; rw [o3] at h; cases h)]; exact h
      have h4 : ∀ a, H2 a ≠ none → ω4 a = ω3 a := fun a h => by
        show (if a = D then Own.tmp else ω3 a) = _
        rw [if_neg (by rintro rfl; exact h hD)]
      have nn : ∀ b, ω2 b ≠ .free → H2 b ≠ none := fun b hb => by
        obtain ⟨u, e1, _⟩ := st2.dom.dom b hb
        rw [e1]; intro z; cases z
      have s4 : Step ω2 H2 ω4 H3 := ⟨s3.fr, s3.ot, fun a h => by rw [h4 a (nn a (by rw [h]; intro z; cases z))]; exact s3.out a h, fun a h t => by rw [h4 a t]; exact s3.fz a h t, s3.th, fun a q h => by rw [h4 a (nn a (by rw [h]; intro z; cases z))]; exact s3.tb a q h⟩
      refine hq ω4 H3 s4 ⟨?_, fun j d e => ?_, fun i v hi e => st2.par i v hi e, ⟨fun a h => ?_, fun a q h => by
        have e0 : ω3 a = .tab q := by
          change (if a = D then Own.tmp else ω3 a) = _ at h
          split at h
          · cases h
          · exact h
        exact (st3.dom.tab a q e0).keep (fun _ _ h _ => .inl h) (fun c h _ => hf c h) (fun _ h => h), fun n a h => by
        show (if a = D then Own.tmp else ω3 a) = _
        rw [if_neg (by rintro rfl; rw [st3.dom.tbs n _ h] at o3; cases o3)]; exact st3.dom.tbs n a h⟩⟩ D us (by show (if D = D then _ else _) = _; rw [if_pos rfl]) h3 (RPs.keep (Keeps.own hf) _ _ r3)
      · rw [backE_len, ← st2.len, ← hlen]
        have e1 := st3.len
        rw [wipe_length] at e1
        rw [e1, st2.len]
      · rcases backE_get e with ⟨z1, z2⟩ | ⟨z1, z2⟩
        · have hpv := (List.all_eq_true.mp hpure) j z1
          unfold pureAt at hpv
          rw [z2] at hpv
          obtain ⟨v, e1, r⟩ := st2.rd j d z2
          cases d with
          | p x => cases r with | p r => exact ⟨v, e1, .p (s4.rp st2.dom r)⟩
          | _ => cases hpv
        · have e2 : (wipeE σ2 vs)[j]? = some (some d) := by
            have : ∀ (vs : List Nat), j ∉ vs → (wipeE σ2 vs)[j]? = σ2[j]? := fun vs => by
              induction vs with
              | nil => intro _; rfl
              | cons v vs ih =>
                intro hn
                simp only [List.mem_cons, not_or] at hn
                show ((wipeE σ2 vs).set v none)[j]? = _
                rw [List.getElem?_set_ne (fun z => hn.1 z.symm)]
                exact ih hn.2
            rw [this vs z1]; exact z2
          obtain ⟨v, e1, r⟩ := st3.rd j d e2
          rw [wipe_out z1] at e1
          exact ⟨v, e1, r.own hf fun a h => by
            show (if a = D then Own.tmp else ω3 a) = _
            rw [if_neg (by rintro rfl; rw [o3] at h; cases h)]; exact h⟩
      · by_cases ea : a = D
        · subst ea; exact ⟨_, h3, rfl⟩
        · exact st3.dom.dom a (by
            have : ω4 a = ω3 a := by show (if a = D then Own.tmp else ω3 a) = _; rw [if_neg ea]
            rw [← this]; exact h)
    let Inv' : List P → List P → L2.Hp → Prop := fun rest acc H' => ∃ ω' σD' us, Step ω2 H2 ω' H' ∧ Sta g ω' H' (wipeE σD' vs) (wipe σ vs) ∧ ω' D = .out ∧ H' D = some (.lst us) ∧ RPs g.K g.cl H' (Fr ω') acc us ∧ ∃ Qr, Post g ω2 H2 σ (match cLoop mg mt me vs rest acc (wipeE σD' vs) with | .ok zs σ2 => R.ok zs (backE σ1 vs σ2) | _ => R.stuck) Qr ∧ Qr = fun zs σ2 ω2 H2 => ∀ p us, ω2 p = .tmp → H2 p = some (.lst us) → RPs g.K g.cl H2 (Fr ω2) zs us → Q (.ref p) H2
    refine ⟨fun i m H' => m = xs.length - i ∧ i ≤ xs.length ∧ ∃ acc, Inv' (xs.drop i) acc H', ⟨_, rfl, Nat.zero_le _, [], _, σ1, [], s0, str.wipe hv, hDo, upd_same, .nil, _, by rw [List.drop_zero]; exact q2, rfl⟩, ?_⟩
    rintro i m H' ⟨rfl, hi, acc, ω', σD', us, s', st', oD, hD', racc, Qr, hq, eQ⟩
    obtain ⟨y1, y2⟩ := yl ω' H' s'.wk st'.dom
    by_cases hlt : i < xs.length
    · refine .inr ⟨(y1 i hlt).1, fun H'' => i + 1 ≤ xs.length ∧ ∃ acc, Inv' (xs.drop (i + 1)) acc H'', fun H'' ⟨z1, z2⟩ => ⟨_, by omega, rfl, z1, z2⟩, fun x H3 hy => ?_⟩
      obtain ⟨sm, p, e1, rp⟩ := (y1 i hlt).2 x H3 hy
      have ed : xs.drop i = p :: xs.drop (i + 1) := by
        rw [List.drop_eq_getElem_cons hlt]
        congr 1
        exact (List.getElem?_eq_some_iff.mp e1).2
      rw [ed] at hq
      unfold cLoop at hq
      have st3 := (st'.same sm).nox
      have s3 := s'.trans (.same sm)
      have hD3 := sm _ _ hD'
      have racc3 := RPs.keep (same_keeps sm) _ _ racc
      refine ⟨ω', wipeE σD' vs, p, st3, rp, ?_⟩
      cases em : mg p (wipeE σD' vs) with
      | none => simp only [em] at hq; exact hq.elim
      | some σ4 =>
        simp only [em] at hq
        intro ω5 H5 σ5 s5 st5 hl5 hj5
        refine ⟨wipe_again hl5 hj5 hS, ω5, σ4, st5, ?_⟩
        cases et : mt σ4 with
        | stuck => simp only [et] at hq; exact hq.elim
        | exc _ _ _ _ => simp only [et] at hq; exact hq.elim
        | ok b σ6 =>
          simp only [et] at hq
          intro ω6 H6 s6 st6
          have sw : wipe σ5 vs = wipe σ vs := wipe_again hl5 hj5 hS
          have s56 := s5.trans s6
          have hD6 : H6 D = some (.lst us) := s56.ot D _ hD3 oD rfl
          have oD6 : ω6 D = .out := s56.out D oD
          have racc6 := s56.rps st3.dom racc3
          have s6' := s3.trans s56
          cases b with
          | false =>
            simp only [Bool.false_eq_true, if_false] at hq ⊢
            refine ⟨hlt, acc, ω6, σ6, us, s6', ?_, oD6, hD6, racc6, Qr, hq, eQ⟩
            rw [← sw]
            exact st6.unnox.wipe hv
          | true =>
            simp only [if_true] at hq ⊢
            refine ⟨ω6, σ6, st6, ?_⟩
            cases ee : me σ6 with
            | stuck => simp only [ee] at hq; exact hq.elim
            | exc _ _ _ _ => simp only [ee] at hq; exact hq.elim
            | ok o σ7 =>
              simp only [ee] at hq
              intro ω7 H7 s7 st7 vy ovy
              cases ef : frz o σ7 with
              | stuck => simp only [ef] at hq; exact hq.elim
              | exc _ _ _ _ => simp only [ef] at hq; exact hq.elim
              | ok y σ8 =>
                simp only [ef] at hq
                obtain ⟨y', σ8', ω8, s8, st8, r8, e8, _⟩ := frz_ok (k := fun _ _ _ _ => True) st7 ovy (by rw [ef]; exact fun _ _ _ _ => trivial)
                rw [ef] at e8
                cases e8
                have s78 := s7.trans s8
                have hD8 : H7 D = some (.lst us) := s78.ot D _ hD6 oD6 rfl
                have oD8 : ω8 D = .out := s78.out D oD6
                have racc8 := s78.rps st6.dom racc6
                by_cases hsz : acc.length < sizeLine
                · rw [if_pos hsz] at hq
                  obtain ⟨st9, k9⟩ := poke (o := .lst (us ++ [vy])) st8 oD8 rfl
                  refine ⟨us, hD8, by rw [← racc8.length]; exact hsz, hlt, acc ++ [y], ω8, σ8, us ++ [vy], (s6'.trans s78).poke hD, ?_, oD8, upd_same, (RPs.imp k9 racc8).append (.cons (k9 _ _ r8) .nil), Qr, hq, eQ⟩
                  rw [← sw]
                  exact st9.unnox.wipe hv
                · rw [if_neg hsz] at hq
                  exact hq.elim
    · have e : i = xs.length := by omega
      subst e
      rw [List.drop_length] at hq
      unfold cLoop at hq
      refine .inl ⟨y2, fin acc (wipeE σD' vs) ω' H' us s' ?_ oD hD' racc ⟨Qr, hq, eQ⟩ (wipeE_len _ _)⟩
      have ww : ∀ (vs' : List Nat) (τ : Env), (∀ v ∈ vs', v ∈ vs') → wipeE (wipeE τ vs') vs' = wipeE τ vs' := fun vs' τ _ => by
        apply List.ext_getElem?
        intro j
        by_cases hj : j ∈ vs'
        · have inn : ∀ (l : List Nat) (τ : Env), j ∈ l → j < τ.length → (wipeE τ l)[j]? = some none := fun l => by
            induction l with
            | nil => intro τ h; simp at h
            | cons v l ih =>
              intro τ h hl
              show ((wipeE τ l).set v none)[j]? = _
              by_cases e : v = j
              · subst e
                rw [List.getElem?_set_self (by rw [wipeE_len]; exact hl)]
              · rw [List.getElem?_set_ne e]
                exact ih τ ((List.mem_cons.mp h).resolve_left fun z => e z.symm) hl
          by_cases hl : j < τ.length
          · rw [inn _ _ hj (by rw [wipeE_len]; exact hl), inn _ _ hj hl]
          · rw [List.getElem?_eq_none (by simp only [wipeE_len]; omega), List.getElem?_eq_none (by simp only [wipeE_len]; omega)]
        · have out : ∀ (l : List Nat) (τ : Env), j ∉ l → (wipeE τ l)[j]? = τ[j]? := fun l => by
            induction l with
            | nil => intro τ _; rfl
            | cons v l ih =>
              intro τ hn
              simp only [List.mem_cons, not_or] at hn
              show ((wipeE τ l).set v none)[j]? = _
              rw [List.getElem?_set_ne (fun z => hn.1 z.symm)]
              exact ih τ hn.2
          rw [out _ _ hj]
      rw [ww vs _ fun _ h => h]
      exact st'
  · rw [Bool.not_eq_true] at hpure
    simp only [hpure] at q2
    exact q2.elim
end
end PV

set_option Elab.async false
set_option linter.all false
set_option maxRecDepth 100000
set_option maxHeartbeats 4000000
/-! PvN: comprehensions as data and as owned lists; a, b = x, y; dicts written out. -/
namespace PV
open PySem L2
section
variable {X : Cx} {g : G}
theorem Sta.tmpFree {ω : Om} {H : Hp} {σD : Env} {σ : L2.St} (st : Sta g ω H σD σ) : Sta g (ren ω .tmp .free) H σD σ := ⟨st.len, fun j d' e => by
    obtain ⟨v', e4, r'⟩ := st.rd j d' e
    exact ⟨v', e4, r'.own (fun a h => ren_free (by intro z; cases z) h) fun a h => ren_ne h (by intro z; cases z)⟩, st.par, st.dom.ren (by intro z; cases z)⟩
def mComp (vs : List Nat) (mi : MI) (mg : MG) (mt : MT) (me : M) : M := fun σ => (mCompR vs mi mg mt me σ).bind fun zs σ2 => .ok (.v (.lst zs)) σ2
def mCompF (vs : List Nat) (mi : MI) (mg : MG) (mt : MT) (me : M) : MF := fun σ => (mCompR vs mi mg mt me σ).bind fun zs σ2 => .ok (.lst zs) σ2
theorem tM_comp {S vs : List Nat} {mi : MI} {mg : MG} {mt : MT} {me : M} (hS : ∀ j ∈ S, j ∈ vs) (hv : ∀ v ∈ vs, v ∉ g.io) (σ : L2.St) (H : Hp) (Q : VK) (h : tM g (mComp vs mi mg mt me) σ H Q) : tLc (tI g mi) (tG g.nox S mg) (tT g.nox mt) (tM g.nox me) vs σ H Q := by
  obtain ⟨ω, σD, st, q⟩ := h
  refine comp_core (wi := tI g mi) hS hv ω σD st (q.bind.imp fun zs σ2 ω2 H2 s2 st2 q2 p us hp hH r => ?_)
  have s3 : Step ω2 H2 (ren ω2 .tmp .free) H2 := .ren (by intro z; cases z) (by intro z; cases z)
  exact q2 _ H2 s3 st2.tmpFree _ (.v (.lst hH (ren_at hp) (s3.rps st2.dom r)))
theorem tF_comp {S vs : List Nat} {mi : MI} {mg : MG} {mt : MT} {me : M} (hS : ∀ j ∈ S, j ∈ vs) (hv : ∀ v ∈ vs, v ∉ g.io) (σ : L2.St) (H : Hp) (Q : VK) (h : tF g (mCompF vs mi mg mt me) σ H Q) : tLc (tI g mi) (tG g.nox S mg) (tT g.nox mt) (tM g.nox me) vs σ H Q := by
  obtain ⟨ω, σD, st, q⟩ := h
  refine comp_core (wi := tI g mi) hS hv ω σD st (q.bind.imp fun zs σ2 ω2 H2 s2 st2 q2 p us hp hH r => ?_)
  exact (Post.ok q2 st2) _ (.lst hH hp r)
theorem de_comp {e : Expr} {S vs : List Nat} {mi : MI} {mg : MG} {mt : MT} {me : M} (he : PE X e (tLc (tI g mi) (tG g.nox S mg) (tT g.nox mt) (tM g.nox me) vs)) (hS : ∀ j ∈ S, j ∈ vs) (hv : ∀ v ∈ vs, v ∉ g.io) : PE X e (tM g (mComp vs mi mg mt me)) := pe_weak he (tM_comp hS hv)
theorem df_comp {e : Expr} {S vs : List Nat} {mi : MI} {mg : MG} {mt : MT} {me : M} (he : PE X e (tLc (tI g mi) (tG g.nox S mg) (tT g.nox mt) (tM g.nox me) vs)) (hS : ∀ j ∈ S, j ∈ vs) (hv : ∀ v ∈ vs, v ∉ g.io) : PE X e (tF g (mCompF vs mi mg mt me)) := pe_weak he (tF_comp hS hv)
/-- y = [..]: the target in the same line, stored by the comprehension's own road -/
theorem ds_setLc {i : Nat} {st : Stmt} {S vs : List Nat} {mi : MI} {mg : MG} {mt : MT} {me : M} (hs : PS X st (tAsg (tLc (tI g mi) (tG g.nox S mg) (tT g.nox mt) (tM g.nox me) vs) (gName i))) (hio : i ∉ g.io) (hS : ∀ j ∈ S, j ∈ vs) (hv : ∀ v ∈ vs, v ∉ g.io) : PS X st (tS g (mSet i (mComp vs mi mg mt me))) := ps_weak hs fun D σ H h => by
  obtain ⟨ω, σD, st, q⟩ := h
  refine tM_comp hS hv σ H _ ⟨ω, σD, st, (PostS.of q).imp fun o σ1 ω1 H1 s1 st1 q1 v ov => ?_⟩
  obtain ⟨y, σ2, ω2, s2, st2, r, e, q2⟩ := frz_ok st1 ov (PostS.of q1)
  exact q2 ω2 H1 _ .refl (st2.setP hio r)
theorem ds_setLcF {i : Nat} {st : Stmt} {S vs : List Nat} {mi : MI} {mg : MG} {mt : MT} {me : M} (hs : PS X st (tAsg (tLc (tI g mi) (tG g.nox S mg) (tT g.nox mt) (tM g.nox me) vs) (gName i))) (hio : i ∉ g.io) (hS : ∀ j ∈ S, j ∈ vs) (hv : ∀ v ∈ vs, v ∉ g.io) : PS X st (tS g (mSetF i (mCompF vs mi mg mt me))) := ps_weak hs fun D σ H h => by
  obtain ⟨ω, σD, st, q⟩ := h
  refine tF_comp hS hv σ H _ ⟨ω, σD, st, (PostS.of q).imp fun d σ1 ω1 H1 s1 st1 q1 v r => ?_⟩
  exact q1 _ H1 _ (.give i) (st1.setD hio r)
def mTrue : MT := fun σ => .ok true σ
theorem tT_true (σ : L2.St) (H : Hp) (Q : Bool → Hp → Prop) (h : tT g mTrue σ H Q) : tYes σ H Q := by
  obtain ⟨ω, σD, st, q⟩ := h
  exact Post.ok q st
theorem pts_weak {e : List Expr} {t t' : TT} (h : PTs X e t) (f : ∀ σ H Q, t' σ H Q → t σ H Q) : PTs X e t' := ⟨fun pins s σ H Q I q => h.run pins s σ H Q I (f _ _ _ q)⟩
theorem dts_nil : PTs X [] (tT g mTrue) := pts_weak pts_nil tT_true
theorem dts_one {c : Expr} {m : MT} (h : PT X c (tT g m)) : PTs X [c] (tT g m) := pts_one h

/-! ### a, b = x, y with both sides written -/
inductive ME where
  | m (m : M) | f (m : MF)
/-- a root of its own: no lock -/
def D.root : D → Bool
  | .p _ => false
  | .lk _ => false
  | _ => true
/-- evaluated from the left: data, or owned things (each one parked until all are there) -/
def mEach : List ME → Env → R (List D)
  | [], σ => .ok [] σ
  | .m m :: ms, σ => (m σ).bind fun o σ1 => (frz o σ1).bind fun x σ2 => (mEach ms σ2).bind fun ds σ3 => .ok (.p x :: ds) σ3
  | .f m :: ms, σ => (m σ).bind fun d σ1 => if d.root = true then (mEach ms σ1).bind fun ds σ3 => .ok (d :: ds) σ3 else .stuck
theorem RD.reroot {K : PySem.W.Frag} {cl : String → Option Addr} {H : Hp} {ω ω' : Om} {w w' : Own} {a : Addr} (hf : ∀ b, ω b = .free → ω' b = .free) (ha : ω' a = w') : ∀ {d : D}, RD K cl H ω w d (.ref a) → d.owned = true → (∀ d', d = .lk d' → False) → RD K cl H ω' w' d (.ref a)
  | .p x, h, e, _ => by cases e
  | .lst xs, h, _, _ => by cases h with | lst h1 h2 h3 => exact .lst h1 ha (RPs.keep (Keeps.own hf) _ _ h3)
  | .dK ks xs, h, _, _ => by cases h with | dK h1 h2 h0 h3 => exact .dK h1 ha h0 (RPs.keep (Keeps.own hf) _ _ h3)
  | .dT ks xs, h, _, _ => by cases h with | dT h1 h2 h0 h3 => exact .dT h1 ha h0 (RPs.keep (Keeps.own hf) _ _ h3)
  | .ins c ns xs, h, _, _ => by cases h with | ins h1 h2 h3 h4 h5 => exact .ins h1 ha h3 h4 (RPs.keep (Keeps.own hf) _ _ h5)
  | .lk d, h, _, n => (n d rfl).elim
theorem RD.root_ref {K : PySem.W.Frag} {cl : String → Option Addr} {H : Hp} {ω : Om} {w : Own} : ∀ {d : D} {v : V}, RD K cl H ω w d v → d.root = true → ∃ a, v = .ref a ∧ ω a = w
  | .p x, _, h, e => by cases e
  | .lst xs, _, h, _ => by cases h with | lst h1 h2 h3 => exact ⟨_, rfl, h2⟩
  | .dK ks xs, _, h, _ => by cases h with | dK h1 h2 h0 h3 => exact ⟨_, rfl, h2⟩
  | .dT ks xs, _, h, _ => by cases h with | dT h1 h2 h0 h3 => exact ⟨_, rfl, h2⟩
  | .ins c ns xs, _, h, _ => by cases h with | ins h1 h2 h3 h4 h5 => exact ⟨_, rfl, h2⟩
  | .lk d, _, h, e => by cases e
theorem root_owned {d : D} (h : d.root = true) : d.owned = true ∧ ∀ d', d = .lk d' → False := by
  cases d <;> first | (cases h; done) | exact ⟨rfl, fun _ z => nomatch z⟩
/-- what has been evaluated and waits: data, or parked things, none of which was anybody's ahead -/
structure Pk (K : PySem.W.Frag) (cl : String → Option Addr) (ω0 : Om) (H0 : Hp) (ω : Om) (H : Hp) (ds : List D) (vs : List V) : Prop where
  len : ds.length = vs.length
  el : ∀ (k : Nat) (d : D) (v : V), ds[k]? = some d → vs[k]? = some v → (∃ x, d = .p x ∧ RP K cl H (Fr ω) x v) ∨ (d.root = true ∧ ∃ a, v = .ref a ∧ RD K cl H ω .out d v ∧ ω a = .out ∧ ω0 a ≠ .out ∧ (ω0 a = .free → H0 a = none))
  ne : ∀ (k l : Nat) (d e : D) (v : V), k ≠ l → ds[k]? = some d → ds[l]? = some e → d.root = true → e.root = true → vs[k]? = some v → vs[l]? ≠ some v
theorem Pk.step {K : PySem.W.Frag} {cl : String → Option Addr} {ω0 ω ω' : Om} {H0 H H' : Hp} {ds : List D} {vs : List V} (p : Pk K cl ω0 H0 ω H ds vs) (s : Step ω H ω' H') (dm : Dom cl ω H) : Pk K cl ω0 H0 ω' H' ds vs where
  len := p.len
  el := fun k d v e1 e2 => by
    rcases p.el k d v e1 e2 with ⟨x, z1, z2⟩ | ⟨z0, a, z1, z2, z3, z4, z5⟩
    · exact .inl ⟨x, z1, s.rp dm z2⟩
    · exact .inr ⟨z0, a, z1, z2.keep2 (s.keeps dm) (fun b o h w z => s.ot b o h w z) fun b _ w => s.out b w, s.out a z3, z4, z5⟩
  ne := p.ne
theorem Pk.snoc {K : PySem.W.Frag} {cl : String → Option Addr} {ω0 ω : Om} {H0 H : Hp} {ds : List D} {vs : List V} {d : D} {v : V} (p : Pk K cl ω0 H0 ω H ds vs) (h : (∃ x, d = .p x ∧ RP K cl H (Fr ω) x v) ∨ (d.root = true ∧ ∃ a, v = .ref a ∧ RD K cl H ω .out d v ∧ ω a = .out ∧ ω0 a ≠ .out ∧ (ω0 a = .free → H0 a = none)))
    (hn : d.root = true → ∀ (k : Nat) (e : D), ds[k]? = some e → e.root = true → vs[k]? ≠ some v) : Pk K cl ω0 H0 ω H (ds ++ [d]) (vs ++ [v]) where
  len := by simp [p.len]
  el := fun k e u e1 e2 => by
    by_cases hk : k < ds.length
    · rw [List.getElem?_append_left hk] at e1
      rw [List.getElem?_append_left (by rw [← p.len]; exact hk)] at e2
      exact p.el k e u e1 e2
    · have hk2 : k = ds.length := by
        have := get_lt e1
        simp at this
        omega
      subst hk2
      rw [List.getElem?_append_right (Nat.le_refl _)] at e1
      rw [List.getElem?_append_right (by rw [p.len]; exact Nat.le_refl _)] at e2
      simp at e1
      simp [p.len] at e2
      subst e1; subst e2
      exact h
  ne := fun k l d1 d2 u hkl e1 e2 r1 r2 e3 e4 => by
    have hlast : ∀ {m : Nat} {x : D}, (ds ++ [d])[m]? = some x → m = ds.length ∨ m < ds.length := fun {m x} e => by
      have := get_lt e
      simp at this
      omega
    have ed : ∀ {x : D}, (ds ++ [d])[ds.length]? = some x → x = d := fun {x} e => by
      rw [List.getElem?_append_right (Nat.le_refl _)] at e
      simp at e; exact e.symm
    have ev : ∀ {x : V}, (vs ++ [v])[ds.length]? = some x → x = v := fun {x} e => by
      rw [List.getElem?_append_right (by rw [p.len]; exact Nat.le_refl _)] at e
      simp [p.len] at e; exact e.symm
    rcases hlast e1 with q1 | q1 <;> rcases hlast e2 with q2 | q2
    · omega
    · subst q1
      cases ed e1; cases ev e3
      rw [List.getElem?_append_left q2] at e2
      rw [List.getElem?_append_left (by rw [← p.len]; exact q2)] at e4
      exact hn r1 l d2 e2 r2 e4
    · subst q2
      cases ed e2; cases ev e4
      rw [List.getElem?_append_left q1] at e1
      rw [List.getElem?_append_left (by rw [← p.len]; exact q1)] at e3
      exact hn r2 k d1 e1 r1 e3
    · rw [List.getElem?_append_left q1] at e1
      rw [List.getElem?_append_left q2] at e2
      rw [List.getElem?_append_left (by rw [← p.len]; exact q1)] at e3
      rw [List.getElem?_append_left (by rw [← p.len]; exact q2)] at e4
      exact p.ne k l d1 d2 u hkl e1 e2 r1 r2 e3 e4
def tMEs (g : G) : List ME → TA
  | [] => tNil
  | .m m :: ms => tCons (tM g m) (tMEs g ms)
  | .f m :: ms => tCons (tF g m) (tMEs g ms)
theorem each_run {ω0 : Om} {H0 : Hp} {σ : L2.St} : ∀ {ms : List ME} {ω : Om} {H : Hp} {σD : Env} {ds0 : List D} {vs0 : List V} {Q : List V → Hp → Prop}, Sta g ω H σD σ → Step ω0 H0 ω H → Pk g.K g.cl ω0 H0 ω H ds0 vs0 →
    Post g ω H σ (mEach ms σD) (fun ds σ1 ω1 H1 => ∀ vs, Step ω0 H0 ω1 H1 → Pk g.K g.cl ω0 H0 ω1 H1 (ds0 ++ ds) (vs0 ++ vs) → Q vs H1) → tMEs g ms σ H Q
  | [], ω, H, σD, ds0, vs0, Q, st, s, pk, h => (Post.ok h st) [] s (by simpa using pk)
  | .m m :: ms, ω, H, σD, ds0, vs0, Q, st, s, pk, h => by
    refine ⟨ω, σD, st, h.bind.imp fun o σ1 ω1 H1 s1 st1 q1 v ov => ?_⟩
    obtain ⟨x, σ2, ω2, s2, st2, r, e2, q2⟩ := frz_ok st1 ov q1.bind
    have s12 := s1.trans s2
    refine each_run (ds0 := ds0 ++ [.p x]) (vs0 := vs0 ++ [v]) st2 (s.trans s12) ((pk.step s12 st.dom).snoc (.inl ⟨x, rfl, r⟩) (fun z => nomatch z)) (q2.bind.imp fun ds σ3 ω3 H3 s3 st3 q3 vs sA pA => ?_)
    exact (Post.ok q3 st3) (v :: vs) sA (by simpa using pA)
  | .f m :: ms, ω, H, σD, ds0, vs0, Q, st, s, pk, h => by
    refine ⟨ω, σD, st, h.bind.imp fun d σ1 ω1 H1 s1 st1 q1 v rd => ?_⟩
    by_cases hr : d.root = true
    · simp only [if_pos hr] at q1
      obtain ⟨a, rfl, ha⟩ := rd.root_ref hr
      have sr : Step ω1 H1 (ren ω1 .tmp .out) H1 := .ren (by intro z; cases z) (by intro z; cases z)
      have st2 : Sta g (ren ω1 .tmp .out) H1 σ1 σ := ⟨st1.len, fun j d' e => by
        obtain ⟨v', e4, r'⟩ := st1.rd j d' e
        exact ⟨v', e4, r'.own (fun a h => ren_free (by intro z; cases z) h) fun a h => ren_ne h (by intro z; cases z)⟩, st1.par, st1.dom.ren (by intro z; cases z)⟩
      have s01 := s.trans s1
      have pk1 := pk.step s1 st.dom
      have h1 : ω0 a ≠ .out := fun z => by
        have := s01.out a z
        rw [ha] at this; cases this
      have h2 : ω0 a = .free → H0 a = none := fun z => by
        cases e : H0 a with
        | none => rfl
        | some u =>
          have := s01.fz a z (by rw [e]; intro z; cases z)
          rw [ha] at this; cases this
      refine each_run (ds0 := ds0 ++ [d]) (vs0 := vs0 ++ [.ref a]) st2 (s01.trans sr) ((pk1.step sr st1.dom).snoc (.inr ⟨hr, a, rfl, rd.own (fun a h => ren_free (by intro z; cases z) h) fun a h => ren_at h, ren_at ha, h1, h2⟩) fun _ k e e1 e2 e3 => ?_) ((q1.shift sr).bind.imp fun ds σ3 ω3 H3 s3 st3 q3 vs sA pA => ?_)
      · rcases pk1.el k e _ e1 e3 with ⟨x, z1, _⟩ | ⟨_, b, z1, _, z2, _⟩
        · subst z1; cases e2
        · cases z1
          rw [ha] at z2; cases z2
      · exact (Post.ok q3 st3) (.ref a :: vs) sA (by simpa using pA)
    · simp only [if_neg hr] at q1
      exact q1.elim
/-- to the slots, one after the other -/
def setAll : List Nat → List D → Env → Env
  | i :: is, d :: ds, σ => setAll is ds (σ.set i (some d))
  | _, _, σ => σ
def setAllV : List Nat → List V → L2.St → L2.St
  | i :: is, v :: vs, σ => setAllV is vs (σ.set i (some v))
  | _, _, σ => σ
theorem set_all {ω0 : Om} {H0 : Hp} : ∀ {is : List Nat} {ds : List D} {vs : List V} {ω : Om} {H : Hp} {σD : Env} {σ : L2.St}, (∀ i ∈ is, i ∉ g.io) → is.length = ds.length → Step ω0 H0 ω H → Sta g ω H σD σ → Pk g.K g.cl ω0 H0 ω H ds vs →
    ∃ ω', Step ω0 H0 ω' H ∧ Sta g ω' H (setAll is ds σD) (setAllV is vs σ)
  | [], ds, vs, ω, H, σD, σ, hio, hl, s, st, pk => by
    have : ds = [] := List.length_eq_zero_iff.mp hl.symm
    subst this
    exact ⟨ω, s, by cases vs <;> exact st⟩
  | i :: is, [], vs, ω, H, σD, σ, hio, hl, s, st, pk => by simp at hl
  | i :: is, d :: ds, [], ω, H, σD, σ, hio, hl, s, st, pk => by have := pk.len; simp at this
  | i :: is, d :: ds, v :: vs, ω, H, σD, σ, hio, hl, s, st, pk => by
    have hi : i ∉ g.io := hio i (by simp)
    have tail : ∀ (ω' : Om), (∀ b, ω b = .free → ω' b = .free) → (∀ b, ω b = .out → (d.root = true → v ≠ .ref b) → ω' b = .out) → Pk g.K g.cl ω0 H0 ω' H ds vs := fun ω' hf ho => ⟨by simpa using pk.len, fun k e u e1 e2 => by
      rcases pk.el (k + 1) e u (by simpa using e1) (by simpa using e2) with ⟨x, z1, z2⟩ | ⟨z0, b, z1, z2, z3, z4, z5⟩
      · exact .inl ⟨x, z1, RP.keep (Keeps.own hf) _ _ z2⟩
      · subst z1
        have hb := ho b z3 fun hr hv => pk.ne 0 (k + 1) d e _ (by omega) rfl (by simpa using e1) hr z0 rfl (by rw [hv]; simpa using e2)
        exact .inr ⟨z0, b, rfl, z2.reroot hf hb (root_owned z0).1 (root_owned z0).2, hb, z4, z5⟩, fun k l e1 e2 u hkl h1 h2 r1 r2 h3 => by
      have := pk.ne (k + 1) (l + 1) e1 e2 u (by omega) (by simpa using h1) (by simpa using h2) r1 r2 (by simpa using h3)
      simpa using this⟩
    rcases pk.el 0 d v rfl rfl with ⟨x, z1, z2⟩ | ⟨z0, a, z1, z2, z3, z4, z5⟩
    · subst z1
      obtain ⟨ω', h1, h2⟩ := set_all (is := is) (fun j hj => hio j (List.mem_cons_of_mem _ hj)) (by simpa using hl) s (st.setP hi z2) (tail ω (fun _ h => h) fun _ h _ => h)
      exact ⟨ω', h1, h2⟩
    · subst z1
      let ω1 : Om := fun b => if b = a then .at i else if ω b = .at i then .free else ω b
      have hf : ∀ b, ω b = .free → ω1 b = .free := fun b h => by
        show (if b = a then Own.at i else if ω b = .at i then .free else ω b) = _
        rw [if_neg (by rintro rfl; rw [z3] at h; cases h), if_neg (by rw [h]; intro z; cases z)]; exact h
      have hoth : ∀ b w, ω b = w → w ≠ .at i → b ≠ a → ω1 b = w := fun b w h hw hb => by
        show (if b = a then Own.at i else if ω b = .at i then .free else ω b) = _
        rw [if_neg hb, if_neg (by rw [h]; exact hw)]; exact h
      have ha : ω1 a = .at i := by show (if a = a then _ else _) = _; rw [if_pos rfl]
      have s1 : Step ω0 H0 ω1 H := ⟨s.fr, s.ot, fun b h => hoth b .out (s.out b h) (by intro z; cases z) (by rintro rfl; exact z4 h), fun b h t => hf b (s.fz b h t), s.th, fun b q h => hoth b _ (s.tb b q h) (by intro z; cases z) (by rintro rfl; have := s.tb _ q h; rw [z3] at this; cases this)⟩
      have st1 : Sta g ω1 H (σD.set i (some d)) (σ.set i (some (.ref a))) := ⟨by rw [List.length_set, List.length_set]; exact st.len, fun j d' e => by
        rcases set_get e with ⟨e1, e2, e3⟩ | ⟨e1, e2⟩
        · subst e1
          cases e2
          exact ⟨_, set_lt (by rw [← st.len]; exact e3), z2.reroot hf ha (root_owned z0).1 (root_owned z0).2⟩
        · rw [List.getElem?_set_ne e1]
          obtain ⟨v', e4, r'⟩ := st.rd j d' e2
          exact ⟨v', e4, r'.own hf fun b h => hoth b _ h (by intro z; cases z; exact e1 rfl) (by rintro rfl; rw [z3] at h; cases h)⟩, fun j w hj hw => by
        rw [List.getElem?_set_ne (by rintro rfl; exact hi hj)]
        exact st.par j w hj hw, ⟨fun b h => st.dom.dom b fun e => h (hf b e), fun b q h => by
        have e0 : ω b = .tab q := by
          change (if b = a then Own.at i else if ω b = .at i then .free else ω b) = _ at h
          split at h
          · cases h
          · split at h
            · cases h
            · exact h
        exact (st.dom.tab b q e0).keep (fun _ _ h _ => .inl h) (fun c h _ => hf c h) (fun _ h => h), fun n b h => hoth b _ (st.dom.tbs n b h) (by intro z; cases z) (by rintro rfl; have := st.dom.tbs n _ h; rw [z3] at this; cases this)⟩⟩
      obtain ⟨ω', h1, h2⟩ := set_all (is := is) (fun j hj => hio j (List.mem_cons_of_mem _ hj)) (by simpa using hl) s1 st1 (tail ω1 hf fun b h hb => hoth b .out h (by intro z; cases z) (by rintro rfl; exact hb z0 rfl))
      exact ⟨ω', h1, h2⟩
theorem tM2 {m : M} {σ : L2.St} {H : Hp} {Q Q' : VK} (f : ∀ v H1, Q v H1 → Q' v H1) (h : tM g m σ H Q) : tM g m σ H Q' := by
  obtain ⟨ω, σD, st, q⟩ := h
  exact ⟨ω, σD, st, q.imp fun o σ1 ω1 H1 _ _ q1 v ov => f _ _ (q1 v ov)⟩
theorem tF2 {m : MF} {σ : L2.St} {H : Hp} {Q Q' : VK} (f : ∀ v H1, Q v H1 → Q' v H1) (h : tF g m σ H Q) : tF g m σ H Q' := by
  obtain ⟨ω, σD, st, q⟩ := h
  exact ⟨ω, σD, st, q.imp fun o σ1 ω1 H1 _ _ q1 v ov => f _ _ (q1 v ov)⟩
def mPar (is : List Nat) (ms : List ME) : MS := fun σ => (mEach ms σ).toS fun ds σ1 => if is.length = ds.length then .next (setAll is ds σ1) else .stuck
theorem par_core {is : List Nat} {ms : List ME} {σ : L2.St} {H : Hp} {D : Ends} (hio : ∀ i ∈ is, i ∉ g.io) (h : tS g (mPar is ms) D σ H) : tMEs g ms σ H fun vs H1 => D.nx (setAllV is vs σ) H1 := by
  obtain ⟨ω, σD, st, q⟩ := h
  refine each_run (ds0 := []) (vs0 := []) st .refl ⟨rfl, fun k d v e => (by simp at e), fun k l d e v _ e1 => (by simp at e1)⟩ ?_
  unfold mPar at q
  cases em : mEach ms σD with
  | stuck => rw [em] at q; exact q.elim
  | exc c ns vs σ1 => rw [em] at q; exact fun ω1 H1 C d s1 st1 x => q ω1 H1 σ C d s1 st1 x
  | ok ds σ1 =>
    rw [em, R.toS_ok] at q
    intro ω1 H1 s1 st1 vs sA pA
    by_cases hl : is.length = ds.length
    · rw [if_pos hl] at q
      obtain ⟨ω', h1, h2⟩ := set_all (ω0 := ω) (H0 := H) hio hl sA st1 pA
      exact q ω' H1 _ h1 h2
    · rw [if_neg hl] at q
      exact q.elim
theorem ds_par {i j : Nat} {a b : ME} {st : Stmt} (hs : PS X st (tPar i j (tMEs g [a, b]))) (hi : i ∉ g.io) (hj : j ∉ g.io) : PS X st (tS g (mPar [i, j] [a, b])) := ps_weak hs fun D σ H h => by
  have q := par_core (by intro k hk; simp at hk; rcases hk with rfl | rfl <;> assumption) h
  have fin : ∀ (vs : List V) (H1 : Hp), D.nx (setAllV [i, j] vs σ) H1 → vs.length = 2 → ∃ v w, vs = [v, w] ∧ D.nx ((σ.set i (some v)).set j (some w)) H1 := fun vs H1 z hl => by
    match vs, hl with
    | [v, w], _ => exact ⟨v, w, rfl, z⟩
  cases a with
  | m ma =>
    cases b with
    | m mb => exact tM2 (fun x H1 => tM2 (fun y H2 z => fin _ _ z rfl) ) q
    | f mb => exact tM2 (fun x H1 => tF2 (fun y H2 z => fin _ _ z rfl)) q
  | f ma =>
    cases b with
    | m mb => exact tF2 (fun x H1 => tM2 (fun y H2 z => fin _ _ z rfl)) q
    | f mb => exact tF2 (fun x H1 => tF2 (fun y H2 z => fin _ _ z rfl)) q
end
end PV

set_option Elab.async false
set_option linter.all false
set_option maxRecDepth 100000
set_option maxHeartbeats 4000000
/-! PvO: sorted, of numbers, texts, tuples of numbers; of lists, tuples, dicts. -/

namespace PV
open PySem PySem.Spec PyProof.Rows L2

/-! ### rows of numbers, in order -/
def leL (a b : List Int) : Bool := decide (¬ b < a)
theorem leL_total (a b : List Int) : (leL a b || leL b a) = true := by
  unfold leL
  by_cases h : b < a
  · have := List.lt_asymm h
    simp [this]
  · simp [h]
theorem leL_trans (a b c : List Int) (h1 : leL a b = true) (h2 : leL b c = true) : leL a c = true := by
  unfold leL at *
  simp only [decide_eq_true_eq] at *
  exact List.not_lt.mpr (List.le_trans (List.not_lt.mp h1) (List.not_lt.mp h2))
theorem leL_anti {a b : List Int} (h1 : leL a b = true) (h2 : leL b a = true) : a = b := by
  unfold leL at *
  simp only [decide_eq_true_eq] at *
  exact List.le_antisymm (List.not_lt.mp h1) (List.not_lt.mp h2)
theorem swo_leL {α : Type} (k : α → List Int) : SrtO.Swo fun v u => decide (k v < k u) := by
  refine ⟨fun x y h => ?_, fun x y z h1 h2 => ?_⟩
  · have a := of_decide_eq_true h
    exact decide_eq_false (List.lt_asymm a)
  · have a := of_decide_eq_false h1
    have b := of_decide_eq_false h2
    refine decide_eq_false ?_
    exact List.not_lt.mpr (List.le_trans (List.not_lt.mp a) (List.not_lt.mp b))

/-! ### what is sorted -/
def Str.nums (x : Str) : List Int := x.cps.toList.map Int.ofNat
theorem nums_lt (a b : List Nat) : a.map Int.ofNat < b.map Int.ofNat ↔ a < b := by
  induction a generalizing b with
  | nil =>
    cases b with
    | nil => simp
    | cons y b => simp
  | cons x a ih =>
    cases b with
    | nil => simp
    | cons y b =>
      rw [List.map_cons, List.map_cons, List.cons_lt_cons_iff, List.cons_lt_cons_iff, ih]
      have h1 : (Int.ofNat x < Int.ofNat y) ↔ x < y := by simp
      have h2 : (Int.ofNat x = Int.ofNat y) ↔ x = y := ⟨Int.ofNat.inj, congrArg _⟩
      rw [h1, h2]
def intP : P → Option Int
  | .int i => some i
  | _ => none
def allI : List P → Option (List Int)
  | [] => some []
  | x :: xs => (intP x).bind fun i => (allI xs).map fun is => i :: is
theorem allI_map (ns : List Int) : allI (ns.map P.int) = some ns := by
  induction ns with
  | nil => rfl
  | cons n ns ih => simp [allI, intP, ih]
theorem allI_some : ∀ {xs : List P} {ns : List Int}, allI xs = some ns → xs = ns.map P.int
  | [], ns, h => by cases h; rfl
  | x :: xs, ns, h => by
    simp only [allI] at h
    obtain ⟨i, e1, e2⟩ := Option.bind_eq_some_iff.mp h
    obtain ⟨is, e3, rfl⟩ := Option.map_eq_some_iff.mp e2
    cases x <;> first | (cases e1; done) | skip
    cases e1
    rw [allI_some e3]; rfl
def keyL : P → List Int
  | .int i => [i]
  | .str x => Str.nums x
  | .tup xs => (allI xs).getD []
  | _ => []
inductive Kd where
  | i | s | t
  deriving DecidableEq
def kdOf : P → Option Kd
  | .int _ => some .i
  | .str _ => some .s
  | .tup xs => match allI xs with
    | some (_ :: _) => some .t
    | _ => none
  | _ => none
/-- all of one kind, or not more than one -/
def kinded (xs : List P) : Bool := decide (xs.length < 2) || [Kd.i, Kd.s, Kd.t].any fun k => xs.all fun x => decide (kdOf x = some k)
def leP (x y : P) : Bool := leL (keyL x) (keyL y)
def sortP (xs : List P) : List P := xs.mergeSort leP
theorem sortP_perm (xs : List P) : (sortP xs).Perm xs := List.mergeSort_perm _ _
theorem sortP_sorted (xs : List P) : (sortP xs).Pairwise fun x y => leP x y = true :=
  List.pairwise_mergeSort (le := leP) (fun a b c h1 h2 => leL_trans _ _ _ h1 h2) (fun a b => leL_total _ _) xs
/-- same kind, same numbers: the same thing -/
theorem kd_inj {k : Kd} {x y : P} (hx : kdOf x = some k) (hy : kdOf y = some k) (h : keyL x = keyL y) : x = y := by
  cases k with
  | i =>
    cases x <;> first | (cases hx; done) | skip
    · cases y <;> first | (cases hy; done) | skip
      · simp only [keyL, List.cons.injEq, and_true] at h; rw [h]
      · simp only [kdOf] at hy; split at hy <;> cases hy
    · simp only [kdOf] at hx; split at hx <;> cases hx
  | s =>
    cases x <;> first | (cases hx; done) | skip
    · cases y <;> first | (cases hy; done) | skip
      · simp only [keyL, Str.nums] at h
        have h2 := List.map_inj_right (fun a b e => Int.ofNat.inj e) |>.mp h
        rename_i a b
        cases a; cases b
        congr 2
        simpa using congrArg List.toArray h2
      · simp only [kdOf] at hy; split at hy <;> cases hy
    · simp only [kdOf] at hx; split at hx <;> cases hx
  | t =>
    cases x <;> first | (cases hx; done) | skip
    cases y <;> first | (cases hy; done) | skip
    rename_i xs ys
    simp only [kdOf] at hx hy
    cases e1 : allI xs with
    | none => rw [e1] at hx; cases hx
    | some ns =>
      cases e2 : allI ys with
      | none => rw [e2] at hy; cases hy
      | some ms =>
        simp only [keyL, e1, e2, Option.getD_some] at h
        rw [allI_some e1, allI_some e2, h]
theorem sortP_uniq {k : Kd} {xs ys : List P} (hx : ∀ x ∈ xs, kdOf x = some k) (hp : ys.Perm xs) (hs : ys.Pairwise fun x y => leP x y = true) : ys = sortP xs := by
  refine List.Perm.eq_of_pairwise (le := fun x y => leP x y = true) (fun a b ha hb h1 h2 => ?_) hs (sortP_sorted xs) (hp.trans (sortP_perm xs).symm)
  exact kd_inj (hx a (hp.mem_iff.mp ha)) (hx b ((sortP_perm xs).mem_iff.mp hb)) (leL_anti h1 h2)
theorem sortP_short {xs : List P} (h : xs.length < 2) : sortP xs = xs := by
  match xs, h with
  | [], _ => exact List.mergeSort_nil
  | [x], _ => exact List.mergeSort_singleton x
  | _ :: _ :: _, h => simp at h; omega

/-! ### at values -/
def ivI : Value → Int
  | .int i _ => i
  | _ => 0
def intsAt (h : Heap) (a : Addr) : List Int := match h.get? a with
  | some o => (match o.data with
    | .seq xs _ => xs.toList.map ivI
    | _ => [])
  | none => []
def keyV (h : Heap) : Value → List Int
  | .int i _ => [i]
  | .str x _ => Str.nums x
  | .ref a => intsAt h a
  | _ => []
/-- at v stands a value of this kind -/
def KdV (h : Heap) (k : Kd) (v : Value) : Prop := match k with
  | .i => ∃ i t, v = .int i t
  | .s => ∃ x t, v = .str x t
  | .t => ∃ a o xs n ns, v = .ref a ∧ h.get? a = some o ∧ o.cls = .type "tuple" ∧ o.data = .seq xs n ∧ IntsAre xs.toList ns ∧ ns ≠ []
theorem intsAre_iv : ∀ {vs : List Value} {ns : List Int}, IntsAre vs ns → vs.map ivI = ns
  | _, _, .nil => rfl
  | _, _, .cons n t r => congrArg (n :: ·) (intsAre_iv r)
theorem KdV.keep {h h' : Heap} {k : Kd} {v : Value} (d : KdV h k v) (kp : ∀ b o, h.get? b = some o → o.cls = .type "tuple" → h'.get? b = some o) : KdV h' k v ∧ keyV h' v = keyV h v := by
  cases k with
  | i => obtain ⟨i, t, rfl⟩ := d; exact ⟨⟨i, t, rfl⟩, rfl⟩
  | s => obtain ⟨i, t, rfl⟩ := d; exact ⟨⟨i, t, rfl⟩, rfl⟩
  | t =>
    obtain ⟨a, o, xs, n, ns, rfl, ho, hc, hd, hi, hn⟩ := d
    have ho' := kp a o ho hc
    refine ⟨⟨a, o, xs, n, ns, rfl, ho', hc, hd, hi, hn⟩, ?_⟩
    simp only [keyV, intsAt, ho, ho']
section
variable {prog : Program} {w : World} {A : Around} {E : Value → Shared → Prop} {s : Shared}
theorem kat_intsL {b fin : Bool} {Q : Bool → Shared → Prop} : ∀ {xs ys : List Value} {ns ms : List Int} (i : Nat), IntsAre xs ns → IntsAre ys ms → fin = decide (ns.length < ms.length) → Q (decide (ns < ms)) s → PySem.W.KatLex prog w A b fin Q (xs.zip ys) i s
  | _, _, _, _, i, .nil, .nil, e, q => by
    subst e
    exact PySem.W.kat_nil (by simpa using q)
  | _, _, _, _, i, .nil, .cons m u r, e, q => by
    subst e
    exact PySem.W.kat_nil (by simpa using q)
  | _, _, _, _, i, .cons n t l, .nil, e, q => by
    subst e
    exact PySem.W.kat_nil (by simpa using q)
  | _, _, _, _, i, .cons n t l, .cons m u r, e, q => by
    refine PySem.W.kat_cons (SeqAt.EqAt.int_int n t m u prog w _ _ ?_)
    refine PySem.W.kat_go (fun e1 => ?_) (fun e1 => ?_)
    · have ex : n = m := by simpa using e1
      subst ex
      refine PySem.W.kat_yes (kat_intsL (i + 1) l r (by rw [e]; simp) ?_)
      simpa [List.cons_lt_cons_iff] using q
    · have ex : ¬ n = m := by simpa using e1
      refine PySem.W.kat_no (TS.oneLt_ints _ ?_)
      simpa [List.cons_lt_cons_iff, ex] using q
theorem kd_cmp {h0 : Heap} {k : Kd} {vs : List Value} (hk : ∀ v ∈ vs, KdV s.heap k v ∧ keyV s.heap v = keyV h0 v) : SrtO.Cmp prog w A s (match k with | .t => tuples' true | _ => oneType') (fun p => p.1 ∈ vs) (SrtO.lt2 fun v u => decide (keyV h0 v < keyV h0 u)) := by
  intro p q hm hm'
  obtain ⟨h1, z1⟩ := hk _ hm
  obtain ⟨h2, z2⟩ := hk _ hm'
  show wpAny (model prog w) A (keyLt' _ p.1 q.1) (fun r s' => s' = s ∧ r = decide (keyV h0 p.1 < keyV h0 q.1)) (fun _ _ => False) s
  rw [← z1, ← z2]
  cases k with
  | i =>
    obtain ⟨i, t, e⟩ := h1
    obtain ⟨j, u, e'⟩ := h2
    rw [e, e', keyLt'_oneType]
    refine oneLt_int ⟨rfl, ?_⟩
    simp [keyV, List.cons_lt_cons_iff]
  | s =>
    obtain ⟨i, t, e⟩ := h1
    obtain ⟨j, u, e'⟩ := h2
    rw [e, e', keyLt'_oneType]
    refine oneLt_str ⟨rfl, ?_⟩
    simp only [keyV, Str.nums, nums_lt]
  | t =>
    obtain ⟨a, o, xs, n, ns, e, ho, hc, hd, hi, hn⟩ := h1
    obtain ⟨a', o', xs', n', ns', e', ho', hc', hd', hi', hn'⟩ := h2
    rw [e, e']
    refine PySem.W.kat_lt ho hd ho' hd' (kat_intsL 0 hi hi' ?_ ⟨rfl, ?_⟩)
    · have l1 : xs.size = ns.length := by rw [← intsAre_iv hi]; simp
      have l2 : xs'.size = ns'.length := by rw [← intsAre_iv hi']; simp
      rw [l1, l2]
    · simp only [keyV, intsAt, ho, ho', hd, hd', intsAre_iv hi, intsAre_iv hi']
theorem kd_firsts {h : Heap} : ∀ {vs : List Value}, (∀ v ∈ vs, KdV h .t v) → ∃ fs, PySem.W.KatTups h vs fs ∧ fs.length = vs.length ∧ ∀ f ∈ fs, ∃ i t, f = Value.int i t
  | [], _ => ⟨[], PySem.W.KatTups.nil, rfl, fun f hf => absurd hf (by simp)⟩
  | v :: vs, hk => by
    obtain ⟨fs, h1, h2, h3⟩ := kd_firsts fun u hu => hk u (List.mem_cons_of_mem _ hu)
    obtain ⟨a, o, xs, n, ns, rfl, ho, hc, hd, hi, hn⟩ := hk v List.mem_cons_self
    cases hxs : xs.toList with
    | nil => rw [hxs] at hi; cases hi; exact absurd rfl hn
    | cons f r =>
      rw [hxs] at hi
      cases hi with
      | cons i t hr =>
        refine ⟨.int i t :: fs, PySem.W.KatTups.cons ho hc hd (by rw [← Array.getElem?_toList, hxs]; rfl) h1, by simp [h2], fun f hf => ?_⟩
        rcases List.mem_cons.mp hf with rfl | hf
        · exact ⟨i, t, rfl⟩
        · exact h3 f hf
theorem intsAre_of : ∀ {vs : List Value}, (∀ v ∈ vs, ∃ i t, v = Value.int i t) → ∃ ns, IntsAre vs ns
  | [], _ => ⟨[], .nil⟩
  | v :: vs, h => by
    obtain ⟨i, t, rfl⟩ := h v List.mem_cons_self
    obtain ⟨ns, r⟩ := intsAre_of fun u hu => h u (List.mem_cons_of_mem _ hu)
    exact ⟨_, .cons i t r⟩
theorem strsAre_of' : ∀ {vs : List Value}, (∀ v ∈ vs, ∃ i t, v = Value.str i t) → ∃ ns, StrsAre vs ns
  | [], _ => ⟨[], .nil⟩
  | v :: vs, h => by
    obtain ⟨i, t, rfl⟩ := h v List.mem_cons_self
    obtain ⟨ns, r⟩ := strsAre_of' fun u hu => h u (List.mem_cons_of_mem _ hu)
    exact ⟨_, .cons i t r⟩
theorem kd_sortable {a : Addr} {k : Kd} {vs : List Value} (h2 : 2 ≤ vs.length) (hk : ∀ v ∈ vs, KdV s.heap k v) (ha : ∀ o, s.heap.get? a = some o → o.cls ≠ .type "tuple") : SrtO.SortableO prog w A s a vs fun v u => decide (keyV s.heap v < keyV s.heap u) := by
  intro h' keep
  have hk' : ∀ v ∈ vs, KdV h' k v ∧ keyV h' v = keyV s.heap v := fun v hm => (hk v hm).keep fun b o e c => keep b o (fun z => by subst z; exact ha o e c) e
  refine ⟨_, fun Q E hq => ?_, kd_cmp hk'⟩
  match vs, h2 with
  | [], h => exact absurd h (by decide)
  | [v], h => exact absurd h (by simp)
  | v1 :: v2 :: rest, _ =>
    cases k with
    | i =>
      obtain ⟨ns, hI⟩ := intsAre_of fun v hv => (hk' v hv).1
      rw [keyKind_ints hI]
      exact wpAny_pure hq
    | s =>
      obtain ⟨ns, hI⟩ := strsAre_of' fun v hv => (hk' v hv).1
      rw [keyKind_strs hI]
      exact wpAny_pure hq
    | t =>
      obtain ⟨fs, h1, h2, h3⟩ := kd_firsts fun v hv => (hk' v hv).1
      refine PySem.W.kat_kind (T := .type "int") h1 (by rw [h2]; simp) (fun f hm => ?_) (by rfl) ?_
      · obtain ⟨x, t, rfl⟩ := h3 f hm
        exact PySem.W.Looks.now
      · have e : (Value.type "int" != Value.type "tuple") = true := by first | decide +kernel | rfl | decide
        rw [e]
        exact hq
/-- sorted(v): what v yields, sorted -/
theorem sorted_coll {v : Value} {C : List Value → Prop} {Q : Value → Shared → Prop}
    (hc : ∀ (R : List Value → Shared → Prop), (∀ its h' tk, C its → its.length ≤ sizeLine → (∀ b o, s.heap.get? b = some o → h'.get? b = some o) → R its { s with heap := h', toks := tk }) → wpAny (model prog w) A.in1 (collect v) R E s)
    (hk : ∀ its, C its → 2 ≤ its.length → ∃ k, ∀ u ∈ its, KdV s.heap k u)
    (h : ∀ (its : List Value) (h1 h' : Heap) (tk : Nat) (out : List Value) (n : Nat), C its → (∀ b o, s.heap.get? b = some o → h1.get? b = some o) → (∀ b o, h1.get? b = some o → h'.get? b = some o) → h'.get? h1.objs.size = some (seqObj "list" out.toArray n) → out.length ≤ sizeLine → out.Perm its → out.Pairwise (fun x y => ¬ keyV s.heap y < keyV s.heap x) → Q (.ref h1.objs.size) { s with heap := h', toks := tk }) :
    wpAny (model prog w) A (call (.builtin "sorted") [v]) Q E s := by
  refine Calls.call_function_entry kind_sorted plain_sorted entry_sorted (args_sorted1 _) ?_
  unfold Builtin.«sorted»
  refine wpAny_bind (m := checkCount "sorted" 1 1 _) (wpAny_pure ?_)
  refine wpAny_bind (hc _ fun its h' tk hC hz kp => ?_)
  refine wpAny_bind (wpAny_newList ?_ hz)
  have hoL : (h'.push (seqObj "list" its.toArray 0)).get? h'.objs.size = some (seqObj "list" its.toArray 0) := Heap.get?_push_size _ rfl
  have kp2 : ∀ b o, s.heap.get? b = some o → (h'.push (seqObj "list" its.toArray 0)).get? b = some o := fun b o e => Heap.get?_push_of_some _ (kp b o e)
  show wpAny _ _ _ _ _ { s with heap := h'.push (seqObj "list" its.toArray 0), toks := tk }
  have main : ∀ (out : List Value), out.Perm its → out.Pairwise (fun x y => ¬ keyV s.heap y < keyV s.heap x) → Q (.ref h'.objs.size) { s with heap := sortedHeap (h'.push (seqObj "list" its.toArray 0)) h'.objs.size its out.toArray, toks := tk } := fun out hp hs => by
    obtain ⟨e', he'⟩ := sortedHeap_at (out := out.toArray) hoL
    refine h its h' _ tk out e' hC kp (fun b o e => ?_) he' (by rw [hp.length_eq]; exact hz) hp hs
    have hb : b < h'.objs.size := Heap.lt_size e
    rw [sortedHeap_old (Nat.ne_of_lt hb) (by rw [size_push']; exact Nat.lt_succ_of_lt hb)]
    exact Heap.get?_push_of_some _ e
  have hkk : ∀ k, (∀ u ∈ its, KdV s.heap k u) → ∀ u ∈ its, KdV (h'.push (seqObj "list" its.toArray 0)) k u ∧ keyV (h'.push (seqObj "list" its.toArray 0)) u = keyV s.heap u := fun k q u hu => (q u hu).keep fun b o e _ => kp2 b o e
  refine wpAny_bind (wpAny_holding (wpAny_call_entry slot_list_sort ⟨_, hoL, rfl⟩ entry_list_sort
    (SrtO.list_sort_ord (s := { s with heap := h'.push (seqObj "list" its.toArray 0), toks := tk }) (swo_leL (keyV (h'.push (seqObj "list" its.toArray 0)))) hoL hz (fun h2 => ?_) fun out hs hb => ⟨_, rfl, wpAny_pure ⟨_, rfl, main out hb.perm ?_⟩⟩) (args_list_sort _)))
  · obtain ⟨k, q⟩ := hk its hC h2
    exact kd_sortable (s := { s with heap := h'.push (seqObj "list" its.toArray 0), toks := tk }) h2 (fun v hv => (hkk k q v hv).1) fun o e => by
      have e' : some o = some (seqObj "list" its.toArray 0) := e.symm.trans hoL
      cases e'
      intro c
      exact absurd (Value.type.inj c) (by decide)
  · by_cases h2 : 2 ≤ its.length
    · obtain ⟨k, q⟩ := hk its hC h2
      refine hs.imp_of_mem fun {x y} hx hy hlt => ?_
      rw [← (hkk k q x (hb.perm.mem_iff.mp hx)).2, ← (hkk k q y (hb.perm.mem_iff.mp hy)).2]
      exact of_decide_eq_false hlt
    · have hl := hb.perm.length_eq
      match out, hl with
      | [], _ => exact List.Pairwise.nil
      | [x], _ => exact List.pairwise_singleton _ _
      | _ :: _ :: _, hl => simp at hl; omega
end

/-! ### what is walked to the end at once: a list, a tuple, a dict's keys -/
/-- at a stand some V's that P says, to be read from the left -/
def Src (K : PySem.W.Frag) (H : Hp) (a : Addr) (P : List V → Prop) : Prop := (∃ xs, (SqL K H a xs ∨ SqT K H a xs) ∧ P xs) ∨ (∃ kvs, Rd H a (.dK kvs) ∧ P (kvs.map fun kv => kV kv.1)) ∨ ∃ kvs, Rd H a (.dT kvs) ∧ ∀ bs, IsKeys H kvs bs → P (bs.map V.ref)
theorem src_collect {X : Cx} {pins : List (Addr × Obj)} {σ : L2.St} {H : Hp} {s : Shared} {a : Addr} {P : List V → Prop} (hcalm : X.calm = true) (I : L2.Inv X pins σ H s) (h : Src X.K H a P) {E : Value → Shared → Prop} (R : List Value → Shared → Prop)
    (q : ∀ its h' tk, (∃ xs, P xs ∧ Vals xs its) → its.length ≤ sizeLine → (∀ b o, s.heap.get? b = some o → h'.get? b = some o) → R its { s with heap := h', toks := tk }) : wpAny (model X.prog X.w) X.A.in1 (collect (.ref a)) R E s := by
  rcases h with ⟨xs, h | h, hP⟩ | ⟨kvs, h, hP⟩ | ⟨kvs, h, hP⟩
  · obtain ⟨its, rv, p, hz⟩ := I.list h
    obtain ⟨o, ho, hc, n, hd⟩ := p.isList
    have hz' : its.length ≤ sizeLine := by rw [← rv.length]; exact hz
    exact wpAny_collect_seq a (.inl rfl) ho hc hd (fun h' kp => q its h' s.toks ⟨xs, hP, rv⟩ hz' kp) (by simpa using hz')
  · obtain ⟨its, rv, p, hz⟩ := I.tuple h
    obtain ⟨o, ho, hc, n, hd⟩ := p
    have hz' : its.length ≤ sizeLine := by rw [← rv.length]; exact hz
    exact wpAny_collect_seq a (.inr rfl) ho hc hd (fun h' kp => q its h' s.toks ⟨xs, hP, rv⟩ hz' kp) (by simpa using hz')
  · obtain ⟨z, lo, vs, rk, dd⟩ := dk_rd I.hok h
    obtain ⟨ep, hat⟩ := dd.dictAt
    have hl : kvs.length = vs.length := Paired.length rk
    refine PySem.W.kdu_collect (A := X.A.in1) (PySem.W.kdl_dict (knd := mixKind X.prog X.w) (kvs := vs) (ep := ep) lo) (I.ok.hd hcalm) hat (by omega) fun h' tk acc kp hacc => ?_
    have el : acc.toList.length = acc.size := by simp
    refine q _ h' tk ⟨_, hP, vals_of_at (by rw [List.length_map, el, hacc.1, hl]) fun j x w h1 h2 => ?_⟩ (by rw [el, hacc.1]; omega) kp
    obtain ⟨k, y, hky, hi⟩ := hacc.2 j w (by rw [← Array.getElem?_toList]; exact h2)
    have e1 : (kvs.map (·.1))[j]? = some k := by
      rw [KV.keys rk, List.getElem?_map, hky] <;> rfl
    have e2 : (kvs.map fun kv => kV kv.1)[j]? = some (kV k) := by
      have e3 : (kvs.map fun kv => kV kv.1) = (kvs.map (·.1)).map kV := by rw [List.map_map] <;> rfl
      rw [e3, List.getElem?_map, e1] <;> rfl
    rw [e2] at h1
    cases h1
    exact keyIs_rel hi
  · obtain ⟨z, hs, ks, pr, o, es, ep, ho, hx, hdt, he, hn⟩ := (show ObjOk X.prog X.w H s.heap a (.dT kvs) from h.ok I.hok)
    have l1 : es.size = ks.length := size_of_entries he
    have l2 : kvs.length = ks.length := Paired.length pr
    refine PySem.W.kdu_collect (A := X.A.in1) (kdl_raw hs hx hdt) (I.ok.hd hcalm) ho (by omega) fun h' tk acc kp it => ?_
    have ea : acc.toList = (ks.map fun x => x.2.1).map Value.ref := by
      apply List.ext_getElem?
      intro j
      rw [List.map_map, List.getElem?_map]
      have hl : acc.toList.length = ks.length := by rw [Array.length_toList, it.1]; exact l1
      cases hj : acc.toList[j]? with
      | none =>
        have h1 := List.getElem?_eq_none_iff.mp hj
        rw [List.getElem?_eq_none (by omega)]
        all_goals rfl
      | some v =>
        obtain ⟨en, hen, hv⟩ := it.2 j v (by rw [← Array.getElem?_toList]; exact hj)
        have qe := entry_at he j
        rw [hen] at qe
        cases hb : ks[j]? with
        | none =>
          rw [hb] at qe
          exact nomatch (show some en = none from qe)
        | some b =>
          rw [hb] at qe
          have e2 : en = entryOfKey (tupleKind (mixKind X.prog X.w)) b := Option.some.inj qe
          rw [hv, e2]
          all_goals rfl
    refine q _ h' tk ⟨_, hP _ (isKeys_of pr), by rw [ea]; exact vals_refs _⟩ (by rw [Array.length_toList, it.1]; omega) kp

/-! ### sorted as a rule -/
/-- a V of this kind, and its numbers -/
inductive KdH (H : Hp) : Kd → V → List Int → Prop
  | i (i : Int) : KdH H .i (.int i) [i]
  | s (x : Str) : KdH H .s (.str x) (Str.nums x)
  | t {a : Addr} {ns : List Int} : H a = some (.tup (ns.map V.int)) → ns ≠ [] → KdH H .t (.ref a) ns
theorem KdH.fn {H : Hp} {k : Kd} {v : V} {l m : List Int} (a : KdH H k v l) (b : KdH H k v m) : l = m := by
  cases a with
  | i => cases b; rfl
  | s => cases b; rfl
  | t h1 _ =>
    cases b with
    | t h2 _ =>
      rw [h1] at h2
      have h3 := HO.tup.inj (Option.some.inj h2)
      exact List.map_inj_right (fun a b e => by cases e; rfl) |>.mp h3
theorem KdH.raw {X : Cx} {pins : List (Addr × Obj)} {σ : L2.St} {H : Hp} {s : Shared} (I : L2.Inv X pins σ H s) {k : Kd} {v : V} {l : List Int} {u : Value} (h : KdH H k v l) (r : RelV v u) : KdV s.heap k u ∧ keyV s.heap u = l := by
  cases h with
  | i i => obtain ⟨t, rfl⟩ := r; exact ⟨⟨i, t, rfl⟩, rfl⟩
  | s i => obtain ⟨t, rfl⟩ := r; exact ⟨⟨i, t, rfl⟩, rfl⟩
  | @t a ns h1 h2 =>
    obtain rfl : u = .ref a := r
    obtain ⟨_, its, rv, o, ho, hc, n, hd⟩ := I.hok _ _ h1
    have hi : IntsAre its l := rv.ints
    refine ⟨⟨a, o, its.toArray, n, l, rfl, ho, hc, hd, by simpa using hi, h2⟩, ?_⟩
    simp only [keyV, intsAt, ho, hd]
    simpa using intsAre_iv hi
def bkA : Value → V
  | .int i _ => .int i
  | .str x _ => .str x
  | .ref a => .ref a
  | _ => .non
theorem bkA_ok {H : Hp} {k : Kd} {v : V} {l : List Int} {u : Value} (h : KdH H k v l) (r : RelV v u) : bkA u = v := by
  cases h with
  | i i => obtain ⟨t, rfl⟩ := r; rfl
  | s i => obtain ⟨t, rfl⟩ := r; rfl
  | t h1 h2 => cases r; rfl
theorem bkA_map {H : Hp} {k : Kd} : ∀ {xs : List V} {us : List Value}, (∀ x ∈ xs, ∃ l, KdH H k x l) → Vals xs us → us.map bkA = xs ∧ ∀ u ∈ us, RelV (bkA u) u ∧ bkA u ∈ xs
  | _, _, _, .nil => ⟨rfl, fun u hu => absurd hu (by simp)⟩
  | x :: xs, u :: us, h, .cons r t => by
    obtain ⟨l, hl⟩ := h x List.mem_cons_self
    obtain ⟨h1, h2⟩ := bkA_map (fun y hy => h y (List.mem_cons_of_mem _ hy)) t
    have e := bkA_ok hl r
    refine ⟨by rw [List.map_cons, e, h1], fun w hw => ?_⟩
    rcases List.mem_cons.mp hw with rfl | hw
    · rw [e]; exact ⟨r, List.mem_cons_self⟩
    · exact ⟨(h2 w hw).1, List.mem_cons_of_mem _ (h2 w hw).2⟩
theorem vals_bk : ∀ {us : List Value}, (∀ u ∈ us, RelV (bkA u) u) → Vals (us.map bkA) us
  | [], _ => .nil
  | u :: us, h => .cons (h u List.mem_cons_self) (vals_bk fun w hw => h w (List.mem_cons_of_mem _ hw))
def rSorted (K : PySem.W.Frag) : List V → Hp → VK → Prop := fun vs H Q => ∃ a, vs = [V.ref a] ∧ Src K H a fun xs => (2 ≤ xs.length → ∃ k, ∀ x ∈ xs, ∃ l, KdH H k x l) ∧
  ∀ ys p, ys.Perm xs → ys.Pairwise (fun x y => ∀ k l m, KdH H k x l → KdH H k y m → ¬ m < l) → H p = none → Q (.ref p) (upd H p (.lst ys))
theorem call_sortedA {X : Cx} (hcalm : X.calm = true) : CallR X (.builtin "sorted") (rSorted X.K) := by
  intro pins s σ H vs us Q I r h
  obtain ⟨a, rfl, hs⟩ := h
  obtain ⟨u, rfl, rx⟩ := vals1 r
  cases rx
  refine sorted_coll (fun R hq => src_collect hcalm I hs R hq) (fun its ⟨xs, ⟨hk, _⟩, rv⟩ h2 => ?_) fun its h1 h' tk out n ⟨xs, ⟨hk, q⟩, rv⟩ kp1 kp2 ho hz hp hw => ?_
  · obtain ⟨k, hk⟩ := hk (by rw [rv.length]; exact h2)
    refine ⟨k, fun u hu => ?_⟩
    obtain ⟨j, hj⟩ := List.mem_iff_getElem?.mp hu
    have hjl : j < xs.length := by rw [rv.length]; exact (List.getElem?_eq_some_iff.mp hj).1
    obtain ⟨l, hl⟩ := hk xs[j] (List.getElem_mem hjl)
    obtain ⟨u', e1, r1⟩ := rv.get (List.getElem?_eq_getElem hjl)
    rw [hj] at e1; cases e1
    exact (hl.raw I r1).1
  · have I1 : L2.Inv X pins σ H { s with heap := h1, toks := tk } := I.kept kp1
    have fin : ∀ ys : List V, ys.Perm xs → Vals ys out → ys.Pairwise (fun x y => ∀ k l m, KdH H k x l → KdH H k y m → ¬ m < l) → EP X pins σ Q (.ref h1.objs.size) { s with heap := h', toks := tk } := fun ys hperm rys hsorted => by
      refine ⟨.ref h1.objs.size, upd H h1.objs.size (.lst ys), I1.laid (t' := tk) kp2 (Nat.le_refl _) ⟨by rw [rys.length]; exact hz, out, n, rys, ho⟩, rfl, q ys _ hperm hsorted (I1.hok.fresh (Nat.le_refl _))⟩
    by_cases h2 : 2 ≤ xs.length
    · obtain ⟨k, hk⟩ := hk h2
      obtain ⟨e1, e2⟩ := bkA_map hk rv
      have e3 : ∀ u ∈ out, u ∈ its := fun u hu => hp.mem_iff.mp hu
      refine fin (out.map bkA) (by rw [← e1]; exact hp.map _) (vals_bk fun u hu => (e2 u (e3 u hu)).1) ?_
      rw [List.pairwise_map]
      refine hw.imp_of_mem fun {x y} hx hy hlt k l m hl hm => ?_
      rw [← (hl.raw I (e2 x (e3 x hx)).1).2, ← (hm.raw I (e2 y (e3 y hy)).1).2]
      exact hlt
    · have hl := rv.length
      have ho2 := hp.length_eq
      match xs, its, out, h2, hl, ho2 with
      | [], [], [], _, _, _ => exact fin [] (.refl _) .nil .nil
      | [x], [u], [w], _, _, _ =>
        have : w = u := by simpa using hp.mem_iff.mp (List.mem_singleton_self w)
        subst this
        exact fin [x] (.refl _) rv (List.pairwise_singleton _ _)
      | _ :: _ :: _, _, _, h2, _, _ => exact absurd (by simp) h2

/-! ### .. over data -/
def keyP : L2.Key → P
  | .inl i => .int i
  | .inr s => .str s
def tupP (k : List L2.Key) : P := .tup (k.map keyP)
section
variable {K : PySem.W.Frag} {cl : String → Option Addr} {H : Hp} {N : Addr → Prop}
theorem keyP_rp (k : L2.Key) : RP K cl H N (keyP k) (kV k) := by
  cases k with
  | inl i => exact .int i
  | inr s => exact .str s
theorem keysP_rp : ∀ ks : List L2.Key, RPs K cl H N (ks.map keyP) (ks.map kV)
  | [] => .nil
  | k :: ks => .cons (keyP_rp k) (keysP_rp ks)
theorem tupP_rps : ∀ {kvs : List (List L2.Key × V)} {bs : List Addr}, IsKeys H kvs bs → RPs K cl H N ((kvs.map (·.1)).map tupP) (bs.map V.ref)
  | _, _, .nil => .nil
  | _, _, .cons h t => .cons (.tup h (keysP_rp _)) (tupP_rps t)
theorem kdOf_H {k : Kd} {x : P} {v : V} (h : RP K cl H N x v) (e : kdOf x = some k) : KdH H k v (keyL x) := by
  cases x <;> first | (cases e; done) | skip
  · cases e; cases h; exact .i _
  · cases e; cases h; exact .s _
  · rename_i xs
    simp only [kdOf] at e
    cases h with
    | tup h1 h2 =>
      cases e1 : allI xs with
      | none => rw [e1] at e; cases e
      | some ns =>
        rw [e1] at e
        cases ns with
        | nil => cases e
        | cons n ns =>
          cases e
          obtain rfl := allI_some e1
          obtain rfl := RPs.ints h2
          have : keyL (.tup ((n :: ns).map P.int)) = n :: ns := by simp only [keyL, allI_map, Option.getD_some]
          rw [this]
          exact .t h1 (by simp)
def toPV (H : Hp) : V → P
  | .int i => .int i
  | .str s => .str s
  | .ref a => match H a with
    | some (.tup vs) => .tup (vs.map fun v => match v with | .int i => .int i | _ => .non)
    | _ => .non
  | _ => .non
theorem toPV_eq {k : Kd} {x : P} {v : V} (h : RP K cl H N x v) (e : kdOf x = some k) : toPV H v = x := by
  cases x <;> first | (cases e; done) | skip
  · cases h; rfl
  · cases h; rfl
  · rename_i xs
    simp only [kdOf] at e
    cases h with
    | tup h1 h2 =>
      cases e1 : allI xs with
      | none => rw [e1] at e; cases e
      | some ns =>
        obtain rfl := allI_some e1
        obtain rfl := RPs.ints h2
        simp only [toPV, h1, List.map_map]
        congr 1
theorem RPs.mem : ∀ {xs : List P} {vs : List V}, RPs K cl H N xs vs → ∀ v ∈ vs, ∃ x ∈ xs, RP K cl H N x v
  | _, _, .nil, v, h => absurd h (by simp)
  | _, _, .cons h t, v, hv => by
    rcases List.mem_cons.mp hv with rfl | hv
    · exact ⟨_, List.mem_cons_self, h⟩
    · obtain ⟨x, h1, h2⟩ := RPs.mem t v hv
      exact ⟨x, List.mem_cons_of_mem _ h1, h2⟩
theorem RPs.of_map {f : V → P} : ∀ {vs : List V}, (∀ v ∈ vs, RP K cl H N (f v) v) → RPs K cl H N (vs.map f) vs
  | [], _ => .nil
  | v :: vs, h => .cons (h v List.mem_cons_self) (RPs.of_map fun u hu => h u (List.mem_cons_of_mem _ hu))
theorem toPV_map {k : Kd} : ∀ {xs : List P} {vs : List V}, RPs K cl H N xs vs → (∀ x ∈ xs, kdOf x = some k) → vs.map (toPV H) = xs
  | _, _, .nil, _ => rfl
  | _, _, .cons h t, hk => by
    rw [List.map_cons, toPV_eq h (hk _ List.mem_cons_self), toPV_map t fun x hx => hk x (List.mem_cons_of_mem _ hx)]
theorem kinded_inv {xs : List P} (h : kinded xs = true) : xs.length < 2 ∨ ∃ k, ∀ x ∈ xs, kdOf x = some k := by
  unfold kinded at h
  rw [Bool.or_eq_true, decide_eq_true_eq, List.any_eq_true] at h
  rcases h with h | ⟨k, _, h⟩
  · exact .inl h
  · exact .inr ⟨k, fun x hx => by simpa using (List.all_eq_true.mp h) x hx⟩
theorem sorted_rps {xs : List P} {vs ys : List V} (r : RPs K cl H N xs vs) (hk : kinded xs = true) (hp : ys.Perm vs) (hs : ys.Pairwise (fun x y => ∀ k l m, KdH H k x l → KdH H k y m → ¬ m < l)) : RPs K cl H N (sortP xs) ys := by
  rcases kinded_inv hk with hk | ⟨k, hk⟩
  · rw [sortP_short hk]
    have hl := r.length
    have hl2 := hp.length_eq
    match xs, vs, ys, hk, hl, hl2 with
    | [], [], [], _, _, _ => exact .nil
    | [x], [v], [y], _, _, _ =>
      have : y = v := by simpa using hp.mem_iff.mp (List.mem_singleton_self y)
      subst this
      exact r
    | _ :: _ :: _, _, _, hk, _, _ => simp at hk; omega
  · have hy : ∀ y ∈ ys, ∃ x ∈ xs, RP K cl H N x y := fun y hy => r.mem y (hp.mem_iff.mp hy)
    have e : ys.map (toPV H) = sortP xs := by
      refine sortP_uniq hk (by rw [← toPV_map r hk]; exact hp.map _) ?_
      rw [List.pairwise_map]
      refine hs.imp_of_mem fun {a b} ha hb hlt => ?_
      obtain ⟨x, hx, rx⟩ := hy a ha
      obtain ⟨z, hz, rz⟩ := hy b hb
      rw [toPV_eq rx (hk x hx), toPV_eq rz (hk z hz)]
      exact decide_eq_true (hlt k _ _ (kdOf_H rx (hk x hx)) (kdOf_H rz (hk z hz)))
    rw [← e]
    refine RPs.of_map fun v hv => ?_
    obtain ⟨x, hx, rx⟩ := hy v hv
    rw [toPV_eq rx (hk x hx)]
    exact rx
/-- what a thing yields when it is read to its end -/
def itemsP : P → Option (List P)
  | .lst xs => some xs
  | .tup xs => some xs
  | .fz xs => some xs
  | .dK ks _ => some (ks.map keyP)
  | .dT ks _ => some (ks.map tupP)
  | _ => none
theorem itemsP_src {x : P} {v : V} {xs : List P} (h : RO K cl H N x v) (e : itemsP x = some xs) {Q : List V → Prop} (q : ∀ vs, RPs K cl H N xs vs → Q vs) : ∃ a, v = .ref a ∧ Src K H a Q := by
  cases x <;> first | (cases e; done) | skip
  · cases e
    obtain ⟨a, vs, rfl, h1, h2⟩ := h.tup_inv
    exact ⟨a, rfl, .inl ⟨vs, .inr (SqT.of h1), q vs h2⟩⟩
  · cases e
    obtain ⟨a, vs, rfl, h1, h2⟩ := h.lst_inv
    exact ⟨a, rfl, .inl ⟨vs, .inl (SqL.of h1), q vs h2⟩⟩
  · cases e
    obtain ⟨a, kvs, rfl, h1, h2, h3⟩ := h.dK_inv
    subst h2
    refine ⟨a, rfl, .inr (.inl ⟨kvs, h1, q _ ?_⟩)⟩
    rw [show (kvs.map fun kv => kV kv.1) = (kvs.map (·.1)).map kV by rw [List.map_map]; rfl]
    exact keysP_rp _
  · cases e
    obtain ⟨a, kvs, rfl, h1, h2, h3⟩ := h.dT_inv
    subst h2
    exact ⟨a, rfl, .inr (.inr ⟨kvs, h1, fun bs hb => q _ (tupP_rps hb)⟩)⟩
  · cases e
    obtain ⟨a, vs, rfl, h1, h2⟩ := h.fz_inv
    exact ⟨a, rfl, .inl ⟨vs, .inl h1, q vs h2⟩⟩
def pSorted : List P → Option (List P)
  | [x] => (itemsP x).bind fun xs => if kinded xs = true then some (sortP xs) else none
  | _ => none
end
theorem primL_sorted {K : PySem.W.Frag} {cl : String → Option Addr} : PrimL K cl (rSorted K) pSorted := by
  intro ω H xs zs vs Q dm hx e q
  match xs, e with
  | [x], e =>
    obtain ⟨ys, e1, e2⟩ := Option.bind_eq_some_iff.mp e
    split at e2
    · rename_i hk
      cases e2
      obtain ⟨v, rfl, hv⟩ := hx.one
      obtain ⟨a, rfl, hs⟩ := itemsP_src hv e1 (Q := fun us => (2 ≤ us.length → ∃ k, ∀ x ∈ us, ∃ l, KdH H k x l) ∧ ∀ ys p, ys.Perm us → ys.Pairwise (fun x y => ∀ k l m, KdH H k x l → KdH H k y m → ¬ m < l) → H p = none → Q (.ref p) (upd H p (.lst ys))) fun us r => by
        refine ⟨fun h2 => ?_, fun ws p h1 h2 h3 => q p ws h3 (sorted_rps r hk h1 h2)⟩
        rcases kinded_inv hk with hk | ⟨k, hk⟩
        · rw [r.length] at hk; omega
        · exact ⟨k, fun u hu => let ⟨x, hx, rx⟩ := r.mem u hu; ⟨_, kdOf_H rx (hk x hx)⟩⟩
      exact ⟨a, rfl, hs⟩
    · cases e2
end PV

set_option Elab.async false
set_option linter.all false
set_option maxRecDepth 100000
set_option maxHeartbeats 4000000
/-! PvP: dicts walked (locked for good), texts walked, enumerate, zip. -/

namespace PV
open PySem PySem.Spec PyProof.Rows L2

/-! ### a dict locked for good -/
def Lk (H : Hp) (d : Addr) (o : Obj) (u : HO) (H2 : Hp) : Prop := (H d = some (.frz o u) ∧ H2 = H) ∨ (H d = some u ∧ H2 = upd H d (.frz o u))
theorem Lk.at {H H2 : Hp} {d : Addr} {o : Obj} {u : HO} (h : Lk H d o u H2) : H2 d = some (.frz o u) := by
  rcases h with ⟨h, rfl⟩ | ⟨_, rfl⟩
  · exact h
  · exact upd_same
theorem inv_lk {X : Cx} {pins : List (Addr × Obj)} {σ : L2.St} {H : Hp} {s : Shared} {d : Addr} {u : HO} (I : L2.Inv X pins σ H s) (h : L2.Rd H d u) (mu : Mut (some u)) : ∃ o H2, Lk H d o u H2 ∧ L2.Inv X pins σ H2 s := by
  rcases h with h | ⟨o, h⟩
  · obtain ⟨o, I2⟩ := I.lock h mu
    exact ⟨o, _, .inr ⟨h, rfl⟩, I2⟩
  · exact ⟨o, H, .inl ⟨h, rfl⟩, I⟩
section
variable {g : G} {ω : Om} {H H2 : Hp} {σD : Env} {σ : L2.St}
theorem Lk.step {d : Addr} {o : Obj} {u : HO} (h : Lk H d o u H2) (hd : isD u = true) (hf : ω d = .free) (st : Sta g ω H σD σ) : Step ω H ω H2 ∧ Sta g ω H2 σD σ := by
  rcases h with ⟨h, rfl⟩ | ⟨h, rfl⟩
  · exact ⟨.refl, st⟩
  · have s : Step ω H ω (upd H d (.frz o u)) := ⟨fun a v e w => by
      by_cases ea : a = d
      · subst ea
        rw [h] at e; cases e
        exact .inr (.inl ⟨hd, o, upd_same⟩)
      · exact .inl (by rw [upd_ne ea]; exact e), fun a v e w _ => by
      rw [upd_ne (by rintro rfl; rw [hf] at w; cases w)]; exact e, fun _ h => h, fun _ h _ => h, fun a e => by
      by_cases ea : a = d
      · subst ea; rw [upd_same]; intro z; cases z
      · rw [upd_ne ea]; exact e, fun _ _ h => h⟩
    have ne : ∀ a, ω a ≠ .free → a ≠ d := fun a h e => h (by rw [e]; exact hf)
    refine ⟨s, ⟨st.len, fun i d' e => ?_, st.par, ⟨fun a e => ?_, fun a q e => (st.dom.tab a q e).keep s.fr s.fz (fun u h' => by rw [upd_ne (ne a (by rw [e]; intro z; cases z))]; exact h'), st.dom.tbs⟩⟩⟩
    · obtain ⟨v, e1, r⟩ := st.rd i d' e
      exact ⟨v, e1, r.keep2 (s.keeps st.dom) (fun b u' hb w _ => by rw [upd_ne (ne b (by rw [w]; intro z; cases z))]; exact hb) fun _ _ h => h⟩
    · obtain ⟨v, e1, t⟩ := st.dom.dom a e
      exact ⟨v, by rw [upd_ne (ne a e)]; exact e1, t⟩
end

/-! ### what a thing yields, walked -/
def iKeysL (td : TE) : TI := fun σ H R => td σ H fun x H1 => ∃ d, x = .ref d ∧ ((∃ kvs, L2.Rd H1 d (.dK kvs) ∧ ∀ o H2, Lk H1 d o (.dK kvs) H2 → R (Itk d o kvs) H2) ∨ ∃ kvs, L2.Rd H1 d (.dT kvs) ∧ ∀ o H2, Lk H1 d o (.dT kvs) H2 → R (Itkt d o kvs) H2)
def iVals' (td : TE) : TI := fun σ H R => td σ H fun x H1 => ∃ d kvs, x = .ref d ∧ L2.Rd H1 d (.dK kvs) ∧ ∀ o H2, Lk H1 d o (.dK kvs) H2 → R (Itd d o kvs) H2
def iItems' (td : TE) : TI := fun σ H R => td σ H fun x H1 => ∃ d kvs, x = .ref d ∧ L2.Rd H1 d (.dK kvs) ∧ ∀ o H2, Lk H1 d o (.dK kvs) H2 → R (Iti d o kvs) H2
section
variable {X : Cx} {tg e : Expr} {td : TE} {apos cpos : Pos}
theorem pi_keysL (he : PE X e td) : PI X tg e (iKeysL td) := ⟨fun pins s σ H R I h => thn (he.run pins s σ H _ I h) fun u s1 ⟨x, H1, I1, rx, d, ex, q⟩ => by
  subst ex
  cases rx
  rcases q with ⟨kvs, hd, q⟩ | ⟨kvs, hd, q⟩
  · obtain ⟨o, H2, lk, I2⟩ := inv_lk I1 hd trivial
    obtain ⟨hs, hgd, hx, es, ep, vs, hdt, hsz, kv, hm⟩ := I2.frzK lk.at
    refine iter_keys hs hgd hx hdt (pi_one (tk := s1.toks) I2 _ (turn_keys _ hdt) ⟨_, Heap.get?_push_size _ rfl, rfl, ?_⟩ (q o H2 lk))
    rw [hsz]; rfl
  · obtain ⟨o, H2, lk, I2⟩ := inv_lk I1 hd trivial
    obtain ⟨hs, hgd, hx, es, ep, hdt, hsz, ent⟩ := I2.frzT lk.at
    refine iter_keys hs hgd hx hdt (pi_one (tk := s1.toks) I2 _ (turn_keysT _ hdt) ⟨_, Heap.get?_push_size _ rfl, rfl, ?_⟩ (q o H2 lk))
    rw [hsz]; rfl⟩
end
def mKeysI (m : M) : MI := fun σ => (m σ).bind fun o σ1 => (frz o σ1).bind fun x σ2 => match x with
  | .dK ks _ => .ok (ks.map keyP) σ2
  | .dT ks _ => .ok (ks.map tupP) σ2
  | _ => .stuck
theorem yld_keys {K : PySem.W.Frag} {cl : String → Option Addr} {ω : Om} {H : Hp} {d : Addr} {o : Obj} {kvs : List (L2.Key × V)} (h : H d = some (.frz o (.dK kvs))) (hf : ω d = .free) : Yld K cl ω H (Itk d o kvs) ((kvs.map (·.1)).map keyP) := fun ω' H' s dm' => by
  have h1 := (s.fr d _ h hf).of rfl
  refine ⟨fun i hi => ⟨⟨h1, by simpa using hi⟩, fun x H3 y => ?_⟩, ⟨h1, by simp⟩⟩
  obtain ⟨rfl, k, v, e1, rfl⟩ := y
  exact ⟨.refl _, keyP k, by simp [e1], keyP_rp k⟩
theorem yld_keysT {K : PySem.W.Frag} {cl : String → Option Addr} {ω : Om} {H : Hp} {d : Addr} {o : Obj} {kvs : List (List L2.Key × V)} (h : H d = some (.frz o (.dT kvs))) (hf : ω d = .free) : Yld K cl ω H (Itkt d o kvs) ((kvs.map (·.1)).map tupP) := fun ω' H' s dm' => by
  have h1 := (s.fr d _ h hf).of rfl
  refine ⟨fun i hi => ⟨⟨h1, by simpa using hi⟩, fun x H3 y => ?_⟩, ⟨h1, by simp⟩⟩
  obtain ⟨rfl, k, v, q, e1, rfl, e2⟩ := y
  exact ⟨.refl _, tupP k, by simp [e1], .tup e2 (keysP_rp k)⟩
theorem di_keys {X : Cx} {g : G} {tg l : Expr} {m : M} (hl : PE X l (tM g m)) : PI X tg l (tI g (mKeysI m)) := pi_weak (pi_keysL hl) fun σ H R h => by
  obtain ⟨ω, σD, st, q⟩ := h
  refine ⟨ω, σD, st, q.bind.imp fun o σ1 ω1 H1 s1 st1 q1 v ov => ?_⟩
  obtain ⟨x, σ2, ω2, s2, st2, r, e2, q2⟩ := frz_ok st1 ov q1.bind
  cases x with
  | dK ks xs =>
    cases r with
    | @dK a kvs _ _ h1 h2 h0 h3 =>
      subst h0
      refine ⟨a, rfl, .inl ⟨kvs, h1, fun o H2 lk => ?_⟩⟩
      obtain ⟨s3, st3⟩ := lk.step rfl h2 st2
      exact (q2 ω2 H2 s3 st3) _ ω2 H2 .refl st3 (yld_keys lk.at h2)
  | dT ks xs =>
    cases r with
    | @dT a kvs _ _ h1 h2 h0 h3 =>
      subst h0
      refine ⟨a, rfl, .inr ⟨kvs, h1, fun o H2 lk => ?_⟩⟩
      obtain ⟨s3, st3⟩ := lk.step rfl h2 st2
      exact (q2 ω2 H2 s3 st3) _ ω2 H2 .refl st3 (yld_keysT lk.at h2)
  | _ => exact q2.elim

/-! ### enumerate -/
set_option maxHeartbeats 4000000 in
theorem meets_enum1 {v : Value} {o : Obj} {Hh : Heap → Prop} (B : Begins v o Hh) :
    Meets (Builtin.«enumerate.__new__» ⟨[.type "enumerate", v], []⟩) (fun _ R s => Hh s.heap ∧
      R (.ok (.ret (.ref (s.heap.push o).objs.size))) { s with heap := (s.heap.push o).push { cls := .type "enumerate", data := .fields #[.none, .bool false, .ref s.heap.objs.size, rawInt 0, .none, .none] } }) :=
  .of_wp fun prog w A R s h => by
    obtain ⟨hp, gg, d, tk, os⟩ := s; obtain ⟨h1, h⟩ := h
    have hsub := sub_enumerate
    have q1 : ∀ {A' : Around} {E : Value → Shared → Prop} {Q : Value → Shared → Prop}, Q (.ref hp.objs.size) ⟨hp.push o, gg, d, tk, os⟩ → wpAny (model prog w) A' (pyIter v) Q E ⟨hp, gg, d, tk, os⟩ :=
      fun q => B.iter prog w _ _ ⟨hp, gg, d, tk, os⟩ _ h1 q
    wp_walk using q1
    refine wpAny_stack_any fun st => wpAny_pure ?_
    split
    · rename_i c _ _ _ _ _
      cases (c == Value.type "enumerate")
      · wp_walk using q1
        exact ⟨_, rfl, h⟩
      · wp_walk using q1
        exact ⟨_, rfl, h⟩
    · wp_walk using q1
      exact ⟨_, rfl, h⟩
theorem call_enum1 {prog : Program} {w : World} {A : Around} {E : Value → Shared → Prop} {s : Shared} {v : Value} {o : Obj} {Hh : Heap → Prop} {Q : Value → Shared → Prop} (B : Begins v o Hh) (h1 : Hh s.heap)
    (h : ∀ h', IsEnum h' (s.heap.objs.size + 1) s.heap.objs.size 0 .none → h'.get? s.heap.objs.size = some o → (∀ b o, s.heap.get? b = some o → h'.get? b = some o) → Q (.ref (s.heap.objs.size + 1)) { s with heap := h' }) :
    wpAny (model prog w) A (call (.type "enumerate") [v]) Q E s := by
  refine callType_new F.called_enumerate (by decide) (F.typeCall_enumerate_1 _) (F.newCall_enumerate_1 _) (fun obj => F.args_object_init_2 obj _) F.entry_enumerate_new (meets_enum1 B) ⟨h1, ?_⟩
  have hz : (s.heap.push o).objs.size = s.heap.objs.size + 1 := Heap.size_push ..
  show _ ∧ _
  rw [hz]
  have he : IsEnum ((s.heap.push o).push { cls := .type "enumerate", data := .fields #[.none, .bool false, .ref s.heap.objs.size, rawInt 0, .none, .none] }) (s.heap.objs.size + 1) s.heap.objs.size 0 .none := by
    have := Heap.get?_push_size (s.heap.push o) (o := { cls := .type "enumerate", data := .fields #[.none, .bool false, .ref s.heap.objs.size, rawInt 0, .none, .none] }) rfl
    rw [hz] at this; exact this
  exact ⟨⟨_, he, rfl⟩, h _ he (Heap.get?_push_of_some _ (Heap.get?_push_size _ B.free)) fun b o' x => Heap.get?_push_of_some _ (Heap.get?_push_of_some _ x)⟩

/-- the tuple at a, each item in a new pair -/
def IteT (K : PySem.W.Frag) (a : Addr) : It :=
  ⟨fun i H => ∃ (xs : List V) (x : V), SqT K H a xs ∧ xs[i]? = some x, fun i H v H' => ∃ T x, v = .ref T ∧ H T = none ∧ H' = upd H T (.tup [.int (i : Nat), x]) ∧ ∀ xs, SqT K H a xs → xs[i]? = some x, fun i H => ∃ xs : List V, SqT K H a xs ∧ xs.length = i⟩
theorem turn_enumT {P : Program} {w : World} {K : PySem.W.Frag} {elts : List Expr} {kk : Nat} {tpos : Pos} (a e it : Addr) :
    Turn P w K (.Tuple elts kk tpos) (IteT K a) [e, it] e (fun i h => (∃ old, IsEnum h e it ((i : Nat) : Int) old) ∧ h.IsTupleIter it a i ∧ e ≠ it) where
  mem := by simp
  obj := fun i h st b hb => by
    obtain ⟨⟨old, he⟩, ⟨o, ho, hc, hd⟩, _⟩ := st
    rcases (by simpa using hb : b = e ∨ b = it) with z | z
    · subst z; exact ⟨_, he, fun v q => nomatch q⟩
    · subst z; exact ⟨o, ho, fun v q => by rw [hd] at q; cases q⟩
  keep := fun i h h' st k => by
    obtain ⟨⟨old, he⟩, hi, hne⟩ := st
    exact ⟨⟨old, k e (by simp) _ he⟩, hi.at fun o q => k it (by simp) o q, hne⟩
  item := by
    intro X hP hw hK hc i pins s σ H E I hf st hg
    subst hP hw hK
    obtain ⟨⟨old, he⟩, hit, hne⟩ := st
    obtain ⟨xs, x, hq, hx⟩ := hg
    obtain ⟨its, rv, p, hz⟩ := I.tuple hq
    obtain ⟨u, hu, ru⟩ := rv.get hx
    have hel : e < s.heap.objs.size := Heap.lt_size he
    obtain ⟨oi, hoi, hci, hdi⟩ := id hit
    have hil : it < s.heap.objs.size := Heap.lt_size hoi
    have pt : s.heap.IsTuple a its.toArray := p
    obtain ⟨oa, hoa, hca, _⟩ := id pt
    have hai : a ≠ it := by
      rintro rfl
      rw [hoi] at hoa; cases hoa
      rw [hci] at hca
      exact absurd (Value.type.inj hca) (by decide)
    have hae : e ≠ a := by
      rintro rfl
      have z : some _ = some oa := (show s.heap.get? e = _ from he).symm.trans hoa
      cases z
      exact absurd (Value.type.inj hca) (by decide)
    have hlt : i < its.toArray.size := by
      have := (List.getElem?_eq_some_iff.mp hu).1
      simpa using this
    refine wpAny_pyNext_enum_itemD (Draws.tuple (A := X.A.in1) (I.ok.hd hc) it a hai its.toArray) he ⟨hit, pt⟩ hlt hne (by simp [hne, hae]) fun y h' tk hy ho hit' hT hsz hk => ?_
    have ey : y = u := by
      have : its.toArray[i]? = some u := by simpa using hu
      rw [this] at hy; cases hy; rfl
    subst ey
    refine ⟨_, rfl, wpAny_letOwnedTupleGo_enum (s := { s with heap := h', toks := tk + 1 }) ho fun h'' he' sb => ?_⟩
    have hT2 : h''.get? s.heap.objs.size = some { cls := .type "tuple", data := .seq #[.int i tk, y] } := (sb.2 _ (Nat.ne_of_gt hel)).trans hT
    have new : ObjOk X.prog X.w (upd H s.heap.objs.size (.tup [.int (i : Nat), x])) h'' s.heap.objs.size (.tup [.int (i : Nat), x]) :=
      ⟨by show 2 ≤ sizeLine; decide, [.int i tk, y], .cons ⟨_, rfl⟩ (.cons ru .nil), ⟨_, hT2, rfl, _, rfl⟩⟩
    have I1 : L2.Inv X pins σ (upd H s.heap.objs.size (.tup [.int (i : Nat), x])) { s with heap := h'', toks := tk + 1 } :=
      I.turnedNew (ch := [e, it]) (fun b ob hb q => (sb.2 b (fun z => hb (by simp [z]))).trans (hk b ob (fun z => hb (by simp [z])) (fun z => hb (by simp [z])) q)) hf (Nat.le_refl _) new
    refine ⟨.ref s.heap.objs.size, _, I1, rfl, ⟨_, x, rfl, I.hok.fresh (Nat.le_refl _), rfl, fun ys hy => by rw [I.tuple_inj hy hq]; exact hx⟩, ⟨⟨y, ?_⟩, hit'.1.at fun o q => (sb.2 it (Ne.symm hne)).trans q, hne⟩, fun b hb => ?_⟩
    · have e1 : ((i + 1 : Nat) : Int) = (i : Int) + 1 := by omega
      rw [e1]; exact he'
    · have hb' : b < s.heap.objs.size := by
        rcases (by simpa using hb : b = e ∨ b = it) with z | z
        · rw [z]; exact hel
        · rw [z]; exact hil
      rw [upd_ne (Nat.ne_of_lt hb')]
      exact (hf b hb).1
  done := by
    intro X hP hw hK hc i pins s σ H E I hf st hg
    subst hP hw hK
    obtain ⟨⟨old, he⟩, hit, hne⟩ := st
    obtain ⟨xs, hq, hx⟩ := hg
    obtain ⟨its, rv, p, hz⟩ := I.tuple hq
    obtain ⟨f0, f1, f2, f3, f4, f5⟩ := hf it (by simp)
    have hl := rv.length
    obtain ⟨oi, hoi, hci, hdi⟩ := id hit
    have pt : s.heap.IsTuple a its.toArray := p
    obtain ⟨oa, hoa, hca, _⟩ := id pt
    have hai : a ≠ it := by
      rintro rfl
      rw [hoi] at hoa; cases hoa
      rw [hci] at hca
      exact absurd (Value.type.inj hca) (by decide)
    have ei : its.toArray.size = i := by simp; omega
    rw [← ei] at hit
    exact wpAny_pyNext_enum_endD (Draws.tuple (A := X.A.in1) (I.ok.hd hc) it a hai its.toArray) he ⟨hit, pt⟩ fun h' eb => ⟨rfl, I.turned (t' := s.toks) (fun b o hb q => eb b o hb q) f0 f1 f3 f4 f5⟩
  self := fun A i s Q E st h => by
    obtain ⟨⟨_, he⟩, _⟩ := st
    exact wpAny_pyIter_enum he h

def iEnum' (K : PySem.W.Frag) (ta : TA) : TI := fun σ H R => ta σ H fun vs H1 => ∃ a, vs = [.ref a] ∧ ((∃ xs, SqL K H1 a xs ∧ R (Ite K a) H1) ∨ (∃ xs, SqT K H1 a xs ∧ R (IteT K a) H1))
theorem pi_enumA {X : Cx} {e : Expr} {ta : TA} {p pos tpos : Pos} {elts : List Expr} {kk : Nat} (hg : Gl X "enumerate") (hm : X.mg "enumerate" = none) (ha : PA X [e] ta) (hs : starEach [e] X.env = [(false, eval e X.env)] := by rfl) :
    PI X (.Tuple elts kk tpos) (.Call (.Name "enumerate" p) [e] [] pos) (iEnum' X.K ta) := ⟨fun pins s σ H R I h => by
  refine Call_ (ld_blt I hg hm boot_enumerate (PyProof.Rows.callWith_type1 (thn (ha.run pos pins s σ H _ I h) fun us s1 ⟨vs, H1, I1, r1, a, ex, q1⟩ => ?_) hs rfl))
  subst ex
  obtain ⟨u, rfl, rx⟩ := vals1 r1
  cases rx
  have fp : ∀ b, (b = s1.heap.objs.size + 1 ∨ b = s1.heap.objs.size) → FpOk X pins H1 b := fun b e' => by
    have hle : s1.heap.objs.size ≤ b := by omega
    exact I1.fpOk hle (I1.hok.fresh hle)
  rcases q1 with ⟨xs, hq, q⟩ | ⟨xs, hq, q⟩
  · obtain ⟨its, rv, p', hz⟩ := I1.list hq
    refine call_enum1 (begins_list a its.toArray) p'.isList fun h' he hit hk => wpAny_pyIter_enum he ?_
    exact ⟨s1.heap.objs.size + 1, [s1.heap.objs.size + 1, s1.heap.objs.size], _, _, H1, rfl, I1.kept (t' := s1.toks) hk, turn_enum a (s1.heap.objs.size + 1) s1.heap.objs.size, ⟨⟨.none, he⟩, ⟨_, hit, rfl, rfl⟩, Nat.succ_ne_self _⟩, fun b hb => fp b (by simpa using hb), q⟩
  · obtain ⟨its, rv, p', hz⟩ := I1.tuple hq
    refine call_enum1 (begins_tuple a its.toArray) (show s1.heap.IsTuple a its.toArray from p') fun h' he hit hk => wpAny_pyIter_enum he ?_
    exact ⟨s1.heap.objs.size + 1, [s1.heap.objs.size + 1, s1.heap.objs.size], _, _, H1, rfl, I1.kept (t' := s1.toks) hk, turn_enumT a (s1.heap.objs.size + 1) s1.heap.objs.size, ⟨⟨.none, he⟩, ⟨_, hit, rfl, rfl⟩, Nat.succ_ne_self _⟩, fun b hb => fp b (by simpa using hb), q⟩⟩
def enumP : Nat → List P → List P
  | _, [] => []
  | n, x :: xs => .tup [.int n, x] :: enumP (n + 1) xs
theorem enumP_get : ∀ (n i : Nat) (xs : List P), (enumP n xs)[i]? = xs[i]?.map fun x => .tup [.int ((n + i : Nat) : Int), x]
  | _, _, [] => by simp [enumP]
  | n, 0, x :: xs => by simp [enumP]
  | n, i + 1, x :: xs => by
    simp only [enumP, List.getElem?_cons_succ]
    rw [enumP_get (n + 1) i xs]
    rw [show n + 1 + i = n + (i + 1) by omega]
theorem enumP_len : ∀ (n : Nat) (xs : List P), (enumP n xs).length = xs.length
  | _, [] => rfl
  | n, x :: xs => by simp [enumP, enumP_len (n + 1) xs]
theorem yld_enum {K : PySem.W.Frag} {cl : String → Option Addr} {ω : Om} {H : Hp} {a : Addr} {vs : List V} {xs : List P} {u : HO} (hu : H a = some u) (hd : isD u = false) (hl : ∀ H' : Hp, H' a = some u → SqL K H' a vs) (ha : ω a = .free) (dm : Dom cl ω H) (r : RPs K cl H (Fr ω) xs vs) : Yld K cl ω H (Ite K a) (enumP 0 xs) := fun ω' H' s dm' => by
  have h1 := (s.fr a u hu ha).of hd
  have r' := s.rps dm r
  refine ⟨fun i hi => ?_, ⟨vs, hl H' h1, by rw [enumP_len, r.length]; exact Nat.le_refl _⟩⟩
  rw [enumP_len] at hi
  refine ⟨⟨vs, vs[i]'(by rw [← r.length]; exact hi), hl H' h1, by simp [← r.length, hi]⟩, fun x H3 y => ?_⟩
  obtain ⟨T, y, rfl, hT, rfl, e⟩ := y
  obtain ⟨p, e1, r1⟩ := r'.get' (e vs (hl _ h1))
  have sm : Same H' (upd H' T (.tup [.int (i : Nat), y])) := Same.new hT
  exact ⟨sm, .tup [.int (i : Nat), p], by rw [enumP_get, e1, Nat.zero_add]; rfl, .tup upd_same (.cons (.int _) (.cons (RP.keep (same_keeps sm) _ _ r1) .nil))⟩
theorem yld_enumZ {K : PySem.W.Frag} {cl : String → Option Addr} {ω : Om} {H : Hp} {a : Addr} {vs : List V} {xs : List P} (h : SqZ K H (Fr ω) a vs) (dm : Dom cl ω H) (r : RPs K cl H (Fr ω) xs vs) : Yld K cl ω H (Ite K a) (enumP 0 xs) := fun ω' H' s dm' => by
  have h1 := h.later s
  have r' := s.rps dm r
  refine ⟨fun i hi => ?_, ⟨vs, h1, by rw [enumP_len, r.length]; exact Nat.le_refl _⟩⟩
  rw [enumP_len] at hi
  refine ⟨⟨vs, vs[i]'(by rw [← r.length]; exact hi), h1, by simp [← r.length, hi]⟩, fun x H3 y => ?_⟩
  obtain ⟨T, y, rfl, hT, rfl, e⟩ := y
  obtain ⟨p, e1, r1⟩ := r'.get' (e vs h1)
  have sm : Same H' (upd H' T (.tup [.int (i : Nat), y])) := Same.new hT
  exact ⟨sm, .tup [.int (i : Nat), p], by rw [enumP_get, e1, Nat.zero_add]; rfl, .tup upd_same (.cons (.int _) (.cons (RP.keep (same_keeps sm) _ _ r1) .nil))⟩
theorem yld_enumT {K : PySem.W.Frag} {cl : String → Option Addr} {ω : Om} {H : Hp} {a : Addr} {vs : List V} {xs : List P} (hu : H a = some (.tup vs)) (dm : Dom cl ω H) (r : RPs K cl H (Fr ω) xs vs) : Yld K cl ω H (IteT K a) (enumP 0 xs) := fun ω' H' s dm' => by
  have h1 := (s.fr a _ hu (dm.tup hu rfl)).of rfl
  have r' := s.rps dm r
  refine ⟨fun i hi => ?_, ⟨vs, SqT.of h1, by rw [enumP_len, r.length]⟩⟩
  rw [enumP_len] at hi
  refine ⟨⟨vs, vs[i]'(by rw [← r.length]; exact hi), SqT.of h1, by simp [← r.length, hi]⟩, fun x H3 y => ?_⟩
  obtain ⟨T, y, rfl, hT, rfl, e⟩ := y
  obtain ⟨p, e1, r1⟩ := r'.get' (e vs (SqT.of h1))
  have sm : Same H' (upd H' T (.tup [.int (i : Nat), y])) := Same.new hT
  exact ⟨sm, .tup [.int (i : Nat), p], by rw [enumP_get, e1, Nat.zero_add]; rfl, .tup upd_same (.cons (.int _) (.cons (RP.keep (same_keeps sm) _ _ r1) .nil))⟩
/-- the operands of a row as data -/
def frzAll : List O → Env → R (List P)
  | [], σ => .ok [] σ
  | o :: os, σ => (frz o σ).bind fun x σ1 => (frzAll os σ1).bind fun xs σ2 => .ok (x :: xs) σ2
theorem frzAll_ok {g : G} {σ : L2.St} {H : Hp} : ∀ {os : List O} {vs : List V} {ω : Om} {σD : Env} {k : List P → Env → Om → Hp → Prop}, Sta g ω H σD σ → OVs g ω H σ os vs → Post g ω H σ (frzAll os σD) k →
    ∃ xs σ1 ω1, Step ω H ω1 H ∧ Sta g ω1 H σ1 σ ∧ RPs g.K g.cl H (Fr ω1) xs vs ∧ frzAll os σD = .ok xs σ1 ∧ k xs σ1 ω1 H
  | _, _, ω, σD, k, st, .nil, h => ⟨[], σD, ω, .refl, st, .nil, rfl, Post.ok h st⟩
  | _, _, ω, σD, k, st, .cons h1 h2, h => by
    obtain ⟨x, σ1, ω1, s1, st1, r1, e1, q1⟩ := frz_ok st h1 (Post.bind (f := fun x σ1 => (frzAll _ σ1).bind fun xs σ2 => .ok (x :: xs) σ2) h)
    have h2' : OVs g ω1 H σ _ _ := h2.step s1 st.dom
    obtain ⟨xs, σ2, ω2, s2, st2, r2, e2, q2⟩ := frzAll_ok st1 h2' (Post.bind (f := fun xs σ2 => .ok (x :: xs) σ2) q1)
    refine ⟨x :: xs, σ2, ω2, s1.trans s2, st2, .cons (s2.rp st1.dom r1) r2, ?_, Post.ok q2 st2⟩
    show (frz _ σD).bind _ = _
    rw [e1, R.bind_ok, e2, R.bind_ok]
def mEnum (m : M) : MI := fun σ => (mAs [m] σ).bind fun os σ1 => (frzAll os σ1).bind fun xs σ2 => match xs with
  | [.lst ys] => .ok (enumP 0 ys) σ2
  | [.tup ys] => .ok (enumP 0 ys) σ2
  | [.fz ys] => .ok (enumP 0 ys) σ2
  | _ => .stuck
theorem di_enum {X : Cx} {g : G} {tg e : Expr} {m : M} (he : PI X tg e (iEnum' X.K (tA g (mAs [m])))) (hK : g.K = X.K := by rfl) : PI X tg e (tI g (mEnum m)) := pi_weak he fun σ H R h => by
  obtain ⟨ω, σD, st, q⟩ := h
  refine ⟨ω, σD, st, q.bind.imp fun os σ1 ω1 H1 s1 st1 q1 vs ov => ?_⟩
  obtain ⟨xs, σ2, ω2, s2, st2, r, e2, q2⟩ := frzAll_ok st1 ov q1.bind
  rw [← hK]
  match xs, r, q2 with
  | [.lst ys], .cons r .nil, q2 =>
    cases r with
    | lst h1 h2 h3 => exact ⟨_, rfl, .inl ⟨_, SqL.of h1, (Post.ok q2 st2) _ ω2 H1 .refl st2 (yld_enum h1 rfl (fun H' e => SqL.of e) h2 st2.dom h3)⟩⟩
  | [.tup ys], .cons r .nil, q2 =>
    cases r with
    | tup h1 h3 => exact ⟨_, rfl, .inr ⟨_, SqT.of h1, (Post.ok q2 st2) _ ω2 H1 .refl st2 (yld_enumT h1 st2.dom h3)⟩⟩
  | [.fz ys], .cons r .nil, q2 =>
    cases r with
    | fz h1 h3 => exact ⟨_, rfl, .inl ⟨_, h1.sq, (Post.ok q2 st2) _ ω2 H1 .refl st2 (yld_enumZ h1 st2.dom h3)⟩⟩
  | [], _, q2 => exact q2.elim
  | [.non], _, q2 => exact q2.elim
  | [.bl _], _, q2 => exact q2.elim
  | [.int _], _, q2 => exact q2.elim
  | [.str _], _, q2 => exact q2.elim
  | [.dK _ _], _, q2 => exact q2.elim
  | [.dT _ _], _, q2 => exact q2.elim
  | [.ins _ _ _], _, q2 => exact q2.elim
  | x :: _ :: _, _, q2 => cases x <;> exact q2.elim
end PV

set_option Elab.async false
set_option linter.all false
set_option maxRecDepth 100000
set_option maxHeartbeats 4000000
/-! PvQ: zip over lists and tuples in any mix, as what dict() is made from. -/

namespace PV
open PySem PySem.Spec PyProof.Rows L2

section
variable {prog : Program} {w : World} {A : Around} {E : Value → Shared → Prop} {s : Shared} {z TI TO i1 i2 T : Addr} {fp1 fp2 : List Addr} {n1 n2 i : Nat} {P1 P2 : Nat → Value → Prop} {St1 St2 : Nat → Heap → Prop} {f : Bool} {oT : Obj}
/-- a turn of a zip whose pair is still held -/
theorem zh_item {Q : Option Value → Shared → Prop} (S : ZipSep2 z TI TO i1 i2 fp1 fp2) (D1 : Draws prog w A.in1 i1 fp1 n1 P1 St1) (D2 : Draws prog w A.in1 i2 fp2 n2 P2 St2)
    (hz : IsZipHeld s.heap z TI TO T f) (hT : s.heap.get? T = some oT) (hTI : IsTupOf2 s.heap TI (.ref i1) (.ref i2)) (st1 : St1 i s.heap) (st2 : St2 i s.heap) (hlt1 : i < n1) (hlt2 : i < n2)
    (hQ : ∀ x1 x2 h' tk, P1 i x1 → P2 i x2 → IsZipHeld h' z TI TO T true → St1 (i + 1) h' → St2 (i + 1) h' → IsTupOf2 h' s.heap.objs.size x1 x2 →
      (∀ c o, c ≠ z → c ≠ i1 → c ≠ i2 → s.heap.get? c = some o → h'.get? c = some o) → Q (some (.ref s.heap.objs.size)) { s with heap := h', toks := tk }) : wpAny (model prog w) A (pyNext (.ref z)) Q E s := by
  have hTy : s.TypeIs (.ref z) "zip" := ⟨_, hz, rfl⟩
  unfold pyNext
  refine wpAny_bind (wpAny_attempt (wpAny_callSpecial?_slot (name := Str.ofString "__next__") hTy F.slot_zip_next (wpAny_call_entry F.slot_zip_next hTy F.entry_zip_next ?_ (F.args_zip_next_1 _))))
  obtain ⟨hp, gg, d, tk0, os⟩ := s
  show wpAny _ _ (field (.ref z) 2 >>= _) _ _ _
  refine wpAny_bind (wpAny_field hz rfl (x := .bool false) rfl ?_)
  show wpAny _ _ (field (.ref z) 3 >>= _) _ _ _
  refine wpAny_bind (wpAny_field hz rfl (x := .ref TI) rfl (wpAny_bind (wpAny_seqItems hTI rfl ?_)))
  show wpAny _ _ (Builtin.SmallTypes.ownedTupleIsFree (.ref z) >>= _) _ _ _
  refine wpAny_bind (wpAny_tupleHeld_zip hz hT fun g0 hz0 hs0 => ?_)
  replace hs0 : Heap.SameBut z hp g0 := hs0
  simp only [Bool.false_eq_true, if_false]
  refine wpAny_bind ?_
  rw [← Array.forIn_toList]
  simp only [List.forIn_cons, List.forIn_nil]
  refine wpAny_bind (wpAny_bind (wpAny_holding ?_))
  show wpAny _ _ (Builtin.SmallTypes.nextOf (.ref i1) >>= _) _ _ ⟨g0, gg, d, tk0, os⟩
  refine wpAny_bind (D1.item i _ _ _ hlt1 (D1.over st1 hs0 S.zf1) fun x1 p1 tk1 hx1 sn1 hp1 => wpAny_pure (wpAny_pure ?_))
  replace hp1 : Heap.SameBut i1 g0 p1 := hp1
  refine wpAny_bind (wpAny_bind (wpAny_holding ?_))
  show wpAny _ _ (Builtin.SmallTypes.nextOf (.ref i2) >>= _) _ _ ⟨p1, gg, d, tk1, os⟩
  refine wpAny_bind (D2.item i _ _ _ hlt2 (D2.over (D2.over st2 hs0 S.zf2) hp1 S.sep1_2) fun x2 p2 tk2 hx2 sn2 hp2 => wpAny_pure (wpAny_pure (wpAny_pure ?_)))
  replace hp2 : Heap.SameBut i2 p1 p2 := hp2
  show wpAny _ _ (newTuple [x1, x2] >>= _) _ _ _
  refine wpAny_bind (wpAny_newTuple (wpAny_pure ⟨_, rfl, ?_⟩))
  have hsz : p2.objs.size = hp.objs.size := by rw [hp2.1, hp1.1, hs0.1]
  have up : ∀ c o, p2.get? c = some o → (p2.push { cls := .type "tuple", data := .seq #[x1, x2] }).get? c = some o := fun c o e => Heap.get?_push_of_some _ e
  have hz2 : IsZipHeld p2 z TI TO T true := hp2.extBut _ _ S.zi2 (hp1.extBut _ _ S.zi1 hz0)
  have hnew : IsTupOf2 (p2.push { cls := .type "tuple", data := .seq #[x1, x2] }) p2.objs.size x1 x2 := Heap.get?_push_size _ rfl
  have q := hQ x1 x2 (p2.push { cls := .type "tuple", data := .seq #[x1, x2] }) tk2 hx1 hx2 (up _ _ hz2) (D1.frame _ _ _ (D1.over sn1 hp2 S.sep2_1) fun b _ o e => up b o e) (D2.frame _ _ _ sn2 fun b _ o e => up b o e) (by rw [hsz] at hnew; exact hnew)
    fun c o c1 c2 c3 e => up _ _ (hp2.extBut _ _ c3 (hp1.extBut _ _ c2 (hs0.extBut _ _ c1 e)))
  show wpAny _ _ (pure (some (Value.ref p2.objs.size))) _ _ _
  rw [hsz]
  exact wpAny_pure q
/-- its end -/
theorem zh_end {Q : Option Value → Shared → Prop} (S : ZipSep2 z TI TO i1 i2 fp1 fp2) (D1 : Draws prog w A.in1 i1 fp1 n1 P1 St1) (D2 : Draws prog w A.in1 i2 fp2 n2 P2 St2)
    (hz : IsZipHeld s.heap z TI TO T f) (hT : s.heap.get? T = some oT) (hTI : IsTupOf2 s.heap TI (.ref i1) (.ref i2)) (st1 : St1 i s.heap) (st2 : St2 i s.heap) (hle1 : i ≤ n1) (hle2 : i ≤ n2) (hend : i = n1 ∨ i = n2)
    (hQ : ∀ h' tk, (∀ c o, c ≠ z → c ≠ i1 → c ≠ i2 → s.heap.get? c = some o → h'.get? c = some o) → Q none { s with heap := h', toks := tk }) : wpAny (model prog w) A (pyNext (.ref z)) Q E s := by
  have hTy : s.TypeIs (.ref z) "zip" := ⟨_, hz, rfl⟩
  unfold pyNext
  refine wpAny_bind (wpAny_attempt (wpAny_callSpecial?_slot (name := Str.ofString "__next__") hTy F.slot_zip_next (wpAny_call_entry F.slot_zip_next hTy F.entry_zip_next ?_ (F.args_zip_next_1 _))))
  obtain ⟨hp, gg, d, tk0, os⟩ := s
  show wpAny _ _ (field (.ref z) 2 >>= _) _ _ _
  refine wpAny_bind (wpAny_field hz rfl (x := .bool false) rfl ?_)
  show wpAny _ _ (field (.ref z) 3 >>= _) _ _ _
  refine wpAny_bind (wpAny_field hz rfl (x := .ref TI) rfl (wpAny_bind (wpAny_seqItems hTI rfl ?_)))
  show wpAny _ _ (Builtin.SmallTypes.ownedTupleIsFree (.ref z) >>= _) _ _ _
  refine wpAny_bind (wpAny_tupleHeld_zip hz hT fun g0 hz0 hs0 => ?_)
  replace hs0 : Heap.SameBut z hp g0 := hs0
  simp only [Bool.false_eq_true, if_false]
  refine wpAny_bind ?_
  rw [← Array.forIn_toList]
  simp only [List.forIn_cons, List.forIn_nil]
  refine wpAny_bind (wpAny_bind (wpAny_holding ?_))
  show wpAny _ _ (Builtin.SmallTypes.nextOf (.ref i1) >>= _) _ _ ⟨g0, gg, d, tk0, os⟩
  by_cases hlt1 : i < n1
  · refine wpAny_bind (D1.item i _ _ _ hlt1 (D1.over st1 hs0 S.zf1) fun x1 p1 tk1 hx1 sn1 hp1 => wpAny_pure (wpAny_pure ?_))
    replace hp1 : Heap.SameBut i1 g0 p1 := hp1
    refine wpAny_bind (wpAny_bind (wpAny_holding ?_))
    show wpAny _ _ (Builtin.SmallTypes.nextOf (.ref i2) >>= _) _ _ ⟨p1, gg, d, tk1, os⟩
    have e2 : i = n2 := by omega
    have st2' := D2.over (D2.over st2 hs0 S.zf2) hp1 S.sep1_2
    rw [e2] at st2'
    refine wpAny_bind (D2.done _ _ _ st2' fun h' e he hs => ?_)
    obtain ⟨o, ho, hc⟩ := hs
    refine wpAny_bind (wpAny_isInstance (T := "StopIteration") (b := true) ⟨o, ho, hc⟩ isSubtype_stop ?_)
    exact wpAny_pure (hQ h' tk1 fun c o c1 c2 c3 x => he _ _ c3 (hp1.extBut _ _ c2 (hs0.extBut _ _ c1 x)))
  · have e1 : i = n1 := by omega
    have st1' := D1.over st1 hs0 S.zf1
    rw [e1] at st1'
    refine wpAny_bind (D1.done _ _ _ st1' fun h' e he hs => ?_)
    obtain ⟨o, ho, hc⟩ := hs
    refine wpAny_bind (wpAny_isInstance (T := "StopIteration") (b := true) ⟨o, ho, hc⟩ isSubtype_stop ?_)
    exact wpAny_pure (hQ h' tk0 fun c o c1 c2 c3 x => he _ _ c2 (hs0.extBut _ _ c1 x))
end
section
variable {prog : Program} {w : World}
/-- a zip as what dict() is made from -/
theorem zipArg {z TI TO i1 i2 : Addr} {fp1 fp2 : List Addr} {n1 n2 : Nat} {P1 P2 : Nat → Value → Prop} {St1 St2 : Nat → Heap → Prop} (S : ZipSep2 z TI TO i1 i2 fp1 fp2) (D1 : ∀ A : Around, A.handled = none → Draws prog w A i1 fp1 n1 P1 St1) (D2 : ∀ A : Around, A.handled = none → Draws prog w A i2 fp2 n2 P2 St2)
    (L1 : ∀ i h, St1 i h → ∀ b ∈ fp1, ∃ o, h.get? b = some o) (L2 : ∀ i h, St2 i h → ∀ b ∈ fp2, ∃ o, h.get? b = some o)
    (K1 : ∀ i h h', St1 i h → (∀ b o, h.get? b = some o → h'.get? b = some o) → St1 i h') (K2 : ∀ i h h', St2 i h → (∀ b o, h.get? b = some o → h'.get? b = some o) → St2 i h') :
    PairArg prog w "zip" z (z :: TI :: TO :: (fp1 ++ fp2)) [z, TO, i1, i2] (min n1 n2) (fun i k v => P1 i k ∧ P2 i v)
      (fun h => IsZip h z TI TO .none ∧ IsTupOf2 h TI (.ref i1) (.ref i2) ∧ (∃ a b, IsTupOf2 h TO a b) ∧ St1 0 h ∧ St2 0 h) where
  type := fun s ok => ⟨_, ok.1, rfl⟩
  notDict := by decide
  keep := fun h h' ok hk => by
    obtain ⟨hz, hTI, ⟨a, b, hTO⟩, h1, h2⟩ := ok
    exact ⟨hk _ _ hz, hk _ _ hTI, ⟨a, b, hk _ _ hTO⟩, K1 _ _ _ h1 hk, K2 _ _ _ h2 hk⟩
  there := fun h ok b hb => by
    obtain ⟨hz, hTI, ⟨a, c, hTO⟩, h1, h2⟩ := ok
    simp only [List.mem_cons, List.mem_append] at hb
    rcases hb with rfl | rfl | rfl | hb | hb
    · exact ⟨_, hz⟩
    · exact ⟨_, hTI⟩
    · exact ⟨_, hTO⟩
    · exact L1 _ _ h1 b hb
    · exact L2 _ _ h2 b hb
  sub := fun b hb => by
    simp only [List.mem_cons, List.not_mem_nil, or_false] at hb
    rcases hb with rfl | rfl | rfl | rfl
    · simp
    · simp
    · simp [S.mem1]
    · simp [S.mem2]
  noKeys := fun A s Q E hA ok h => getAttrOr_miss_zip ok.1 rfl rfl rfl zip_no_keys (by decide +kernel) hA h
  iter := fun A s d Q E hA ok hd hdf h => by
    obtain ⟨hz, hTI, ⟨a, b, hTO⟩, h1, h2⟩ := ok
    simp only [List.mem_cons, List.mem_append, not_or] at hdf
    obtain ⟨dz, dTI, dTO, df1, df2⟩ := hdf
    have di1 : d ≠ i1 := fun e => df1 (by rw [e]; exact S.mem1)
    have di2 : d ≠ i2 := fun e => df2 (by rw [e]; exact S.mem2)
    have E1 := D1 A.in1 hA
    have E2 := D2 A.in1 hA
    refine wpAny_pyIter_zip hz (h z [z, TO, i1, i2] (fun i h => IsTupOf2 h TI (.ref i1) (.ref i2) ∧ St1 i h ∧ St2 i h ∧
      ((IsZip h z TI TO .none ∧ ∃ a b, IsTupOf2 h TO a b) ∨ ∃ T f oT, IsZipHeld h z TI TO T f ∧ h.get? T = some oT ∧ T ≠ z ∧ T ≠ i1 ∧ T ≠ i2 ∧ T ≠ d)) s.heap s.toks ?_ ⟨hTI, h1, h2, .inl ⟨hz, a, b, hTO⟩⟩ (fun _ _ e => e) fun b hb => .inl hb)
    exact {
      off := fun hm => by
        simp only [List.mem_cons, List.not_mem_nil, or_false] at hm
        rcases hm with e | e | e | e
        · exact dz e
        · exact dTO e
        · exact di1 e
        · exact di2 e
      frame := fun i h₁ h₂ st hk => by
        obtain ⟨hTI, h1, h2, hz⟩ := st
        refine ⟨hk _ _ (Ne.symm dTI) hTI, E1.frame _ _ _ h1 fun b hb o e => hk b o (fun q => df1 (q ▸ hb)) e, E2.frame _ _ _ h2 fun b hb o e => hk b o (fun q => df2 (q ▸ hb)) e, ?_⟩
        rcases hz with ⟨hz, a, b, hTO⟩ | ⟨T, f, oT, hz, hT, r1, r2, r3, r4⟩
        · exact .inl ⟨hk _ _ (Ne.symm dz) hz, a, b, hk _ _ (Ne.symm dTO) hTO⟩
        · exact .inr ⟨T, f, oT, hk _ _ (Ne.symm dz) hz, hk _ _ r4 hT, r1, r2, r3, r4⟩
      item := fun i s₁ Q₁ E₁ hi st hds hQ => by
        obtain ⟨hTI, h1, h2, hz⟩ := st
        have hi1 : i < n1 := by omega
        have hi2 : i < n2 := by omega
        have lt : ∀ {c o}, s₁.heap.get? c = some o → s₁.heap.objs.size ≠ c := fun e => Nat.ne_of_gt (Heap.lt_size e)
        have k1 : s₁.heap.objs.size ≠ i1 := by obtain ⟨_, e⟩ := E1.live _ _ h1; exact lt e
        have k2 : s₁.heap.objs.size ≠ i2 := by obtain ⟨_, e⟩ := E2.live _ _ h2; exact lt e
        rcases hz with ⟨hz, a, b, hTO⟩ | ⟨T, f, oT, hz, hT, r1, r2, r3, r4⟩
        · refine wpAny_pyNext_zipD2_item S E1 E2 hz hTI hTO h1 h2 hi1 hi2 fun x1 x2 h' tk y1 y2 a1 a2 a3 a4 a5 a6 hk => ?_
          exact hQ s₁.heap.objs.size _ _ h' tk ⟨y1, y2⟩ (.inl ⟨_, a5, rfl, _, rfl⟩) ⟨hk _ _ S.TIz S.TITO S.TIi1 S.TIi2 hTI, a3, a4, .inr ⟨s₁.heap.objs.size, false, _, a1, a5, lt hz, k1, k2, Nat.ne_of_gt hds⟩⟩
            fun c o hc e => hk c o (fun x => hc (by simp [x])) (fun x => hc (by simp [x])) (fun x => hc (by simp [x])) (fun x => hc (by simp [x])) e
        · refine zh_item S E1 E2 hz hT hTI h1 h2 hi1 hi2 fun x1 x2 h' tk y1 y2 a1 a3 a4 a5 hk => ?_
          exact hQ s₁.heap.objs.size _ _ h' tk ⟨y1, y2⟩ (.inl ⟨_, a5, rfl, _, rfl⟩) ⟨hk _ _ S.TIz S.TIi1 S.TIi2 hTI, a3, a4, .inr ⟨T, true, oT, a1, hk _ _ r1 r2 r3 hT, r1, r2, r3, r4⟩⟩
            fun c o hc e => hk c o (fun x => hc (by simp [x])) (fun x => hc (by simp [x])) (fun x => hc (by simp [x])) e
      done := fun s₁ Q₁ E₁ st hQ => by
        obtain ⟨hTI, h1, h2, hz⟩ := st
        rcases hz with ⟨hz, a, b, hTO⟩ | ⟨T, f, oT, hz, hT, r1, r2, r3, r4⟩
        · exact wpAny_pyNext_zipD2_end S E1 E2 hz hTI hTO h1 h2 (by omega) (by omega) (by omega) fun h' tk hk => hQ h' tk fun c o hc e => hk c o (fun x => hc (by simp [x])) (fun x => hc (by simp [x])) (fun x => hc (by simp [x])) (fun x => hc (by simp [x])) e
        · exact zh_end S E1 E2 hz hT hTI h1 h2 (by omega) (by omega) (by omega) fun h' tk hk => hQ h' tk fun c o hc e => hk c o (fun x => hc (by simp [x])) (fun x => hc (by simp [x])) (fun x => hc (by simp [x])) e }
end

/-- a list or tuple, raw -/
def RawSeq (T : String) (h : Heap) (a : Addr) (its : Array Value) : Prop := ∃ o n, h.get? a = some o ∧ o.cls = .type T ∧ o.data = .seq its n
/-- an iterator over one of these, and what it draws -/
structure SeqIt (a : Addr) (its : Array Value) (h0 : Heap) (o : Obj) (Hh : Heap → Prop) (St : Addr → Nat → Heap → Prop) : Prop where
  beg : Begins (.ref a) o Hh
  now : Hh h0
  st0 : ∀ it h', a ≠ it → (∀ b ob, h0.get? b = some ob → h'.get? b = some ob) → h'.get? it = some o → St it 0 h'
  drw : ∀ (prog : Program) (w : World) (A : Around) (it : Addr), A.handled = none → a ≠ it → Draws prog w A it [it, a] its.size (fun i v => its[i]? = some v) (St it)
  live : ∀ it i h, St it i h → ∀ b ∈ [it, a], ∃ ob, h.get? b = some ob
  fr : ∀ it i h h', St it i h → (∀ b ob, h.get? b = some ob → h'.get? b = some ob) → St it i h'
  lt : a < h0.objs.size
theorem seqIt_list {a : Addr} {its : Array Value} {h0 : Heap} (p : h0.IsList a its) : SeqIt a its h0 { cls := .type "list_iterator", data := .fields #[.ref a, .int 0 0] } (fun h => h.IsList a its) (fun it i h => h.IsListIter it a i ∧ h.IsList a its) where
  beg := begins_list a its
  now := p
  st0 := fun it h' ne k e => ⟨⟨_, e, rfl, rfl⟩, p.at fun o q => k a o q⟩
  drw := fun prog w A it hA ne => Draws.list hA it a ne its
  live := fun it i h st b hb => by
    obtain ⟨⟨o, e, _⟩, ⟨o2, e2, _⟩⟩ := st
    rcases (by simpa using hb : b = it ∨ b = a) with z | z
    · exact ⟨o, by rw [z]; exact e⟩
    · exact ⟨o2, by rw [z]; exact e2⟩
  fr := fun it i h h' st k => ⟨st.1.at fun o e => k it o e, st.2.at fun o e => k a o e⟩
  lt := by obtain ⟨o, e, _⟩ := p; exact Heap.lt_size e
theorem seqIt_tuple {a : Addr} {its : Array Value} {h0 : Heap} (p : h0.IsTuple a its) : SeqIt a its h0 { cls := .type "tuple_iterator", data := .fields #[.ref a, .int 0 0] } (fun h => h.IsTuple a its) (fun it i h => h.IsTupleIter it a i ∧ h.IsTuple a its) where
  beg := begins_tuple a its
  now := p
  st0 := fun it h' ne k e => ⟨⟨_, e, rfl, rfl⟩, p.at fun o q => k a o q⟩
  drw := fun prog w A it hA ne => Draws.tuple hA it a ne its
  live := fun it i h st b hb => by
    obtain ⟨⟨o, e, _⟩, ⟨o2, e2, _⟩⟩ := st
    rcases (by simpa using hb : b = it ∨ b = a) with z | z
    · exact ⟨o, by rw [z]; exact e⟩
    · exact ⟨o2, by rw [z]; exact e2⟩
  fr := fun it i h h' st k => ⟨st.1.at fun o e => k it o e, st.2.at fun o e => k a o e⟩
  lt := by obtain ⟨o, e, _⟩ := p; exact Heap.lt_size e
theorem seq_raw {X : Cx} {pins : List (Addr × Obj)} {σ : L2.St} {H : Hp} {s : Shared} {a : Addr} {xs : List V} (I : L2.Inv X pins σ H s) (h : SqL X.K H a xs ∨ SqT X.K H a xs) : ∃ its o Hh St, Vals xs its ∧ SeqIt a its.toArray s.heap o Hh St ∧ its.length ≤ sizeLine := by
  rcases h with h | h
  · obtain ⟨its, rv, p, hz⟩ := I.list h
    exact ⟨its, _, _, _, rv, seqIt_list p.isList, by rw [← rv.length]; exact hz⟩
  · obtain ⟨its, rv, p, hz⟩ := I.tuple h
    exact ⟨its, _, _, _, rv, seqIt_tuple (show s.heap.IsTuple a its.toArray from p), by rw [← rv.length]; exact hz⟩
def zipK : List L2.Key → List V → List (L2.Key × V)
  | k :: ks, v :: vs => (k, v) :: zipK ks vs
  | _, _ => []
theorem zipK_len : ∀ (ks : List L2.Key) (vs : List V), (zipK ks vs).length = min ks.length vs.length
  | [], _ => by simp [zipK]
  | _ :: _, [] => by simp [zipK]
  | k :: ks, v :: vs => by simp only [zipK, List.length_cons, zipK_len ks vs]; omega
/-- dict(zip(a, b)) -/
def tDictZip (K : PySem.W.Frag) (ta : TA) : TE := fun σ H Q => ta σ H fun vs H1 => ∃ a b ks ys, vs = [.ref a, .ref b] ∧ (SqL K H1 a (ks.map kV) ∨ SqT K H1 a (ks.map kV)) ∧ (SqL K H1 b ys ∨ SqT K H1 b ys) ∧ ∀ p, H1 p = none → Q (.ref p) (upd H1 p (.dK (mergeK [] (zipK ks ys))))
theorem zipKV : ∀ {ks : List L2.Key} {ys : List V} {us ws : List Value}, Vals (ks.map kV) us → Vals ys ws → ∃ rs : List (L2.Key × Value), KV (zipK ks ys) rs ∧ rs.length = min us.length ws.length ∧ ∀ (P : Program) (w : World) (i : Nat) (key v : Value), us[i]? = some key → ws[i]? = some v → ∃ k, rs[i]? = some (k, v) ∧ (mixKind P w).is k key = true
  | [], ys, us, ws, r1, r2 => by
    cases r1
    exact ⟨[], .nil, by simp, fun P w i key v e => by simp at e⟩
  | k :: ks, ys, us, ws, r1, r2 => by
    cases r1 with
    | @cons _ u _ us h1 t1 =>
      cases r2 with
      | nil => exact ⟨[], .nil, by simp, fun P w i key v _ e => by simp at e⟩
      | @cons y u2 ys ws h2 t2 =>
        obtain ⟨rs, r, hl, hp⟩ := zipKV t1 t2
        refine ⟨(k, u2) :: rs, .cons ⟨rfl, h2⟩ r, by simp only [List.length_cons, hl]; omega, fun P w i key v e1 e2 => ?_⟩
        cases i with
        | zero =>
          simp at e1 e2
          subst e1 e2
          exact ⟨k, rfl, kV_is (P := P) (w := w) h1⟩
        | succ i =>
          obtain ⟨k', z1, z2⟩ := hp P w i key v (by simpa using e1) (by simpa using e2)
          exact ⟨k', by simpa using z1, z2⟩
theorem nin2 {c x y : Nat} (h1 : c ≠ x) (h2 : c ≠ y) : c ∉ ([x, y] : List Nat) := by
  simp only [List.mem_cons, List.not_mem_nil, or_false, not_or]
  exact ⟨h1, h2⟩
theorem sep5 (n a b : Nat) (ha : a < n) (hb : b < n) : ZipSep2 (n + 4) (n + 2) (n + 3) n (n + 1) [n, a] [n + 1, b] where
  TIz := by show @Ne Nat _ _; omega
  TOz := by show @Ne Nat _ _; omega
  TITO := by show @Ne Nat _ _; omega
  TIi1 := by show @Ne Nat _ _; omega
  mem1 := List.mem_cons_self
  zf1 := nin2 (by omega) (by omega)
  Tf1 := nin2 (by omega) (by omega)
  TIi2 := by show @Ne Nat _ _; omega
  mem2 := List.mem_cons_self
  zf2 := nin2 (by omega) (by omega)
  Tf2 := nin2 (by omega) (by omega)
  sep1_2 := nin2 (by omega) (by omega)
  sep2_1 := nin2 (by omega) (by omega)
theorem nin4 {n c : Nat} (h : c < n) : c ∉ ([n + 4, n + 3, n, n + 1] : List Nat) := by
  simp only [List.mem_cons, List.not_mem_nil, or_false, not_or]
  omega
theorem pe_dictZip {X : Cx} {e e2 : Expr} {ta : TA} {p p2 pos pos2 : Pos} (hc : X.calm = true) (hg : Gl X "dict") (hm : X.mg "dict" = none) (hg2 : Gl X "zip") (hm2 : X.mg "zip" = none) (ha : PA X [e, e2] ta)
    (hs : starEach [.Call (.Name "zip" p2) [e, e2] [] pos2] X.env = (false, eval (.Call (.Name "zip" p2) [e, e2] [] pos2) X.env) :: starEach [] X.env := by rfl)
    (hs2 : starEach [e, e2] X.env = (false, eval e X.env) :: starEach [e2] X.env := by rfl) (hpl : (backTo pos2 (starEach [e2] X.env)).any (·.1) = false := by rfl) :
    PE X (.Call (.Name "dict" p) [.Call (.Name "zip" p2) [e, e2] [] pos2] [] pos) (tDictZip X.K ta) := by
  refine ⟨fun pins s σ H Q I h => ?_⟩
  refine Call_ (ld_blt I hg hm boot_dict (PyProof.Rows.callWith_type1 (args_cons (Call_ (ld_blt I hg2 hm2 PyProof.Rows.boot_zip (PyProof.Rows.callWith_type1 (thn (ha.run pos2 pins s σ H _ I h) fun us s1 ⟨vs, H1, I1, r1, q1⟩ => ?_) hs2 hpl))) hs) hs rfl))
  obtain ⟨a, b, ks, ys, ex, hqa, hqb, q⟩ := q1
  subst ex
  obtain ⟨u1, u2, rfl, ra, rb⟩ := vals2 r1
  cases ra
  cases rb
  obtain ⟨its, o1, Hh1, St1, rv1, S1, hz1⟩ := seq_raw I1 hqa
  obtain ⟨its2, o2, Hh2, St2, rv2, S2, hz2⟩ := seq_raw I1 hqb
  refine zip_begins2 S1.beg S2.beg S1.now S2.now fun h' hzip hTI hTO hi1 hi2 hsz hk => args_nil ?_
  have la := S1.lt
  have lb := S2.lt
  have S := sep5 s1.heap.objs.size a b la lb
  have n1 : a ≠ s1.heap.objs.size := Nat.ne_of_lt la
  have n2 : b ≠ s1.heap.objs.size + 1 := Nat.ne_of_lt (Nat.lt_succ_of_lt lb)
  have PA := zipArg (prog := X.prog) (w := X.w) S (fun A hA => S1.drw _ _ A _ hA n1) (fun A hA => S2.drw _ _ A _ hA n2) (S1.live _) (S2.live _) (S1.fr _) (S2.fr _)
  obtain ⟨rs, rk, hl, hp⟩ := zipKV rv1 rv2
  have h0 := I1.ok.hd hc
  have keep1 : ∀ b o, s1.heap.get? b = some o → h'.get? b = some o := hk
  have hn : min its.toArray.size its2.toArray.size ≤ sizeLine := by
    have : its.toArray.size = its.length := by simp
    omega
  refine PySem.call_dict_pairs (s := { s1 with heap := h' }) (knd := mixKind X.prog X.w) (kvs := rs) PA h0 ⟨hzip, hTI, ⟨_, _, hTO⟩, S1.st0 _ _ n1 hk hi1, S2.st0 _ _ n2 hk hi2⟩ ⟨by rw [hl]; simp, fun i key v hr => ?_⟩ hn fun h'' tk hd hkk => ?_
  · obtain ⟨hr1, hr2⟩ := hr
    exact hp X.prog X.w i key v (by simpa using hr1) (by simpa using hr2)
  · have hle : s1.heap.objs.size ≤ h'.objs.size := by omega
    have hzk : (mergeK [] (zipK ks ys)).length ≤ sizeLine := by
      have e1 := length_mergeK (zipK ks ys) []
      have e2 : (zipK ks ys).length = rs.length := Paired.length rk
      have e3 : its.toArray.size = its.length := by simp
      have e4 : its2.toArray.size = its2.length := by simp
      rw [List.length_nil] at e1
      rw [e2, hl] at e1
      omega
    have hb : sysModules < s1.heap.objs.size := I1.big
    have hm : (h'.objs.size == sysModules) = false := beq_eq_false_iff_ne.mpr (Nat.ne_of_gt (Nat.lt_of_lt_of_le hb hle))
    refine ⟨.ref h'.objs.size, upd H1 h'.objs.size (.dK (mergeK [] (zipK ks ys))), I1.laid (t' := tk) (fun c o e => hkk c o (nin4 (Heap.lt_size e)) (hk c o e)) hle ⟨hzk, hm, merged [] rs, rk.merge .nil, hd⟩, rfl, q _ (I1.hok.fresh hle)⟩
def mergeP {κ : Type} [DecidableEq κ] (acc : List κ × List P) : List (κ × P) → List κ × List P
  | [] => acc
  | kv :: r => mergeP (putP kv.1 kv.2 acc.1 acc.2) r
theorem mergeP_ok {K : PySem.W.Frag} {cl : String → Option Addr} {H : Hp} {N : Addr → Prop} : ∀ {more : List (L2.Key × V)} {ps : List (L2.Key × P)} {kvs : List (L2.Key × V)} {acc : List L2.Key × List P}, more.map (·.1) = ps.map (·.1) → RPs K cl H N (ps.map (·.2)) (more.map (·.2)) → kvs.map (·.1) = acc.1 → RPs K cl H N acc.2 (kvs.map (·.2)) →
    (mergeK kvs more).map (·.1) = (mergeP acc ps).1 ∧ RPs K cl H N (mergeP acc ps).2 ((mergeK kvs more).map (·.2))
  | [], [], _, _, _, _, h1, h2 => ⟨h1, h2⟩
  | [], _ :: _, _, _, e, _, _, _ => by cases e
  | _ :: _, [], _, _, e, _, _, _ => by cases e
  | (k, v) :: more, (k', x) :: ps, kvs, acc, e, r, h1, h2 => by
    have e1 : k = k' := (List.cons.inj e).1
    have e2 : more.map (·.1) = ps.map (·.1) := (List.cons.inj e).2
    subst e1
    cases r with
    | cons r1 r2 =>
      have z := putP_ok (k := k) r1 h2
      rw [h1] at z
      exact mergeP_ok (kvs := putK kvs k v) (acc := putP k x acc.1 acc.2) e2 r2 z.1 z.2
/-- a list, a tuple -/
def seqP : P → Option (List P)
  | .lst xs => some xs
  | .tup xs => some xs
  | .fz xs => some xs
  | _ => none
theorem seqP_ok {K : PySem.W.Frag} {cl : String → Option Addr} {H : Hp} {N : Addr → Prop} {x : P} {v : V} {xs : List P} (h : RO K cl H N x v) (e : seqP x = some xs) : ∃ a vs, v = .ref a ∧ (SqL K H a vs ∨ SqT K H a vs) ∧ RPs K cl H N xs vs := by
  cases x <;> first | (cases e; done) | skip
  · cases e
    obtain ⟨a, vs, rfl, h1, h2⟩ := h.tup_inv
    exact ⟨a, vs, rfl, .inr (SqT.of h1), h2⟩
  · cases e
    obtain ⟨a, vs, rfl, h1, h2⟩ := h.lst_inv
    exact ⟨a, vs, rfl, .inl (SqL.of h1), h2⟩
  · cases e
    obtain ⟨a, vs, rfl, h1, h2⟩ := h.fz_inv
    exact ⟨a, vs, rfl, .inl h1, h2⟩
/-- what makes a new dict -/
def PrimK (K : PySem.W.Frag) (cl : String → Option Addr) (r : List V → Hp → VK → Prop) (f : List P → Option (List L2.Key × List P)) : Prop :=
  ∀ (ω : Om) (H : Hp) (xs : List P) (zs : List L2.Key × List P) (vs : List V) (Q : VK), Dom cl ω H → ROs K cl H (Fr ω) xs vs → f xs = some zs → (∀ l kvs, H l = none → kvs.map (·.1) = zs.1 → RPs K cl H (Fr ω) zs.2 (kvs.map (·.2)) → Q (.ref l) (upd H l (.dK kvs))) → r vs H Q
def mPrimK (f : List P → Option (List L2.Key × List P)) (ms : List M) : MF := fun σ => (mAs ms σ).bind fun os σ1 => match (getAll σ1 os).bind f with
  | some zs => .ok (.dK zs.1 zs.2) σ1
  | none => .stuck
theorem tF_primK {g : G} {r : List V → Hp → VK → Prop} {f : List P → Option (List L2.Key × List P)} {ms : List M} (hp : PrimK g.K g.cl r f) (σ : L2.St) (H : Hp) (Q : VK) (h : tF g (mPrimK f ms) σ H Q) : tA g (mAs ms) σ H fun vs H1 => r vs H1 Q := by
  obtain ⟨ω, σD, st, q⟩ := h
  refine ⟨ω, σD, st, q.bind.imp fun os σ1 ω1 H1 s1 st1 q1 vs ov => ?_⟩
  cases e : (getAll σ1 os).bind f with
  | none => rw [e] at q1; exact q1.elim
  | some zs =>
    rw [e] at q1
    obtain ⟨xs, e1, e2⟩ := Option.bind_eq_some_iff.mp e
    exact hp ω1 H1 xs zs vs Q st1.dom (st1.getAll ov e1) e2 fun l kvs hl e r => Post.laid st1 hl rfl q1 fun k => .dK upd_same lay_at e (RPs.imp k r)
/-- dict(zip(a, b)) -/
def zipPs : List L2.Key → List P → List (L2.Key × P)
  | k :: ks, v :: vs => (k, v) :: zipPs ks vs
  | _, _ => []
theorem zipPs_ok {K : PySem.W.Frag} {cl : String → Option Addr} {H : Hp} {N : Addr → Prop} : ∀ {ks : List L2.Key} {ys : List P} {vs : List V}, RPs K cl H N ys vs → (zipK ks vs).map (·.1) = (zipPs ks ys).map (·.1) ∧ RPs K cl H N ((zipPs ks ys).map (·.2)) ((zipK ks vs).map (·.2))
  | [], _, _, _ => ⟨rfl, .nil⟩
  | k :: ks, _, _, .nil => ⟨rfl, .nil⟩
  | k :: ks, _, _, .cons h t => by
    obtain ⟨z1, z2⟩ := zipPs_ok (ks := ks) t
    exact ⟨by simp only [zipK, zipPs, List.map_cons, z1], .cons h z2⟩
def rDictZip (K : PySem.W.Frag) : List V → Hp → VK → Prop := fun vs H1 Q => ∃ a b ks ys, vs = [.ref a, .ref b] ∧ (SqL K H1 a (ks.map kV) ∨ SqT K H1 a (ks.map kV)) ∧ (SqL K H1 b ys ∨ SqT K H1 b ys) ∧ ∀ p, H1 p = none → Q (.ref p) (upd H1 p (.dK (mergeK [] (zipK ks ys))))
def pDictZip : List P → Option (List L2.Key × List P)
  | [x, y] => ((seqP x).bind keysOf).bind fun ks => (seqP y).map fun ys => mergeP ([], []) (zipPs ks ys)
  | _ => none
theorem primK_zip {K : PySem.W.Frag} {cl : String → Option Addr} : PrimK K cl (rDictZip K) pDictZip := by
  intro ω H xs zs vs Q dm hx e q
  match xs, e with
  | [x, y], e =>
    obtain ⟨ks, e1, e2⟩ := Option.bind_eq_some_iff.mp e
    obtain ⟨xs, e3, e4⟩ := Option.bind_eq_some_iff.mp e1
    obtain ⟨ys, e5, rfl⟩ := Option.map_eq_some_iff.mp e2
    obtain ⟨v, w, rfl, hv, hw⟩ := hx.two
    obtain ⟨a, us, rfl, h1, h2⟩ := seqP_ok hv e3
    obtain ⟨b, ws, rfl, h3, h4⟩ := seqP_ok hw e5
    rw [keysOf_ok h2 e4] at h1
    refine ⟨a, b, ks, ws, rfl, h1, h3, fun p hp => ?_⟩
    obtain ⟨z1, z2⟩ := zipPs_ok (ks := ks) h4
    obtain ⟨y1, y2⟩ := mergeP_ok (kvs := []) (acc := ([], [])) z1 z2 rfl .nil
    exact q p _ hp y1 y2
theorem df_dictZip {X : Cx} {g : G} {e : Expr} {ms : List M} (he : PE X e (tDictZip g.K (tA g (mAs ms)))) : PE X e (tF g (mPrimK pDictZip ms)) := pe_weak he fun σ H Q h => tF_primK primK_zip σ H Q h
/-- dict(xs), xs pairs; dict(d) -/
def pairsP : List P → Option (List (L2.Key × P))
  | [] => some []
  | .tup [k, v] :: r => (keyOf k).bind fun k => (pairsP r).map fun ps => (k, v) :: ps
  | _ :: _ => none
def pDictOf : List P → Option (List L2.Key × List P)
  | [.lst xs] => (pairsP xs).map fun ps => mergeP ([], []) ps
  | [.dK ks xs] => some (ks, xs)
  | _ => none
def rDictOf (K : PySem.W.Frag) : List V → Hp → VK → Prop := fun vs H Q => (∃ (a : Addr) (ps : List Addr) (kvs : List (L2.Key × V)), vs = [.ref a] ∧ SqL K H a (ps.map V.ref) ∧ Paired (fun p kv => SqT K H p [kV kv.1, kv.2]) ps kvs ∧ ∀ p, H p = none → Q (.ref p) (upd H p (.dK (mergeK [] kvs)))) ∨
  ∃ (a : Addr) (kvs : List (L2.Key × V)), vs = [.ref a] ∧ L2.Rd H a (.dK kvs) ∧ ∀ p, H p = none → Q (.ref p) (upd H p (.dK kvs))
theorem call_dictOf {X : Cx} (hc : X.calm = true) : CallR X (.type "dict") (rDictOf X.K) := by
  refine CallR.or ?_ ?_
  · intro pins s σ H vs us Q I r h
    exact call_dictP hc pins s σ H vs us Q I r h
  · intro pins s σ H vs us Q I r h
    exact call_dictD pins s σ H vs us Q I r h
theorem pairsP_ok {K : PySem.W.Frag} {cl : String → Option Addr} {H : Hp} {N : Addr → Prop} : ∀ {xs : List P} {vs : List V} {ps : List (L2.Key × P)}, RPs K cl H N xs vs → pairsP xs = some ps →
    ∃ (as : List Addr) (kvs : List (L2.Key × V)), vs = as.map V.ref ∧ Paired (fun p kv => SqT K H p [kV kv.1, kv.2]) as kvs ∧ kvs.map (·.1) = ps.map (·.1) ∧ RPs K cl H N (ps.map (·.2)) (kvs.map (·.2))
  | [], _, _, .nil, e => by cases e; exact ⟨[], [], rfl, .nil, rfl, .nil⟩
  | x :: xs, _, ps, .cons h t, e => by
    unfold pairsP at e
    split at e
    · rename_i z1 z2; cases z2
    · rename_i k y r z1
      cases z1
      obtain ⟨kk, e1, e2⟩ := Option.bind_eq_some_iff.mp e
      obtain ⟨ps', e3, rfl⟩ := Option.map_eq_some_iff.mp e2
      obtain ⟨as, kvs, q1, q2, q3, q4⟩ := pairsP_ok t e3
      cases h with
      | @tup a ws _ h1 h2 =>
        cases h2 with
        | cons h3 h4 =>
          cases h4 with
          | @cons _ v2 _ _ h5 h6 =>
            cases h6
            have ek := keyOf_ok (.p h3) e1
            subst ek
            exact ⟨a :: as, (kk, v2) :: kvs, by simp [q1], .cons (SqT.of h1) q2, by simp [q3], .cons h5 q4⟩
    · cases e
theorem primK_of {K : PySem.W.Frag} {cl : String → Option Addr} : PrimK K cl (rDictOf K) pDictOf := by
  intro ω H xs zs vs Q dm hx e q
  match xs, e with
  | [.lst xs], e =>
    obtain ⟨ps, e1, rfl⟩ := Option.map_eq_some_iff.mp e
    obtain ⟨v, rfl, hv⟩ := hx.one
    obtain ⟨a, us, rfl, h1, h2⟩ := hv.lst_inv
    obtain ⟨as, kvs, rfl, q2, q3, q4⟩ := pairsP_ok h2 e1
    refine .inl ⟨a, as, kvs, rfl, SqL.of h1, q2, fun p hp => ?_⟩
    obtain ⟨y1, y2⟩ := mergeP_ok (kvs := []) (acc := ([], [])) q3 q4 rfl .nil
    exact q p _ hp y1 y2
  | [.dK ks xs], e =>
    cases e
    obtain ⟨v, rfl, hv⟩ := hx.one
    obtain ⟨a, kvs, rfl, h1, h2, h3⟩ := hv.dK_inv
    exact .inr ⟨a, kvs, rfl, h1, fun p hp => q p kvs hp h2 h3⟩
theorem df_dictOf {X : Cx} {g : G} {e : Expr} {ms : List M} (he : PE X e (tCB (rDictOf g.K) (tA g (mAs ms)))) : PE X e (tF g (mPrimK pDictOf ms)) := pe_weak he fun σ H Q h => tF_primK primK_of σ H Q h
end PV

set_option Elab.async false
set_option linter.all false
set_option maxRecDepth 100000
set_option maxHeartbeats 4000000
/-! PvR: dict displays, .get, len(set(..)), min, max, list(range(..)), reversed slices. -/

namespace PV
open PySem PySem.Spec PyProof.Rows L2

/-! ### a thing parked while others are made -/
section
variable {g : G} {ω ω0 : Om} {H H0 : Hp} {σD : Env} {σ : L2.St} {p : Addr} {o : HO}
theorem park (st : Sta g ω H σD σ) (hp : H p = none) (ht : isT o = false) : ∃ ω', Step ω H ω' (upd H p o) ∧ Sta g ω' (upd H p o) σD σ ∧ ω' p = .out := by
  obtain ⟨sl, stl, kl⟩ := lay_new (o := o) st hp ht
  have sr : Step (lay ω p) (upd H p o) (ren (lay ω p) .tmp .out) (upd H p o) := .ren (by intro z; cases z) (by intro z; cases z)
  refine ⟨_, sl.trans sr, ⟨stl.len, fun j d' e => ?_, stl.par, stl.dom.ren (by intro z; cases z)⟩, ren_at lay_at⟩
  obtain ⟨v', e4, r'⟩ := stl.rd j d' e
  exact ⟨v', e4, r'.own (fun a h => ren_free (by intro z; cases z) h) fun a h => ren_ne h (by intro z; cases z)⟩
theorem unpark (d0 : Dom g.cl ω0 H0) (s : Step ω0 H0 ω H) (st : Sta g ω H σD σ) (hp : H0 p = none) (ho : ω p = .out) (ht : isT o = false) :
    ∃ ω4, Step ω0 H0 ω4 (upd H p o) ∧ Sta g ω4 (upd H p o) σD σ ∧ ω4 p = .tmp ∧ ∀ x v, RP g.K g.cl H (Fr ω) x v → RP g.K g.cl (upd H p o) (Fr ω4) x v := by
  obtain ⟨st2, k2⟩ := poke (o := o) st ho ht
  have s2 := s.poke (o := o) hp
  let ω4 : Om := fun a => if a = p then .tmp else ω a
  have hf : ∀ a, ω a = .free → ω4 a = .free := fun a h => by
    show (if a = p then Own.tmp else ω a) = _
    rw [if_neg (by rintro rfl; rw [ho] at h; cases h)]; exact h
  have h4 : ∀ a, H0 a ≠ none → ω4 a = ω a := fun a h => by
    show (if a = p then Own.tmp else ω a) = _
    rw [if_neg (by rintro rfl; exact h hp)]
  have nn : ∀ b, ω0 b ≠ .free → H0 b ≠ none := fun b hb => by
    obtain ⟨u, e1, _⟩ := d0.dom b hb
    rw [e1]; intro z; cases z
  refine ⟨ω4, ⟨s2.fr, s2.ot, fun a h => by rw [h4 a (nn a (by rw [h]; intro z; cases z))]; exact s2.out a h, fun a h t => by rw [h4 a t]; exact s2.fz a h t, s2.th, fun a q h => by rw [h4 a (nn a (by rw [h]; intro z; cases z))]; exact s2.tb a q h⟩, ⟨st2.len, fun j d e => ?_, st2.par, ⟨fun a h => ?_, fun a q h => by
        have e0 : ω a = .tab q := by
          change (if a = p then Own.tmp else ω a) = _ at h
          split at h
          · cases h
          · exact h
        exact (st2.dom.tab a q e0).keep (fun _ _ h _ => .inl h) (fun c h _ => hf c h) (fun _ h => h), fun n a h => by
        show (if a = p then Own.tmp else ω a) = _
        rw [if_neg (by rintro rfl; rw [st2.dom.tbs n _ h] at ho; cases ho)]; exact st2.dom.tbs n a h⟩⟩, by show (if p = p then _ else _) = _; rw [if_pos rfl], fun x v r => RP.keep (Keeps.own hf) _ _ (k2 x v r)⟩
  · obtain ⟨v, e1, r⟩ := st2.rd j d e
    exact ⟨v, e1, r.own hf fun a h => by
      show (if a = p then Own.tmp else ω a) = _
      rw [if_neg (by rintro rfl; rw [ho] at h; cases h)]; exact h⟩
  · by_cases ea : a = p
    · subst ea; exact ⟨o, upd_same, ht⟩
    · exact st2.dom.dom a (by
        have : ω4 a = ω a := by show (if a = p then Own.tmp else ω a) = _; rw [if_neg ea]
        rw [← this]; exact h)
/-- one more piece, from a later state; what it gave is known -/
theorem Post.more {α β : Type} {r : R α} {f : α → Env → R β} {K : β → Env → Om → Hp → Prop} (h : Post g ω0 H0 σ (r.bind f) K) (s : Step ω0 H0 ω H) : Post g ω H σ r fun a σD' _ _ => r = .ok a σD' ∧ Post g ω0 H0 σ (f a σD') K := by
  cases r with
  | ok a σD' => exact fun _ _ _ _ => ⟨rfl, h⟩
  | exc c ns vs σD' => exact fun ω' H' C d s2 st x => h ω' H' C d (s.trans s2) st x
  | stuck => exact h
end
/-! ### {"a": x, ..} -/
def mDisp (ks : List L2.Key) (ms : List M) : MF := fun σ => (mAs ms σ).bind fun os σ1 => match pureAll os with
  | some xs => if xs.length ≤ 15 then .ok (.dK (mergeP ([], []) (zipPs ks xs)).1 (mergeP ([], []) (zipPs ks xs)).2) σ1 else .stuck
  | none => .stuck
theorem pairs_run {g : G} {σ : L2.St} {H0 : Hp} {ω0 : Om} {β : Type} {K : β → Env → Om → Hp → Prop} : ∀ {ks : List L2.Key} {ms : List M} {ω : Om} {H : Hp} {σD : Env} {F : List O → Env → R β} {Q : List (V × V) → Hp → Prop}, ks.length = ms.length → Sta g ω H σD σ → Step ω0 H0 ω H → Post g ω0 H0 σ ((mAs ms σD).bind F) K →
    (∀ os vs ω' H' σ', Step ω H ω' H' → Sta g ω' H' σ' σ → OVs g ω' H' σ os vs → vs.length = ks.length → Post g ω0 H0 σ (F os σ') K → Q ((zipK ks vs).map fun kv => (kV kv.1, kv.2)) H') → tPairs ((ks.zip ms).map fun km => (tC (kV km.1), tM g km.2)) σ H Q
  | [], [], ω, H, σD, F, Q, _, st, s, h, q => q [] [] ω H σD .refl st .nil rfl h
  | [], _ :: _, _, _, _, _, _, e, _, _, _, _ => by simp at e
  | _ :: _, [], _, _, _, _, _, e, _, _, _, _ => by simp at e
  | k :: ks, m :: ms, ω, H, σD, F, Q, e, st, s, h, q => by
    have h' : Post g ω0 H0 σ ((m σD).bind fun o σ1 => ((mAs ms σ1).bind fun os σ2 => R.ok (o :: os) σ2).bind F) K := by
      have : (mAs (m :: ms) σD).bind F = (m σD).bind fun o σ1 => ((mAs ms σ1).bind fun os σ2 => R.ok (o :: os) σ2).bind F := by
        show ((m σD).bind fun o σ1 => _).bind F = _
        cases m σD <;> rfl
      rw [← this]; exact h
    show tC (kV k) σ H fun x H1 => tM g m σ H1 fun y H2 => _
    refine ⟨ω, σD, st, (Post.more h' s).imp fun o σ1 ω1 H1 s1 st1 ⟨e1, q1⟩ v ov => ?_⟩
    have q2 : Post g ω0 H0 σ ((mAs ms σ1).bind fun os σ2 => F (o :: os) σ2) K := by
      have : ((mAs ms σ1).bind fun os σ2 => R.ok (o :: os) σ2).bind F = (mAs ms σ1).bind fun os σ2 => F (o :: os) σ2 := by cases mAs ms σ1 <;> rfl
      rw [← this]; exact q1
    exact pairs_run (F := fun os σ2 => F (o :: os) σ2) (by simpa using e) st1 (s.trans s1) q2 fun os vs ω' H' σ' s2 st2 ovs hl h2 => q (o :: os) (v :: vs) ω' H' σ' (s1.trans s2) st2 (.cons (ov.step s2 st1.dom) ovs) (by simp [hl]) h2
theorem zipK_keys : ∀ (ks : List L2.Key) (vs : List V), (zipK ks vs).length ≤ vs.length
  | ks, vs => by rw [zipK_len]; exact Nat.min_le_right _ _
theorem df_disp {X : Cx} {g : G} {e : Expr} {ks : List L2.Key} {ms : List M} (hl : ks.length = ms.length) (he : PE X e (tDisp ((ks.zip ms).map fun km => (tC (kV km.1), tM g km.2)))) : PE X e (tF g (mDisp ks ms)) := pe_weak he fun σ H Q h p hp => by
  obtain ⟨ω, σD, st, q⟩ := h
  obtain ⟨ω1, s1, st1, o1⟩ := park (o := .dK []) st hp rfl
  refine pairs_run hl st1 s1 q fun os vs ω2 H2 σ2 s2 st2 ov hvl h2 => ?_
  have hp2 : H2 p = some (.dK []) := s2.ot p _ upd_same o1 rfl
  refine ⟨hp2, zipK ks vs, rfl, ?_⟩
  split at h2
  · rename_i xs ex
    split at h2
    · rename_i hx
      have rp := pureAll_ok ov ex
      obtain ⟨z1, z2⟩ := zipPs_ok (ks := ks) rp
      obtain ⟨ω4, s4, st4, o4, k4⟩ := unpark (o := .dK (mergeK [] (zipK ks vs))) st.dom (s1.trans s2) st2 hp (s2.out p o1) rfl
      obtain ⟨y1, y2⟩ := mergeP_ok (kvs := []) (acc := ([], [])) z1 z2 rfl .nil
      refine ⟨?_, h2 ω4 _ s4 st4 _ (.dK upd_same o4 y1 (RPs.imp k4 y2))⟩
      have := zipK_keys ks vs
      rw [← rp.length] at this
      omega
    · exact h2.elim
  · exact h2.elim
/-! ### d.get(k, x), d.get(k) -/
def isDP : Option P → Bool
  | some (.dK _ _) => true
  | some (.dT _ _) => true
  | _ => false
theorem isDP_ok {K : PySem.W.Frag} {cl : String → Option Addr} {H : Hp} {N : Addr → Prop} {x : P} {v : V} (h : RO K cl H N x v) (e : isDP (some x) = true) : ∃ a, v = .ref a ∧ IsD H a := by
  cases x <;> first | (cases e; done) | skip
  · obtain ⟨a, kvs, rfl, h1, _⟩ := h.dK_inv
    exact ⟨a, rfl, .inl ⟨kvs, h1⟩⟩
  · obtain ⟨a, kvs, rfl, h1, _⟩ := h.dT_inv
    exact ⟨a, rfl, .inr ⟨kvs, h1⟩⟩
def mGet2 (md mk mx : M) : M := fun σ => (md σ).bind fun od σ1 => if isDP (od.get σ1) = true then (mk σ1).bind fun ok σ2 => (mx σ2).bind fun ox σ3 => (match (od.get σ3).bind fun d => (ok.get σ3).bind fun k => pGet? d k with
  | some (some x) => .ok (.v x) σ3
  | some none => .ok ox σ3
  | none => .stuck) else .stuck
theorem de_get2 {X : Cx} {g : G} {e : Expr} {md mk mx : M} (he : PE X e (tDGet2 (tM g md) (tM g mk) (tM g mx))) : PE X e (tM g (mGet2 md mk mx)) := pe_weak he fun σ H Q h => by
  obtain ⟨ω, σD, st, q⟩ := h
  refine ⟨ω, σD, st, q.bind.imp fun od σ1 ω1 H1 s1 st1 q1 vd ovd => ?_⟩
  split at q1
  · rename_i hd
    obtain ⟨x, ex⟩ : ∃ x, od.get σ1 = some x := by
      cases z : od.get σ1 with
      | none => rw [z] at hd; cases hd
      | some x => exact ⟨x, rfl⟩
    rw [ex] at hd
    obtain ⟨a, rfl, da⟩ := isDP_ok (st1.get ovd ex) hd
    refine ⟨a, rfl, da, ω1, σ1, st1, q1.bind.imp fun ok σ2 ω2 H2 s2 st2 q2 vk ovk => ⟨ω2, σ2, st2, q2.bind.imp fun ox σ3 ω3 H3 s3 st3 q3 vx ovx => ?_⟩⟩
    have ovd3 := (ovd.step s2 st1.dom).step s3 st2.dom
    have ovk3 := ovk.step s3 st2.dom
    split at q3
    · rename_i y e
      obtain ⟨d, e1, e⟩ := Option.bind_eq_some_iff.mp e
      obtain ⟨k, e2, e⟩ := Option.bind_eq_some_iff.mp e
      obtain ⟨a', o, ea, dg, z1, z2⟩ := pGet_ok (st3.get ovd3 e1) (st3.get ovk3 e2) e
      cases ea
      obtain ⟨w, rfl, rw'⟩ := z1 y rfl
      exact ⟨some w, dg, Post.ok q3 st3 w (.v rw')⟩
    · rename_i e
      obtain ⟨d, e1, e⟩ := Option.bind_eq_some_iff.mp e
      obtain ⟨k, e2, e⟩ := Option.bind_eq_some_iff.mp e
      obtain ⟨a', o, ea, dg, z1, z2⟩ := pGet_ok (st3.get ovd3 e1) (st3.get ovk3 e2) e
      cases ea
      obtain rfl := z2 rfl
      exact ⟨none, dg, Post.ok q3 st3 vx ovx⟩
    · exact q3.elim
  · exact q1.elim
def mGet1 (md mk : M) : M := fun σ => (md σ).bind fun od σ1 => if isDP (od.get σ1) = true then (mk σ1).bind fun ok σ2 => (match (od.get σ2).bind fun d => (ok.get σ2).bind fun k => pGet? d k with
  | some (some x) => .ok (.v x) σ2
  | some none => .ok (.v .non) σ2
  | none => .stuck) else .stuck
theorem de_get1 {X : Cx} {g : G} {e : Expr} {md mk : M} (he : PE X e (tDGet1 (tM g md) (tM g mk))) : PE X e (tM g (mGet1 md mk)) := pe_weak he fun σ H Q h => by
  obtain ⟨ω, σD, st, q⟩ := h
  refine ⟨ω, σD, st, q.bind.imp fun od σ1 ω1 H1 s1 st1 q1 vd ovd => ?_⟩
  split at q1
  · rename_i hd
    obtain ⟨x, ex⟩ : ∃ x, od.get σ1 = some x := by
      cases z : od.get σ1 with
      | none => rw [z] at hd; cases hd
      | some x => exact ⟨x, rfl⟩
    rw [ex] at hd
    obtain ⟨a, rfl, da⟩ := isDP_ok (st1.get ovd ex) hd
    refine ⟨a, rfl, da, ω1, σ1, st1, q1.bind.imp fun ok σ2 ω2 H2 s2 st2 q2 vk ovk => ?_⟩
    have ovd3 := ovd.step s2 st1.dom
    split at q2
    · rename_i y e
      obtain ⟨d, e1, e⟩ := Option.bind_eq_some_iff.mp e
      obtain ⟨k, e2, e⟩ := Option.bind_eq_some_iff.mp e
      obtain ⟨a', o, ea, dg, z1, z2⟩ := pGet_ok (st2.get ovd3 e1) (st2.get ovk e2) e
      cases ea
      obtain ⟨w, rfl, rw'⟩ := z1 y rfl
      exact ⟨some w, dg, Post.ok q2 st2 w (.v rw')⟩
    · rename_i e
      obtain ⟨d, e1, e⟩ := Option.bind_eq_some_iff.mp e
      obtain ⟨k, e2, e⟩ := Option.bind_eq_some_iff.mp e
      obtain ⟨a', o, ea, dg, z1, z2⟩ := pGet_ok (st2.get ovd3 e1) (st2.get ovk e2) e
      cases ea
      obtain rfl := z2 rfl
      exact ⟨none, dg, Post.ok q2 st2 .non (.v .non)⟩
    · exact q2.elim
  · exact q1.elim
/-! ### len(set(x)) -/
def ddup (ns : List Int) : List Int := ns.foldl step_dedup []
theorem ddup_go (acc ns : List Int) (h : acc.Nodup) : (ns.foldl step_dedup acc).Nodup ∧ ∀ k, k ∈ ns.foldl step_dedup acc ↔ k ∈ acc ∨ k ∈ ns := by
  induction ns generalizing acc with
  | nil => exact ⟨h, fun k => by simp⟩
  | cons n ns ih =>
    rw [List.foldl_cons]
    have e : (step_dedup acc n).Nodup ∧ ∀ k, k ∈ step_dedup acc n ↔ k ∈ acc ∨ k = n := by
      unfold step_dedup
      by_cases hm : acc.any (· == n) = true
      · rw [if_pos hm]
        have hn : n ∈ acc := by
          obtain ⟨x, hx, ex⟩ := List.any_eq_true.mp hm
          rw [← eq_of_beq ex]; exact hx
        exact ⟨h, fun k => ⟨.inl, fun z => z.elim id fun z => z ▸ hn⟩⟩
      · rw [if_neg hm]
        have hn : n ∉ acc := fun z => hm (List.any_eq_true.mpr ⟨n, z, beq_self_eq_true n⟩)
        refine ⟨List.nodup_append.mpr ⟨h, List.nodup_cons.mpr ⟨by simp, List.nodup_nil⟩, fun a ha b hb => ?_⟩, fun k => by simp⟩
        rw [List.mem_singleton.mp hb]
        rintro rfl
        exact hn ha
    obtain ⟨z1, z2⟩ := ih _ e.1
    refine ⟨z1, fun k => ?_⟩
    rw [z2, e.2, List.mem_cons]
    constructor
    · rintro ((h | h) | h)
      · exact .inl h
      · exact .inr (.inl h)
      · exact .inr (.inr h)
    · rintro (h | h | h)
      · exact .inl (.inl h)
      · exact .inl (.inr h)
      · exact .inr h
theorem ddup_nodup (ns : List Int) : (ddup ns).Nodup := (ddup_go [] ns List.nodup_nil).1
theorem ddup_mem (ns : List Int) (k : Int) : k ∈ ddup ns ↔ k ∈ ns := by
  unfold ddup
  rw [(ddup_go [] ns List.nodup_nil).2]; simp
theorem nodup_len {a b : List Int} (ha : a.Nodup) (hb : b.Nodup) (h : ∀ k, k ∈ a ↔ k ∈ b) : a.length = b.length := by
  have p : a.Perm b := (List.perm_ext_iff_of_nodup ha hb).mpr h
  exact p.length_eq
theorem firstMet_all (ns : List Int) : firstMet (fun i => ns.getD i 0) ns.length = ddup ns := by
  unfold firstMet ddup
  congr 1
  apply List.ext_getElem?
  intro j
  rw [List.getElem?_map]
  by_cases h : j < ns.length
  · simp [h, List.getD]
  · rw [List.getElem?_eq_none (by simpa using h), List.getElem?_eq_none (by omega)]; rfl
def tLenSetA (K : PySem.W.Frag) (ta : TE) : TE := fun σ H Q => ta σ H fun x H1 => ∃ (l : Addr) (ns : List Int), x = V.ref l ∧ (SqL K H1 l (ns.map V.int) ∨ SqT K H1 l (ns.map V.int)) ∧ ns.length ≤ 1000 ∧ Q (.int (ddup ns).length) H1
theorem pe_lenSetA {X : Cx} {a : Expr} {ta : TE} {p p2 q pos : Pos} (hc : X.calm = true) (hg : Gl X "len") (hm : X.mg "len" = none) (hg2 : Gl X "set") (hm2 : X.mg "set" = none) (ha : PE X a ta)
    (na : starEach [a] X.env = (false, eval a X.env) :: starEach [] X.env := by rfl) : PE X (.Call (.Name "len" p) [.Call (.Name "set" p2) [a] [] q] [] pos) (tLenSetA X.K ta) := by
  refine ⟨fun pins s σ H Q I h => ?_⟩
  refine Call_ (ld_blt I hg hm PySem.boot_len ?_)
  refine PyProof.Rows.callWith_builtin1 (PyProof.Rows.args_cons ?_ rfl) rfl rfl
  refine Call_ (ld_blt I hg2 hm2 PyProof.Rows.boot_set ?_)
  refine PyProof.Rows.callWith_type1 (PyProof.Rows.args_cons (thn (ha.run pins s σ H _ I h) fun v s1 ⟨x, H1, I1, r1, l, ns, ex, hq, hl, q1⟩ => PyProof.Rows.args_nil ?_) na) na rfl
  subst ex
  cases r1
  rcases hq with hq | hq
  · obtain ⟨its, r, pl, hz⟩ := I1.list hq
    have hlen : its.toArray.size = ns.length := by rw [List.size_toArray, ← r.length, List.length_map]
    refine call_set_list (I1.ok.hd hc) pl.isList (ns := ns) (by simpa using r.ints) (by unfold scanBound; omega) fun h' tk hS hk => ?_
    rw [hlen, firstMet_all] at hS
    refine PyProof.Rows.args_nil ?_
    obtain ⟨o, es, ep, t, ho, hex, hd, _, _, _, hf, hn⟩ := hS
    have I2 : L2.Inv X pins σ H1 { s1 with heap := h', toks := tk } := I1.kept fun b o e => hk b o (Heap.lt_size e) e
    have hle : (ddup ns).length ≤ ns.length := by
      have := firstMet_length_le (fun i => ns.getD i 0) ns.length
      rw [firstMet_all] at this
      exact this
    exact call_len_set ho hex hd hf (by rw [hn]; omega) ⟨.int (ddup ns).length, H1, I2.tok _, ⟨_, by rw [hn]⟩, q1⟩
  · obtain ⟨its, r, pl, hz⟩ := I1.tuple hq
    refine call_set_tupI (E := X.xe) ns (I1.ok.hd hc) (show s1.heap.IsTuple l its.toArray from pl) (by simpa using r.ints) (by unfold scanBound; omega) fun h' tk c hS hcl hk => ?_
    refine PyProof.Rows.args_nil ?_
    obtain ⟨o, es, ep, t, ho, hex, hd, hg1, hnd, hmem, hb, hf, hn, _⟩ := hS
    have I2 : L2.Inv X pins σ H1 { s1 with heap := h', toks := tk } := I1.kept hk
    have e : es.size = (ddup ns).length := by
      have := nodup_len hnd (ddup_nodup ns) fun k => by rw [← hmem k, ddup_mem]; simp
      simpa using this
    exact call_len_set ho hex hd hf (by rw [hn]; omega) ⟨.int (ddup ns).length, H1, I2.tok _, ⟨_, by rw [e]⟩, q1⟩
/-- len(set(x)), x a row of numbers -/
def pLenSet (x : P) : Option P := ((seqP x).bind allI).bind fun ns => if ns.length ≤ 1000 then some (.int (ddup ns).length) else none
theorem de_lenSet {X : Cx} {g : G} {e : Expr} {m : M} (he : PE X e (tLenSetA g.K (tM g m))) : PE X e (tM g (mOp1 pLenSet m)) := pe_weak he fun σ H Q h => by
  obtain ⟨ω, σD, st, q⟩ := h
  refine ⟨ω, σD, st, q.bind.imp fun o σ1 ω1 H1 s1 st1 q1 v ov => ?_⟩
  obtain ⟨z, e, q1⟩ := lift_post q1
  obtain ⟨x, e1, e2⟩ := Option.bind_eq_some_iff.mp e
  obtain ⟨ns, e3, e4⟩ := Option.bind_eq_some_iff.mp e2
  obtain ⟨xs, e5, e6⟩ := Option.bind_eq_some_iff.mp e3
  split at e4
  · rename_i hl
    cases e4
    obtain ⟨a, vs, rfl, h1, h2⟩ := seqP_ok (st1.get ov e1) e5
    obtain rfl := allI_some e6
    obtain rfl := RPs.ints h2
    exact ⟨a, ns, rfl, h1, hl, Post.ok q1 st1 _ (.v (.int _))⟩
  · cases e4
/-! ### min, max of a list of numbers -/
section
variable {K : PySem.W.Frag} {cl : String → Option Addr}
def pMaxL : P → Option P
  | .lst xs => (allI xs).bind fun ns => ns.max?.map P.int
  | .fz xs => (allI xs).bind fun ns => ns.max?.map P.int
  | _ => none
def pMinL : P → Option P
  | .lst xs => (allI xs).bind fun ns => ns.min?.map P.int
  | .fz xs => (allI xs).bind fun ns => ns.min?.map P.int
  | _ => none
theorem max_of {ns : List Int} {m : Int} (h : ns.max? = some m) {Q : Int → Prop} (q : Q m) : 0 < ns.length ∧ ∀ k, k ∈ ns → (∀ y, y ∈ ns → y ≤ k) → Q k := by
  have h1 := List.max?_eq_some_iff.mp h
  refine ⟨List.length_pos_of_mem h1.1, fun k hk hle => ?_⟩
  have : k = m := Int.le_antisymm (h1.2 k hk) (hle m h1.1)
  rw [this]; exact q
theorem min_of {ns : List Int} {m : Int} (h : ns.min? = some m) {Q : Int → Prop} (q : Q m) : 0 < ns.length ∧ ∀ k, k ∈ ns → (∀ y, y ∈ ns → k ≤ y) → Q k := by
  have h1 := List.min?_eq_some_iff.mp h
  refine ⟨List.length_pos_of_mem h1.1, fun k hk hle => ?_⟩
  have : k = m := Int.le_antisymm (hle m h1.1) (h1.2 k hk)
  rw [this]; exact q
theorem prim_maxL : PrimN K cl (rMax K) (pF1 pMaxL) := primN1 fun ω H x z v Q dm hx e q => by
  have go : ∀ xs a vs, v = .ref a → SqL K H a vs → RPs K cl H (Fr ω) xs vs → (allI xs).bind (fun ns => ns.max?.map P.int) = some z → rMax K [v] H Q := fun xs a vs ev h1 h2 e => by
    obtain ⟨ns, e1, e2⟩ := Option.bind_eq_some_iff.mp e
    obtain ⟨m, e3, rfl⟩ := Option.map_eq_some_iff.mp e2
    obtain rfl := allI_some e1
    obtain rfl := RPs.ints h2
    subst ev
    obtain ⟨z1, z2⟩ := max_of e3 (Q := fun m => Q (.int m) H) (q H _ (.refl H) (.int _))
    exact ⟨a, ns, rfl, h1, z1, z2⟩
  cases x <;> first | (cases e; done) | skip
  · obtain ⟨a, vs, ev, h1, h2⟩ := hx.lst_inv
    exact go _ a vs ev (SqL.of h1) h2 e
  · obtain ⟨a, vs, ev, h1, h2⟩ := hx.fz_inv
    exact go _ a vs ev h1 h2 e
theorem prim_minL : PrimN K cl (rMin K) (pF1 pMinL) := primN1 fun ω H x z v Q dm hx e q => by
  have go : ∀ xs a vs, v = .ref a → SqL K H a vs → RPs K cl H (Fr ω) xs vs → (allI xs).bind (fun ns => ns.min?.map P.int) = some z → rMin K [v] H Q := fun xs a vs ev h1 h2 e => by
    obtain ⟨ns, e1, e2⟩ := Option.bind_eq_some_iff.mp e
    obtain ⟨m, e3, rfl⟩ := Option.map_eq_some_iff.mp e2
    obtain rfl := allI_some e1
    obtain rfl := RPs.ints h2
    subst ev
    obtain ⟨z1, z2⟩ := min_of e3 (Q := fun m => Q (.int m) H) (q H _ (.refl H) (.int _))
    exact ⟨a, ns, rfl, h1, z1, z2⟩
  cases x <;> first | (cases e; done) | skip
  · obtain ⟨a, vs, ev, h1, h2⟩ := hx.lst_inv
    exact go _ a vs ev (SqL.of h1) h2 e
  · obtain ⟨a, vs, ev, h1, h2⟩ := hx.fz_inv
    exact go _ a vs ev h1 h2 e
end
/-! ### list(range(..)) -/
theorem rgV_rps {K : PySem.W.Frag} {cl : String → Option Addr} {H : Hp} {N : Addr → Prop} (a b : Int) : RPs K cl H N (rangeP a (b - a).toNat) (rgV a b) := by
  unfold rangeP rgV
  generalize (b - a).toNat = n
  have : ∀ l : List Nat, RPs K cl H N (l.map fun i => P.int (a + (i : Nat))) (l.map fun i => V.int (a + (i : Nat))) := fun l => by
    induction l with
    | nil => exact .nil
    | cons i l ih => exact .cons (.int _) ih
  exact this _
instance (a b : Int) : Decidable (RgOk a b) := by unfold RgOk; infer_instance
def mRgL (ms : List M) : MF := fun σ => (mAs ms σ).bind fun os σ1 => match getAll σ1 os with
  | some [.int j] => if RgOk 0 j then .ok (.lst (rangeP 0 j.toNat)) σ1 else .stuck
  | some [.int i, .int j] => if RgOk i j then .ok (.lst (rangeP i (j - i).toNat)) σ1 else .stuck
  | _ => .stuck
theorem df_rgL1 {X : Cx} {g : G} {e : Expr} {m : M} (he : PE X e (tLstRg (tRg1 (tM g m)))) : PE X e (tF g (mRgL [m])) := pe_weak he fun σ H Q h => by
  obtain ⟨ω, σD, st, q⟩ := h
  have e1 : mRgL [m] σD = (m σD).bind fun o σ1 => (match o.get σ1 with | some (.int j) => if RgOk 0 j then R.ok (D.lst (rangeP 0 j.toNat)) σ1 else .stuck | _ => .stuck) := by
    unfold mRgL mAs
    cases m σD with
    | ok o σ1 =>
      simp only [R.bind_ok, mAs, getAll_cons, getAll_nil]
      cases o.get σ1 with
      | none => rfl
      | some x => cases x <;> rfl
    | exc _ _ _ _ => rfl
    | stuck => rfl
  rw [e1] at q
  refine ⟨ω, σD, st, q.bind.imp fun o σ1 ω1 H1 s1 st1 q1 v ov => ?_⟩
  split at q1
  · rename_i j ej
    split at q1
    · rename_i hr
      refine ⟨j, (st1.get ov ej).int_inv, hr, fun p hp => ?_⟩
      have r := rgV_rps (K := g.K) (cl := g.cl) (H := H1) (N := Fr ω1) 0 j
      rw [Int.sub_zero] at r
      exact Post.laid st1 hp rfl q1 fun k => .lst upd_same lay_at (RPs.imp k r)
    · exact q1.elim
  · exact q1.elim
/-! ### xs[::-1] -/
def pRevL : P → Option P
  | .lst xs => some (.lst xs.reverse)
  | .fz xs => some (.lst xs.reverse)
  | _ => none
theorem de_revL {X : Cx} {g : G} {e : Expr} {m : M} (he : PE X e (tRevL g.K (tM g m))) : PE X e (tM g (mOp1 pRevL m)) := pe_weak he fun σ H Q h => by
  obtain ⟨ω, σD, st, q⟩ := h
  refine ⟨ω, σD, st, q.bind.imp fun o σ1 ω1 H1 s1 st1 q1 v ov => ?_⟩
  obtain ⟨z, e, q1⟩ := lift_post q1
  obtain ⟨x, e1, e2⟩ := Option.bind_eq_some_iff.mp e
  have go : ∀ a vs xs, v = .ref a → SqL g.K H1 a vs → RPs g.K g.cl H1 (Fr ω1) xs vs → z = .lst xs.reverse → ∃ a xs, v = .ref a ∧ SqL g.K H1 a xs ∧ ∀ p, H1 p = none → Q (.ref p) (upd H1 p (.lst xs.reverse)) := fun a vs xs ev h1 h2 ez => by
    subst ez
    refine ⟨a, vs, ev, h1, fun p hp => ?_⟩
    have sm : Same H1 (upd H1 p (.lst vs.reverse)) := Same.new hp
    exact q1 ω1 _ (.same sm) (st1.same sm) _ (.v (.lst upd_same (st1.dom.fresh hp) (RPs.keep (same_keeps sm) _ _ h2.reverse)))
  cases x <;> first | (cases e2; done) | skip
  · cases e2
    obtain ⟨a, vs, ev, h1, h2⟩ := (st1.get ov e1).lst_inv
    exact go a vs _ ev (SqL.of h1) h2 rfl
  · cases e2
    obtain ⟨a, vs, ev, h1, h2⟩ := (st1.get ov e1).fz_inv
    exact go a vs _ ev h1 h2 rfl
end PV

set_option Elab.async false
set_option linter.all false
set_option maxRecDepth 100000
set_option maxHeartbeats 4000000
/-! PvS: comprehensions with two clauses. -/
namespace PV
open PySem L2
theorem wipe_sub {σ : L2.St} {vs vs1 : List Nat} (h : ∀ j ∈ vs1, j ∈ vs) : wipe (wipe σ vs1) vs = wipe σ vs := by
  apply List.ext_getElem?
  intro j
  by_cases hj : j ∈ vs
  · by_cases hl : j < σ.length
    · rw [wipe_in hj (by rw [wipe_length]; exact hl), wipe_in hj hl]
    · rw [List.getElem?_eq_none (by simp only [wipe_length]; omega), List.getElem?_eq_none (by simp only [wipe_length]; omega)]
  · rw [wipe_out hj, wipe_out hj, wipe_out fun z => hj (h j z)]
theorem wipeE_wipeE (τ : Env) (vs : List Nat) : wipeE (wipeE τ vs) vs = wipeE τ vs := by
  have inn : ∀ (l : List Nat) (τ : Env) (j : Nat), j ∈ l → j < τ.length → (wipeE τ l)[j]? = some none := fun l => by
    induction l with
    | nil => intro τ j h; simp at h
    | cons v l ih =>
      intro τ j h hl
      show ((wipeE τ l).set v none)[j]? = _
      by_cases e : v = j
      · subst e
        rw [List.getElem?_set_self (by rw [wipeE_len]; exact hl)]
      · rw [List.getElem?_set_ne e]
        exact ih τ j ((List.mem_cons.mp h).resolve_left fun z => e z.symm) hl
  have out : ∀ (l : List Nat) (τ : Env) (j : Nat), j ∉ l → (wipeE τ l)[j]? = τ[j]? := fun l => by
    induction l with
    | nil => intro τ j _; rfl
    | cons v l ih =>
      intro τ j hn
      simp only [List.mem_cons, not_or] at hn
      show ((wipeE τ l).set v none)[j]? = _
      rw [List.getElem?_set_ne (fun z => hn.1 z.symm)]
      exact ih τ j hn.2
  apply List.ext_getElem?
  intro j
  by_cases hj : j ∈ vs
  · by_cases hl : j < τ.length
    · rw [inn _ _ _ hj (by rw [wipeE_len]; exact hl), inn _ _ _ hj hl]
    · rw [List.getElem?_eq_none (by simp only [wipeE_len]; omega), List.getElem?_eq_none (by simp only [wipeE_len]; omega)]
  · rw [out _ _ _ hj]
theorem Wk.step {ω ω1 ω2 : Om} {H H1 H2 : Hp} (a : Wk ω H ω1 H1) (b : Step ω1 H1 ω2 H2) : Wk ω H ω2 H2 where
  fr := fun x o h w => by
    have h2 := a.fz x w (by rw [h]; intro z; cases z)
    rcases a.fr x o h w with h1 | ⟨h1, od, h3⟩ | h1
    · exact b.fr x o h1 h2
    · exact .inr (.inl ⟨h1, od, (b.fr x _ h3 h2).of rfl⟩)
    · exact .inr (.inr h1)
  fz := fun x h t => b.fz x (a.fz x h t) (a.th x t)
  th := fun x h => b.th x (a.th x h)
section
variable {X : Cx} {g : G}
def cLoop2 (mg : MG) (mt : MT) (mi1 : MI) (mg1 : MG) (mt1 : MT) (me : M) (vs vs1 : List Nat) : List P → List P → Env → R (List P)
  | [], acc, σ => .ok acc σ
  | x :: xs, acc, σ => match mg x σ with
    | some σ1 => (match mt σ1 with
      | .ok b σ2 => if b = true then (match mi1 σ2 with
        | .ok ys σ3 => (match cLoop mg1 mt1 me vs1 ys acc (wipeE σ3 vs1) with
          | .ok acc2 σ4 => cLoop2 mg mt mi1 mg1 mt1 me vs vs1 xs acc2 (wipeE σ4 vs)
          | _ => .stuck)
        | _ => .stuck) else cLoop2 mg mt mi1 mg1 mt1 me vs vs1 xs acc (wipeE σ2 vs)
      | _ => .stuck)
    | none => .stuck
def mCompR2 (vs vs1 : List Nat) (mi : MI) (mg : MG) (mt : MT) (mi1 : MI) (mg1 : MG) (mt1 : MT) (me : M) : Env → R (List P) := fun σ => (mi σ).bind fun xs σ1 => if (vs.all (pureAt σ1)) = true then (match cLoop2 mg mt mi1 mg1 mt1 me vs vs1 xs [] (wipeE σ1 vs) with
  | .ok zs σ2 => .ok zs (backE σ1 vs σ2)
  | _ => .stuck) else .stuck
theorem comp2_core {wi : TI} {S S1 vs vs1 : List Nat} {mi mi1 : MI} {mg mg1 : MG} {mt mt1 : MT} {me : M} {σ : L2.St} {H : Hp} {Q : VK} (hS : ∀ j ∈ S, j ∈ vs) (hS1 : ∀ j ∈ S1, j ∈ vs1) (hvv : ∀ j ∈ vs1, j ∈ vs) (hv : ∀ v ∈ vs, v ∉ g.io) (ω : Om) (σD : Env) (st : Sta g ω H σD σ)
    (h : Post g ω H σ (mCompR2 vs vs1 mi mg mt mi1 mg1 mt1 me σD) fun zs σ2 ω2 H2 => ∀ p us, ω2 p = .tmp → H2 p = some (.lst us) → RPs g.K g.cl H2 (Fr ω2) zs us → Q (.ref p) H2) :
    tLc2 (tI g mi) (tG g.nox S mg) (tT g.nox mt) (tI g.nox mi1) (tG g.nox S1 mg1) (tT g.nox mt1) (tM g.nox me) vs vs1 σ H Q := by
  refine ⟨ω, σD, st, h.bind.imp fun xs σ1 ω1 H1 s1 st1 q1 J ω2 H2 s2 st2 yl D hD => ?_⟩
  have q2 := q1.shift s2
  clear q1
  by_cases hpure : (vs.all (pureAt σ1)) = true
  · simp only [if_pos hpure] at q2
    have hv1 : ∀ v ∈ vs1, v ∉ g.io := fun v z => hv v (hvv v z)
    obtain ⟨ωp, s0, stp, oD0⟩ := park (o := .lst []) st2 hD rfl
    -- what comes at the end
    have fin : ∀ zs (τ : Env) ω3 H3 us, Step ω2 H2 ω3 H3 → Sta g ω3 H3 (wipeE τ vs) (wipe σ vs) → ω3 D = .out → H3 D = some (.lst us) → RPs g.K g.cl H3 (Fr ω3) zs us → (∃ Qr, Post g ω2 H2 σ (.ok zs (backE σ1 vs (wipeE τ vs)) : R (List P)) Qr ∧ Qr = fun zs σ2 ω2 H2 => ∀ p us, ω2 p = .tmp → H2 p = some (.lst us) → RPs g.K g.cl H2 (Fr ω2) zs us → Q (.ref p) H2) → Q (.ref D) H3 := fun zs τ ω3 H3 us s3 st3 o3 h3 r3 ⟨Qr, hq, eq⟩ => by
      subst eq
      obtain ⟨ω4, s4, st4, o4, k4⟩ := unpark (o := .lst us) st2.dom s3 st3 hD o3 rfl
      have eH : upd H3 D (.lst us) = H3 := by
        funext a
        by_cases ea : a = D
        · subst ea; rw [upd_same, h3]
        · rw [upd_ne ea]
      rw [eH] at s4 st4 k4
      refine hq ω4 H3 s4 ⟨?_, fun j d e => ?_, fun i v hi e => st2.par i v hi e, st4.dom⟩ D us o4 h3 (RPs.imp k4 r3)
      · rw [backE_len, wipeE_len]
        have e1 := st3.len
        rw [wipe_length, wipeE_len] at e1
        exact e1
      · rcases backE_get e with ⟨z1, z2⟩ | ⟨z1, z2⟩
        · have hpv := (List.all_eq_true.mp hpure) j z1
          unfold pureAt at hpv
          rw [z2] at hpv
          obtain ⟨v, e1, r⟩ := st2.rd j d z2
          cases d with
          | p x => cases r with | p r => exact ⟨v, e1, .p (s4.rp st2.dom r)⟩
          | _ => cases hpv
        · obtain ⟨v, e1, r⟩ := st4.rd j d z2
          rw [wipe_out z1] at e1
          exact ⟨v, e1, r⟩
    let Inv' : List P → List P → L2.Hp → Prop := fun rest acc H' => ∃ ω' σD' us, Step ω2 H2 ω' H' ∧ Sta g ω' H' (wipeE σD' vs) (wipe σ vs) ∧ ω' D = .out ∧ H' D = some (.lst us) ∧ RPs g.K g.cl H' (Fr ω') acc us ∧ ∃ Qr, Post g ω2 H2 σ (match cLoop2 mg mt mi1 mg1 mt1 me vs vs1 rest acc (wipeE σD' vs) with | .ok zs σ2 => R.ok zs (backE σ1 vs σ2) | _ => R.stuck) Qr ∧ Qr = fun zs σ2 ω2 H2 => ∀ p us, ω2 p = .tmp → H2 p = some (.lst us) → RPs g.K g.cl H2 (Fr ω2) zs us → Q (.ref p) H2
    refine ⟨fun i m H' => m = xs.length - i ∧ i ≤ xs.length ∧ ∃ acc, Inv' (xs.drop i) acc H', ⟨_, rfl, Nat.zero_le _, [], _, σ1, [], s0, stp.wipe hv, oD0, upd_same, .nil, _, by rw [List.drop_zero]; exact q2, rfl⟩, ?_⟩
    rintro i m H' ⟨rfl, hi, acc, ω', σD', us, s', st', oD, hD', racc, Qr, hq, eQ⟩
    obtain ⟨y1, y2⟩ := yl ω' H' s'.wk st'.dom
    by_cases hlt : i < xs.length
    · refine .inr ⟨(y1 i hlt).1, fun H'' => i + 1 ≤ xs.length ∧ ∃ acc, Inv' (xs.drop (i + 1)) acc H'', fun H'' ⟨z1, z2⟩ => ⟨_, by omega, rfl, z1, z2⟩, fun x H3 hy => ?_⟩
      obtain ⟨sm, p, e1, rp⟩ := (y1 i hlt).2 x H3 hy
      have ed : xs.drop i = p :: xs.drop (i + 1) := by
        rw [List.drop_eq_getElem_cons hlt]
        congr 1
        exact (List.getElem?_eq_some_iff.mp e1).2
      rw [ed] at hq
      unfold cLoop2 at hq
      have st3 := (st'.same sm).nox
      have s3 := s'.trans (.same sm)
      have hD3 := sm _ _ hD'
      have racc3 := RPs.keep (same_keeps sm) _ _ racc
      refine ⟨ω', wipeE σD' vs, p, st3, rp, ?_⟩
      cases em : mg p (wipeE σD' vs) with
      | none => simp only [em] at hq; exact hq.elim
      | some σ4 =>
        simp only [em] at hq
        intro ω5 H5 σ5 s5 st5 hl5 hj5
        have sw : wipe σ5 vs = wipe σ vs := wipe_again hl5 hj5 hS
        refine ⟨sw, ω5, σ4, st5, ?_⟩
        cases et : mt σ4 with
        | stuck => simp only [et] at hq; exact hq.elim
        | exc _ _ _ _ => simp only [et] at hq; exact hq.elim
        | ok b σ6 =>
          simp only [et] at hq
          intro ω6 H6 s6 st6
          have s56 := s5.trans s6
          have hD6 : H6 D = some (.lst us) := s56.ot D _ hD3 oD rfl
          have oD6 : ω6 D = .out := s56.out D oD
          have racc6 := s56.rps st3.dom racc3
          have s6' := s3.trans s56
          cases b with
          | false =>
            simp only [Bool.false_eq_true, if_false] at hq ⊢
            refine ⟨hlt, acc, ω6, σ6, us, s6', ?_, oD6, hD6, racc6, Qr, hq, eQ⟩
            rw [← sw]
            exact st6.unnox.wipe hv
          | true =>
            simp only [if_true] at hq ⊢
            refine ⟨ω6, σ6, st6, ?_⟩
            cases ei : mi1 σ6 with
            | stuck => simp only [ei] at hq; exact hq.elim
            | exc _ _ _ _ => simp only [ei] at hq; exact hq.elim
            | ok ys σ7 =>
              simp only [ei] at hq
              intro ω7 H7 s7 st7 J1 ω8 H8 s8 st8 yl1
              have s78 := s7.trans s8
              have s8' := s6'.trans s78
              let Inv1 : List P → List P → L2.Hp → Prop := fun rest acc H' => ∃ ω' σD' us, Step ω2 H2 ω' H' ∧ Wk ω8 H8 ω' H' ∧ Sta g ω' H' (wipeE σD' vs1) (wipe σ5 vs1) ∧ ω' D = .out ∧ H' D = some (.lst us) ∧ RPs g.K g.cl H' (Fr ω') acc us ∧
                ∃ Qr, Post g ω2 H2 σ (match (match cLoop mg1 mt1 me vs1 rest acc (wipeE σD' vs1) with | .ok acc2 σ4 => cLoop2 mg mt mi1 mg1 mt1 me vs vs1 (xs.drop (i + 1)) acc2 (wipeE σ4 vs) | _ => R.stuck) with | .ok zs σ2 => R.ok zs (backE σ1 vs σ2) | _ => R.stuck) Qr ∧ Qr = fun zs σ2 ω2 H2 => ∀ p us, ω2 p = .tmp → H2 p = some (.lst us) → RPs g.K g.cl H2 (Fr ω2) zs us → Q (.ref p) H2
              refine ⟨fun j k H' => k = ys.length - j ∧ j ≤ ys.length ∧ ∃ acc, Inv1 (ys.drop j) acc H', ⟨_, rfl, Nat.zero_le _, acc, ω8, σ7, us, s8', (Step.refl).wk, st8.unnox.wipe hv1, s78.out D oD6, s78.ot D _ hD6 oD6 rfl, s78.rps st6.dom racc6, Qr, by rw [List.drop_zero]; exact hq, eQ⟩, ?_⟩
              rintro j k H9 ⟨rfl, hj, acc9, ω9, σ9, us9, s9, s9b, st9, oD9, hD9, racc9, Qr9, hq9, eQ9⟩
              obtain ⟨y3, y4⟩ := yl1 ω9 H9 s9b st9.dom
              by_cases hlt1 : j < ys.length
              · refine .inr ⟨(y3 j hlt1).1, fun H'' => j + 1 ≤ ys.length ∧ ∃ acc, Inv1 (ys.drop (j + 1)) acc H'', fun H'' ⟨z1, z2⟩ => ⟨_, by omega, rfl, z1, z2⟩, fun x1 H10 hy1 => ?_⟩
                obtain ⟨sm1, p1, e3, rp1⟩ := (y3 j hlt1).2 x1 H10 hy1
                have ed1 : ys.drop j = p1 :: ys.drop (j + 1) := by
                  rw [List.drop_eq_getElem_cons hlt1]
                  congr 1
                  exact (List.getElem?_eq_some_iff.mp e3).2
                rw [ed1] at hq9
                unfold cLoop at hq9
                have st10 := (st9.same sm1).nox
                have s10 := s9.trans (.same sm1)
                have s10b := s9b.step (Step.same (ω := ω9) sm1)
                have hD10 := sm1 _ _ hD9
                have racc10 := RPs.keep (same_keeps sm1) _ _ racc9
                refine ⟨ω9, wipeE σ9 vs1, p1, st10, rp1, ?_⟩
                cases em1 : mg1 p1 (wipeE σ9 vs1) with
                | none => simp only [em1] at hq9; exact hq9.elim
                | some σ11 =>
                  simp only [em1] at hq9
                  intro ω12 H12 σ12 s12 st12 hl12 hj12
                  have sw1 : wipe σ12 vs1 = wipe σ5 vs1 := wipe_again hl12 hj12 hS1
                  refine ⟨sw1, ω12, σ11, st12, ?_⟩
                  cases et1 : mt1 σ11 with
                  | stuck => simp only [et1] at hq9; exact hq9.elim
                  | exc _ _ _ _ => simp only [et1] at hq9; exact hq9.elim
                  | ok b1 σ13 =>
                    simp only [et1] at hq9
                    intro ω14 H14 s14 st14
                    have s1214 := s12.trans s14
                    have hD14 : H14 D = some (.lst us9) := s1214.ot D _ hD10 oD9 rfl
                    have oD14 : ω14 D = .out := s1214.out D oD9
                    have racc14 := s1214.rps st10.dom racc10
                    have s14' := s10.trans s1214
                    have s14b := s10b.step s1214
                    cases b1 with
                    | false =>
                      simp only [Bool.false_eq_true, if_false] at hq9 ⊢
                      refine ⟨hlt1, acc9, ω14, σ13, us9, s14', s14b, ?_, oD14, hD14, racc14, Qr9, hq9, eQ9⟩
                      rw [← sw1]
                      exact st14.unnox.wipe hv1
                    | true =>
                      simp only [if_true] at hq9 ⊢
                      refine ⟨ω14, σ13, st14, ?_⟩
                      cases ee : me σ13 with
                      | stuck => simp only [ee] at hq9; exact hq9.elim
                      | exc _ _ _ _ => simp only [ee] at hq9; exact hq9.elim
                      | ok o σ15 =>
                        simp only [ee] at hq9
                        intro ω16 H16 s16 st16 vy ovy
                        cases ef : frz o σ15 with
                        | stuck => simp only [ef] at hq9; exact hq9.elim
                        | exc _ _ _ _ => simp only [ef] at hq9; exact hq9.elim
                        | ok y σ17 =>
                          simp only [ef] at hq9
                          obtain ⟨y', σ17', ω17, s17, st17, r17, e17, _⟩ := frz_ok (k := fun _ _ _ _ => True) st16 ovy (by rw [ef]; exact fun _ _ _ _ => trivial)
                          rw [ef] at e17
                          cases e17
                          have s167 := s16.trans s17
                          have hD17 : H16 D = some (.lst us9) := s167.ot D _ hD14 oD14 rfl
                          have oD17 : ω17 D = .out := s167.out D oD14
                          have racc17 := s167.rps st14.dom racc14
                          by_cases hsz : acc9.length < sizeLine
                          · rw [if_pos hsz] at hq9
                            obtain ⟨st18, k18⟩ := poke (o := .lst (us9 ++ [vy])) st17 oD17 rfl
                            have hDn8 : H8 D ≠ none := by
                              have := s78.ot D _ hD6 oD6 rfl
                              rw [this]; intro z; cases z
                            have sb : Wk ω8 H8 ω17 (upd H16 D (.lst (us9 ++ [vy]))) := by
                              have sb0 := s14b.step s167
                              refine ⟨fun a u h w => ?_, sb0.fz, fun a h => by
                                by_cases e : a = D
                                · rw [e, upd_same]; intro z; cases z
                                · rw [upd_ne e]; exact sb0.th a h⟩
                              have ne : a ≠ D := by
                                rintro rfl
                                have : ω8 a = .out := s78.out a oD6
                                rw [this] at w; cases w
                              rcases sb0.fr a u h w with z | ⟨z1, od, z2⟩ | z
                              · exact .inl (by rw [upd_ne ne]; exact z)
                              · exact .inr (.inl ⟨z1, od, by rw [upd_ne ne]; exact z2⟩)
                              · exact .inr (.inr z)
                            refine ⟨us9, hD17, by rw [← racc17.length]; exact hsz, hlt1, acc9 ++ [y], ω17, σ17, us9 ++ [vy], (s14'.trans s167).poke hD, sb, ?_, oD17, upd_same, (RPs.imp k18 racc17).append (.cons (k18 _ _ r17) .nil), Qr9, hq9, eQ9⟩
                            rw [← sw1]
                            exact st18.unnox.wipe hv1
                          · rw [if_neg hsz] at hq9
                            exact hq9.elim
              · have e : j = ys.length := by omega
                subst e
                rw [List.drop_length] at hq9
                unfold cLoop at hq9
                refine .inl ⟨y4, hlt, acc9, ω9, wipeE σ9 vs1, us9, s9, ?_, oD9, hD9, racc9, Qr9, hq9, eQ9⟩
                rw [← sw, ← wipe_sub (σ := σ5) hvv]
                exact st9.wipe hv
    · have e : i = xs.length := by omega
      subst e
      rw [List.drop_length] at hq
      unfold cLoop2 at hq
      exact .inl ⟨y2, fin acc σD' ω' H' us s' st' oD hD' racc ⟨Qr, hq, eQ⟩⟩
  · rw [Bool.not_eq_true] at hpure
    simp only [hpure] at q2
    exact q2.elim
def mComp2 (vs vs1 : List Nat) (mi : MI) (mg : MG) (mt : MT) (mi1 : MI) (mg1 : MG) (mt1 : MT) (me : M) : M := fun σ => (mCompR2 vs vs1 mi mg mt mi1 mg1 mt1 me σ).bind fun zs σ2 => .ok (.v (.lst zs)) σ2
def mCompF2 (vs vs1 : List Nat) (mi : MI) (mg : MG) (mt : MT) (mi1 : MI) (mg1 : MG) (mt1 : MT) (me : M) : MF := fun σ => (mCompR2 vs vs1 mi mg mt mi1 mg1 mt1 me σ).bind fun zs σ2 => .ok (.lst zs) σ2
section
variable {S S1 vs vs1 : List Nat} {mi mi1 : MI} {mg mg1 : MG} {mt mt1 : MT} {me : M}
theorem tM_comp2 (hS : ∀ j ∈ S, j ∈ vs) (hS1 : ∀ j ∈ S1, j ∈ vs1) (hvv : ∀ j ∈ vs1, j ∈ vs) (hv : ∀ v ∈ vs, v ∉ g.io) (σ : L2.St) (H : Hp) (Q : VK) (h : tM g (mComp2 vs vs1 mi mg mt mi1 mg1 mt1 me) σ H Q) :
    tLc2 (tI g mi) (tG g.nox S mg) (tT g.nox mt) (tI g.nox mi1) (tG g.nox S1 mg1) (tT g.nox mt1) (tM g.nox me) vs vs1 σ H Q := by
  obtain ⟨ω, σD, st, q⟩ := h
  refine comp2_core (wi := tI g mi) hS hS1 hvv hv ω σD st (q.bind.imp fun zs σ2 ω2 H2 s2 st2 q2 p us hp hH r => ?_)
  have s3 : Step ω2 H2 (ren ω2 .tmp .free) H2 := .ren (by intro z; cases z) (by intro z; cases z)
  exact q2 _ H2 s3 st2.tmpFree _ (.v (.lst hH (ren_at hp) (s3.rps st2.dom r)))
theorem tF_comp2 (hS : ∀ j ∈ S, j ∈ vs) (hS1 : ∀ j ∈ S1, j ∈ vs1) (hvv : ∀ j ∈ vs1, j ∈ vs) (hv : ∀ v ∈ vs, v ∉ g.io) (σ : L2.St) (H : Hp) (Q : VK) (h : tF g (mCompF2 vs vs1 mi mg mt mi1 mg1 mt1 me) σ H Q) :
    tLc2 (tI g mi) (tG g.nox S mg) (tT g.nox mt) (tI g.nox mi1) (tG g.nox S1 mg1) (tT g.nox mt1) (tM g.nox me) vs vs1 σ H Q := by
  obtain ⟨ω, σD, st, q⟩ := h
  refine comp2_core (wi := tI g mi) hS hS1 hvv hv ω σD st (q.bind.imp fun zs σ2 ω2 H2 s2 st2 q2 p us hp hH r => ?_)
  exact (Post.ok q2 st2) _ (.lst hH hp r)
theorem de_comp2 {e : Expr} (he : PE X e (tLc2 (tI g mi) (tG g.nox S mg) (tT g.nox mt) (tI g.nox mi1) (tG g.nox S1 mg1) (tT g.nox mt1) (tM g.nox me) vs vs1)) (hS : ∀ j ∈ S, j ∈ vs) (hS1 : ∀ j ∈ S1, j ∈ vs1) (hvv : ∀ j ∈ vs1, j ∈ vs) (hv : ∀ v ∈ vs, v ∉ g.io) :
    PE X e (tM g (mComp2 vs vs1 mi mg mt mi1 mg1 mt1 me)) := pe_weak he (tM_comp2 hS hS1 hvv hv)
theorem df_comp2 {e : Expr} (he : PE X e (tLc2 (tI g mi) (tG g.nox S mg) (tT g.nox mt) (tI g.nox mi1) (tG g.nox S1 mg1) (tT g.nox mt1) (tM g.nox me) vs vs1)) (hS : ∀ j ∈ S, j ∈ vs) (hS1 : ∀ j ∈ S1, j ∈ vs1) (hvv : ∀ j ∈ vs1, j ∈ vs) (hv : ∀ v ∈ vs, v ∉ g.io) :
    PE X e (tF g (mCompF2 vs vs1 mi mg mt mi1 mg1 mt1 me)) := pe_weak he (tF_comp2 hS hS1 hvv hv)
theorem ds_setLc2 {i : Nat} {st : Stmt} (hs : PS X st (tAsg (tLc2 (tI g mi) (tG g.nox S mg) (tT g.nox mt) (tI g.nox mi1) (tG g.nox S1 mg1) (tT g.nox mt1) (tM g.nox me) vs vs1) (gName i))) (hio : i ∉ g.io) (hS : ∀ j ∈ S, j ∈ vs) (hS1 : ∀ j ∈ S1, j ∈ vs1) (hvv : ∀ j ∈ vs1, j ∈ vs) (hv : ∀ v ∈ vs, v ∉ g.io) :
    PS X st (tS g (mSet i (mComp2 vs vs1 mi mg mt mi1 mg1 mt1 me))) := ps_weak hs fun D σ H h => by
  obtain ⟨ω, σD, st, q⟩ := h
  refine tM_comp2 hS hS1 hvv hv σ H _ ⟨ω, σD, st, (PostS.of q).imp fun o σ1 ω1 H1 s1 st1 q1 v ov => ?_⟩
  obtain ⟨y, σ2, ω2, s2, st2, r, e, q2⟩ := frz_ok st1 ov (PostS.of q1)
  exact q2 ω2 H1 _ .refl (st2.setP hio r)
theorem ds_setLcF2 {i : Nat} {st : Stmt} (hs : PS X st (tAsg (tLc2 (tI g mi) (tG g.nox S mg) (tT g.nox mt) (tI g.nox mi1) (tG g.nox S1 mg1) (tT g.nox mt1) (tM g.nox me) vs vs1) (gName i))) (hio : i ∉ g.io) (hS : ∀ j ∈ S, j ∈ vs) (hS1 : ∀ j ∈ S1, j ∈ vs1) (hvv : ∀ j ∈ vs1, j ∈ vs) (hv : ∀ v ∈ vs, v ∉ g.io) :
    PS X st (tS g (mSetF i (mCompF2 vs vs1 mi mg mt mi1 mg1 mt1 me))) := ps_weak hs fun D σ H h => by
  obtain ⟨ω, σD, st, q⟩ := h
  refine tF_comp2 hS hS1 hvv hv σ H _ ⟨ω, σD, st, (PostS.of q).imp fun d σ1 ω1 H1 s1 st1 q1 v r => ?_⟩
  exact q1 _ H1 _ (.give i) (st1.setD hio r)
end
end
end PV

set_option Elab.async false
set_option linter.all false
set_option maxRecDepth 100000
set_option maxHeartbeats 4000000
/-! PvT: short words for what the program that prints the walks writes down. -/
namespace PV
open PySem L2
section
variable {X : Cx} {g : G}
/-! ### walked: lists, tuples, dicts -/
def mIter (m : M) : MI := fun σ => (m σ).bind fun o σ1 => (frz o σ1).bind fun x σ2 => match itemsP x with
  | some xs => .ok xs σ2
  | none => .stuck
theorem di_iter {tg l : Expr} {m : M} (hl : PE X l (tM g m)) (hK : g.K = X.K := by rfl) : PI X tg l (tI g (mIter m)) := pi_weak (pi_or (pi_seq hl) (pi_keysL hl)) fun σ H RR h => by
  obtain ⟨ω, σD, st, q⟩ := h
  have q' : Post g ω H σ (m σD) fun o σ1 ω1 H1 => Post g ω1 H1 σ ((frz o σ1).bind fun x σ2 => match itemsP x with | some xs => R.ok xs σ2 | none => .stuck) fun items σ1 ω1 H1 => ∀ J ω2 H2, Step ω1 H1 ω2 H2 → Sta g ω2 H2 σ1 σ → Yld g.K g.cl ω2 H2 J items → RR J H2 := Post.bind q
  cases em : m σD with
  | stuck => rw [em] at q'; exact q'.elim
  | exc c ns vs σ1 => exact .inl ⟨ω, σD, st, by rw [em] at q' ⊢; exact q'⟩
  | ok o σ1 =>
    rw [em] at q'
    by_cases hs : ∃ xs, (∃ x σ2, frz o σ1 = .ok x σ2 ∧ seqP x = some xs)
    · obtain ⟨xs, x0, σ20, ef, es⟩ := hs
      refine .inl ⟨ω, σD, st, by
        rw [em]
        intro ω1 H1 s1 st1 v ov
        obtain ⟨x, σ2, ω2, s2, st2, r, e2, q2⟩ := frz_ok st1 ov (q' ω1 H1 s1 st1).bind
        rw [ef] at e2; cases e2
        rw [← hK]
        cases x0 with
        | lst xs =>
          cases r with
          | lst h1 h2 h3 => exact .inl ⟨_, _, rfl, SqL.of h1, (Post.ok q2 st2) _ ω2 H1 .refl st2 (yld_list h1 rfl (fun H' e => SqL.of e) h2 st2.dom h3)⟩
        | tup xs =>
          cases r with
          | tup h1 h3 => exact .inr ⟨_, _, rfl, SqT.of h1, (Post.ok q2 st2) _ ω2 H1 .refl st2 (yld_tup h1 st2.dom h3)⟩
        | fz xs =>
          cases r with
          | fz h1 h3 => exact .inl ⟨_, _, rfl, h1.sq, (Post.ok q2 st2) _ ω2 H1 .refl st2 (yld_fz h1 st2.dom h3)⟩
        | _ => cases es⟩
    · refine .inr ⟨ω, σD, st, by
        rw [em]
        intro ω1 H1 s1 st1 v ov
        obtain ⟨x, σ2, ω2, s2, st2, r, e2, q2⟩ := frz_ok st1 ov (q' ω1 H1 s1 st1).bind
        cases x with
        | dK ks xs =>
          cases r with
          | @dK a kvs _ _ h1 h2 h0 h3 =>
            subst h0
            refine ⟨a, rfl, .inl ⟨kvs, h1, fun o H2 lk => ?_⟩⟩
            obtain ⟨s3, st3⟩ := lk.step rfl h2 st2
            exact (q2 ω2 H2 s3 st3) _ ω2 H2 .refl st3 (yld_keys lk.at h2)
        | dT ks xs =>
          cases r with
          | @dT a kvs _ _ h1 h2 h0 h3 =>
            subst h0
            refine ⟨a, rfl, .inr ⟨kvs, h1, fun o H2 lk => ?_⟩⟩
            obtain ⟨s3, st3⟩ := lk.step rfl h2 st2
            exact (q2 ω2 H2 s3 st3) _ ω2 H2 .refl st3 (yld_keysT lk.at h2)
        | lst xs => exact absurd ⟨xs, _, _, e2, rfl⟩ hs
        | tup xs => exact absurd ⟨xs, _, _, e2, rfl⟩ hs
        | fz xs => exact absurd ⟨xs, _, _, e2, rfl⟩ hs
        | non => exact q2.elim
        | bl _ => exact q2.elim
        | int _ => exact q2.elim
        | str _ => exact q2.elim
        | ins _ _ _ => exact q2.elim
        | exv _ _ _ => exact q2.elim⟩
/-! ### a < b < c -/
def mChain (f f' : P → P → Option P) (a b c : M) : M := fun σ => (a σ).bind fun oa σ1 => (b σ1).bind fun ob σ2 => match (oa.get σ2).bind fun x => (ob.get σ2).bind fun y => f x y with
  | some (.bl true) => (c σ2).bind fun oc σ3 => R.lift σ3 ((ob.get σ3).bind fun y => (oc.get σ3).bind fun z => f' y z)
  | some (.bl false) => .ok (.v (.bl false)) σ2
  | _ => .stuck
theorem tM_chain {r r' : R2} {f f' : P → P → Option P} {a b c : M} (hp : Prim2 g.K g.cl r f) (hp' : Prim2 g.K g.cl r' f') (σ : L2.St) (H : Hp) (Q : VK) (h : tM g (mChain f f' a b c) σ H Q) : tChain r r' (tM g a) (tM g b) (tM g c) σ H Q := by
  obtain ⟨ω, σD, st, q⟩ := h
  refine ⟨ω, σD, st, q.bind.imp fun oa σ1 ω1 H1 s1 st1 q1 va ova => ⟨ω1, σ1, st1, q1.bind.imp fun ob σ2 ω2 H2 s2 st2 q2 vb ovb => ?_⟩⟩
  have hh : ∀ k, ((oa.get σ2).bind fun x => (ob.get σ2).bind fun y => f x y) = some (.bl k) → (∀ H', Same H2 H' → ∃ k', V.bl k = V.bl k' ∧ (if k' = true then tM g c σ H' fun w' H4 => r' vb w' H4 Q else Q (.bl false) H')) →
      r va vb H2 fun z H3 => ∃ k, z = V.bl k ∧ (if k = true then tM g c σ H3 fun w' H4 => r' vb w' H4 Q else Q (.bl false) H3) := fun k e z => by
    obtain ⟨x, e1, e⟩ := Option.bind_eq_some_iff.mp e
    obtain ⟨y, e2, e⟩ := Option.bind_eq_some_iff.mp e
    refine hp ω2 H2 x y _ va vb _ st2.dom (st2.get (ova.step s2 st1.dom) e1) (st2.get ovb e2) e fun H' u sm rz => ?_
    cases rz
    exact z H' sm
  split at q2
  · rename_i e
    refine hh true e fun H' sm => ⟨true, rfl, ?_⟩
    simp only [if_true]
    have st2' := st2.same sm
    refine ⟨ω2, σ2, st2', (q2.shift (.same sm)).bind.imp fun oc σ3 ω3 H3 s3 st3 q3 vc ovc => ?_⟩
    obtain ⟨z, e, q3⟩ := lift_post q3
    obtain ⟨x, e1, e⟩ := Option.bind_eq_some_iff.mp e
    obtain ⟨y, e2, e⟩ := Option.bind_eq_some_iff.mp e
    refine hp' ω3 H3 x y z vb vc Q st3.dom (st3.get ((ovb.step (.same sm) st2.dom).step s3 st2'.dom) e1) (st3.get ovc e2) e fun H' u sm rz => ?_
    exact q3 ω3 H' (.same sm) (st3.same sm) u (.v rz)
  · rename_i e
    refine hh false e fun H' sm => ⟨false, rfl, ?_⟩
    simp only [Bool.false_eq_true, if_false]
    exact q2 ω2 H' (.same sm) (st2.same sm) _ (.v (.bl false))
  · exact q2.elim
theorem de_chain {op op' : CmpOp} {r r' : R2} {f f' : P → P → Option P} {a b c : Expr} {ma mb mc : M} {pos : Pos} (ho : OpR X (compareOp op) r) (hp : Prim2 g.K g.cl r f) (ho' : OpR X (compareOp op') r') (hp' : Prim2 g.K g.cl r' f') (ha : PE X a (tM g ma)) (hb : PE X b (tM g mb)) (hc : PE X c (tM g mc))
    (hm : lastMarks [op, op'] [b, c] = false := by with_unfolding_all rfl) : PE X (.Compare a [op, op'] [b, c] pos) (tM g (mChain f f' ma mb mc)) := pe_weak (pe_chain ho ho' ha hb hc hm) (tM_chain hp hp')
theorem dt_chain {op op' : CmpOp} {r r' : R2} {f f' : P → P → Option P} {a b c : Expr} {ma mb mc : M} {pos : Pos} (ho : OpR X (compareOp op) r) (hp : Prim2 g.K g.cl r f) (ho' : OpR X (compareOp op') r') (hp' : Prim2 g.K g.cl r' f') (ha : PE X a (tM g ma)) (hb : PE X b (tM g mb)) (hc : PE X c (tM g mc))
    (hm : lastMarks [op, op'] [b, c] = false := by with_unfolding_all rfl) : PT X (.Compare a [op, op'] [b, c] pos) (tT g (mTe (mChain f f' ma mb mc))) := pt_weak (pt_chain ho ho' ha hb hc hm) fun σ H Q h => by
  have q := tT_e σ H Q h
  exact tM_chain hp hp' σ H _ q
/-! ### numbers -/
abbrev pLt : P → P → Option P := pI fun i j => some (.bl (decide (i < j)))
abbrev pLe : P → P → Option P := pI fun i j => some (.bl (decide (i ≤ j)))
abbrev pGt : P → P → Option P := pI fun i j => some (.bl (decide (j < i)))
abbrev pGe : P → P → Option P := pI fun i j => some (.bl (decide (j ≤ i)))
abbrev pMinus : P → P → Option P := pI fun i j => some (.int (i - j))
abbrev pMod : P → P → Option P := pI fun i j => if 0 < j then some (.int (i % j)) else none
abbrev pDiv : P → P → Option P := pI fun i j => if CDivW i j then some (.int (i / j)) else none
abbrev pPow : P → P → Option P := pI fun i j => if CPow i j then some (.int (i ^ j.toNat)) else none
/-! ### a new list: x + y -/
theorem df_add {a b : Expr} {ma mb : M} {pos : Pos} (ha : PE X a (tM g ma)) (hb : PE X b (tM g mb)) (hK : g.K = X.K := by rfl) : PE X (.BinOp a .Add b pos) (tF g (mOpF pAdd ma mb)) :=
  pe_weak (pe_op op_addA ha hb) fun σ H Q h => by
    obtain ⟨ω, σD, st, q⟩ := h
    refine ⟨ω, σD, st, q.bind.imp fun oa σ1 ω1 H1 s1 st1 q1 va ova => ⟨ω1, σ1, st1, q1.bind.imp fun ob σ2 ω2 H2 s2 st2 q2 vb ovb => ?_⟩⟩
    split at q2
    · rename_i zs e
      obtain ⟨x, e1, e⟩ := Option.bind_eq_some_iff.mp e
      obtain ⟨y, e2, e⟩ := Option.bind_eq_some_iff.mp e
      have hx := st2.get (ova.step s2 st1.dom) e1
      have hy := st2.get ovb e2
      cases x <;> cases y <;> first | (cases e; done) | (dsimp only [pAdd] at e; split at e <;> cases e; done) | skip
      obtain ⟨l, vs, rfl, h1, h2⟩ := hx.lst_inv
      obtain ⟨l', us, rfl, h3, h4⟩ := hy.lst_inv
      dsimp only [pAdd] at e
      split at e
      · rename_i hc
        cases e
        refine .inr (.inr (.inl ⟨l, l', vs, us, rfl, rfl, h1, h3, by rw [← h2.length, ← h4.length]; exact hc, fun p hp => ?_⟩))
        exact Post.laid st2 hp rfl q2 fun k => .lst upd_same lay_at (RPs.imp k (h2.append h4))
      · cases e
    · exact q2.elim
/-! ### isinstance(x, T), isinstance(x, (T, U)) -/
theorem de_isT {e : Expr} {m : M} {T : String} {x : Str} {p p2 pos : Pos} (hg : Gl X "isinstance") (hm : X.mg "isinstance" = none) (hgT : Gl X x) (hmT : X.mg x = none) (he : PE X e (tM g m)) (hv : bootBuiltins x = some (.type T) := by rfl) (hT : T ∈ tyAsked := by decide) (hK : g.K = X.K := by rfl) (hn : x ≠ "__name__" := by decide) (hd : (x == ("__debug__" : Str)) = false := by decide)
    (hs : starEach [e, .Name x p2] X.env = (false, eval e X.env) :: starEach [.Name x p2] X.env := by rfl) (hs2 : starEach [.Name x p2] X.env = (false, eval (.Name x p2) X.env) :: starEach [] X.env := by rfl) (hpl : (backTo pos (starEach [.Name x p2] X.env)).any (·.1) = false := by rfl) :
    PE X (.Call (.Name "isinstance" p) [e, .Name x p2] [] pos) (tM g (mOp1 (pIs (isTy T)) m)) :=
  de_isi (isTy_ok hT) (.ty T) (pe_callB call_isi hg hm (by rfl) (pa_cons he (pa_cons (pe_bltn hgT hmT hv rfl hn hd) pa_nil hs2) hs) (by decide) (by decide) hs hpl) hK
theorem de_isT2 {e : Expr} {m : M} {T U : String} {x y : Str} {k : Nat} {p p2 p3 pt pos : Pos} (hg : Gl X "isinstance") (hm : X.mg "isinstance" = none) (hgT : Gl X x) (hmT : X.mg x = none) (hgU : Gl X y) (hmU : X.mg y = none) (he : PE X e (tM g m)) (hv : bootBuiltins x = some (.type T) := by rfl) (hv2 : bootBuiltins y = some (.type U) := by rfl) (hT : T ∈ tyAsked := by decide) (hU : U ∈ tyAsked := by decide) (hK : g.K = X.K := by rfl)
    (hn : x ≠ "__name__" := by decide) (hd : (x == ("__debug__" : Str)) = false := by decide) (hn2 : y ≠ "__name__" := by decide) (hd2 : (y == ("__debug__" : Str)) = false := by decide)
    (hs : starEach [e, .Tuple [.Name x p2, .Name y p3] k pt] X.env = (false, eval e X.env) :: starEach [.Tuple [.Name x p2, .Name y p3] k pt] X.env := by rfl) (hs2 : starEach [.Tuple [.Name x p2, .Name y p3] k pt] X.env = (false, eval (.Tuple [.Name x p2, .Name y p3] k pt) X.env) :: starEach [] X.env := by rfl) (hpl : (backTo pos (starEach [.Tuple [.Name x p2, .Name y p3] k pt] X.env)).any (·.1) = false := by rfl)
    (hs3 : starEach [.Name x p2, .Name y p3] X.env = (false, eval (.Name x p2) X.env) :: starEach [.Name y p3] X.env := by rfl) (hs4 : starEach [.Name y p3] X.env = (false, eval (.Name y p3) X.env) :: starEach [] X.env := by rfl) :
    PE X (.Call (.Name "isinstance" p) [e, .Tuple [.Name x p2, .Name y p3] k pt] [] pos) (tM g (mOp1 (pIs2 (isTy T) (isTy U)) m)) :=
  de_isi2 hT hU (pe_callB call_isiT hg hm (by rfl) (pa_cons he (pa_cons (pe_tup (pa_cons (pe_bltn hgT hmT hv rfl hn hd) (pa_cons (pe_bltn hgU hmU hv2 rfl hn2 hd2) pa_nil hs4) hs3)) pa_nil hs2) hs) (by decide) (by decide) hs hpl) hK
end
/-- a new thing handed on as data -/
def mFz (m : MF) : M := fun σ => (m σ).bind fun d σ2 => .ok (.v d.view) σ2
theorem de_fz {X : Cx} {g : G} {e : Expr} {m : MF} (he : PE X e (tF g m)) : PE X e (tM g (mFz m)) := de_frz he
abbrev fL (f : List P → Option (List P)) : List P → Option P := fun xs => (f xs).map P.lst
/-! ### defs -/
section
variable {P : Program} {w : World} {K : PySem.W.Frag} {mg : Str → Option Value} {base : Heap} {cl : String → Option Addr}
theorem callee_of {x : Str} {k np nl : Nat} {io : List Nat} {body : MS} {a : Addr} {fd : FuncData} {ps : List Str} (F : FnOk P w K mg base (L2.CX P w) k a fd ps (spOf K cl np (fnOf np nl io body))) (hm : mg x = some (.ref a)) (kp : PySem.W.keepIn K (.ref a) = true) (hb : Binds K fd ps []) : Callee P w K mg base cl x k np (fnOf np nl io body) :=
  ⟨⟨a, fd, ps, F, hm, kp, hb⟩, fun _ _ _ h => fnOf_fin h, fun _ _ _ _ _ h => fnOf_fin' h⟩
theorem callee_up {x : Str} {j k np : Nat} {f : FS} (F : Callee P w K mg base cl x j np f) (h : j ≤ k) : Callee P w K mg base cl x k np f := by
  obtain ⟨⟨a, fd, ps, F1, h1, h2, h3⟩, hf, hf'⟩ := F
  exact ⟨⟨a, fd, ps, F1.mono h, h1, h2, h3⟩, hf, hf'⟩
theorem maker_of {x : Str} {c : String} {k np nl : Nat} {io : List Nat} {body : MS} {C a : Addr} {fd : FuncData} {ps : List Str} (M : Mk K C a) (F : FnOk P w K mg base (L2.CX P w) k a fd ps (spOf K cl (np + 1) (fnOf (np + 1) nl io body))) (hm : mg x = some (.ref C)) (hc : cl c = some C) (hb : Binds K fd ps []) : Maker P w K mg base cl x c k np (fnOf (np + 1) nl io body) :=
  ⟨⟨C, a, fd, ps, M, F, hm, hc, hb⟩, fun _ _ _ h => fnOf_fin h, fun _ _ _ _ _ h => fnOf_fin' h⟩
/-- nothing is promised of it -/
theorem fn_none {x qual : Str} {st : Stmt} {f : Addr} {fd : FuncData} {N ps : List Str} {k np : Nat} (F : Fun K x qual st f fd) (S : FnScope N ps (defScope st)) : FnOk P w K mg base (L2.CX P w) (k + 1) f fd ps (spOf K cl np fun _ => .stuck) :=
  F.okX S (fun vs H Q E ⟨_, _, _, _, _, _, z⟩ => z.elim) fun cdv A outer s H vs Q E hr ⟨_, _, _, _, _, _, z⟩ => z.elim
end
end PV

set_option Elab.async false
set_option linter.all false
set_option maxRecDepth 100000
set_option maxHeartbeats 4000000
/-! PvU: from the law's meaning to its promise. -/
namespace PV
open PySem L2
def spTrue (K : PySem.W.Frag) : Sp := fun vs H Q _ => ∃ (a : Addr) (ns : List Int), vs = [.ref a] ∧ SqL K H a (ns.map V.int) ∧ ns.length ≤ 63 ∧ Only H ∧ ∀ H', Q (.bl true) H'
theorem sp_true {K : PySem.W.Frag} {cl : String → Option Addr} {f : FS} (hcl : ∀ n, cl (TabN n) = none) (hf : ∀ ns : List Int, ns.length ≤ 63 → ∃ fin, f [.p (.fz (ns.map .int))] = .ok (.p (.bl true)) fin) (vs : List V) (H : Hp) (Q : VK) (E : XK) (h : spTrue K vs H Q E) : spOf K cl 1 f vs H Q E := by
  obtain ⟨a, ns, rfl, hs, hl, ho, q⟩ := h
  obtain ⟨fin, e⟩ := hf ns hl
  have hz : SqZ K H (Fr fun _ => .free) a (ns.map V.int) := by
    rcases hs with (hs | ⟨o, hs⟩) | hs
    · rcases ho a with z | ⟨o, xs, z⟩ <;> (rw [hs] at z; cases z)
    · exact .inl ⟨o, hs, rfl⟩
    · exact .inr hs
  refine ⟨fun _ => .free, [.p (.fz (ns.map .int))], rfl, rfl, fun j d v e1 e2 => ?_, ⟨fun b hb => absurd rfl hb, fun b q hb => (by cases hb), fun n b hb => by rw [hcl] at hb; cases hb⟩, ?_⟩
  · match j with
    | 0 =>
      simp at e1 e2
      subst e1; subst e2
      exact .p (.fz hz (RPs.of_ints ns))
    | j + 1 => simp at e1
  · rw [e]
    intro ω' H' v _ _ _ r
    cases r with
    | p r => cases r; exact q H'
theorem walk63 {l : PySem.W.OpenLaw} {k : Nat} {x : Str} {q : Program} {loose : List Str} {XP : (Str → Option Value) → Heap → Prop} {YP : World → Heap → Prop} {d : DefRec} {K : Params → PySem.W.Frag} (hn : l.most = some 63) (hdf : d.params.defaults = []) (hr : Room k callerA)
    (hY : ∀ (w : World) (h : Heap), YP w h → (K w.params).In h)
    (F : ∀ (w : World) (mg : Str → Option Value) (fa : Addr) (h : Heap), (K w.params).In h → h.Ns mainGlobals mg → mg d.name = some (.ref fa) →
      ∃ fd : FuncData, (∀ (s : Shared) (u : Value), BindsTo s fd ⟨[u], []⟩ [(x, u)]) ∧ ∀ base : Heap, (K w.params).In base → base.Ns mainGlobals mg → FnOk l.prog w (K w.params) mg base (L2.CX l.prog w) k fa fd [x] (spTrue (K w.params))) :
    PySem.W.WalkO q loose XP YP l.row.toRowW d [] (fun f vs => PySem.call f vs) :=
  L2.walk_of (n := 63) (k := k) (x := x) (CX := fun w => L2.CX l.prog w) (sp := fun w => spTrue (K w.params)) hn (by decide) hdf hr hY F (fun _ _ a ns hl ho hS => ⟨a, ns, rfl, hS, hl, ho, fun _ => rfl⟩) fun _ _ _ _ _ h => by
    obtain ⟨_, _, _, _, _, _, _, _, _, _, _, _, z⟩ := h
    exact z
end PV

set_option Elab.async false
set_option linter.all false
set_option maxRecDepth 100000
set_option maxHeartbeats 4000000
/-! PvUb: from the law's meaning to its promise, where tables of code objects are told. -/
namespace PV
open PySem L2 PyProof.Rows
/-- the law's promise: T, the names of the defs that hold lambdas, and their tables -/
def spTrueT (T : List (String × Addr)) (K : PySem.W.Frag) : Sp := fun vs H Q _ => ∃ (a : Addr) (ns : List Int), vs = [.ref a] ∧ SqL K H a (ns.map V.int) ∧ ns.length ≤ 63 ∧ (∀ p ∈ T, H p.2 = some (.tbl #[])) ∧ ∀ H', Q (.bl true) H'
def tabO (T : List (String × Addr)) : Om := fun b => match T.find? (fun p => decide (p.2 = b)) with
  | some p => .tab (LamN p.1)
  | none => .free
theorem tabO_some {T : List (String × Addr)} {b : Addr} {w : Own} (h : tabO T b = w) (hw : w ≠ .free) : ∃ p ∈ T, p.2 = b ∧ w = .tab (LamN p.1) := by
  unfold tabO at h
  cases e : T.find? (fun p => decide (p.2 = b)) with
  | none => rw [e] at h; exact absurd h.symm hw
  | some p =>
    rw [e] at h
    exact ⟨p, List.mem_of_find?_eq_some e, by simpa using List.find?_some e, h.symm⟩
theorem tabO_in {T : List (String × Addr)} (nd : (T.map (·.2)).Nodup) {n : String} {b : Addr} (h : (n, b) ∈ T) : tabO T b = .tab (LamN n) := by
  unfold tabO
  cases e : T.find? (fun p => decide (p.2 = b)) with
  | none =>
    have := List.find?_eq_none.mp e _ h
    simp at this
  | some p =>
    have h1 := List.mem_of_find?_eq_some e
    have h2 : p.2 = b := by simpa using List.find?_some e
    have : p = (n, b) := by
      obtain ⟨i, hi, e1⟩ := List.mem_iff_getElem.mp h1
      obtain ⟨j, hj, e2⟩ := List.mem_iff_getElem.mp h
      have hij : i = j := by
        refine (List.getElem_inj (xs := T.map (fun p : String × Addr => p.2)) nd (h₀ := by simpa using hi) (h₁ := by simpa using hj)).mp ?_
        simp [e1, e2, h2]
      subst hij
      rw [← e1, e2]
    subst this
    rfl
theorem sp_trueT {K : PySem.W.Frag} {cl : String → Option Addr} {f : FS} {T : List (String × Addr)} (nd : (T.map (·.2)).Nodup) (hcl : ∀ n a, cl (TabN n) = some a → (n, a) ∈ T)
    (hf : ∀ (ns : List Int) (x : P), ns.length ≤ 63 → x = .fz (ns.map .int) ∨ x = .lst (ns.map .int) → ∃ fin, f [.p x] = .ok (.p (.bl true)) fin) (vs : List V) (H : Hp) (Q : VK) (E : XK) (h : spTrueT T K vs H Q E) : spOf K cl 1 f vs H Q E := by
  obtain ⟨a, ns, rfl, hs, hl, hT, q⟩ := h
  have hfree : ∀ u, H a = some u → isTb u = false → tabO T a = .free := fun u hu hb => by
    cases e : tabO T a with
    | free => rfl
    | _ =>
      obtain ⟨p, hp, e2, _⟩ := tabO_some e (by intro z; cases z)
      have := hT p hp
      rw [e2, hu] at this
      cases this
      cases hb
  have harg : ∃ x, (x = P.fz (ns.map .int) ∨ x = P.lst (ns.map .int)) ∧ RP K cl H (Fr (tabO T)) x (.ref a) := by
    rcases hs with (hs | ⟨o, hs⟩) | hs
    · exact ⟨_, .inr rfl, .lst hs (hfree _ hs rfl) (RPs.of_ints ns)⟩
    · exact ⟨_, .inl rfl, .fz (.inl ⟨o, hs, hfree _ hs rfl⟩) (RPs.of_ints ns)⟩
    · exact ⟨_, .inl rfl, .fz (.inr hs) (RPs.of_ints ns)⟩
  obtain ⟨x, hx, rx⟩ := harg
  obtain ⟨fin, e⟩ := hf ns x hl hx
  refine ⟨tabO T, [.p x], rfl, rfl, fun j d v e1 e2 => ?_, ⟨fun b hb => ?_, fun b q hb => ?_, fun n b hb => tabO_in nd (hcl n b hb)⟩, ?_⟩
  · match j with
    | 0 =>
      simp at e1 e2
      subst e1; subst e2
      exact .p rx
    | j + 1 => simp at e1
  · obtain ⟨p, hp, e2, _⟩ := tabO_some rfl hb
    exact ⟨_, by rw [← e2]; exact hT p hp, rfl⟩
  · obtain ⟨p, hp, e2, e3⟩ := tabO_some hb (by intro z; cases z)
    refine ⟨#[], by rw [← e2]; exact hT p hp, True.intro, fun pos cv hc => ?_⟩
    cases hc
  · rw [e]
    intro ω' H' v _ _ _ r
    cases r with
    | p r => cases r; exact q H'
theorem walk63T {l : PySem.W.OpenLaw} {k : Nat} {x : Str} {q : Program} {loose : List Str} {XP : (Str → Option Value) → Heap → Prop} {YP : World → Heap → Prop} {d : DefRec} {K : Params → PySem.W.Frag} (hn : l.most = some 63) (hdf : d.params.defaults = []) (hr : Room k callerA)
    (hY : ∀ (w : World) (h : Heap), YP w h → (K w.params).In h)
    (F : ∀ (w : World) (mg : Str → Option Value) (fa : Addr) (h : Heap), (K w.params).In h → h.Ns mainGlobals mg → mg d.name = some (.ref fa) →
      ∃ (fd : FuncData) (T : List (String × Addr × Addr)), (∀ t ∈ T, (∃ r, (recsOf q).find? (fun e => e.name == ofS t.1) = some r) ∧ PySem.W.tabIn (K w.params) (ofS t.1) = some t.2 ∧ (K w.params).lookup t.2.2 = none) ∧ (∀ (s : Shared) (u : Value), BindsTo s fd ⟨[u], []⟩ [(x, u)]) ∧
        ∀ base : Heap, (K w.params).In base → base.Ns mainGlobals mg → (∀ t ∈ T, LamX.TabB base mg t.2.1 t.2.2) → FnOk l.prog w (K w.params) mg base (L2.CX l.prog w) k fa fd [x] (spTrueT (T.map fun t => (t.1, t.2.2)) (K w.params))) :
    PySem.W.WalkO q loose XP YP l.row.toRowW d [] (fun f vs => PySem.call f vs) := by
  refine Att.attach_callB hn hdf fun w s₀ s₁ mg mb fa o pm cd doc a vs ns G Y ho hd hcd hmg hobj hints hlen hbits hg => ?_
  have KX := hY w _ Y
  obtain ⟨fd, T, hT, hb, hF⟩ := F w mg fa _ KX G.T.g hmg
  have tabs : ∀ t ∈ T, PySem.W.CodeHd s₁.heap t.2.1 t.2.2 ∧ s₁.heap.get? t.2.2 = some (PySem.W.tabObj #[]) := fun t ht => by
    obtain ⟨⟨r, h1⟩, h2, _⟩ := hT t ht
    exact PySem.W.tab_of G.T KX h1 h2
  refine LamX.law_callTs (cs := T.map (·.2)) KX G.T.g G.T.b G.T.builtins G.T.nolimit hg (fun p hp => ?_) (fun p hp => ?_) (fun p hp => ?_) G.T.bmain hobj hints (Nat.le_trans hlen (by decide)) hr (fun base h1 h2 h3 => hF base h1 h2 fun t ht => h3 t.2 (List.mem_map_of_mem ht)) hb (fun H hH hS => ⟨a, ns, rfl, hS, hlen, fun p hp => ?_, fun _ => rfl⟩) fun H e s' z => ?_
  · obtain ⟨t, ht, rfl⟩ := List.mem_map.mp hp
    exact (tabs t ht).2
  · obtain ⟨t, ht, rfl⟩ := List.mem_map.mp hp
    exact (hT t ht).2.2
  · obtain ⟨t, ht, rfl⟩ := List.mem_map.mp hp
    exact (tabs t ht).1
  · obtain ⟨t, ht, rfl⟩ := List.mem_map.mp hp
    exact hH t.2 (List.mem_map_of_mem ht)
  · obtain ⟨_, _, _, _, _, _, _, _, _, _, _, _, w⟩ := z
    exact w
end PV

set_option Elab.async false
set_option linter.all false
set_option maxRecDepth 100000
set_option maxHeartbeats 4000000
/-! PvV: the meanings computed: what simp may unfold; loops and comprehensions by what they do. -/
namespace PV
open PySem (Str)
section
variable (σ : Env)
theorem q_C (x : P) : mC x σ = .ok (.v x) σ := rfl
theorem q_V (i : Nat) : mV i σ = (match σ[i]? with | some (some (.p x)) => .ok (.v x) σ | some (some _) => .ok (.at i) σ | _ => .stuck) := rfl
theorem q_op1 (f : P → Option P) (a : M) : mOp1 f a σ = (a σ).bind fun oa σ1 => R.lift σ1 ((oa.get σ1).bind f) := rfl
theorem q_op2 (f : P → P → Option P) (a b : M) : mOp2 f a b σ = (a σ).bind fun oa σ1 => (b σ1).bind fun ob σ2 => R.lift σ2 ((oa.get σ2).bind fun x => (ob.get σ2).bind fun y => f x y) := rfl
theorem q_as0 : mAs [] σ = .ok [] σ := rfl
theorem q_as (m : M) (ms : List M) : mAs (m :: ms) σ = (m σ).bind fun o σ1 => (mAs ms σ1).bind fun os σ2 => .ok (o :: os) σ2 := rfl
theorem q_prim (f : List P → Option P) (ms : List M) : mPrim f ms σ = (mAs ms σ).bind fun os σ1 => R.lift σ1 ((getAll σ1 os).bind f) := rfl
theorem q_lift0 : R.lift σ none = .stuck := rfl
theorem q_tup (ms : List M) : mTup ms σ = (mAs ms σ).bind fun os σ1 => R.lift σ1 ((pureAll os).bind fun xs => if xs.length ≤ PySem.sizeLine then some (.tup xs) else none) := rfl
theorem q_lst (ms : List M) : mLst ms σ = (mAs ms σ).bind fun os σ1 => R.lift σ1 ((pureAll os).bind fun xs => if xs.length ≤ PySem.sizeLine then some (.lst xs) else none) := rfl
theorem q_Te (m : M) : mTe m σ = (m σ).bind fun o σ1 => match o.get σ1 with | some (.bl b) => .ok b σ1 | _ => .stuck := rfl
theorem q_NotT (m : MT) : mNotT m σ = (m σ).bind fun b σ1 => .ok (!b) σ1 := rfl
theorem q_AndT (a b : MT) : mAndT a b σ = (a σ).bind fun x σ1 => if x = true then b σ1 else .ok false σ1 := rfl
theorem q_OrT (a b : MT) : mOrT a b σ = (a σ).bind fun x σ1 => if x = true then .ok true σ1 else b σ1 := rfl
theorem q_AndV (a b : M) : mAndV a b σ = (mTe a σ).bind fun x σ1 => if x = true then b σ1 else .ok (.v (.bl false)) σ1 := rfl
theorem q_OrV (a b : M) : mOrV a b σ = (mTe a σ).bind fun x σ1 => if x = true then .ok (.v (.bl true)) σ1 else b σ1 := rfl
theorem q_NotV (a : M) : mNotV a σ = (mTe a σ).bind fun x σ1 => .ok (.v (.bl (!x))) σ1 := rfl
theorem q_IfE (c : MT) (a b : M) : mIfE c a b σ = (c σ).bind fun x σ1 => if x = true then a σ1 else b σ1 := rfl
theorem q_frzv (x : P) : frz (.v x) σ = .ok x σ := rfl
theorem q_frza (i : Nat) : frz (.at i) σ = (match σ[i]? with | some (some (.lk _)) => .stuck | some (some d) => .ok d.view (σ.set i (some (.p d.view))) | _ => .stuck) := rfl
theorem q_Nil : mNil σ = .next σ := rfl
theorem q_Seq (a b : MS) : mSeq a b σ = (match a σ with | .next σ1 => b σ1 | r => r) := rfl
theorem q_Break : mBreak σ = .brk σ := rfl
theorem q_Cont : mCont σ = .cont σ := rfl
theorem q_Drop (m : M) : mDrop m σ = (m σ).toS fun _ σ1 => .next σ1 := rfl
theorem q_Ret (m : M) : mRet m σ = (m σ).toS fun o σ1 => (frz o σ1).toS fun x σ2 => .ret (.p x) σ2 := rfl
theorem q_RetN : mRetN σ = .ret (.p .non) σ := rfl
theorem q_If (c : MT) (a b : MS) : mIf c a b σ = (c σ).toS fun x σ1 => if x = true then a σ1 else b σ1 := rfl
theorem q_Set (i : Nat) (m : M) : mSet i m σ = (m σ).toS fun o σ1 => (frz o σ1).toS fun x σ2 => .next (σ2.set i (some (.p x))) := rfl
theorem q_SetF (i : Nat) (m : MF) : mSetF i m σ = (m σ).toS fun d σ1 => .next (σ1.set i (some d)) := rfl
theorem q_RetF (m : MF) : mRetF m σ = (m σ).toS fun d σ1 => .ret d σ1 := rfl
theorem q_For (mi : MI) (mg : MG) (mb : MS) : mFor mi mg mb σ = (mi σ).toS fun xs σ1 => loop mg mb xs σ1 := rfl
theorem q_Iter (m : M) : mIter m σ = (m σ).bind fun o σ1 => (frz o σ1).bind fun x σ2 => match itemsP x with | some xs => .ok xs σ2 | none => .stuck := rfl
theorem q_Enum (m : M) : mEnum m σ = (mAs [m] σ).bind fun os σ1 => (frzAll os σ1).bind fun xs σ2 => match xs with | [.lst ys] => .ok (enumP 0 ys) σ2 | [.tup ys] => .ok (enumP 0 ys) σ2 | [.fz ys] => .ok (enumP 0 ys) σ2 | _ => .stuck := rfl
theorem q_frzAll0 : frzAll [] σ = .ok [] σ := rfl
theorem q_frzAll (o : O) (os : List O) : frzAll (o :: os) σ = (frz o σ).bind fun x σ1 => (frzAll os σ1).bind fun xs σ2 => .ok (x :: xs) σ2 := rfl
theorem q_Rg1 (m : M) : mRg1 m σ = (mAs [m] σ).bind fun os σ1 => match getAll σ1 os with | some [.int j] => if -(2 ^ 62) ≤ j ∧ j < 2 ^ 62 then .ok (rangeP 0 j.toNat) σ1 else .stuck | _ => .stuck := rfl
theorem q_Rg2 (a b : M) : mRg2 a b σ = (mAs [a, b] σ).bind fun os σ1 => match getAll σ1 os with | some [.int i, .int j] => if -(2 ^ 62) ≤ i ∧ i < 2 ^ 62 ∧ -(2 ^ 62) ≤ j ∧ j < 2 ^ 62 then .ok (rangeP i (j - i).toNat) σ1 else .stuck | _ => .stuck := rfl
theorem q_RgL (ms : List M) : mRgL ms σ = (mAs ms σ).bind fun os σ1 => match getAll σ1 os with | some [.int j] => if L2.RgOk 0 j then .ok (.lst (rangeP 0 j.toNat)) σ1 else .stuck | some [.int i, .int j] => if L2.RgOk i j then .ok (.lst (rangeP i (j - i).toNat)) σ1 else .stuck | _ => .stuck := rfl
theorem q_Call (f : FS) (ms : List M) : mCall f ms σ = (mAs ms σ).bind fun os σ1 => (PV.callEnd σ1 os f).bind fun d σ2 => .ok (.v d.view) σ2 := rfl
theorem q_CallF (f : FS) (ms : List M) : mCallF f ms σ = (mAs ms σ).bind fun os σ1 => PV.callEnd σ1 os f := rfl
theorem q_callEnd (os : List O) (f : FS) : PV.callEnd σ os f = (match takeAll σ os with
  | some ds => if once os = true then (match f ds with
    | .ok d fin => .ok d (giveBack σ os fin)
    | .exc c ns vs fin => .exc c ns vs (giveBack σ os fin)
    | .stuck => .stuck) else .stuck
  | none => .stuck) := rfl
@[simp] theorem q_take0 : takeAll σ [] = some [] := rfl
@[simp] theorem q_takev (x : P) (os : List O) : takeAll σ (.v x :: os) = (takeAll σ os).bind fun ds => some (.p x :: ds) := rfl
@[simp] theorem q_takea (i : Nat) (os : List O) : takeAll σ (.at i :: os) = (match σ[i]? with | some (some d) => (takeAll σ os).bind fun ds => some (d :: ds) | _ => none) := rfl
@[simp] theorem q_give0 (ds : List D) : giveBack σ [] ds = σ := by cases ds <;> rfl
@[simp] theorem q_givev (x : P) (d : D) (os : List O) (ds : List D) : giveBack σ (.v x :: os) (d :: ds) = giveBack σ os ds := rfl
@[simp] theorem q_givea (i : Nat) (d : D) (os : List O) (ds : List D) : giveBack σ (.at i :: os) (d :: ds) = (giveBack σ os ds).set i (some d) := rfl
@[simp] theorem q_once0 : once [] = true := rfl
@[simp] theorem q_oncev (x : P) (os : List O) : once (.v x :: os) = once os := rfl
@[simp] theorem q_oncea (i : Nat) (os : List O) : once (.at i :: os) = ((match atIx i 0 os with | none => true | some _ => false) && once os) := rfl
@[simp] theorem q_atIx0 (i k : Nat) : atIx i k [] = none := rfl
@[simp] theorem q_atIxv (i k : Nat) (x : P) (os : List O) : atIx i k (.v x :: os) = atIx i (k + 1) os := rfl
theorem q_geta (i : Nat) : O.get σ (.at i) = (match σ[i]? with | some (some d) => some d.view | _ => none) := rfl
theorem q_Chain (f f' : P → P → Option P) (a b c : M) : mChain f f' a b c σ = (a σ).bind fun oa σ1 => (b σ1).bind fun ob σ2 => match (oa.get σ2).bind fun x => (ob.get σ2).bind fun y => f x y with
  | some (.bl true) => (c σ2).bind fun oc σ3 => R.lift σ3 ((ob.get σ3).bind fun y => (oc.get σ3).bind fun z => f' y z)
  | some (.bl false) => .ok (.v (.bl false)) σ2
  | _ => .stuck := rfl
theorem q_Fz (m : MF) : mFz m σ = (m σ).bind fun d σ2 => .ok (.v d.view) σ2 := rfl
theorem q_LstF (ms : List M) : mLstF ms σ = (mAs ms σ).bind fun os σ1 => match pureAll os with | some xs => if xs.length ≤ PySem.sizeLine then .ok (.lst xs) σ1 else .stuck | none => .stuck := rfl
theorem q_DK : mDK σ = .ok (.dK [] []) σ := rfl
theorem q_DT : mDT σ = .ok (.dT [] []) σ := rfl
theorem q_PrimF (f : List P → Option (List P)) (ms : List M) : mPrimF f ms σ = (mAs ms σ).bind fun os σ1 => match (getAll σ1 os).bind f with | some zs => .ok (.lst zs) σ1 | none => .stuck := rfl
theorem q_PrimK (f : List P → Option (List L2.Key × List P)) (ms : List M) : mPrimK f ms σ = (mAs ms σ).bind fun os σ1 => match (getAll σ1 os).bind f with | some zs => .ok (.dK zs.1 zs.2) σ1 | none => .stuck := rfl
theorem q_OpF (f : P → P → Option P) (a b : M) : mOpF f a b σ = (a σ).bind fun oa σ1 => (b σ1).bind fun ob σ2 => match (oa.get σ2).bind fun x => (ob.get σ2).bind fun y => f x y with | some (.lst zs) => .ok (.lst zs) σ2 | _ => .stuck := rfl
theorem q_Asg (mg : MG) (me : M) : mAsg mg me σ = (me σ).toS fun o σ1 => (frz o σ1).toS fun x σ2 => toN (mg x σ2) .next := rfl
theorem q_gN (i : Nat) (x : P) : mgN i x σ = some (σ.set i (some (.p x))) := rfl
theorem q_gTup (ms : List MG) (xs : List P) : mgTup ms (.tup xs) σ = (if xs.length = ms.length then mgAll ms xs σ else none) := rfl
theorem q_gAll0 : mgAll [] [] σ = some σ := rfl
theorem q_gAll (m : MG) (ms : List MG) (x : P) (xs : List P) : mgAll (m :: ms) (x :: xs) σ = (m x σ).bind fun σ1 => mgAll ms xs σ1 := rfl
theorem q_True : mTrue σ = .ok true σ := rfl
@[simp] theorem q_loop0 (mg : MG) (mb : MS) : loop mg mb [] σ = .next σ := rfl
end
@[simp] theorem q_lastR {a : Bool} : (P.bl a).isNon = false := rfl
@[simp] theorem q_fnEnd_ret (io : List Nat) (args : List D) (d : D) (σ : Env) : fnEnd io args (.ret d σ) = (match finOf io σ 0 args with | some f => .ok d f | none => .stuck) := rfl
@[simp] theorem q_fnEnd_next (io : List Nat) (args : List D) (σ : Env) : fnEnd io args (.next σ) = (match finOf io σ 0 args with | some f => .ok (.p .non) f | none => .stuck) := rfl
theorem q_finOf0 (io : List Nat) (σ : Env) (k : Nat) : finOf io σ k [] = some [] := rfl
theorem q_finOf (io : List Nat) (σ : Env) (k : Nat) (a : D) (as : List D) : finOf io σ k (a :: as) = (match (if k ∈ io then (match σ[k]? with | some (some d) => some d | _ => none) else some a), finOf io σ (k + 1) as with | some d, some r => some (d :: r) | _, _ => none) := rfl
@[simp] theorem q_view (x : P) : (D.p x).view = x := rfl
@[simp] theorem q_viewl (xs : List P) : (D.lst xs).view = .lst xs := rfl
@[simp] theorem q_viewk (ks : List L2.Key) (xs : List P) : (D.dK ks xs).view = .dK ks xs := rfl
@[simp] theorem q_viewt (ks : List (List L2.Key)) (xs : List P) : (D.dT ks xs).view = .dT ks xs := rfl
@[simp] theorem q_okArgs0 (io : List Nat) (k : Nat) : okArgs io k [] = true := rfl
@[simp] theorem q_okArgs (io : List Nat) (k : Nat) (a : D) (as : List D) : okArgs io k (a :: as) = ((decide (k ∈ io) || !a.owned) && okArgs io (k + 1) as) := rfl
@[simp] theorem q_ownp (x : P) : (D.p x).owned = false := rfl
@[simp] theorem q_pI (f : Int → Int → Option P) (i j : Int) : pI f (.int i) (.int j) = f i j := rfl
@[simp] theorem q_pF1 (f : P → Option P) (x : P) : pF1 f [x] = f x := rfl
@[simp] theorem q_is (tab : P → Option Bool) (x : P) : pIs tab x = (tab x).map P.bl := rfl
theorem fn_run {np nl : Nat} {io : List Nat} {body : MS} {args : List D} (h : args.length = np) (h2 : okArgs io 0 args = true) : fnOf np nl io body args = fnEnd io args (body (args.map some ++ List.replicate nl none)) := by
  unfold fnOf; rw [if_pos ⟨h, h2⟩]
end PV

set_option Elab.async false
set_option linter.all false
set_option maxRecDepth 100000
set_option maxHeartbeats 4000000
/-! PvW: what must hold ahead (weakest preconditions of the meanings), outermost first. -/
namespace PV
open PySem (Str)
/-- wishes about an exception -/
abbrev XP := String → List String → List P → Env → Prop
@[irreducible] def WE {α : Type} (r : R α) (X : XP) (Q : α → Env → Prop) : Prop := match r with
  | .ok a σ => Q a σ
  | .exc c ns vs σ => X c ns vs σ
  | .stuck => False
structure EP where
  nx : Env → Prop := fun _ => False
  rt : D → Env → Prop := fun _ _ => False
  bk : Env → Prop := fun _ => False
  ct : Env → Prop := fun _ => False
  xc : XP := fun _ _ _ _ => False
@[irreducible] def WS (r : RS) (E : EP) : Prop := match r with
  | .next σ => E.nx σ
  | .ret d σ => E.rt d σ
  | .brk σ => E.bk σ
  | .cont σ => E.ct σ
  | .exc c ns vs σ => E.xc c ns vs σ
  | .stuck => False
/-- a def's meaning -/
@[irreducible] def WF (f : FS) (args : List D) (X : String → List String → List P → List D → Prop) (Q : D → List D → Prop) : Prop := match f args with
  | .ok d fin => Q d fin
  | .exc c ns vs fin => X c ns vs fin
  | .stuck => False
def WN (r : Option Env) (Q : Env → Prop) : Prop := match r with
  | some σ => Q σ
  | none => False
def WO {α : Type} (r : Option α) (Q : α → Prop) : Prop := match r with
  | some a => Q a
  | none => False
theorem WF.imp {f : FS} {args : List D} {X : String → List String → List P → List D → Prop} {Q Q' : D → List D → Prop} (h : WF f args X Q) (g : ∀ d fin, Q d fin → Q' d fin) : WF f args X Q' := by
  unfold WF at *
  cases e : f args with
  | ok d fin => rw [e] at h; exact g _ _ h
  | exc c ns vs fin => rw [e] at h; exact h
  | stuck => rw [e] at h; exact h
theorem WF.ok {f : FS} {args : List D} {Q : D → List D → Prop} (h : WF f args (fun _ _ _ _ => False) Q) : ∃ d fin, f args = .ok d fin ∧ Q d fin := by
  unfold WF at h
  cases e : f args with
  | ok d fin => rw [e] at h; exact ⟨d, fin, rfl, h⟩
  | exc c ns vs fin => rw [e] at h; exact h.elim
  | stuck => rw [e] at h; exact h.elim
theorem ite_conj {c p : Prop} [Decidable c] : (if c then p else False) = (c ∧ p) := by split <;> simp [*]
section
variable {α β : Type} (σ : Env) (X : XP) (E : EP)
@[simp ↓] theorem w_ok (a : α) (Q : α → Env → Prop) : WE (.ok a σ) X Q = Q a σ := by with_unfolding_all rfl
@[simp ↓] theorem w_exc (c ns vs) (Q : α → Env → Prop) : WE (.exc c ns vs σ : R α) X Q = X c ns vs σ := by with_unfolding_all rfl
@[simp ↓] theorem w_stuck (Q : α → Env → Prop) : WE (.stuck : R α) X Q = False := by with_unfolding_all rfl
@[simp ↓] theorem w_bind (r : R α) (k : α → Env → R β) (Q : β → Env → Prop) : WE (r.bind k) X Q = WE r X fun a σ1 => WE (k a σ1) X Q := by cases r <;> with_unfolding_all rfl
@[simp ↓] theorem w_ite (c : Prop) [Decidable c] (a b : R α) (Q : α → Env → Prop) : WE (if c then a else b) X Q = if c then WE a X Q else WE b X Q := by split <;> with_unfolding_all rfl
@[simp ↓] theorem w_C (x : P) (Q : O → Env → Prop) : WE (mC x σ) X Q = Q (.v x) σ := by with_unfolding_all rfl
def getO (σ : Env) (i : Nat) (Q : D → Prop) : Prop := match σ[i]? with
  | some (some d) => Q d
  | _ => False
def D.op (i : Nat) : D → O
  | .p x => .v x
  | _ => .at i
@[simp ↓] theorem w_V (i : Nat) (Q : O → Env → Prop) : WE (mV i σ) X Q = getO σ i fun d => Q (d.op i) σ := by
  unfold getO
  rw [q_V]
  cases e : σ[i]? with
  | none => with_unfolding_all rfl
  | some o =>
    cases o with
    | none => with_unfolding_all rfl
    | some d => cases d <;> with_unfolding_all rfl
@[simp ↓] theorem getO_zero (d : D) (r : Env) (Q : D → Prop) : getO (some d :: r) 0 Q = Q d := by with_unfolding_all rfl
@[simp ↓] theorem getO_none (r : Env) (Q : D → Prop) : getO (none :: r) 0 Q = False := by with_unfolding_all rfl
@[simp ↓] theorem getO_nil (i : Nat) (Q : D → Prop) : getO [] i Q = False := by simp [getO]
@[simp ↓] theorem getO_succ (d : Option D) (r : Env) (i : Nat) (Q : D → Prop) : getO (d :: r) (i + 1) Q = getO r i Q := by with_unfolding_all rfl
@[simp] theorem op_p (i : Nat) (x : P) : D.op i (.p x) = .v x := by with_unfolding_all rfl
@[simp] theorem op_l (i : Nat) (x : List P) : D.op i (.lst x) = .at i := by with_unfolding_all rfl
@[simp] theorem op_k (i : Nat) (ks x) : D.op i (.dK ks x) = .at i := by with_unfolding_all rfl
@[simp] theorem op_t (i : Nat) (ks x) : D.op i (.dT ks x) = .at i := by with_unfolding_all rfl
@[simp] theorem op_i (i : Nat) (c ns x) : D.op i (.ins c ns x) = .at i := by with_unfolding_all rfl
/-- an operand's data -/
def getQ (σ : Env) (o : O) (Q : P → Prop) : Prop := match o with
  | .v x => Q x
  | .at i => getO σ i fun d => Q d.view
@[simp ↓] theorem getQ_v (x : P) (Q : P → Prop) : getQ σ (.v x) Q = Q x := by with_unfolding_all rfl
@[simp ↓] theorem getQ_at (i : Nat) (Q : P → Prop) : getQ σ (.at i) Q = getO σ i fun d => Q d.view := by with_unfolding_all rfl
@[simp ↓] theorem wo_some (a : α) (Q : α → Prop) : WO (some a) Q = Q a := by with_unfolding_all rfl
@[simp ↓] theorem wo_none (Q : α → Prop) : WO (none : Option α) Q = False := by with_unfolding_all rfl
@[simp ↓] theorem wo_bind (r : Option α) (k : α → Option β) (Q : β → Prop) : WO (r.bind k) Q = WO r fun a => WO (k a) Q := by cases r <;> with_unfolding_all rfl
@[simp ↓] theorem wo_map (r : Option α) (k : α → β) (Q : β → Prop) : WO (r.map k) Q = WO r fun a => Q (k a) := by cases r <;> with_unfolding_all rfl
@[simp ↓] theorem wo_ite (c : Prop) [Decidable c] (a b : Option α) (Q : α → Prop) : WO (if c then a else b) Q = if c then WO a Q else WO b Q := by split <;> with_unfolding_all rfl
theorem getQ_eq (o : O) (Q : P → Prop) : getQ σ o Q = WO (o.get σ) Q := by
  cases o with
  | v x => with_unfolding_all rfl
  | «at» i =>
    simp only [getQ, getO, O.get]
    cases σ[i]? with
    | none => with_unfolding_all rfl
    | some d => cases d <;> with_unfolding_all rfl
@[simp ↓] theorem w_lift (o : Option P) (Q : O → Env → Prop) : WE (R.lift σ o) X Q = WO o fun z => Q (.v z) σ := by cases o <;> with_unfolding_all rfl
@[simp ↓] theorem w_op1 (f : P → Option P) (a : M) (Q : O → Env → Prop) : WE (mOp1 f a σ) X Q = WE (a σ) X fun oa σ1 => getQ σ1 oa fun x => WO (f x) fun z => Q (.v z) σ1 := by
  rw [q_op1, w_bind]
  congr 1; funext oa σ1
  rw [w_lift, wo_bind, getQ_eq]
@[simp ↓] theorem w_op2 (f : P → P → Option P) (a b : M) (Q : O → Env → Prop) : WE (mOp2 f a b σ) X Q = WE (a σ) X fun oa σ1 => WE (b σ1) X fun ob σ2 => getQ σ2 oa fun x => getQ σ2 ob fun y => WO (f x y) fun z => Q (.v z) σ2 := by
  rw [q_op2, w_bind]
  congr 1; funext oa σ1
  rw [w_bind]
  congr 1; funext ob σ2
  rw [w_lift, wo_bind, getQ_eq]
  congr 1; funext x
  rw [wo_bind, getQ_eq]
@[simp ↓] theorem w_as0 (Q : List O → Env → Prop) : WE (mAs [] σ) X Q = Q [] σ := by with_unfolding_all rfl
@[simp ↓] theorem w_as (m : M) (ms : List M) (Q : List O → Env → Prop) : WE (mAs (m :: ms) σ) X Q = WE (m σ) X fun o σ1 => WE (mAs ms σ1) X fun os σ2 => Q (o :: os) σ2 := by
  rw [q_as, w_bind]
  congr 1; funext o σ1
  rw [w_bind]; with_unfolding_all rfl
def getQs (σ : Env) : List O → (List P → Prop) → Prop
  | [], Q => Q []
  | o :: os, Q => getQ σ o fun x => getQs σ os fun xs => Q (x :: xs)
@[simp ↓] theorem getQs_nil (Q : List P → Prop) : getQs σ [] Q = Q [] := by with_unfolding_all rfl
@[simp ↓] theorem getQs_cons (o : O) (os : List O) (Q : List P → Prop) : getQs σ (o :: os) Q = getQ σ o fun x => getQs σ os fun xs => Q (x :: xs) := by with_unfolding_all rfl
theorem getQs_eq : ∀ (os : List O) (Q : List P → Prop), getQs σ os Q = WO (getAll σ os) Q
  | [], Q => rfl
  | o :: os, Q => by
    rw [getQs_cons, getAll_cons, wo_bind, getQ_eq]
    congr 1; funext x
    rw [wo_bind, getQs_eq os]; with_unfolding_all rfl
@[simp ↓] theorem w_prim (f : List P → Option P) (ms : List M) (Q : O → Env → Prop) : WE (mPrim f ms σ) X Q = WE (mAs ms σ) X fun os σ1 => getQs σ1 os fun xs => WO (f xs) fun z => Q (.v z) σ1 := by
  rw [q_prim, w_bind]
  congr 1; funext os σ1
  rw [w_lift, wo_bind, getQs_eq]
@[simp ↓] theorem w_primF (f : List P → Option (List P)) (ms : List M) (Q : D → Env → Prop) : WE (mPrimF f ms σ) X Q = WE (mAs ms σ) X fun os σ1 => getQs σ1 os fun xs => WO (f xs) fun z => Q (.lst z) σ1 := by
  rw [q_PrimF, w_bind]
  congr 1; funext os σ1
  rw [getQs_eq]
  cases getAll σ1 os with
  | none => with_unfolding_all rfl
  | some xs => simp only [Option.bind_some, wo_some]; cases f xs <;> with_unfolding_all rfl
@[simp ↓] theorem w_primK (f : List P → Option (List L2.Key × List P)) (ms : List M) (Q : D → Env → Prop) : WE (mPrimK f ms σ) X Q = WE (mAs ms σ) X fun os σ1 => getQs σ1 os fun xs => WO (f xs) fun z => Q (.dK z.1 z.2) σ1 := by
  rw [q_PrimK, w_bind]
  congr 1; funext os σ1
  rw [getQs_eq]
  cases getAll σ1 os with
  | none => with_unfolding_all rfl
  | some xs => simp only [Option.bind_some, wo_some]; cases f xs <;> with_unfolding_all rfl
@[simp ↓] theorem w_opF (f : P → P → Option P) (a b : M) (Q : D → Env → Prop) : WE (mOpF f a b σ) X Q = WE (a σ) X fun oa σ1 => WE (b σ1) X fun ob σ2 => getQ σ2 oa fun x => getQ σ2 ob fun y => WO (f x y) fun z => ∃ zs, z = .lst zs ∧ Q (.lst zs) σ2 := by
  rw [q_OpF, w_bind]
  congr 1; funext oa σ1
  rw [w_bind]
  congr 1; funext ob σ2
  rw [getQ_eq]
  cases oa.get σ2 with
  | none => with_unfolding_all rfl
  | some x =>
    simp only [Option.bind_some, wo_some, getQ_eq]
    cases ob.get σ2 with
    | none => with_unfolding_all rfl
    | some y =>
      simp only [Option.bind_some, wo_some]
      cases f x y with
      | none => with_unfolding_all rfl
      | some z =>
        cases z <;> simp [WE, WO]
@[simp ↓] theorem w_tup (ms : List M) (Q : O → Env → Prop) : WE (mTup ms σ) X Q = WE (mAs ms σ) X fun os σ1 => WO (pureAll os) fun xs => xs.length ≤ PySem.sizeLine ∧ Q (.v (.tup xs)) σ1 := by
  rw [q_tup, w_bind]
  congr 1; funext os σ1
  rw [w_lift, wo_bind]
  congr 1; funext xs
  rw [wo_ite]
  split <;> simp [*, WO]
@[simp ↓] theorem w_lst (ms : List M) (Q : O → Env → Prop) : WE (mLst ms σ) X Q = WE (mAs ms σ) X fun os σ1 => WO (pureAll os) fun xs => xs.length ≤ PySem.sizeLine ∧ Q (.v (.lst xs)) σ1 := by
  rw [q_lst, w_bind]
  congr 1; funext os σ1
  rw [w_lift, wo_bind]
  congr 1; funext xs
  rw [wo_ite]
  split <;> simp [*, WO]
@[simp ↓] theorem w_lstF (ms : List M) (Q : D → Env → Prop) : WE (mLstF ms σ) X Q = WE (mAs ms σ) X fun os σ1 => WO (pureAll os) fun xs => xs.length ≤ PySem.sizeLine ∧ Q (.lst xs) σ1 := by
  rw [q_LstF, w_bind]
  congr 1; funext os σ1
  cases pureAll os with
  | none => with_unfolding_all rfl
  | some xs => dsimp only; split <;> simp [*, WO, WE]
@[simp ↓] theorem w_DK (Q : D → Env → Prop) : WE (mDK σ) X Q = Q (.dK [] []) σ := by with_unfolding_all rfl
@[simp ↓] theorem w_DT (Q : D → Env → Prop) : WE (mDT σ) X Q = Q (.dT [] []) σ := by with_unfolding_all rfl
@[simp ↓] theorem w_Disp (ks : List L2.Key) (ms : List M) (Q : D → Env → Prop) : WE (mDisp ks ms σ) X Q = WE (mAs ms σ) X fun os σ1 => WO (pureAll os) fun xs => xs.length ≤ 15 ∧ Q (.dK (mergeP ([], []) (zipPs ks xs)).1 (mergeP ([], []) (zipPs ks xs)).2) σ1 := by
  unfold mDisp
  rw [w_bind]
  congr 1; funext os σ1
  cases pureAll os with
  | none => with_unfolding_all rfl
  | some xs => dsimp only; split <;> simp [*, WO, WE]
@[simp ↓] theorem w_Fz (m : MF) (Q : O → Env → Prop) : WE (mFz m σ) X Q = WE (m σ) X fun d σ2 => Q (.v d.view) σ2 := by
  rw [q_Fz, w_bind]; with_unfolding_all rfl
/-- a truth -/
def isB (x : P) (Q : Bool → Prop) : Prop := match x with
  | .bl b => Q b
  | _ => False
@[simp ↓] theorem isB_bl (b : Bool) (Q : Bool → Prop) : isB (.bl b) Q = Q b := by with_unfolding_all rfl
@[simp ↓] theorem w_Te (m : M) (Q : Bool → Env → Prop) : WE (mTe m σ) X Q = WE (m σ) X fun o σ1 => getQ σ1 o fun x => isB x fun b => Q b σ1 := by
  rw [q_Te, w_bind]
  congr 1; funext o σ1
  rw [getQ_eq]
  cases o.get σ1 with
  | none => with_unfolding_all rfl
  | some x => cases x <;> with_unfolding_all rfl
@[simp ↓] theorem w_NotT (m : MT) (Q : Bool → Env → Prop) : WE (mNotT m σ) X Q = WE (m σ) X fun b σ1 => Q (!b) σ1 := by rw [q_NotT, w_bind]; with_unfolding_all rfl
@[simp ↓] theorem w_AndT (a b : MT) (Q : Bool → Env → Prop) : WE (mAndT a b σ) X Q = WE (a σ) X fun x σ1 => if x = true then WE (b σ1) X Q else Q false σ1 := by
  rw [q_AndT, w_bind]
  congr 1; funext x σ1
  rw [w_ite]; with_unfolding_all rfl
@[simp ↓] theorem w_OrT (a b : MT) (Q : Bool → Env → Prop) : WE (mOrT a b σ) X Q = WE (a σ) X fun x σ1 => if x = true then Q true σ1 else WE (b σ1) X Q := by
  rw [q_OrT, w_bind]
  congr 1; funext x σ1
  rw [w_ite]; with_unfolding_all rfl
@[simp ↓] theorem w_AndV (a b : M) (Q : O → Env → Prop) : WE (mAndV a b σ) X Q = WE (mTe a σ) X fun x σ1 => if x = true then WE (b σ1) X Q else Q (.v (.bl false)) σ1 := by
  rw [q_AndV, w_bind]
  congr 1; funext x σ1
  rw [w_ite]; with_unfolding_all rfl
@[simp ↓] theorem w_OrV (a b : M) (Q : O → Env → Prop) : WE (mOrV a b σ) X Q = WE (mTe a σ) X fun x σ1 => if x = true then Q (.v (.bl true)) σ1 else WE (b σ1) X Q := by
  rw [q_OrV, w_bind]
  congr 1; funext x σ1
  rw [w_ite]; with_unfolding_all rfl
@[simp ↓] theorem w_NotV (a : M) (Q : O → Env → Prop) : WE (mNotV a σ) X Q = WE (mTe a σ) X fun x σ1 => Q (.v (.bl (!x))) σ1 := by rw [q_NotV, w_bind]; with_unfolding_all rfl
@[simp ↓] theorem w_IfE (c : MT) (a b : M) (Q : O → Env → Prop) : WE (mIfE c a b σ) X Q = WE (c σ) X fun x σ1 => if x = true then WE (a σ1) X Q else WE (b σ1) X Q := by
  rw [q_IfE, w_bind]
  congr 1; funext x σ1
  rw [w_ite]
@[simp ↓] theorem w_Chain (f f' : P → P → Option P) (a b c : M) (Q : O → Env → Prop) : WE (mChain f f' a b c σ) X Q = WE (a σ) X fun oa σ1 => WE (b σ1) X fun ob σ2 => getQ σ2 oa fun x => getQ σ2 ob fun y => WO (f x y) fun z => isB z fun k =>
    if k = true then WE (c σ2) X fun oc σ3 => getQ σ3 ob fun y => getQ σ3 oc fun z => WO (f' y z) fun u => Q (.v u) σ3 else Q (.v (.bl false)) σ2 := by
  rw [q_Chain, w_bind]
  congr 1; funext oa σ1
  rw [w_bind]
  congr 1; funext ob σ2
  rw [getQ_eq]
  cases oa.get σ2 with
  | none => with_unfolding_all rfl
  | some x =>
    simp only [Option.bind_some, wo_some, getQ_eq]
    cases ob.get σ2 with
    | none => with_unfolding_all rfl
    | some y =>
      simp only [Option.bind_some, wo_some]
      cases f x y with
      | none => with_unfolding_all rfl
      | some z =>
        cases z with
        | bl k =>
          cases k with
          | false => with_unfolding_all rfl
          | true =>
            simp only [wo_some, isB_bl, if_true, w_bind]
            congr 1; funext oc σ3
            rw [w_lift, wo_bind]
            congr 1; funext y'
            rw [wo_bind]
        | _ => with_unfolding_all rfl
/-- an operand as data, frozen -/
def fzQ (σ : Env) (o : O) (Q : P → Env → Prop) : Prop := match o with
  | .v x => Q x σ
  | .at i => getO σ i fun d => (∀ d', d ≠ .lk d') ∧ Q d.view (σ.set i (some (.p d.view)))
@[simp ↓] theorem fzQ_v (x : P) (Q : P → Env → Prop) : fzQ σ (.v x) Q = Q x σ := by with_unfolding_all rfl
@[simp ↓] theorem fzQ_at (i : Nat) (Q : P → Env → Prop) : fzQ σ (.at i) Q = getO σ i fun d => (∀ d', d ≠ .lk d') ∧ Q d.view (σ.set i (some (.p d.view))) := by with_unfolding_all rfl
@[simp ↓] theorem w_frz (o : O) (Q : P → Env → Prop) : WE (frz o σ) X Q = fzQ σ o Q := by
  cases o with
  | v x => with_unfolding_all rfl
  | «at» i =>
    rw [fzQ_at, q_frza]
    unfold getO
    cases σ[i]? with
    | none => with_unfolding_all rfl
    | some d =>
      cases d with
      | none => with_unfolding_all rfl
      | some d => cases d <;> simp [WE]
@[simp ↓] theorem w_iter (m : M) (Q : List P → Env → Prop) : WE (mIter m σ) X Q = WE (m σ) X fun o σ1 => fzQ σ1 o fun x σ2 => WO (itemsP x) fun xs => Q xs σ2 := by
  rw [q_Iter, w_bind]
  congr 1; funext o σ1
  rw [w_bind, w_frz]
  congr 1; funext x σ2
  cases itemsP x <;> with_unfolding_all rfl
def fzQs (σ : Env) : List O → (List P → Env → Prop) → Prop
  | [], Q => Q [] σ
  | o :: os, Q => fzQ σ o fun x σ1 => fzQs σ1 os fun xs σ2 => Q (x :: xs) σ2
@[simp ↓] theorem fzQs_nil (Q : List P → Env → Prop) : fzQs σ [] Q = Q [] σ := by with_unfolding_all rfl
@[simp ↓] theorem fzQs_cons (o : O) (os : List O) (Q : List P → Env → Prop) : fzQs σ (o :: os) Q = fzQ σ o fun x σ1 => fzQs σ1 os fun xs σ2 => Q (x :: xs) σ2 := by with_unfolding_all rfl
@[simp ↓] theorem w_frzAll : ∀ (os : List O) (σ : Env) (Q : List P → Env → Prop), WE (frzAll os σ) X Q = fzQs σ os Q
  | [], σ, Q => by with_unfolding_all rfl
  | o :: os, σ, Q => by
    rw [q_frzAll, w_bind, w_frz, fzQs_cons]
    congr 1; funext x σ1
    rw [w_bind, w_frzAll os]; with_unfolding_all rfl
@[simp ↓] theorem w_enum (m : M) (Q : List P → Env → Prop) : WE (mEnum m σ) X Q = WE (m σ) X fun o σ1 => fzQ σ1 o fun x σ2 => WO (seqP x) fun xs => Q (enumP 0 xs) σ2 := by
  rw [q_Enum, w_bind, w_as]
  congr 1; funext o σ1
  rw [w_as0, w_bind, w_frzAll, fzQs_cons]
  congr 1; funext x σ2
  rw [fzQs_nil]
  cases x <;> with_unfolding_all rfl
def asI (x : P) (Q : Int → Prop) : Prop := match x with
  | .int i => Q i
  | _ => False
@[simp ↓] theorem asI_int (i : Int) (Q : Int → Prop) : asI (.int i) Q = Q i := by with_unfolding_all rfl
@[simp ↓] theorem w_rg1 (m : M) (Q : List P → Env → Prop) : WE (mRg1 m σ) X Q = WE (m σ) X fun o σ1 => getQ σ1 o fun x => asI x fun j => (-(2 ^ 62) ≤ j ∧ j < 2 ^ 62) ∧ Q (rangeP 0 j.toNat) σ1 := by
  rw [q_Rg1, w_bind, w_as]
  congr 1; funext o σ1
  rw [w_as0, getAll_cons, getAll_nil, getQ_eq]
  cases o.get σ1 with
  | none => with_unfolding_all rfl
  | some x =>
    cases x with
    | int j => simp only [Option.bind_some, wo_some, asI_int, w_ite]; with_unfolding_all exact ite_conj
    | _ => with_unfolding_all rfl
@[simp ↓] theorem w_rg2 (a b : M) (Q : List P → Env → Prop) : WE (mRg2 a b σ) X Q = WE (a σ) X fun oa σ1 => WE (b σ1) X fun ob σ2 => getQ σ2 oa fun x => getQ σ2 ob fun y => asI x fun i => asI y fun j => (-(2 ^ 62) ≤ i ∧ i < 2 ^ 62 ∧ -(2 ^ 62) ≤ j ∧ j < 2 ^ 62) ∧ Q (rangeP i (j - i).toNat) σ2 := by
  rw [q_Rg2, w_bind, w_as]
  congr 1; funext oa σ1
  rw [w_as]
  congr 1; funext ob σ2
  rw [w_as0, getAll_cons, getAll_cons, getAll_nil, getQ_eq]
  cases oa.get σ2 with
  | none => with_unfolding_all rfl
  | some x =>
    simp only [Option.bind_some, wo_some, getQ_eq]
    cases ob.get σ2 with
    | none => with_unfolding_all rfl
    | some y =>
      cases x <;> cases y <;> first | with_unfolding_all rfl | (simp only [Option.bind_some, wo_some, asI_int, w_ite]; with_unfolding_all exact ite_conj)
@[simp ↓] theorem w_rgL (m : M) (Q : D → Env → Prop) : WE (mRgL [m] σ) X Q = WE (m σ) X fun o σ1 => getQ σ1 o fun x => asI x fun j => L2.RgOk 0 j ∧ Q (.lst (rangeP 0 j.toNat)) σ1 := by
  rw [q_RgL, w_bind, w_as]
  congr 1; funext o σ1
  rw [w_as0, getAll_cons, getAll_nil, getQ_eq]
  cases o.get σ1 with
  | none => with_unfolding_all rfl
  | some x =>
    cases x with
    | int j => simp only [Option.bind_some, wo_some, asI_int, w_ite]; with_unfolding_all exact ite_conj
    | _ => with_unfolding_all rfl
def tkQ (σ : Env) : List O → (List D → Prop) → Prop
  | [], Q => Q []
  | .v x :: os, Q => tkQ σ os fun ds => Q (.p x :: ds)
  | .at i :: os, Q => getO σ i fun d => tkQ σ os fun ds => Q (d :: ds)
@[simp ↓] theorem tkQ_nil (Q : List D → Prop) : tkQ σ [] Q = Q [] := by with_unfolding_all rfl
@[simp ↓] theorem tkQ_v (x : P) (os : List O) (Q : List D → Prop) : tkQ σ (.v x :: os) Q = tkQ σ os fun ds => Q (.p x :: ds) := by with_unfolding_all rfl
@[simp ↓] theorem tkQ_at (i : Nat) (os : List O) (Q : List D → Prop) : tkQ σ (.at i :: os) Q = getO σ i fun d => tkQ σ os fun ds => Q (d :: ds) := by with_unfolding_all rfl
theorem tkQ_eq : ∀ (os : List O) (Q : List D → Prop), tkQ σ os Q = WO (takeAll σ os) Q
  | [], Q => rfl
  | .v x :: os, Q => by rw [tkQ_v, q_takev, wo_bind, tkQ_eq os]; with_unfolding_all rfl
  | .at i :: os, Q => by
    rw [tkQ_at, q_takea]
    unfold getO
    cases σ[i]? with
    | none => with_unfolding_all rfl
    | some d =>
      cases d with
      | none => with_unfolding_all rfl
      | some d => dsimp only; rw [wo_bind, tkQ_eq os]; with_unfolding_all rfl
@[simp ↓] theorem w_callEnd (os : List O) (f : FS) (Q : D → Env → Prop) : WE (PV.callEnd σ os f) X Q = tkQ σ os fun ds => once os = true ∧ WF f ds (fun c ns vs fin => X c ns vs (giveBack σ os fin)) fun d fin => Q d (giveBack σ os fin) := by
  rw [q_callEnd, tkQ_eq]
  cases takeAll σ os with
  | none => with_unfolding_all rfl
  | some ds =>
    simp only [wo_some]
    by_cases h : once os = true
    · simp only [h, if_true, true_and]
      unfold WF
      cases f ds <;> with_unfolding_all rfl
    · simp only [h]
      simp [WE]
@[simp ↓] theorem w_Call (f : FS) (ms : List M) (Q : O → Env → Prop) : WE (mCall f ms σ) X Q = WE (mAs ms σ) X fun os σ1 => WE (PV.callEnd σ1 os f) X fun d σ2 => Q (.v d.view) σ2 := by
  rw [q_Call, w_bind]
  congr 1; funext os σ1
  rw [w_bind]; with_unfolding_all rfl
@[simp ↓] theorem w_CallF (f : FS) (ms : List M) (Q : D → Env → Prop) : WE (mCallF f ms σ) X Q = WE (mAs ms σ) X fun os σ1 => WE (PV.callEnd σ1 os f) X Q := by
  rw [q_CallF, w_bind]
/-! statements -/
@[simp ↓] theorem ws_next : WS (.next σ) E = E.nx σ := by with_unfolding_all rfl
@[simp ↓] theorem ws_ret (d : D) : WS (.ret d σ) E = E.rt d σ := by with_unfolding_all rfl
@[simp ↓] theorem ws_brk : WS (.brk σ) E = E.bk σ := by with_unfolding_all rfl
@[simp ↓] theorem ws_cont : WS (.cont σ) E = E.ct σ := by with_unfolding_all rfl
@[simp ↓] theorem ws_stuck : WS .stuck E = False := by with_unfolding_all rfl
@[simp ↓] theorem ws_ite (c : Prop) [Decidable c] (a b : RS) : WS (if c then a else b) E = if c then WS a E else WS b E := by split <;> with_unfolding_all rfl
@[simp ↓] theorem ws_toS (r : R α) (k : α → Env → RS) : WS (r.toS k) E = WE r E.xc fun a σ1 => WS (k a σ1) E := by cases r <;> with_unfolding_all rfl
@[simp ↓] theorem ws_Nil : WS (mNil σ) E = E.nx σ := by with_unfolding_all rfl
@[simp ↓] theorem ws_Seq (a b : MS) : WS (mSeq a b σ) E = WS (a σ) { E with nx := fun σ1 => WS (b σ1) E } := by
  rw [q_Seq]
  cases a σ <;> with_unfolding_all rfl
@[simp ↓] theorem ws_Never : WS (mNever σ) E = False := by with_unfolding_all rfl
@[simp ↓] theorem ws_Break : WS (mBreak σ) E = E.bk σ := by with_unfolding_all rfl
@[simp ↓] theorem ws_Cont : WS (mCont σ) E = E.ct σ := by with_unfolding_all rfl
@[simp ↓] theorem ws_Drop (m : M) : WS (mDrop m σ) E = WE (m σ) E.xc fun _ σ1 => E.nx σ1 := by rw [q_Drop, ws_toS]; with_unfolding_all rfl
@[simp ↓] theorem ws_Ret (m : M) : WS (mRet m σ) E = WE (m σ) E.xc fun o σ1 => fzQ σ1 o fun x σ2 => E.rt (.p x) σ2 := by
  rw [q_Ret, ws_toS]
  congr 1; funext o σ1
  rw [ws_toS, w_frz]; with_unfolding_all rfl
@[simp ↓] theorem ws_RetN : WS (mRetN σ) E = E.rt (.p .non) σ := by with_unfolding_all rfl
@[simp ↓] theorem ws_RetF (m : MF) : WS (mRetF m σ) E = WE (m σ) E.xc fun d σ1 => E.rt d σ1 := by rw [q_RetF, ws_toS]; with_unfolding_all rfl
@[simp ↓] theorem ws_If (c : MT) (a b : MS) : WS (mIf c a b σ) E = WE (c σ) E.xc fun x σ1 => if x = true then WS (a σ1) E else WS (b σ1) E := by
  rw [q_If, ws_toS]
  congr 1; funext x σ1
  rw [ws_ite]
@[simp ↓] theorem ws_Set (i : Nat) (m : M) : WS (mSet i m σ) E = WE (m σ) E.xc fun o σ1 => fzQ σ1 o fun x σ2 => E.nx (σ2.set i (some (.p x))) := by
  rw [q_Set, ws_toS]
  congr 1; funext o σ1
  rw [ws_toS, w_frz]; with_unfolding_all rfl
@[simp ↓] theorem ws_SetF (i : Nat) (m : MF) : WS (mSetF i m σ) E = WE (m σ) E.xc fun d σ1 => E.nx (σ1.set i (some d)) := by rw [q_SetF, ws_toS]; with_unfolding_all rfl
@[simp ↓] theorem ws_For (mi : MI) (mg : MG) (mb : MS) : WS (mFor mi mg mb σ) E = WE (mi σ) E.xc fun xs σ1 => WS (loop mg mb xs σ1) E := by rw [q_For, ws_toS]
@[simp ↓] theorem ws_toN (r : Option Env) (k : Env → RS) : WS (toN r k) E = WN r fun σ1 => WS (k σ1) E := by cases r <;> with_unfolding_all rfl
@[simp ↓] theorem wn_some (Q : Env → Prop) : WN (some σ) Q = Q σ := by with_unfolding_all rfl
@[simp ↓] theorem wn_none (Q : Env → Prop) : WN none Q = False := by with_unfolding_all rfl
@[simp ↓] theorem wn_gN (i : Nat) (x : P) (Q : Env → Prop) : WN (mgN i x σ) Q = Q (σ.set i (some (.p x))) := by with_unfolding_all rfl
@[simp ↓] theorem wn_bind (r : Option Env) (k : Env → Option Env) (Q : Env → Prop) : WN (r.bind k) Q = WN r fun σ1 => WN (k σ1) Q := by cases r <;> with_unfolding_all rfl
@[simp ↓] theorem wn_gTup (ms : List MG) (xs : List P) (Q : Env → Prop) : WN (mgTup ms (.tup xs) σ) Q = (xs.length = ms.length ∧ WN (mgAll ms xs σ) Q) := by
  rw [q_gTup]; split <;> simp [*, WN]
@[simp ↓] theorem wn_gAll0 (Q : Env → Prop) : WN (mgAll [] [] σ) Q = Q σ := by with_unfolding_all rfl
@[simp ↓] theorem wn_gAll (m : MG) (ms : List MG) (x : P) (xs : List P) (Q : Env → Prop) : WN (mgAll (m :: ms) (x :: xs) σ) Q = WN (m x σ) fun σ1 => WN (mgAll ms xs σ1) Q := by rw [q_gAll, wn_bind]
@[simp ↓] theorem ws_Asg (mg : MG) (me : M) : WS (mAsg mg me σ) E = WE (me σ) E.xc fun o σ1 => fzQ σ1 o fun x σ2 => WN (mg x σ2) E.nx := by
  rw [q_Asg, ws_toS]
  congr 1; funext o σ1
  rw [ws_toS, w_frz]
  congr 1; funext x σ2
  rw [ws_toN]; with_unfolding_all rfl
@[simp ↓] theorem ws_DPut (i : Nat) (mk me : M) : WS (mDPut i mk me σ) E = WE (me σ) E.xc fun o σ1 => fzQ σ1 o fun x σ2 => getO σ2 i fun _ => WE (mk σ2) E.xc fun ok σ3 => getQ σ3 ok fun k => getO σ3 i fun d => WO (dPut d k x) fun d' => E.nx (σ3.set i (some d')) := by
  unfold mDPut
  rw [ws_toS]
  congr 1; funext o σ1
  rw [ws_toS, w_frz]
  congr 1; funext x σ2
  unfold getO
  cases σ2[i]? with
  | none => with_unfolding_all rfl
  | some d0 =>
    cases d0 with
    | none => with_unfolding_all rfl
    | some d0 =>
      dsimp only
      rw [ws_toS]
      congr 1; funext ok σ3
      rw [getQ_eq]
      cases ok.get σ3 with
      | none => with_unfolding_all rfl
      | some k =>
        simp only [wo_some]
        cases σ3[i]? with
        | none => with_unfolding_all rfl
        | some d1 =>
          cases d1 with
          | none => with_unfolding_all rfl
          | some d1 => dsimp only; cases dPut d1 k x <;> with_unfolding_all rfl
/-- the list in a slot -/
def getL (σ : Env) (i : Nat) (Q : List P → Prop) : Prop := match σ[i]? with
  | some (some (.lst xs)) => Q xs
  | _ => False
@[simp ↓] theorem getL_zero (xs : List P) (r : Env) (Q : List P → Prop) : getL (some (.lst xs) :: r) 0 Q = Q xs := by with_unfolding_all rfl
@[simp ↓] theorem getL_succ (d : Option D) (r : Env) (i : Nat) (Q : List P → Prop) : getL (d :: r) (i + 1) Q = getL r i Q := by with_unfolding_all rfl
@[simp ↓] theorem w_App (i : Nat) (m : M) (Q : O → Env → Prop) : WE (mApp i m σ) X Q = getL σ i fun _ => WE (m σ) X fun o σ1 => fzQ σ1 o fun x σ2 => getL σ2 i fun xs => xs.length < PySem.sizeLine ∧ Q (.v .non) (σ2.set i (some (.lst (xs ++ [x])))) := by
  unfold mApp getL
  split
  · rename_i xs0 e0
    rw [w_bind]
    simp only [e0]
    congr 1; funext o σ1
    rw [w_bind, w_frz]
    congr 1; funext x σ2
    split
    · rename_i xs e1
      rw [w_ite]; (try simp only [e1]); with_unfolding_all exact ite_conj
    · rename_i h
      first
      | (with_unfolding_all rfl)
      | (split <;> first | (rename_i xs e; exact absurd e (h xs)) | (with_unfolding_all rfl))
  · rename_i h
    first
    | (with_unfolding_all rfl)
    | (split <;> first | (rename_i xs e; exact absurd e (h xs)) | (with_unfolding_all rfl))
@[simp ↓] theorem w_Pop (i : Nat) (m : M) (Q : O → Env → Prop) : WE (mPop i m σ) X Q = getL σ i fun _ => WE (m σ) X fun o σ1 => getQ σ1 o fun k => asI k fun k => getL σ1 i fun xs => WO (L2.ixN xs.length k) fun j => WO xs[j]? fun x => xs.length ≤ PySem.sizeLine ∧ Q (.v x) (σ1.set i (some (.lst (xs.eraseIdx j)))) := by
  unfold mPop getL
  split
  · rename_i xs0 e0
    rw [w_bind]
    simp only [e0]
    congr 1; funext o σ1
    rw [getQ_eq]
    cases o.get σ1 with
    | none => with_unfolding_all rfl
    | some k =>
      cases k with
      | int k =>
        simp only [wo_some, asI_int]
        cases σ1[i]? with
        | none => with_unfolding_all rfl
        | some d =>
          cases d with
          | none => with_unfolding_all rfl
          | some d =>
            cases d with
            | lst xs =>
              dsimp only
              cases L2.ixN xs.length k with
              | none => with_unfolding_all rfl
              | some j =>
                simp only [wo_some]
                cases xs[j]? with
                | none => with_unfolding_all rfl
                | some x => dsimp only; split <;> simp [*, WE, WO]
            | _ => with_unfolding_all rfl
      | _ => with_unfolding_all rfl
  · rename_i h
    first
    | (with_unfolding_all rfl)
    | (split <;> first | (rename_i xs e; exact absurd e (h xs)) | (with_unfolding_all rfl))
@[simp ↓] theorem ws_SetIx (i : Nat) (mk me : M) : WS (mSetIx i mk me σ) E = WE (me σ) E.xc fun o σ1 => fzQ σ1 o fun x σ2 => getL σ2 i fun _ => WE (mk σ2) E.xc fun ok σ3 => getQ σ3 ok fun k => asI k fun k => getL σ3 i fun xs => WO (L2.ixN xs.length k) fun j => E.nx (σ3.set i (some (.lst (xs.set j x)))) := by
  unfold mSetIx
  rw [ws_toS]
  congr 1; funext o σ1
  rw [ws_toS, w_frz]
  congr 1; funext x σ2
  unfold getL
  split
  · rename_i xs0 e0
    simp only [e0]
    rw [ws_toS]
    congr 1; funext ok σ3
    rw [getQ_eq]
    cases ok.get σ3 with
    | none => with_unfolding_all rfl
    | some k =>
      cases k with
      | int k =>
        simp only [wo_some, asI_int]
        cases σ3[i]? with
        | none => with_unfolding_all rfl
        | some d =>
          cases d with
          | none => with_unfolding_all rfl
          | some d =>
            cases d with
            | lst xs => dsimp only; cases L2.ixN xs.length k <;> with_unfolding_all rfl
            | _ => with_unfolding_all rfl
      | _ => with_unfolding_all rfl
  · rename_i h
    first
    | (with_unfolding_all rfl)
    | (split <;> first | (rename_i xs e; exact absurd e (h xs)) | (with_unfolding_all rfl))
end
/-- what is left of the arguments -/
def finQ (io : List Nat) (σ : Env) : Nat → List D → (List D → Prop) → Prop
  | _, [], Q => Q []
  | k, a :: as, Q => if k ∈ io then getO σ k fun d => finQ io σ (k + 1) as fun r => Q (d :: r) else finQ io σ (k + 1) as fun r => Q (a :: r)
@[simp ↓] theorem finQ_nil (io : List Nat) (σ : Env) (k : Nat) (Q : List D → Prop) : finQ io σ k [] Q = Q [] := by with_unfolding_all rfl
@[simp ↓] theorem finQ_cons (io : List Nat) (σ : Env) (k : Nat) (a : D) (as : List D) (Q : List D → Prop) : finQ io σ k (a :: as) Q = if k ∈ io then getO σ k fun d => finQ io σ (k + 1) as fun r => Q (d :: r) else finQ io σ (k + 1) as fun r => Q (a :: r) := by with_unfolding_all rfl
theorem finQ_eq (io : List Nat) (σ : Env) : ∀ (as : List D) (k : Nat) (Q : List D → Prop), finQ io σ k as Q = WO (finOf io σ k as) Q
  | [], k, Q => rfl
  | a :: as, k, Q => by
    rw [finQ_cons, q_finOf]
    by_cases h : k ∈ io
    · simp only [h, if_true]
      unfold getO
      cases σ[k]? with
      | none => with_unfolding_all rfl
      | some d =>
        cases d with
        | none => with_unfolding_all rfl
        | some d =>
          dsimp only
          rw [finQ_eq io σ as]
          cases finOf io σ (k + 1) as <;> with_unfolding_all rfl
    · simp only [h, if_false]
      rw [finQ_eq io σ as]
      cases finOf io σ (k + 1) as <;> with_unfolding_all rfl
/-- a def: its body from its arguments -/
theorem wf_fn {np nl : Nat} {io : List Nat} {body : MS} {args : List D} {X : String → List String → List P → List D → Prop} {Q : D → List D → Prop} (h : args.length = np) (h2 : okArgs io 0 args = true)
    (hb : WS (body (args.map some ++ List.replicate nl none)) { nx := fun σ => finQ io σ 0 args fun fin => Q (.p .non) fin, rt := fun d σ => finQ io σ 0 args fun fin => Q d fin, xc := fun c ns vs σ => finQ io σ 0 args fun fin => X c ns vs fin }) : WF (fnOf np nl io body) args X Q := by
  simp only [finQ_eq] at hb
  unfold WF
  unfold WS at hb
  unfold fnOf
  rw [if_pos ⟨h, h2⟩]
  unfold fnEnd
  cases e : body (args.map some ++ List.replicate nl none) with
  | next σ =>
    rw [e] at hb
    change WO (finOf io σ 0 args) _ at hb
    dsimp only
    cases ef : finOf io σ 0 args with
    | none => rw [ef] at hb; exact hb.elim
    | some fin => rw [ef] at hb; exact hb
  | ret d σ =>
    rw [e] at hb
    change WO (finOf io σ 0 args) _ at hb
    dsimp only
    cases ef : finOf io σ 0 args with
    | none => rw [ef] at hb; exact hb.elim
    | some fin => rw [ef] at hb; exact hb
  | exc c ns vs σ =>
    rw [e] at hb
    change WO (finOf io σ 0 args) _ at hb
    dsimp only
    cases ef : finOf io σ 0 args with
    | none => rw [ef] at hb; exact hb.elim
    | some fin => rw [ef] at hb; exact hb
  | brk σ => rw [e] at hb; exact hb.elim
  | cont σ => rw [e] at hb; exact hb.elim
  | stuck => rw [e] at hb; exact hb.elim
@[simp] theorem ofS_eq (a b : String) : (Str.ofString a = Str.ofString b) = (a = b) := propext ⟨ofS_inj, fun h => by rw [h]⟩
end PV

set_option Elab.async false
set_option linter.all false
set_option maxRecDepth 100000
set_option maxHeartbeats 4000000
/-! PvX: operations on data, computed. -/
namespace PV
open PySem (Str PyData)
@[simp ↓] theorem wo_if {α : Type} (c : Prop) [Decidable c] (a : α) (Q : α → Prop) : WO (if c then some a else none) Q = (c ∧ Q a) := by split <;> simp [*, WO]
@[simp] theorem pAdd_int (i j : Int) : pAdd (.int i) (.int j) = some (.int (i + j)) := rfl
@[simp] theorem pAdd_lst (x y : List P) : pAdd (.lst x) (.lst y) = if x.length + y.length ≤ PySem.sizeLine then some (.lst (x ++ y)) else none := rfl
@[simp] theorem pAdd_tup (x y : List P) : pAdd (.tup x) (.tup y) = if x.length + y.length ≤ PySem.sizeLine then some (.tup (x ++ y)) else none := rfl
@[simp] theorem pMul_int (i j : Int) : pMul (.int i) (.int j) = if L2.CMulW i j then some (.int (i * j)) else none := rfl
@[simp] theorem pMul_lst (x : List P) (k : Int) : pMul (.lst x) (.int k) = if -(2 ^ 63) ≤ k ∧ k < 2 ^ 63 ∧ x.length * k.toNat ≤ PySem.sizeLine then some (.lst (List.replicate k.toNat x).flatten) else none := rfl
@[simp] theorem pLen_lst (x : List P) : pLen (.lst x) = some (.int x.length) := rfl
@[simp] theorem pLen_tup (x : List P) : pLen (.tup x) = some (.int x.length) := rfl
@[simp] theorem pInt_int (i : Int) : pInt (.int i) = some (.int i) := rfl
@[simp] theorem pNeg_int (i : Int) : pNeg (.int i) = some (.int (-i)) := rfl
@[simp] theorem pTuple_lst (x : List P) : pTuple (.lst x) = some (.tup x) := rfl
@[simp] theorem pTuple_tup (x : List P) : pTuple (.tup x) = some (.tup x) := rfl
@[simp] theorem pSub_lst (x : List P) (k : Int) : pSub (.lst x) (.int k) = L2.atI x k := rfl
@[simp] theorem pSub_tup (x : List P) (k : Int) : pSub (.tup x) (.int k) = L2.atI x k := rfl
@[simp] theorem pItems_lst (x : List P) : pItems [.lst x] = some x := rfl
@[simp] theorem pItems_tup (x : List P) : pItems [.tup x] = some x := rfl
@[simp] theorem pItems_fz (x : List P) : pItems [.fz x] = some x := rfl
@[simp] theorem itemsP_lst (x : List P) : itemsP (.lst x) = some x := rfl
@[simp] theorem itemsP_tup (x : List P) : itemsP (.tup x) = some x := rfl
@[simp] theorem itemsP_fz (x : List P) : itemsP (.fz x) = some x := rfl
@[simp] theorem itemsP_dK (k : List L2.Key) (x : List P) : itemsP (.dK k x) = some (k.map keyP) := rfl
@[simp] theorem itemsP_dT (k : List (List L2.Key)) (x : List P) : itemsP (.dT k x) = some (k.map tupP) := rfl
@[simp] theorem seqP_lst (x : List P) : seqP (.lst x) = some x := rfl
@[simp] theorem seqP_tup (x : List P) : seqP (.tup x) = some x := rfl
@[simp] theorem pIsN_n (x : P) : pIsN x .non = some (.bl x.isNon) := rfl
@[simp] theorem pNotN_n (x : P) : pNotN x .non = some (.bl (!x.isNon)) := rfl
@[simp] theorem isNon_n : P.non.isNon = true := rfl
@[simp] theorem isNon_i (i : Int) : (P.int i).isNon = false := rfl
@[simp] theorem isNon_t (x : List P) : (P.tup x).isNon = false := rfl
@[simp] theorem isNon_l (x : List P) : (P.lst x).isNon = false := rfl
@[simp] theorem isNon_k (k x) : (P.dK k x).isNon = false := rfl
@[simp] theorem pure_nil : pureAll [] = some [] := rfl
theorem atI_nat {α : Type} (xs : List α) (n : Nat) : L2.atI xs (n : Int) = xs[n]? := by
  unfold L2.atI L2.ixN
  rw [if_pos (by omega)]
  by_cases h : (n : Int) < (xs.length : Int)
  · rw [if_pos h]; simp
  · rw [if_neg h]
    rw [List.getElem?_eq_none (by omega)]; rfl
@[simp] theorem atI_0 {α : Type} (x : α) (xs : List α) : L2.atI (x :: xs) 0 = some x := by
  have := atI_nat (x :: xs) 0; simpa using this
@[simp] theorem atI_1 {α : Type} (x y : α) (xs : List α) : L2.atI (x :: y :: xs) 1 = some y := by
  have := atI_nat (x :: y :: xs) 1; simpa using this
@[simp] theorem atI_2 {α : Type} (x y z : α) (xs : List α) : L2.atI (x :: y :: z :: xs) 2 = some z := by
  have := atI_nat (x :: y :: z :: xs) 2; simpa using this
theorem atI_lt {α : Type} {xs : List α} {i : Int} (h0 : 0 ≤ i) (h1 : i < xs.length) : ∃ x, L2.atI xs i = some x ∧ xs[i.toNat]? = some x := by
  obtain ⟨n, rfl⟩ := Int.eq_ofNat_of_zero_le h0
  have hn : n < xs.length := by omega
  exact ⟨xs[n], by show L2.atI xs (n : Int) = _; rw [atI_nat]; simp [hn], by simp [hn]⟩
theorem CMulW_small {i j : Int} (h1 : i.natAbs < 2 ^ 1000) (h2 : j.natAbs < 2 ^ 1000) : L2.CMulW i j := by
  unfold L2.CMulW
  have g : ∀ n : Nat, n < 2 ^ 1000 → n.log2 < 1000 := fun n h => by
    by_cases h0 : n = 0
    · subst h0; simp
    · exact (Nat.log2_lt h0).mpr h
  have := g _ h1; have := g _ h2
  omega
theorem CDivW_small {i j : Int} (h1 : 0 < j) (h2 : j.natAbs < 2 ^ 1000) : L2.CDivW i j := by
  refine ⟨h1, ?_⟩
  have := (Nat.log2_lt (n := j.natAbs) (k := 1000) (by omega)).mpr h2
  omega
/-! ### == of plain data -/
mutual
/-- numbers, texts, None, rows of such, not too deep -/
def P.plain : Nat → P → Bool
  | _, .int _ => true
  | _, .str x => (PyData.str x).canLay0
  | _, .non => true
  | n + 1, .tup xs => plainL n xs
  | n + 1, .lst xs => plainL n xs
  | _, _ => false
def plainL : Nat → List P → Bool
  | _, [] => true
  | n, x :: xs => P.plain n x && plainL n xs
end
mutual
theorem plain_py : ∀ (n : Nat) (x : P), P.plain n x = true → ∃ d, x.py = some d ∧ d.canLay0 = true ∧ d.depth ≤ n
  | n, .int i, _ => ⟨.int i, rfl, rfl, Nat.zero_le _⟩
  | n, .str i, h => ⟨.str i, rfl, by cases n <;> simpa [P.plain] using h, Nat.zero_le _⟩
  | n, .non, _ => ⟨.none, rfl, rfl, Nat.zero_le _⟩
  | n + 1, .tup xs, h => by
    obtain ⟨ds, h1, h2, h3⟩ := plainL_py n xs (by simpa [P.plain] using h)
    exact ⟨.tuple ds, by simp [P.py, h1], by simpa [PyData.canLay0] using h2, by simp only [PyData.depth]; omega⟩
  | n + 1, .lst xs, h => by
    obtain ⟨ds, h1, h2, h3⟩ := plainL_py n xs (by simpa [P.plain] using h)
    exact ⟨.list ds, by simp [P.py, h1], by simpa [PyData.canLay0] using h2, by simp only [PyData.depth]; omega⟩
  | 0, .tup _, h => by simp [P.plain] at h
  | 0, .lst _, h => by simp [P.plain] at h
  | n, .bl _, h => by cases n <;> simp [P.plain] at h
  | n, .dK _ _, h => by cases n <;> simp [P.plain] at h
  | n, .dT _ _, h => by cases n <;> simp [P.plain] at h
  | n, .ins _ _ _, h => by cases n <;> simp [P.plain] at h
  | n, .exv _ _ _, h => by cases n <;> simp [P.plain] at h
  | n, .fz _, h => by cases n <;> simp [P.plain] at h
theorem plainL_py : ∀ (n : Nat) (xs : List P), plainL n xs = true → ∃ ds, pyL xs = some ds ∧ PyData.canLayAll0 ds = true ∧ PyData.depthAll ds ≤ n
  | n, [], _ => ⟨[], rfl, rfl, Nat.zero_le _⟩
  | n, x :: xs, h => by
    simp only [plainL, Bool.and_eq_true] at h
    obtain ⟨d, h1, h2, h3⟩ := plain_py n x h.1
    obtain ⟨ds, h4, h5, h6⟩ := plainL_py n xs h.2
    exact ⟨d :: ds, by simp [pyL, h1, h4], by simp [PyData.canLayAll0, h2, h5], by simp only [PyData.depthAll]; omega⟩
end
mutual
theorem plain_eqv : ∀ (n m : Nat) (x y : P) (d e : PyData), P.plain n x = true → P.plain m y = true → x.py = some d → y.py = some e → (PyData.eqv d e = true ↔ x = y)
  | n, m, x, y, d, e, hx, hy, h1, h2 => by
    cases x with
    | non => cases y <;> first | (cases m <;> simp [P.plain] at hy; done) | (cases h1; simp only [P.py, Option.map_eq_some_iff] at h2; first | (cases h2; simp [PyData.eqv]; done) | (obtain ⟨_, _, rfl⟩ := h2; simp [PyData.eqv]))
    | int i => cases y <;> first | (cases m <;> simp [P.plain] at hy; done) | (cases h1; simp only [P.py, Option.map_eq_some_iff] at h2; first | (cases h2; simp [PyData.eqv]; done) | (obtain ⟨_, _, rfl⟩ := h2; simp [PyData.eqv]))
    | str i => cases y <;> first | (cases m <;> simp [P.plain] at hy; done) | (cases h1; simp only [P.py, Option.map_eq_some_iff] at h2; first | (cases h2; simp [PyData.eqv]; done) | (obtain ⟨_, _, rfl⟩ := h2; simp [PyData.eqv]))
    | tup xs =>
      cases n with
      | zero => simp [P.plain] at hx
      | succ n =>
        simp only [P.py, Option.map_eq_some_iff] at h1
        obtain ⟨ds, h1, rfl⟩ := h1
        cases y with
        | tup ys =>
          cases m with
          | zero => simp [P.plain] at hy
          | succ m =>
            simp only [P.py, Option.map_eq_some_iff] at h2
            obtain ⟨es, h2, rfl⟩ := h2
            simp only [PyData.eqv, P.tup.injEq]
            exact plainL_eqv n m xs ys ds es (by simpa [P.plain] using hx) (by simpa [P.plain] using hy) h1 h2
        | _ => first | (cases m <;> simp [P.plain] at hy; done) | (simp only [P.py, Option.map_eq_some_iff] at h2; first | (cases h2; simp [PyData.eqv]; done) | (obtain ⟨_, _, rfl⟩ := h2; simp [PyData.eqv]))
    | lst xs =>
      cases n with
      | zero => simp [P.plain] at hx
      | succ n =>
        simp only [P.py, Option.map_eq_some_iff] at h1
        obtain ⟨ds, h1, rfl⟩ := h1
        cases y with
        | lst ys =>
          cases m with
          | zero => simp [P.plain] at hy
          | succ m =>
            simp only [P.py, Option.map_eq_some_iff] at h2
            obtain ⟨es, h2, rfl⟩ := h2
            simp only [PyData.eqv, P.lst.injEq]
            exact plainL_eqv n m xs ys ds es (by simpa [P.plain] using hx) (by simpa [P.plain] using hy) h1 h2
        | _ => first | (cases m <;> simp [P.plain] at hy; done) | (simp only [P.py, Option.map_eq_some_iff] at h2; first | (cases h2; simp [PyData.eqv]; done) | (obtain ⟨_, _, rfl⟩ := h2; simp [PyData.eqv]))
    | _ => cases n <;> simp [P.plain] at hx
theorem plainL_eqv : ∀ (n m : Nat) (xs ys : List P) (ds es : List PyData), plainL n xs = true → plainL m ys = true → pyL xs = some ds → pyL ys = some es → (PyData.eqvAll ds es = true ↔ xs = ys)
  | n, m, [], [], ds, es, _, _, h1, h2 => by cases h1; cases h2; simp [PyData.eqvAll]
  | n, m, [], y :: ys, ds, es, _, hy, h1, h2 => by
    cases h1
    simp only [pyL, Option.bind_eq_some_iff, Option.map_eq_some_iff] at h2
    obtain ⟨d, _, ds, _, rfl⟩ := h2
    simp [PyData.eqvAll]
  | n, m, x :: xs, [], ds, es, _, hy, h1, h2 => by
    cases h2
    simp only [pyL, Option.bind_eq_some_iff, Option.map_eq_some_iff] at h1
    obtain ⟨d, _, ds, _, rfl⟩ := h1
    simp [PyData.eqvAll]
  | n, m, x :: xs, y :: ys, ds, es, hx, hy, h1, h2 => by
    simp only [pyL, Option.bind_eq_some_iff, Option.map_eq_some_iff] at h1 h2
    obtain ⟨d, a1, ds', a2, rfl⟩ := h1
    obtain ⟨e, b1, es', b2, rfl⟩ := h2
    simp only [plainL, Bool.and_eq_true] at hx hy
    simp only [PyData.eqvAll, Bool.and_eq_true, List.cons.injEq]
    rw [plain_eqv n m x y d e hx.1 hy.1 a1 b1, plainL_eqv n m xs ys ds' es' hx.2 hy.2 a2 b2]
end
theorem shaped_of {n : Nat} {d : PyData} (h1 : d.canLay0 = true) (h2 : d.depth ≤ n) (hn : n ≤ 64) : PySem.SeqAt.shaped d = true := by
  unfold PySem.SeqAt.shaped
  simp [h1]; omega
theorem pEqB_plain {n m : Nat} {x y : P} (hx : P.plain n x = true) (hy : P.plain m y = true) (hn : n ≤ 64) (hm : m ≤ 64) : ∃ b, pEqB x y = some b ∧ (b = true ↔ x = y) := by
  obtain ⟨d, h1, h2, h3⟩ := plain_py n x hx
  obtain ⟨e, h4, h5, h6⟩ := plain_py m y hy
  refine ⟨PyData.eqv d e, ?_, plain_eqv n m x y d e hx hy h1 h4⟩
  unfold pEqB
  rw [h1, h4]
  simp [shaped_of h2 h3 hn, shaped_of h5 h6 hm]
theorem wo_eq {n m : Nat} {x y : P} {Q : P → Prop} (hx : P.plain n x = true) (hy : P.plain m y = true) (h1 : x = y → Q (.bl true)) (h2 : x ≠ y → Q (.bl false)) (hn : n ≤ 64 := by decide) (hm : m ≤ 64 := by decide) : WO (pEq x y) Q := by
  obtain ⟨b, e, hb⟩ := pEqB_plain hx hy hn hm
  unfold pEq
  rw [e]
  cases b with
  | true => exact h1 (hb.mp rfl)
  | false => exact h2 fun z => by simpa using hb.mpr z
theorem wo_ne {n m : Nat} {x y : P} {Q : P → Prop} (hx : P.plain n x = true) (hy : P.plain m y = true) (h1 : x = y → Q (.bl false)) (h2 : x ≠ y → Q (.bl true)) (hn : n ≤ 64 := by decide) (hm : m ≤ 64 := by decide) : WO (pNe x y) Q := by
  obtain ⟨b, e, hb⟩ := pEqB_plain hx hy hn hm
  unfold pNe
  rw [e]
  cases b with
  | true => exact h1 (hb.mp rfl)
  | false => exact h2 fun z => by simpa using hb.mpr z
@[simp] theorem pEq_int (i j : Int) : pEq (.int i) (.int j) = some (.bl (decide (i = j))) := by
  obtain ⟨b, e, hb⟩ := pEqB_plain (n := 0) (m := 0) (x := .int i) (y := .int j) rfl rfl (by decide) (by decide)
  unfold pEq
  rw [e]
  simp only [P.int.injEq] at hb
  by_cases h : i = j
  · simp [h] at hb ⊢; exact hb
  · simp [h] at hb ⊢; exact hb
@[simp] theorem pNe_int (i j : Int) : pNe (.int i) (.int j) = some (.bl (!decide (i = j))) := by
  obtain ⟨b, e, hb⟩ := pEqB_plain (n := 0) (m := 0) (x := .int i) (y := .int j) rfl rfl (by decide) (by decide)
  unfold pNe
  rw [e]
  simp only [P.int.injEq] at hb
  by_cases h : i = j
  · simp [h] at hb ⊢; exact hb
  · simp [h] at hb ⊢; exact hb
theorem any_plain {n m : Nat} {x : P} {d : PyData} (hx : P.plain n x = true) (h1 : x.py = some d) : ∀ {ys : List P} {ds : List PyData}, plainL m ys = true → pyL ys = some ds → (anyEq d ds = true ↔ x ∈ ys)
  | [], ds, _, h => by cases h; simp [anyEq]
  | y :: ys, ds, hy, h => by
    simp only [pyL, Option.bind_eq_some_iff, Option.map_eq_some_iff] at h
    obtain ⟨e, b1, es', b2, rfl⟩ := h
    simp only [plainL, Bool.and_eq_true] at hy
    have ih := any_plain hx h1 hy.2 b2
    unfold anyEq at ih ⊢
    rw [List.any_cons, Bool.or_eq_true, plain_eqv m n y x e d hy.1 hx b1 h1, ih, List.mem_cons]
    constructor
    · rintro (h | h)
      · exact .inl h.symm
      · exact .inr h
    · rintro (h | h)
      · exact .inl h.symm
      · exact .inr h
theorem pIn_tup {neg : Bool} {n m : Nat} {x : P} {ys : List P} {Q : P → Prop} (hx : P.plain n x = true) (hy : plainL m ys = true) (h1 : x ∈ ys → Q (.bl (!neg))) (h2 : x ∉ ys → Q (.bl neg)) (hn : n ≤ 64 := by decide) (hm : m + 1 ≤ 64 := by decide) : WO (pInAll neg x (.tup ys)) Q := by
  obtain ⟨d, a1, a2, a3⟩ := plain_py n x hx
  obtain ⟨ds, b1, b2, b3⟩ := plainL_py m ys hy
  have hb := any_plain hx a1 hy b1
  have e : pInAll neg x (.tup ys) = some (.bl (neg ^^ anyEq d ds)) := by
    show (pInB x (.tup ys)).map _ = _
    have e1 : pInB x (.tup ys) = (match x.py, (P.tup ys).py with
      | some d, some (.tuple ds) => if PySem.SeqAt.shaped d = true ∧ PySem.SeqAt.shaped (.tuple ds) = true then some (anyEq d ds) else none
      | _, _ => none) := by cases x <;> rfl
    rw [e1, a1]
    simp only [P.py, b1, Option.map_some]
    rw [if_pos ⟨shaped_of a2 a3 hn, shaped_of (n := m + 1) (by simpa [PyData.canLay0] using b2) (by simp only [PyData.depth]; omega) hm⟩]
    rfl
  rw [e]
  by_cases h : x ∈ ys
  · rw [hb.mpr h, Bool.xor_true]; exact h1 h
  · have : anyEq d ds = false := by
      cases q : anyEq d ds with
      | false => rfl
      | true => exact absurd (hb.mp q) h
    rw [this, Bool.xor_false]; exact h2 h
end PV

set_option Elab.async false
set_option linter.all false
set_option maxRecDepth 100000
set_option maxHeartbeats 4000000
/-! PvY: loops and comprehensions by invariants. -/
namespace PV
theorem ws_loop {mg : MG} {mb : MS} {E : EP} (Inv : Nat → Env → Prop) : ∀ {xs : List P} {σ : Env} (k : Nat), Inv k σ → (∀ i x σ, xs[i]? = some x → Inv (k + i) σ → WN (mg x σ) fun σ1 => WS (mb σ1) { nx := Inv (k + i + 1), ct := Inv (k + i + 1), bk := E.nx, rt := E.rt, xc := E.xc }) →
    (∀ σ, Inv (k + xs.length) σ → E.nx σ) → WS (loop mg mb xs σ) E
  | [], σ, k, h0, _, hd => by with_unfolding_all exact hd σ h0
  | x :: xs, σ, k, h0, hs, hd => by
    unfold loop
    rw [ws_toN]
    have h1 := hs 0 x σ rfl h0
    unfold WN at h1 ⊢
    cases e : mg x σ with
    | none => rw [e] at h1; exact h1
    | some σ1 =>
      rw [e] at h1
      have go : ∀ σ2, Inv (k + 0 + 1) σ2 → WS (loop mg mb xs σ2) E := fun σ2 h2 =>
        ws_loop Inv (k + 1) h2 (fun i y σ hy hi => by
          have := hs (i + 1) y σ (by simpa using hy) (by rw [show k + (i + 1) = k + 1 + i by omega]; exact hi)
          rw [show k + (i + 1) + 1 = k + 1 + i + 1 by omega] at this
          exact this) (fun σ h => hd σ (by rw [List.length_cons, show k + (xs.length + 1) = k + 1 + xs.length by omega]; exact h))
      dsimp only at h1 ⊢
      cases em : mb σ1 with
      | next σ2 => rw [em] at h1; with_unfolding_all exact go σ2 h1
      | cont σ2 => rw [em] at h1; with_unfolding_all exact go σ2 h1
      | brk σ2 => rw [em] at h1; with_unfolding_all exact h1
      | ret d σ2 => rw [em] at h1; with_unfolding_all exact h1
      | exc c ns vs σ2 => rw [em] at h1; with_unfolding_all exact h1
      | stuck => rw [em] at h1; with_unfolding_all exact h1
theorem ws_for {mg : MG} {mb : MS} {E : EP} {xs : List P} {σ : Env} (Inv : Nat → Env → Prop) (h0 : Inv 0 σ) (hs : ∀ i x σ, xs[i]? = some x → Inv i σ → WN (mg x σ) fun σ1 => WS (mb σ1) { nx := Inv (i + 1), ct := Inv (i + 1), bk := E.nx, rt := E.rt, xc := E.xc }) (hd : ∀ σ, Inv xs.length σ → E.nx σ) : WS (loop mg mb xs σ) E :=
  ws_loop Inv 0 h0 (fun i x σ hx hi => by
    have := hs i x σ hx (by simpa using hi)
    simpa using this) (fun σ h => hd σ (by simpa using h))
/-- a comprehension's loop -/
def WC (mg : MG) (mt : MT) (me : M) (vs : List Nat) (xs acc : List P) (σ : Env) (Q : List P → Env → Prop) : Prop := match cLoop mg mt me vs xs acc σ with
  | .ok zs σ2 => Q zs σ2
  | _ => False
section
variable (σ : Env) (X : XP) (vs : List Nat) (mi : MI) (mg : MG) (mt : MT) (me : M)
theorem w_compR (Q : List P → Env → Prop) : WE (mCompR vs mi mg mt me σ) X Q = WE (mi σ) X fun xs σ1 => vs.all (pureAt σ1) = true ∧ WC mg mt me vs xs [] (wipeE σ1 vs) fun zs σ2 => Q zs (backE σ1 vs σ2) := by
  unfold mCompR
  rw [w_bind]
  congr 1; funext xs σ1
  rw [w_ite]
  unfold WC
  by_cases h : vs.all (pureAt σ1) = true
  · rw [if_pos h]
    simp only [h, true_and]
    cases cLoop mg mt me vs xs [] (wipeE σ1 vs) <;> with_unfolding_all rfl
  · rw [if_neg h]; simp [h, WE]
@[simp ↓] theorem w_comp (Q : O → Env → Prop) : WE (mComp vs mi mg mt me σ) X Q = WE (mi σ) X fun xs σ1 => vs.all (pureAt σ1) = true ∧ WC mg mt me vs xs [] (wipeE σ1 vs) fun zs σ2 => Q (.v (.lst zs)) (backE σ1 vs σ2) := by
  unfold mComp
  rw [w_bind, w_compR]; with_unfolding_all rfl
@[simp ↓] theorem w_compF (Q : D → Env → Prop) : WE (mCompF vs mi mg mt me σ) X Q = WE (mi σ) X fun xs σ1 => vs.all (pureAt σ1) = true ∧ WC mg mt me vs xs [] (wipeE σ1 vs) fun zs σ2 => Q (.lst zs) (backE σ1 vs σ2) := by
  unfold mCompF
  rw [w_bind, w_compR]; with_unfolding_all rfl
end
abbrev NoX : XP := fun _ _ _ _ => False
theorem wc_go {mg : MG} {mt : MT} {me : M} {vs : List Nat} {Q : List P → Env → Prop} (Inv : Nat → List P → Env → Prop) : ∀ {xs acc : List P} {σ : Env} (k : Nat), Inv k acc σ →
    (∀ i x acc σ, xs[i]? = some x → Inv (k + i) acc σ → WN (mg x σ) fun σ1 => WE (mt σ1) NoX fun b σ2 => if b = true then WE (me σ2) NoX fun o σ3 => fzQ σ3 o fun y σ4 => acc.length < PySem.sizeLine ∧ Inv (k + i + 1) (acc ++ [y]) (wipeE σ4 vs) else Inv (k + i + 1) acc (wipeE σ2 vs)) →
    (∀ acc σ, Inv (k + xs.length) acc σ → Q acc σ) → WC mg mt me vs xs acc σ Q
  | [], acc, σ, k, h0, _, hd => hd acc σ h0
  | x :: xs, acc, σ, k, h0, hs, hd => by
    have h1 := hs 0 x acc σ rfl h0
    have go : ∀ acc2 σ2, Inv (k + 0 + 1) acc2 σ2 → WC mg mt me vs xs acc2 σ2 Q := fun acc2 σ2 h2 =>
      wc_go Inv (k + 1) h2 (fun i y acc σ hy hi => by
        have := hs (i + 1) y acc σ (by simpa using hy) (by rw [show k + (i + 1) = k + 1 + i by omega]; exact hi)
        rw [show k + (i + 1) + 1 = k + 1 + i + 1 by omega] at this
        exact this) (fun acc σ h => hd acc σ (by rw [List.length_cons, show k + (xs.length + 1) = k + 1 + xs.length by omega]; exact h))
    unfold WC
    unfold cLoop
    unfold WN at h1
    cases e : mg x σ with
    | none => rw [e] at h1; exact h1.elim
    | some σ1 =>
      rw [e] at h1
      dsimp only at h1 ⊢
      cases et : mt σ1 with
      | stuck => rw [et] at h1; unfold WE at h1; exact h1.elim
      | exc _ _ _ _ => rw [et] at h1; unfold WE at h1; exact h1.elim
      | ok b σ2 =>
        rw [et] at h1
        rw [w_ok] at h1
        dsimp only
        cases b with
        | false => exact go _ _ h1
        | true =>
          simp only [if_true] at h1 ⊢
          cases ee : me σ2 with
          | stuck => rw [ee] at h1; unfold WE at h1; exact h1.elim
          | exc _ _ _ _ => rw [ee] at h1; unfold WE at h1; exact h1.elim
          | ok o σ3 =>
            rw [ee] at h1
            rw [w_ok, ← w_frz σ3 NoX o] at h1
            dsimp only
            cases ef : frz o σ3 with
            | stuck => rw [ef] at h1; unfold WE at h1; exact h1.elim
            | exc _ _ _ _ => rw [ef] at h1; unfold WE at h1; exact h1.elim
            | ok y σ4 =>
              rw [ef] at h1
              rw [w_ok] at h1
              dsimp only
              rw [if_pos h1.1]
              exact go _ _ h1.2
theorem wc_inv {mg : MG} {mt : MT} {me : M} {vs : List Nat} {Q : List P → Env → Prop} {xs acc : List P} {σ : Env} (Inv : Nat → List P → Env → Prop) (h0 : Inv 0 acc σ)
    (hs : ∀ i x acc σ, xs[i]? = some x → Inv i acc σ → WN (mg x σ) fun σ1 => WE (mt σ1) NoX fun b σ2 => if b = true then WE (me σ2) NoX fun o σ3 => fzQ σ3 o fun y σ4 => acc.length < PySem.sizeLine ∧ Inv (i + 1) (acc ++ [y]) (wipeE σ4 vs) else Inv (i + 1) acc (wipeE σ2 vs))
    (hd : ∀ acc σ, Inv xs.length acc σ → Q acc σ) : WC mg mt me vs xs acc σ Q :=
  wc_go Inv 0 h0 (fun i x acc σ hx hi => by
    have := hs i x acc σ hx (by simpa using hi)
    simpa using this) (fun acc σ h => hd acc σ (by simpa using h))
/-- where the slots stay: each item kept as f says, or dropped -/
theorem wc_map {mg : MG} {mt : MT} {me : M} {vs : List Nat} {Q : List P → Env → Prop} {xs : List P} {σ : Env} (f : P → Option P) (hl : xs.length ≤ PySem.sizeLine)
    (hs : ∀ x ∈ xs, WN (mg x σ) fun σ1 => WE (mt σ1) NoX fun b σ2 => if b = true then WE (me σ2) NoX fun o σ3 => fzQ σ3 o fun y σ4 => f x = some y ∧ wipeE σ4 vs = σ else f x = none ∧ wipeE σ2 vs = σ) (q : Q (xs.filterMap f) σ) : WC mg mt me vs xs [] σ Q := by
  refine wc_inv (fun i acc σ' => σ' = σ ∧ acc = (xs.take i).filterMap f) ⟨rfl, by simp⟩ (fun i x acc σ' hx ⟨e1, e2⟩ => ?_) (fun acc σ' ⟨e1, e2⟩ => by subst e1; subst e2; simpa using q)
  subst e1; subst e2
  have hi : i < xs.length := (List.getElem?_eq_some_iff.mp hx).1
  have et : xs.take (i + 1) = xs.take i ++ [x] := by
    rw [List.take_succ, hx]; with_unfolding_all rfl
  have hlt : ((xs.take i).filterMap f).length < PySem.sizeLine := by
    have h1 := List.length_filterMap_le f (xs.take i)
    have h2 := List.length_take_le i xs
    omega
  have h := hs x (List.mem_of_getElem? hx)
  revert h
  unfold WN
  cases mg x σ' with
  | none => exact id
  | some σ1 =>
    dsimp only
    unfold WE
    cases mt σ1 with
    | stuck => exact id
    | exc _ _ _ _ => exact id
    | ok b σ2 =>
      dsimp only
      cases b with
      | false =>
        simp only [Bool.false_eq_true, if_false]
        rintro ⟨h1, h2⟩
        exact ⟨h2, by rw [et, List.filterMap_append]; simp [h1]⟩
      | true =>
        simp only [if_true]
        cases me σ2 with
        | stuck => exact id
        | exc _ _ _ _ => exact id
        | ok o σ3 =>
          dsimp only
          rw [← w_frz σ3 NoX o, ← w_frz σ3 NoX o]
          unfold WE
          cases frz o σ3 with
          | stuck => exact id
          | exc _ _ _ _ => exact id
          | ok y σ4 =>
            dsimp only
            rintro ⟨h1, h2⟩
            exact ⟨hlt, h2, by rw [et, List.filterMap_append]; simp [h1]⟩
end PV

set_option Elab.async false
set_option linter.all false
set_option maxRecDepth 100000
set_option maxHeartbeats 4000000
/-! PvZ: more preconditions: parallel assignment, slices, .get, fields, instances, two clauses. -/
namespace PV
section
variable {α β : Type} (σ : Env) (X : XP) (E : EP)
@[simp ↓] theorem w_each0 (Q : List D → Env → Prop) : WE (mEach [] σ) X Q = Q [] σ := by with_unfolding_all rfl
@[simp ↓] theorem w_each_m (m : M) (ms : List ME) (Q : List D → Env → Prop) : WE (mEach (.m m :: ms) σ) X Q = WE (m σ) X fun o σ1 => fzQ σ1 o fun x σ2 => WE (mEach ms σ2) X fun ds σ3 => Q (.p x :: ds) σ3 := by
  show WE ((m σ).bind _) X Q = _
  rw [w_bind]
  congr 1; funext o σ1
  rw [w_bind, w_frz]
  congr 1; funext x σ2
  rw [w_bind]; with_unfolding_all rfl
@[simp ↓] theorem w_each_f (m : MF) (ms : List ME) (Q : List D → Env → Prop) : WE (mEach (.f m :: ms) σ) X Q = WE (m σ) X fun d σ1 => d.root = true ∧ WE (mEach ms σ1) X fun ds σ3 => Q (d :: ds) σ3 := by
  show WE ((m σ).bind _) X Q = _
  rw [w_bind]
  congr 1; funext d σ1
  rw [w_ite, w_bind]
  with_unfolding_all exact ite_conj
@[simp ↓] theorem ws_Par (is : List Nat) (ms : List ME) : WS (mPar is ms σ) E = WE (mEach ms σ) E.xc fun ds σ1 => is.length = ds.length ∧ E.nx (setAll is ds σ1) := by
  unfold mPar
  rw [ws_toS]
  congr 1; funext ds σ1
  rw [ws_ite]
  with_unfolding_all exact ite_conj
@[simp] theorem setAll_nil (ds : List D) : setAll [] ds σ = σ := by cases ds <;> with_unfolding_all rfl
@[simp] theorem setAll_cons (i : Nat) (is : List Nat) (d : D) (ds : List D) : setAll (i :: is) (d :: ds) σ = setAll is ds (σ.set i (some d)) := by with_unfolding_all rfl
@[simp] theorem root_l (x : List P) : (D.lst x).root = true := by with_unfolding_all rfl
@[simp] theorem root_k (k x) : (D.dK k x).root = true := by with_unfolding_all rfl
@[simp] theorem root_t (k x) : (D.dT k x).root = true := by with_unfolding_all rfl
@[simp ↓] theorem w_NoP (Q : Option Int → Env → Prop) : WE (mNoP σ) X Q = Q none σ := by with_unfolding_all rfl
@[simp ↓] theorem w_Part (m : M) (Q : Option Int → Env → Prop) : WE (mPart m σ) X Q = WE (m σ) X fun o σ1 => getQ σ1 o fun x => asI x fun i => Q (some i) σ1 := by
  unfold mPart
  rw [w_bind]
  congr 1; funext o σ1
  rw [getQ_eq]
  cases o.get σ1 with
  | none => with_unfolding_all rfl
  | some x => cases x <;> with_unfolding_all rfl
@[simp ↓] theorem w_Slice (m : M) (lo hi : MO) (Q : O → Env → Prop) : WE (mSlice m lo hi σ) X Q = WE (m σ) X fun o σ1 => WE (lo σ1) X fun l σ2 => WE (hi σ2) X fun u σ3 => getQ σ3 o fun x => WO (pSlice x l u) fun z => Q (.v z) σ3 := by
  unfold mSlice
  rw [w_bind]
  congr 1; funext o σ1
  rw [w_bind]
  congr 1; funext l σ2
  rw [w_bind]
  congr 1; funext u σ3
  rw [w_lift, wo_bind, getQ_eq]
def optQ (r : Option P) (Q : P → Prop) (N : Prop) : Prop := match r with
  | some x => Q x
  | none => N
@[simp ↓] theorem optQ_some (x : P) (Q : P → Prop) (N : Prop) : optQ (some x) Q N = Q x := by with_unfolding_all rfl
@[simp ↓] theorem optQ_none (Q : P → Prop) (N : Prop) : optQ none Q N = N := by with_unfolding_all rfl
@[simp ↓] theorem w_Get2 (md mk mx : M) (Q : O → Env → Prop) : WE (mGet2 md mk mx σ) X Q = WE (md σ) X fun od σ1 => getQ σ1 od fun d => isDP (some d) = true ∧ WE (mk σ1) X fun ok σ2 => WE (mx σ2) X fun ox σ3 => getQ σ3 od fun d => getQ σ3 ok fun k => WO (pGet? d k) fun r => optQ r (fun x => Q (.v x) σ3) (Q ox σ3) := by
  unfold mGet2
  rw [w_bind]
  congr 1; funext od σ1
  rw [w_ite, getQ_eq]
  cases e : od.get σ1 with
  | none => simp [isDP, WE, WO]
  | some d =>
    rw [wo_some]
    have : ∀ ok ox (σ3 : Env), WE (match (od.get σ3).bind fun d => (ok.get σ3).bind fun k => pGet? d k with | some (some x) => (R.ok (O.v x) σ3 : R O) | some none => .ok ox σ3 | none => .stuck) X Q = getQ σ3 od fun d => getQ σ3 ok fun k => WO (pGet? d k) fun r => optQ r (fun x => Q (.v x) σ3) (Q ox σ3) := fun ok ox σ3 => by
      rw [getQ_eq]
      cases od.get σ3 with
      | none => with_unfolding_all rfl
      | some d =>
        simp only [Option.bind_some, wo_some, getQ_eq]
        cases ok.get σ3 with
        | none => with_unfolding_all rfl
        | some k =>
          simp only [Option.bind_some, wo_some]
          cases pGet? d k with
          | none => with_unfolding_all rfl
          | some r => cases r <;> with_unfolding_all rfl
    by_cases h : isDP (some d) = true
    · rw [if_pos h]; simp only [w_bind, h, true_and]
      congr 1; funext ok σ2
      congr 1; funext ox σ3
      exact this ok ox σ3
    · rw [if_neg h]; simp [h, WE]
/-- the instance in a slot -/
def getI (σ : Env) (i : Nat) (Q : String → List String → List P → Prop) : Prop := match σ[i]? with
  | some (some (.ins c ns xs)) => Q c ns xs
  | _ => False
@[simp ↓] theorem getI_zero (c : String) (ns : List String) (xs : List P) (r : Env) (Q) : getI (some (.ins c ns xs) :: r) 0 Q = Q c ns xs := by with_unfolding_all rfl
@[simp ↓] theorem ws_Fld (i : Nat) (cs : List String) (f : String) (me : M) : WS (mFld i cs f me σ) E = WE (me σ) E.xc fun o σ1 => fzQ σ1 o fun x σ2 => getI σ2 i fun c ns xs => (c ∈ cs ∧ ns.length < 1000) ∧ E.nx (σ2.set i (some (.ins c (putFP f x ns xs).1 (putFP f x ns xs).2))) := by
  unfold mFld
  rw [ws_toS]
  congr 1; funext o σ1
  rw [ws_toS, w_frz]
  congr 1; funext x σ2
  unfold getI
  split
  · rename_i c ns xs e
    rw [ws_ite]; (try simp only [e]); with_unfolding_all exact ite_conj
  · rename_i h
    first
    | (with_unfolding_all rfl)
    | (split <;> first | (rename_i c ns xs e; exact absurd e (h c ns xs)) | (with_unfolding_all rfl))
@[simp ↓] theorem wn_gIx (i : Nat) (mk : M) (x : P) (Q : Env → Prop) : WN (mgIx i mk x σ) Q = getL σ i fun _ => WE (mk σ) NoX fun ok σ3 => getQ σ3 ok fun k => asI k fun k => getL σ3 i fun xs => WO (L2.ixN xs.length k) fun j => Q (σ3.set i (some (.lst (xs.set j x)))) := by
  unfold mgIx getL
  split
  · rename_i xs0 e0
    simp only [e0]
    cases mk σ with
    | stuck => with_unfolding_all rfl
    | exc _ _ _ _ => with_unfolding_all rfl
    | ok ok σ3 =>
      dsimp only
      rw [w_ok, getQ_eq]
      cases ok.get σ3 with
      | none => with_unfolding_all rfl
      | some k =>
        cases k with
        | int k =>
          simp only [wo_some, asI_int]
          cases σ3[i]? with
          | none => with_unfolding_all rfl
          | some d =>
            cases d with
            | none => with_unfolding_all rfl
            | some d =>
              cases d with
              | lst xs => dsimp only; cases L2.ixN xs.length k <;> with_unfolding_all rfl
              | _ => with_unfolding_all rfl
        | _ => with_unfolding_all rfl
  · rename_i h
    first
    | (with_unfolding_all rfl)
    | (split <;> first | (rename_i xs e; exact absurd e (h xs)) | (with_unfolding_all rfl))
theorem once_v : ∀ (xs : List P), once (xs.map O.v) = true
  | [] => rfl
  | x :: xs => once_v xs
theorem atIx_v : ∀ (xs : List P) (i k : Nat), atIx i k (xs.map O.v) = none
  | [], _, _ => rfl
  | x :: xs, i, k => atIx_v xs i (k + 1)
theorem take_v : ∀ (xs : List P) (σ : Env), takeAll σ (xs.map O.v) = some (xs.map D.p)
  | [], _ => rfl
  | x :: xs, σ => by
    show (takeAll σ (xs.map O.v)).bind _ = _
    rw [take_v xs]; with_unfolding_all rfl
theorem give_v : ∀ (xs : List P) (ds : List D) (σ : Env), giveBack σ (xs.map O.v) ds = σ
  | [], ds, σ => by cases ds <;> with_unfolding_all rfl
  | x :: xs, [], σ => rfl
  | x :: xs, d :: ds, σ => give_v xs ds σ
/-- an instance made from data -/
theorem w_make {c : String} {f : FS} {ms : List M} {Q : D → Env → Prop} {X : XP} {σ : Env} (h : WE (mAs ms σ) X fun os σ1 => ∃ xs : List P, os = xs.map O.v ∧ WF f (.ins c [] [] :: xs.map .p) (fun _ _ _ _ => False) fun d fin => d = .p .non ∧ ∃ d0 fin', fin = d0 :: fin' ∧ Q d0 σ1) : WE (mMakeF c f ms σ) X Q := by
  unfold mMakeF
  rw [w_bind]
  revert h
  cases mAs ms σ with
  | stuck => with_unfolding_all exact id
  | exc _ _ _ _ => with_unfolding_all exact id
  | ok os σ1 =>
    rw [w_ok, w_ok]
    rintro ⟨xs, rfl, hw⟩
    obtain ⟨d, fin, ef, rfl, d0, fin', rfl, q⟩ := hw.ok
    unfold makeEnd PV.callEnd
    have e1 : takeAll (σ1 ++ [some (.ins c [] [])]) (.at σ1.length :: xs.map O.v) = some (.ins c [] [] :: xs.map .p) := by
      rw [q_takea, take_v]
      simp
    rw [e1]
    have e2 : once (.at σ1.length :: xs.map O.v) = true := by
      rw [q_oncea, atIx_v, once_v]; with_unfolding_all rfl
    simp only [e2, if_true, ef, q_givea, give_v]
    unfold WE
    have e3 : ((σ1 ++ [some (D.ins c [] [])]).set σ1.length (some d0))[σ1.length]? = some (some d0) := by simp
    simp only [e3]
    have e4 : ((σ1 ++ [some (D.ins c [] [])]).set σ1.length (some d0)).take σ1.length = σ1 := by simp
    rw [e4]
    exact q
end
end PV

set_option Elab.async false
set_option linter.all false
set_option maxRecDepth 100000
set_option maxHeartbeats 4000000
/-! PvZb: more to compute with. -/
namespace PV
@[simp ↓] theorem w_True (σ : Env) (X : XP) (Q : Bool → Env → Prop) : WE (mTrue σ) X Q = Q true σ := by with_unfolding_all rfl
section
variable (T : String)
@[simp] theorem isTy_int (i : Int) : isTy T (.int i) = some (isTyB "int" T) := rfl
@[simp] theorem isTy_bl (i : Bool) : isTy T (.bl i) = some (isTyB "bool" T) := rfl
@[simp] theorem isTy_str (i : PySem.Str) : isTy T (.str i) = some (isTyB "str" T) := rfl
@[simp] theorem isTy_non : isTy T .non = some (isTyB "NoneType" T) := rfl
@[simp] theorem isTy_tup (x : List P) : isTy T (.tup x) = some (isTyB "tuple" T) := rfl
@[simp] theorem isTy_lst (x : List P) : isTy T (.lst x) = some (isTyB "list" T) := rfl
end
end PV

set_option Elab.async false
set_option linter.all false
set_option maxRecDepth 100000
set_option maxHeartbeats 4000000
/-! PvZc: comprehensions with two clauses, by what they do. -/
namespace PV
def WC2 (mg : MG) (mt : MT) (mi1 : MI) (mg1 : MG) (mt1 : MT) (me : M) (vs vs1 : List Nat) (xs acc : List P) (σ : Env) (Q : List P → Env → Prop) : Prop := match cLoop2 mg mt mi1 mg1 mt1 me vs vs1 xs acc σ with
  | .ok zs σ2 => Q zs σ2
  | _ => False
section
variable (σ : Env) (X : XP) (vs vs1 : List Nat) (mi mi1 : MI) (mg mg1 : MG) (mt mt1 : MT) (me : M)
theorem w_compR2 (Q : List P → Env → Prop) : WE (mCompR2 vs vs1 mi mg mt mi1 mg1 mt1 me σ) X Q = WE (mi σ) X fun xs σ1 => vs.all (pureAt σ1) = true ∧ WC2 mg mt mi1 mg1 mt1 me vs vs1 xs [] (wipeE σ1 vs) fun zs σ2 => Q zs (backE σ1 vs σ2) := by
  unfold mCompR2
  rw [w_bind]
  congr 1; funext xs σ1
  rw [w_ite]
  unfold WC2
  by_cases h : vs.all (pureAt σ1) = true
  · rw [if_pos h]
    simp only [h, true_and]
    cases cLoop2 mg mt mi1 mg1 mt1 me vs vs1 xs [] (wipeE σ1 vs) <;> with_unfolding_all rfl
  · rw [if_neg h]; simp [h, WE]
@[simp ↓] theorem w_comp2 (Q : O → Env → Prop) : WE (mComp2 vs vs1 mi mg mt mi1 mg1 mt1 me σ) X Q = WE (mi σ) X fun xs σ1 => vs.all (pureAt σ1) = true ∧ WC2 mg mt mi1 mg1 mt1 me vs vs1 xs [] (wipeE σ1 vs) fun zs σ2 => Q (.v (.lst zs)) (backE σ1 vs σ2) := by
  unfold mComp2
  rw [w_bind, w_compR2]; with_unfolding_all rfl
@[simp ↓] theorem w_compF2 (Q : D → Env → Prop) : WE (mCompF2 vs vs1 mi mg mt mi1 mg1 mt1 me σ) X Q = WE (mi σ) X fun xs σ1 => vs.all (pureAt σ1) = true ∧ WC2 mg mt mi1 mg1 mt1 me vs vs1 xs [] (wipeE σ1 vs) fun zs σ2 => Q (.lst zs) (backE σ1 vs σ2) := by
  unfold mCompF2
  rw [w_bind, w_compR2]; with_unfolding_all rfl
end
theorem wc2_go {mg mg1 : MG} {mt mt1 : MT} {mi1 : MI} {me : M} {vs vs1 : List Nat} {Q : List P → Env → Prop} (Inv : Nat → List P → Env → Prop) : ∀ {xs acc : List P} {σ : Env} (k : Nat), Inv k acc σ →
    (∀ i x acc σ, xs[i]? = some x → Inv (k + i) acc σ → WN (mg x σ) fun σ1 => WE (mt σ1) NoX fun b σ2 => if b = true then WE (mi1 σ2) NoX fun ys σ3 => WC mg1 mt1 me vs1 ys acc (wipeE σ3 vs1) fun acc2 σ4 => Inv (k + i + 1) acc2 (wipeE σ4 vs) else Inv (k + i + 1) acc (wipeE σ2 vs)) →
    (∀ acc σ, Inv (k + xs.length) acc σ → Q acc σ) → WC2 mg mt mi1 mg1 mt1 me vs vs1 xs acc σ Q
  | [], acc, σ, k, h0, _, hd => hd acc σ h0
  | x :: xs, acc, σ, k, h0, hs, hd => by
    have h1 := hs 0 x acc σ rfl h0
    have go : ∀ acc2 σ2, Inv (k + 0 + 1) acc2 σ2 → WC2 mg mt mi1 mg1 mt1 me vs vs1 xs acc2 σ2 Q := fun acc2 σ2 h2 =>
      wc2_go Inv (k + 1) h2 (fun i y acc σ hy hi => by
        have := hs (i + 1) y acc σ (by simpa using hy) (by rw [show k + (i + 1) = k + 1 + i by omega]; exact hi)
        rw [show k + (i + 1) + 1 = k + 1 + i + 1 by omega] at this
        exact this) (fun acc σ h => hd acc σ (by rw [List.length_cons, show k + (xs.length + 1) = k + 1 + xs.length by omega]; exact h))
    unfold WC2
    unfold cLoop2
    unfold WN at h1
    cases e : mg x σ with
    | none => rw [e] at h1; exact h1.elim
    | some σ1 =>
      rw [e] at h1
      dsimp only at h1 ⊢
      cases et : mt σ1 with
      | stuck => rw [et] at h1; unfold WE at h1; exact h1.elim
      | exc _ _ _ _ => rw [et] at h1; unfold WE at h1; exact h1.elim
      | ok b σ2 =>
        rw [et] at h1
        rw [w_ok] at h1
        dsimp only
        cases b with
        | false => exact go _ _ h1
        | true =>
          simp only [if_true] at h1 ⊢
          cases ee : mi1 σ2 with
          | stuck => rw [ee] at h1; unfold WE at h1; exact h1.elim
          | exc _ _ _ _ => rw [ee] at h1; unfold WE at h1; exact h1.elim
          | ok ys σ3 =>
            rw [ee] at h1
            rw [w_ok] at h1
            unfold WC at h1
            dsimp only
            cases ec : cLoop mg1 mt1 me vs1 ys acc (wipeE σ3 vs1) with
            | stuck => rw [ec] at h1; exact h1.elim
            | exc _ _ _ _ => rw [ec] at h1; exact h1.elim
            | ok acc2 σ4 =>
              rw [ec] at h1
              exact go _ _ h1
theorem wc2_inv {mg mg1 : MG} {mt mt1 : MT} {mi1 : MI} {me : M} {vs vs1 : List Nat} {Q : List P → Env → Prop} {xs acc : List P} {σ : Env} (Inv : Nat → List P → Env → Prop) (h0 : Inv 0 acc σ)
    (hs : ∀ i x acc σ, xs[i]? = some x → Inv i acc σ → WN (mg x σ) fun σ1 => WE (mt σ1) NoX fun b σ2 => if b = true then WE (mi1 σ2) NoX fun ys σ3 => WC mg1 mt1 me vs1 ys acc (wipeE σ3 vs1) fun acc2 σ4 => Inv (i + 1) acc2 (wipeE σ4 vs) else Inv (i + 1) acc (wipeE σ2 vs))
    (hd : ∀ acc σ, Inv xs.length acc σ → Q acc σ) : WC2 mg mt mi1 mg1 mt1 me vs vs1 xs acc σ Q :=
  wc2_go Inv 0 h0 (fun i x acc σ hx hi => by
    have := hs i x acc σ hx (by simpa using hi)
    simpa using this) (fun acc σ h => hd acc σ (by simpa using h))
theorem WC.imp {mg : MG} {mt : MT} {me : M} {vs : List Nat} {xs acc : List P} {σ : Env} {Q Q' : List P → Env → Prop} (h : WC mg mt me vs xs acc σ Q) (g : ∀ zs σ, Q zs σ → Q' zs σ) : WC mg mt me vs xs acc σ Q' := by
  revert h
  unfold WC
  cases cLoop mg mt me vs xs acc σ with
  | ok zs σ2 => exact g zs σ2
  | _ => exact id
/-- behind what is there: each item kept as f says, or dropped -/
theorem wc_mapA {mg : MG} {mt : MT} {me : M} {vs : List Nat} {Q : List P → Env → Prop} {xs acc : List P} {σ : Env} (f : P → Option P) (hl : acc.length + xs.length ≤ PySem.sizeLine)
    (hs : ∀ x ∈ xs, WN (mg x σ) fun σ1 => WE (mt σ1) NoX fun b σ2 => if b = true then WE (me σ2) NoX fun o σ3 => fzQ σ3 o fun y σ4 => f x = some y ∧ wipeE σ4 vs = σ else f x = none ∧ wipeE σ2 vs = σ) (q : Q (acc ++ xs.filterMap f) σ) : WC mg mt me vs xs acc σ Q := by
  refine wc_inv (fun i acc' σ' => σ' = σ ∧ acc' = acc ++ (xs.take i).filterMap f) ⟨rfl, by simp⟩ (fun i x acc' σ' hx ⟨e1, e2⟩ => ?_) (fun acc' σ' ⟨e1, e2⟩ => by subst e1; subst e2; simpa using q)
  subst e1; subst e2
  have hi : i < xs.length := (List.getElem?_eq_some_iff.mp hx).1
  have et : xs.take (i + 1) = xs.take i ++ [x] := by
    rw [List.take_succ, hx]; with_unfolding_all rfl
  have hlt : (acc ++ (xs.take i).filterMap f).length < PySem.sizeLine := by
    have h1 := List.length_filterMap_le f (xs.take i)
    have h2 := List.length_take_le i xs
    rw [List.length_append]
    omega
  have h := hs x (List.mem_of_getElem? hx)
  revert h
  unfold WN
  cases mg x σ' with
  | none => exact id
  | some σ1 =>
    dsimp only
    unfold WE
    cases mt σ1 with
    | stuck => exact id
    | exc _ _ _ _ => exact id
    | ok b σ2 =>
      dsimp only
      cases b with
      | false =>
        simp only [Bool.false_eq_true, if_false]
        rintro ⟨h1, h2⟩
        exact ⟨h2, by rw [et, List.filterMap_append]; simp [h1]⟩
      | true =>
        simp only [if_true]
        cases me σ2 with
        | stuck => exact id
        | exc _ _ _ _ => exact id
        | ok o σ3 =>
          dsimp only
          rw [← w_frz σ3 NoX o, ← w_frz σ3 NoX o]
          unfold WE
          cases frz o σ3 with
          | stuck => exact id
          | exc _ _ _ _ => exact id
          | ok y σ4 =>
            dsimp only
            rintro ⟨h1, h2⟩
            exact ⟨hlt, h2, by rw [et, List.filterMap_append]; simp [h1]⟩
/-- the rest of a block as a letter: simp leaves it alone -/
theorem ws_seqH {a b : MS} {σ : Env} {E : EP} (h : ∀ K : Env → Prop, (∀ σ, WS (b σ) E → K σ) → WS (a σ) { E with nx := K }) : WS (mSeq a b σ) E := by
  rw [ws_Seq]
  exact h _ fun σ h => h
end PV

set_option Elab.async false
set_option linter.all false
set_option maxRecDepth 100000
set_option maxHeartbeats 4000000
/-! PvXa: an __init__ that begins with super().__init__(..), of an own exception over ValueError. -/
namespace PV
open PySem L2
theorem lookup_nd {y : Str} {u : Value} : ∀ {l : List (Str × Value)}, (l.map (·.1)).Nodup → (y, u) ∈ l → l.lookup y = some u
  | [], _, h => by cases h
  | (z, v) :: l, nd, h => by
    rw [List.map_cons, List.nodup_cons] at nd
    rw [List.lookup_cons]
    rcases List.mem_cons.mp h with e | h
    · cases e; simp
    · have : ¬ y = z := fun e => nd.1 (List.mem_map.mpr ⟨(y, u), h, e⟩)
      rw [show (y == z) = false by simpa using this]
      exact lookup_nd nd.2 h
/-- what the written part says of the class C of an exception and the class D whose __init__ runs -/
structure SuC (K : PySem.W.Frag) (C D : Addr) : Prop where
  dcl : ∃ cd, PySem.W.clsIn K D = some cd
  ccl : ∃ cd, PySem.W.clsIn K C = some cd
  sub : PySem.W.mroIn K C (.ref D) = some true
  nxt : PySem.W.ks_superIn K C D "__init__" = some (some (.builtin "ValueError.__init__"))
  isv : PySem.W.mroIn K C (.type "ValueError") = some true
  opq : PySem.W.nsIn K cStatics "thirdparty.any" = some none
section
variable {P : Program} {w : World} {K : PySem.W.Frag} {mg : Str → Option Value} {base : Heap} {A : Around} {outer : List PySem.Env} {s : Shared} {H : Hp} {E : XK}
def suCx (P : Program) (w : World) (K : PySem.W.Frag) (mg : Str → Option Value) (base : Heap) (N : List Str) (qual : Str) (scope : Scope) (f : Addr) (cd : Value) (cc : Addr) (A : Around) (outer : List PySem.Env) (s : Shared) (H : Hp) (E : XK) : Cx where
  prog := P
  w := w
  K := K
  mg := mg
  base := base
  A := A.deeper (PySem.W.ksEnv qual scope s.heap.objs.size f cd cc)
  N := N
  s_0 := s
  H_0 := H
  env := PySem.W.ksEnv qual scope s.heap.objs.size f cd cc
  outer := outer
  stack := PySem.W.ksEnv qual scope s.heap.objs.size f cd cc :: outer
  ex := []
  fn := fun _ => false
  calm := true
  pn := []
  xe := fun e s' => wpAny (model P w) (A.deeper (PySem.W.ksEnv qual scope s.heap.objs.size f cd cc)) (leaving (PySem.W.ksEnv qual scope s.heap.objs.size f cd cc) e) (fun _ s'' => L2.CX P w outer H s E e s'') (fun e' s'' => L2.CX P w outer H s E e' s'') s'
theorem inv_su {ps : List Str} {us : List Value} {vs : List V} {qual : Str} {scope : Scope} {f cc D : Addr} {cd cl : Value} {cld : Option Addr} {csl : Array (Option Value)} {h₁ : Heap} {tk : Nat} (hd : A.handled = none) (e0 : Env0 P w K mg base A outer s H) (hkind : scope.kind = .function) (hl : vs.length = ps.length) (nd : ps.Nodup) (r : Vals vs us)
    (hfree : ∀ y, scope.names.lookup y = some .cell ∨ scope.names.lookup y = some .free → y = "__class__") (hloc : ∀ x ∈ ps, scope.names.lookup x = some .local) (hcc : K.lookup cc = some ⟨cl, cld, .cell (some (.ref D)), csl⟩)
    (hns : h₁.Ns s.heap.objs.size fun y => (ps.zip us).reverse.lookup y) (kp : ∀ b o, s.heap.get? b = some o → h₁.get? b = some o) :
    Inv (suCx P w K mg base ps qual scope f cd cc A outer s H E) [] (vs.map some) H { s with heap := h₁, toks := tk } := by
  have noA : ∀ b : Addr, b ∉ (suCx P w K mg base ps qual scope f cd cc A outer s H E).ex := fun b z => absurd (show b ∈ ([] : List Addr) from z) (by simp)
  have KX : K.In s.heap := e0.mod.kin.keeps fun b o e => (e0.bs b o e).1
  have hus : us.length = ps.length := by rw [← hl]; exact (Paired.length r).symm
  have one : ∀ {y : Str} {c : Addr}, (suCx P w K mg base ps qual scope f cd cc A outer s H E).env.cells.lookup y = some c → y = "__class__" ∧ c = cc := fun {y c} e => by
    have e : List.lookup y [(("__class__" : Str), cc)] = some c := e
    rw [List.lookup_cons] at e
    by_cases h : y = "__class__"
    · rw [show (y == ("__class__" : Str)) = true by simp [h]] at e
      exact ⟨h, (Option.some.inj e).symm⟩
    · rw [show (y == ("__class__" : Str)) = false by simpa using h] at e
      cases e
  refine ⟨⟨e0.mod, hkind, rfl, rfl, Nat.le_refl _, fun y z c e1 e2 => (one e1).1.trans (one e2).1.symm, fun y hy => ?_, fun y c z _ => ?_, fun _ => hd, Around.frames_deeper e0.frames, .inr ⟨rfl, rfl⟩, fun b z => absurd z (noA b), e0.bs, e0.bsz, fun b _ _ => noA b,
      fun b z => absurd z (noA b), e0.funs, e0.frf⟩,
    rfl, e0.bare, Un.kept kp, ⟨_, hns, fun i y v e1 e2 e3 => ?_⟩, fun y c e => ?_, e0.hok.fresh (Nat.le_refl _), fun y c e => ?_, fun q hq => absurd (show q ∈ ([] : List (Addr × Obj)) ++ [] from hq) (by simp), e0.hok.kept kp, ?_⟩
  · have hy : scope.names.lookup y = some .cell ∨ scope.names.lookup y = some .free := hy
    have := hfree y hy
    subst this
    exact ⟨cc, rfl⟩
  · have z : false = true := z
    cases z
  · have e1 : ps[i]? = some y := e1
    have ev : vs[i]? = some v := by
      rw [List.getElem?_map] at e2
      cases q : vs[i]? with
      | none => rw [q] at e2; cases e2
      | some a => rw [q] at e2; cases e2; rfl
    obtain ⟨u, hu, rv⟩ := r.get ev
    refine ⟨u, rv, .inl ⟨hloc y (List.mem_of_getElem? e1), ?_⟩⟩
    have hk : ((ps.zip us).reverse.map (·.1)).Nodup := by
      rw [List.map_reverse]
      refine (List.Perm.nodup_iff (List.reverse_perm _)).mpr ?_
      have : (ps.zip us).map (·.1) = ps := List.map_fst_zip (by omega)
      rw [this]; exact nd
    refine lookup_nd hk (List.mem_reverse.mpr ?_)
    refine List.mem_of_getElem? (i := i) ?_
    rw [List.getElem?_zip_eq_some]
    exact ⟨e1, hu⟩
  · obtain ⟨_, rfl⟩ := one e
    exact ⟨some (.ref D), _, kp _ _ (KX _ _ hcc), rfl⟩
  · obtain ⟨_, rfl⟩ := one e
    exact (e0.bs _ _ (e0.mod.kin _ _ hcc)).2
  · rw [List.length_map]; exact hl
end
end PV

set_option Elab.async false
set_option linter.all false
set_option maxRecDepth 100000
set_option maxHeartbeats 4000000
/-! PvXb: the rule of an __init__ that begins with super().__init__(..). -/
namespace PV
open PySem L2
section
variable {P : Program} {w : World} {K : PySem.W.Frag} {mg : Str → Option Value} {base : Heap}
theorem fn_su {k : Nat} {f cc D cda : Addr} {name qual : Str} {params : Arguments} {rest : List Stmt} {scope : Scope} {dV kV doc pm ct oc cl ccl : Value} {an od cld cdd : Option Addr} {osl csl ccs : Array (Option Value)} {cvs : Array Value} {file : Str} {tf : Tok} {ps : List Str} {sp : Sp} {ar : Arg} {e : Expr} {es : List Expr} {p0 p1 p2 p3 p4 : Pos} {ta : TA} {t : TS}
    (lk : K.lookup f = some ⟨oc, od, .func (PySem.W.ksFn name qual params (.Expr (.Call (.Attribute (.Call (.Name "super" p0) [] [] p1) "__init__" p2) (e :: es) [] p3) p4 :: rest) scope dV kV doc pm an (.ref cda) ct cc), osl⟩)
    (hcd : PySem.W.codeIn K (.ref cda) qual = true) (hkind : scope.kind = .function) (hco : scope.isCoroutine = false) (hgen : scope.isGenerator = false) (hcell : ∀ x ∈ scope.names, x.2 ≠ .cell) (nd : ps.Nodup)
    (hfree : ∀ y, scope.names.lookup y = some .cell ∨ scope.names.lookup y = some .free → y = "__class__") (hloc : ∀ x ∈ ps, scope.names.lookup x = some .local)
    (hcc : K.lookup cc = some ⟨cl, cld, .cell (some (.ref D)), csl⟩) (hcode : K.lookup cda = some ⟨ccl, cdd, .fields cvs, ccs⟩) (hvs : cvs[2]? = some (.str file tf)) (hfile : ((P.main.file : Str) == file) = true)
    (hsup : mg "super" = none) (hks : scope.names.lookup ("super" : Str) = some .globalImplicit) (hkc : scope.names.lookup ("__class__" : Str) = some .free) (htop : (P.main.scope.names.lookup ("super" : Str)).isSome = false)
    (hp : (params.posonlyargs ++ params.args).head? = some ar) (h0 : ps[0]? = some ar.arg)
    (he : ∀ env, starEach (e :: es) env = (false, eval e env) :: starEach es env) (hpl : ∀ env, (backTo p3 (starEach es env)).any (·.1) = false)
    (hmc : ∀ env, eval (.Call (.Attribute (.Call (.Name "super" p0) [] [] p1) "__init__" p2) (e :: es) [] p3) env = (do
      let ov ← attributeBase (.Call (.Name "super" p0) [] [] p1) "__init__" env (eval (.Call (.Name "super" p0) [] [] p1) env)
      standAt p2.atName
      let (f, first) ← holding [ov] (getMethod ov "__init__" (pure false))
      callWith p3 f first (backTo p3 (starEach (e :: es) env)) []))
    (hi : ∀ env, interactive env = false → True) (hsw : ∀ env, swapsWith (.Call (.Attribute (.Call (.Name "super" p0) [] [] p1) "__init__" p2) (e :: es) [] p3) none p4.line env = pure false)
    (hargs : ∀ A outer s H E, PA (suCx P w K mg base ps qual scope f (.ref cda) cc A outer s H E) (e :: es) ta)
    (hrest : ∀ A outer s H E, PSs (suCx P w K mg base ps qual scope f (.ref cda) cc A outer s H E) rest t)
    (len : ∀ vs H Q E, sp vs H Q E → vs.length = ps.length)
    (hsp : ∀ vs H Q E, sp vs H Q E → ∃ a C ys, vs = .ref a :: ys ∧ OexC K C ∧ SuC K C D ∧ H a = some (exo a C none) ∧ ta (vs.map some) H fun zs H1 => H1 = H ∧ zs.length ≤ 1000 ∧ t { nx := fun _ H' => Q .non H', rt := Q } (vs.map some) H) :
    FnOk P w K mg base (L2.CX P w) (k + 1) f (PySem.W.ksFn name qual params (.Expr (.Call (.Attribute (.Call (.Name "super" p0) [] [] p1) "__init__" p2) (e :: es) [] p3) p4 :: rest) scope dV kV doc pm an (.ref cda) ct cc) ps sp := by
  refine ⟨len, fun A outer s H args us vs Q E hr e0 hb r hs => ?_⟩
  obtain ⟨a, C, ys, ev, T, S, ea, hta⟩ := hsp _ _ _ _ hs
  have hl := len _ _ _ _ hs
  have KX : K.In s.heap := e0.mod.kin.keeps fun b o e => (e0.bs b o e).1
  have lim : s.heap.NoLimit := e0.mod.nolimit.keeps fun b o e => (e0.bs b o e).1
  refine PySem.ks_codeAny_call_defAt (fd := PySem.W.ksFn name qual params (.Expr (.Call (.Attribute (.Call (.Name "super" p0) [] [] p1) "__init__" p2) (e :: es) [] p3) p4 :: rest) scope dV kV doc pm an (.ref cda) ct cc) (binds := ps.zip us) hr.depth (KX _ _ lk) rfl lim (PySem.W.codeRec_of KX hcd) rfl hb hcell (fun y hy => hloc y.1 (List.of_mem_zip hy).1) (fun h₁ hns kp => ?_) hco hgen hkind
  have I := inv_su (K := K) (mg := mg) (base := base) (qual := qual) (f := f) (cd := .ref cda) (E := E) (h₁ := h₁) (tk := s.toks + (ps.zip us).length) hr.hd e0 hkind hl nd r hfree hloc hcc hns kp
  change PySem.wpAt (model P w) (A.deeper (PySem.W.ksEnv qual scope s.heap.objs.size f (.ref cda) cc)) (.func _ (PySem.W.ksEnv qual scope s.heap.objs.size f (.ref cda) cc)) (execs _ (PySem.W.ksEnv qual scope s.heap.objs.size f (.ref cda) cc)) _ _ _
  refine PySem.ks_wpAt_execs_cons (PySem.ks_wpAt_Expr_any ?_ I.quiet (hsw _))
  obtain ⟨t1, hoe⟩ := exo_at I.hok ea
  obtain ⟨cdD, hDc⟩ := S.dcl
  obtain ⟨cdC, hCc⟩ := S.ccl
  have KX1 : K.In h₁ := KX.keeps kp
  obtain ⟨oD, hD1, hD2⟩ : ∃ oD, h₁.get? D = some oD ∧ oD.data = .cls cdD := by
    unfold PySem.W.clsIn at hDc
    split at hDc
    · rename_i c d cd' sl ho
      cases hDc
      exact ⟨_, KX1 _ _ ho, rfl⟩
    · cases hDc
  have hself : (ps.zip us).reverse.lookup ar.arg = some (.ref a) := by
    subst ev
    cases r with
    | @cons _ u0 _ ur ra rw' =>
      obtain rfl : u0 = Value.ref a := ra
      have hlen : (V.ref a :: ys).length = (Value.ref a :: ur).length := by rw [List.length_cons, List.length_cons, Paired.length rw']
      have hk : ((ps.zip (Value.ref a :: ur)).reverse.map (·.1)).Nodup := by
        rw [List.map_reverse]
        refine (List.Perm.nodup_iff (List.reverse_perm _)).mpr ?_
        have : (ps.zip (Value.ref a :: ur)).map (·.1) = ps := List.map_fst_zip (by omega)
        rw [this]; exact nd
      refine lookup_nd hk (List.mem_reverse.mpr (List.mem_of_getElem? (i := 0) ?_))
      rw [List.getElem?_zip_eq_some]
      exact ⟨h0, rfl⟩
  have h0l := hloc _ (List.mem_of_getElem? h0)
  refine PySem.ks_wpAt_MethodCall (pl := pure false) ?_ (hmc _)
  refine PySem.ks_wpAt_super_base (env := PySem.W.ksEnv qual scope s.heap.objs.size f (.ref cda) cc) hks hkc (by decide) rfl (KX1 _ _ lk) rfl hp rfl (KX1 _ _ hcode) rfl hvs hfile htop ?_
  obtain ⟨mb, hb1, hb2⟩ := I.mod.blt
  refine PySem.W.ks_loadName_global hkind hks (Calls.loadGlobal_builtin (env := PySem.W.ksEnv qual scope s.heap.objs.size f (.ref cda) cc) (I.mod.glob.keeps I.bk) hsup (hb1.keeps I.bk) ((hb2 _ (by decide)).trans (show bootBuiltins "super" = some (.type "super") by kernel_rfl)) ⟨rfl, ?_⟩)
  refine wpAny_loadName_free hkind hkc rfl ⟨_, KX1 _ _ hcc, rfl⟩ ?_
  refine wpAny_loadName_local hkind h0l hns hself ?_
  refine PySem.ks_wpAny_isType_cls hD1 hD2 ⟨rfl, ?_⟩
  refine PySem.ks_wpAny_call_super hD1 hD2 hoe rfl (fun c z => by cases z) (PySem.W.looks_mroIn KX1 S.sub) (fun h2 eso k2 => ?_)
  have I2 := I.kept (t' := s.toks + (ps.zip us).length) k2
  have KX2 : K.In h2 := KX1.keeps k2
  have ho2 := k2 _ _ hoe
  have IA : PySem.W.InstAt h2 a { cls := .ref C, dict := none, data := .fields #[.ref t1, .none, .none, .none, .bool false, .none] } C none := ⟨ho2, rfl, rfl, trivial⟩
  have hnx := S.nxt
  unfold PySem.W.ks_superIn at hnx
  rw [hCc] at hnx
  refine PySem.W.kxs_getMethod PySem.W.kxs_ValueError eso (PySem.W.looks_opaque KX2 S.opq) (l₀ := cdC.mro) (fun A Q E s k q => wpAny_bind ((PySem.W.looks_clsIn KX2 hCc) A _ E s k (wpAny_pure q))) rfl KX2 hnx (IA.type.andThen (PySem.W.looks_mroIn KX2 S.isv)) (PySem.W.ks_ne KX2 IA hCc) (by decide) ?_
  have k3 : ∀ b o, h2.get? b = some o → (h2.push (PySem.W.kxs_mw "ValueError.__init__" a)).get? b = some o := fun b o q => Heap.get?_push_of_some _ q
  have I3 := I2.kept (t' := s.toks + (ps.zip us).length + 1) k3
  have hmw : (h2.push (PySem.W.kxs_mw "ValueError.__init__" a)).get? h2.objs.size = some (PySem.W.kxs_mw "ValueError.__init__" a) := Heap.get?_push_at rfl rfl
  have hmn : H h2.objs.size = none := I2.hok.fresh (Nat.le_refl _)
  have I4 : Inv (suCx P w K mg base ps qual scope f (.ref cda) cc A outer s H E) [(h2.objs.size, PySem.W.kxs_mw "ValueError.__init__" a)] (vs.map some) H ⟨h2.push (PySem.W.kxs_mw "ValueError.__init__" a), s.gens, s.drawn, s.toks + (ps.zip us).length + 1, s.os⟩ := I3.pins_of fun p hp => by
    obtain rfl := List.mem_singleton.mp hp
    exact ⟨hmw, hmn, fun z => Nat.lt_irrefl _ (z ▸ I2.lt), I2.nofs (Nat.le_refl _), fun v z => by cases z⟩
  show wpAny _ _ (callWith p3 (.ref h2.objs.size) [] (backTo p3 (starEach (e :: es) (PySem.W.ksEnv qual scope s.heap.objs.size f (.ref cda) cc))) []) _ _ _
  rw [he]
  refine PySem.W.kxs_callWith (i := "ValueError.__init__") (x := a) (by show (false || (backTo p3 (starEach es _)).any (·.1)) = false; rw [hpl]; rfl) ?_
  refine Calls.evalArgs_plain ?_
  have hrun := (hargs A outer s H E).run p3 [(h2.objs.size, PySem.W.kxs_mw "ValueError.__init__" a)] _ (vs.map some) H _ I4 hta
  rw [he] at hrun
  refine wpAny_mono hrun (fun us2 s5 hq => ?_) fun _ _ z => z
  obtain ⟨zs, H1, I5, r5, rfl, hz, ht⟩ := hq
  obtain ⟨hp5, _, _, _, _⟩ := I5.pin (h2.objs.size, PySem.W.kxs_mw "ValueError.__init__" a) (by simp)
  refine ⟨hp5, ?_⟩
  obtain ⟨nm, q, N, bs, bm, sn, sub, ab, col, dd, k0, k1, k2', k3', k5, hC, hbm⟩ := T.cls
  obtain ⟨t5, he5⟩ := exo_at I5.hok ea
  have hzs : us2.length ≤ sizeLine := by
    rw [← Paired.length r5, sizeLine_eq]
    omega
  have fin : ∀ h' t2, (∀ b o, b ≠ a → s5.heap.get? b = some o → h'.get? b = some o) → h'.get? a = some ({ cls := .ref C, dict := none, data := .fields #[.ref t2, .none, .none, .none, .bool false, .none] } : Obj) → Inv (suCx P w K mg base ps qual scope f (.ref cda) cc A outer s H1 E) [(h2.objs.size, PySem.W.kxs_mw "ValueError.__init__" a)] (vs.map some) H1 { s5 with heap := h' } := fun h' t2 kk hx => by
    have J := I5.write (t' := s5.toks) (x := a) (e := a) (o := exo a C none) (by rw [ea]; exact True.intro) (.inl rfl) kk ⟨_, hx⟩ (exo_ok hx)
    have eu : upd H1 a (exo a C none) = H1 := by
      funext b
      by_cases hb : b = a
      · rw [hb, upd_same, ea]
      · rw [upd_ne hb]
    rw [eu] at J
    exact J
  have kC5 := I5.kIn _ _ hC
  obtain ⟨hh, g5, d5, tk5, os5⟩ := s5
  show wpAny _ _ (call (.ref h2.objs.size) us2) _ _ _
  refine wpAny_call (codeAny_of_tree ?_)
  show wpAny _ _ (callAny (.ref h2.objs.size) ⟨us2, []⟩) _ _ _
  simp only [callAny]
  refine wpAny_bind (wpAny_load hp5 ?_)
  simp only [PySem.W.kxs_mw, show (Value.type "method-wrapper" == Value.type "method" || Value.type "method-wrapper" == Value.type "builtin_function_or_method" || Value.type "method-wrapper" == Value.type "method-wrapper") = true by decide, if_true]
  refine PySem.W.KFB.if_so (by decide) ?_
  refine wpAny_bind (PySem.W.check_bound_init (PySem.F.excBase_ValueError).toExcCallFacts kC5 he5 rfl ?_)
  refine wpAny_bind (wpAny_pure (wpAny_pure ?_))
  refine ⟨plainId_quiet (PySem.F.excBase_ValueError).init.plain _, codeAny_builtin (PySem.F.excBase_ValueError).initEntry ?_⟩
  refine PySem.W.exc_init_tree (cls := .ref C) (t0 := t5) (dv := none) (c2 := .none) (c3 := .none) (b4 := .bool false) he5 hzs (fun h' kk hx _ => ?_)
  have J := fin h' _ kk hx
  show PySem.wpAt _ _ _ (execs rest _) _ _ _
  refine PySem.wpAt_of_wpAny ?_
  refine wpAny_mono ((hrest A outer s H1 E).run _ _ (vs.map some) H1 _ J ht) (fun fl s' hq => ?_) fun e s' hq => hq
  have fine : ∀ {σ' : L2.St} {H' : Hp} {v : V} {u : Value}, Inv (suCx P w K mg base ps qual scope f (.ref cda) cc A outer s H1 E) [(h2.objs.size, PySem.W.kxs_mw "ValueError.__init__" a)] σ' H' s' → L2.RelV v u → Q v H' → CE outer P w H1 s Q u s' :=
    fun {σ' H' v u} J rv q => ⟨v, H', J.os, J.bare, J.base, J.hok, rv, q⟩
  cases fl with
  | ret u =>
    obtain ⟨v, σ', H', J, rv, q⟩ := hq
    exact fine J rv q
  | next =>
    obtain ⟨σ', H', J, q⟩ := hq
    exact fine (v := V.non) (u := Value.none) J rfl q
  | brk =>
    obtain ⟨_, _, _, q⟩ := hq
    exact False.elim q
  | cont =>
    obtain ⟨_, _, _, q⟩ := hq
    exact False.elim q
end
end PV

set_option Elab.async false
set_option linter.all false
set_option maxRecDepth 100000
set_option maxHeartbeats 4000000
/-! PvXc: raise of an own exception with one field or two. -/
namespace PV
open PySem L2
section
variable {P : Program} {w : World} {K : PySem.W.Frag} {mg : Str → Option Value} {base : Heap}
/-- what an __init__ of one field does -/
def spX1 (K : PySem.W.Frag) (D : Addr) (f1 : Str) : Sp := fun vs H Q _ => ∃ (a C : Addr) (y : V), vs = [.ref a, y] ∧ OexC K C ∧ SuC K C D ∧ PySem.W.findIn K (.ref C) f1 = some none ∧ H a = some (exo a C none) ∧
  ∀ dx, H dx = none → dx ≠ a → Q .non (upd (upd H dx (exd dx [(f1, y)])) a (exo a C (some dx)))
def spX2 (K : PySem.W.Frag) (D : Addr) (f1 f2 : Str) : Sp := fun vs H Q _ => ∃ (a C : Addr) (y z : V), vs = [.ref a, y, z] ∧ OexC K C ∧ SuC K C D ∧ PySem.W.findIn K (.ref C) f1 = some none ∧ PySem.W.findIn K (.ref C) f2 = some none ∧ H a = some (exo a C none) ∧
  ∀ dx, H dx = none → dx ≠ a → Q .non (upd (upd (upd H dx (exd dx [(f1, y)])) a (exo a C (some dx))) dx (exd dx [(f2, z), (f1, y)]))
/-- the readings of such an __init__ -/
theorem spX1_su {D : Addr} {f1 : Str} (vs : List V) (H : Hp) (Q : VK) (E : XK) (h : spX1 K D f1 vs H Q E) : ∃ a C ys, vs = .ref a :: ys ∧ OexC K C ∧ SuC K C D ∧ H a = some (exo a C none) ∧
    (tCons (tVar 1) tNil) (vs.map some) H fun zs H1 => H1 = H ∧ zs.length ≤ 1000 ∧ (tOst K f1 (tVar 0) (tVar 1)) { nx := fun _ H' => Q .non H', rt := Q } (vs.map some) H := by
  obtain ⟨a, C, y, rfl, T, S, hf, ha, q⟩ := h
  refine ⟨a, C, [y], rfl, T, S, ha, y, rfl, rfl, by simp, y, rfl, .ref a, rfl, a, C, rfl, T, hf, .inl ⟨ha, fun dx h1 h2 => q dx h1 h2⟩⟩
theorem spX2_su {D : Addr} {f1 f2 : Str} (vs : List V) (H : Hp) (Q : VK) (E : XK) (h : spX2 K D f1 f2 vs H Q E) : ∃ a C ys, vs = .ref a :: ys ∧ OexC K C ∧ SuC K C D ∧ H a = some (exo a C none) ∧
    (tCons (tVar 1) (tCons (tVar 2) tNil)) (vs.map some) H fun zs H1 => H1 = H ∧ zs.length ≤ 1000 ∧ (tSeq (tOst K f1 (tVar 0) (tVar 1)) (tOst K f2 (tVar 0) (tVar 2))) { nx := fun _ H' => Q .non H', rt := Q } (vs.map some) H := by
  obtain ⟨a, C, y, z, rfl, T, S, hf, hf2, ha, q⟩ := h
  refine ⟨a, C, [y, z], rfl, T, S, ha, y, rfl, z, rfl, rfl, by simp, y, rfl, .ref a, rfl, a, C, rfl, T, hf, .inl ⟨ha, fun dx h1 h2 => ?_⟩⟩
  refine ⟨z, rfl, .ref a, rfl, a, C, rfl, T, hf2, .inr ⟨dx, [(f1, y)], upd_same, ?_, by simp, q dx h1 h2⟩⟩
  rw [upd_ne h2]; exact upd_same
end
/-- raise c(..) -/
def mRaise (c : String) (ns : List String) (ms : List M) : MS := fun σ => (mAs ms σ).toS fun os σ1 => (frzAll os σ1).toS fun xs σ2 => if xs.length = ns.length then .exc c ns xs.reverse σ2 else .stuck
theorem passes0 {X : Cx} : Passes (L2.CX X.prog X.w) X (fun _ _ _ => False) := passes_call takes0 fun _ _ _ _ z => z
section
variable {X : Cx} {g : G} {x p1 p2 : Str} {c f1 f2 : String} {C D fI : Addr} {fd : FuncData} {k : Nat} {e e2 : Expr} {m m2 : M} {p pos pos' : Pos}
theorem ds_raise1 (hc : X.calm = true) (hcl : g.cl c = some C) (hK : g.K = X.K) (T : OexC X.K C) (S : SuC X.K C D) (hf : PySem.W.findIn X.K (.ref C) (ofS f1) = some none) (iC : PySem.W.findIn X.K (.ref C) "__init__" = some (some (.ref fI))) (tI : PySem.W.typeIn X.K (.ref fI) = some (.type "function"))
    (F1 : FnOk X.prog X.w X.K X.mg X.base (L2.CX X.prog X.w) k fI fd ["self", p1] (spX1 X.K D (ofS f1))) (hb : L2.Binds X.K fd ["self", p1] []) (hr : Room (k + 1) X.A) (tk : Takes X g.Ω) (hg : Gl X x) (hm : X.mg x = some (.ref C)) (ha : PA X [e] (tA g (mAs [m])))
    (hdb : (x == ("__debug__" : Str)) = false := by decide) (he : starEach [e] X.env = (false, eval e X.env) :: starEach [] X.env := by rfl) : PS X (.Raise (some (.Call (.Name x p) [e] [] pos)) none pos') (tS g (mRaise c [f1] [m])) :=
  ps_weak (ps_raise hc tk (pmk_oex T iC tI F1 hr hb .nil passes0 hg hm ha hdb he rfl)) fun Dd σ H h => by
    obtain ⟨ω, σD, st, q⟩ := h
    refine ⟨ω, σD, st, (PostS.of q).imp fun os σ1 ω1 H1 s1 st1 q1 vs ov => ?_⟩
    obtain ⟨xs, σ2, ω2, s2, st2, r, e3, q2⟩ := frzAll_ok st1 ov (PostS.of q1)
    by_cases hl : xs.length = [f1].length
    · rw [if_pos hl] at q2
      match xs, vs, r, hl with
      | [x0], [y], r, _ =>
        refine ⟨by simp, fun a hna => ⟨a, C, y, rfl, T, S, hf, upd_same, fun dx hdx hne => ⟨rfl, dx, [(ofS f1, y)], upd_same, ?_, ?_, ?_⟩⟩⟩
        · rw [upd_ne hne]; exact upd_same
        · rw [upd_ne hne] at hdx; exact hdx
        · rw [upd_ne hne] at hdx
          have eH : upd (del (upd (upd (upd H1 a (exo a C none)) dx (exd dx [(ofS f1, y)])) a (exo a C (some dx))) a) dx (.xd [(ofS f1, y)]) = upd H1 dx (.xd [(ofS f1, y)]) := by
            funext b
            by_cases h1 : b = dx
            · subst h1; rw [upd_same, upd_same]
            · rw [upd_ne h1, upd_ne h1]
              by_cases h2 : b = a
              · subst h2; rw [del_same]; exact hna.symm
              · rw [del_ne h2, upd_ne h2, upd_ne h1, upd_ne h2]
          rw [eH]
          have sm : Same H1 (upd H1 dx (.xd [(ofS f1, y)])) := Same.new hdx
          exact q2 ω2 _ σ _ _ (.same sm) (st2.same sm) ⟨C, dx, [(ofS f1, y)], rfl, rfl, hcl, upd_same, rfl, RPs.keep (same_keeps sm) _ _ r⟩
    · rw [if_neg hl] at q2
      exact q2.elim
theorem ds_raise2 (hc : X.calm = true) (hcl : g.cl c = some C) (hK : g.K = X.K) (T : OexC X.K C) (S : SuC X.K C D) (hf : PySem.W.findIn X.K (.ref C) (ofS f1) = some none) (hf2 : PySem.W.findIn X.K (.ref C) (ofS f2) = some none) (iC : PySem.W.findIn X.K (.ref C) "__init__" = some (some (.ref fI))) (tI : PySem.W.typeIn X.K (.ref fI) = some (.type "function"))
    (F1 : FnOk X.prog X.w X.K X.mg X.base (L2.CX X.prog X.w) k fI fd ["self", p1, p2] (spX2 X.K D (ofS f1) (ofS f2))) (hb : L2.Binds X.K fd ["self", p1, p2] []) (hr : Room (k + 1) X.A) (tk : Takes X g.Ω) (hg : Gl X x) (hm : X.mg x = some (.ref C)) (ha : PA X [e, e2] (tA g (mAs [m, m2])))
    (hdb : (x == ("__debug__" : Str)) = false := by decide) (he : starEach [e, e2] X.env = (false, eval e X.env) :: starEach [e2] X.env := by rfl) (hpl : (backTo pos (starEach [e2] X.env)).any (·.1) = false := by rfl) : PS X (.Raise (some (.Call (.Name x p) [e, e2] [] pos)) none pos') (tS g (mRaise c [f2, f1] [m, m2])) :=
  ps_weak (ps_raise hc tk (pmk_oex T iC tI F1 hr hb .nil passes0 hg hm ha hdb he hpl)) fun Dd σ H h => by
    obtain ⟨ω, σD, st, q⟩ := h
    refine ⟨ω, σD, st, (PostS.of q).imp fun os σ1 ω1 H1 s1 st1 q1 vs ov => ?_⟩
    obtain ⟨xs, σ2, ω2, s2, st2, r, e3, q2⟩ := frzAll_ok st1 ov (PostS.of q1)
    by_cases hl : xs.length = [f2, f1].length
    · rw [if_pos hl] at q2
      match xs, vs, r, hl with
      | [x0, x1], [y, z], r, _ =>
        refine ⟨by simp, fun a hna => ⟨a, C, y, z, rfl, T, S, hf, hf2, upd_same, fun dx hdx hne => ⟨rfl, dx, [(ofS f2, z), (ofS f1, y)], ?_, upd_same, ?_, ?_⟩⟩⟩
        · rw [upd_ne (Ne.symm hne)]; exact upd_same
        · rw [upd_ne hne] at hdx; exact hdx
        · rw [upd_ne hne] at hdx
          have eH : upd (del (upd (upd (upd (upd H1 a (exo a C none)) dx (exd dx [(ofS f1, y)])) a (exo a C (some dx))) dx (exd dx [(ofS f2, z), (ofS f1, y)])) a) dx (.xd [(ofS f2, z), (ofS f1, y)]) = upd H1 dx (.xd [(ofS f2, z), (ofS f1, y)]) := by
            funext b
            by_cases h1 : b = dx
            · subst h1; rw [upd_same, upd_same]
            · rw [upd_ne h1, upd_ne h1]
              by_cases h2 : b = a
              · subst h2; rw [del_same]; exact hna.symm
              · rw [del_ne h2, upd_ne h1, upd_ne h2, upd_ne h1, upd_ne h2]
          rw [eH]
          have sm : Same H1 (upd H1 dx (.xd [(ofS f2, z), (ofS f1, y)])) := Same.new hdx
          exact q2 ω2 _ σ _ _ (.same sm) (st2.same sm) ⟨C, dx, [(ofS f2, z), (ofS f1, y)], rfl, rfl, hcl, upd_same, rfl, RPs.keep (same_keeps sm) _ _ r.reverse⟩
    · rw [if_neg hl] at q2
      exact q2.elim
end
end PV

set_option Elab.async false
set_option linter.all false
set_option maxRecDepth 100000
set_option maxHeartbeats 4000000
/-! PvXd: try with several except clauses, each one with a name or without. -/
namespace PV
open PySem L2
/-- behind a suite the exception's name is gone -/
def delE (i : Nat) (D : Ends) : Ends := { nx := fun τ J => D.nx (τ.set i none) J, rt := D.rt, bk := fun τ J => D.bk (τ.set i none) J, ct := fun τ J => D.ct (τ.set i none) J }
abbrev HdT := Value × Option Nat × (Addr → Value → Option Addr → TS)
/-- what the clauses wish of an exception, one behind the other -/
def wHd (K : PySem.W.Frag) (nN : Nat) (W0 : WX) (D : Ends) : List HdT → WX
  | [] => W0
  | hd :: r => fun cls d τ J => ∃ b, PySem.W.exmOne K cls hd.1 = some b ∧ (b = true → ∀ ea, J ea = none → τ.length = nN → match hd.2.1 with
      | none => hd.2.2 ea cls d D τ J
      | some i => hd.2.2 ea cls d (delE i D) (τ.set i (some (.ref ea))) J) ∧ (b = false → wHd K nN W0 D r cls d τ J)
inductive HdOk (X : Cx) : List ExceptHandler → List HdT → Prop
  | nil : HdOk X [] []
  | anon {x : Str} {c : Value} {ts : Addr → Value → Option Addr → TS} {st : Stmt} {sts : List Stmt} {q1 q2 : Pos} {ks : List ExceptHandler} {l : List HdT} (hc : Names X x c)
      (hsu : ∀ (ea : Addr) (oe : Obj) (cls : Value) (d : Option Addr) (pn : List (Addr × Obj)), Zc cls d oe → (∃ vs, oe.data = .fields vs) → PSs (X.suite ea ((ea, oe) :: pn)) (st :: sts) (ts ea cls d)) (r : HdOk X ks l) :
      HdOk X (.ExceptHandler (some (.Name x q1)) none (st :: sts) q2 :: ks) ((c, none, ts) :: l)
  | named {x n : Str} {i : Nat} {c : Value} {ts : Addr → Value → Option Addr → TS} {st : Stmt} {sts : List Stmt} {q1 q2 : Pos} {ks : List ExceptHandler} {l : List HdT} (hi : X.N[i]? = some n) (hln : X.env.kindOf n = some .local) (hc : Names X x c)
      (hsu : ∀ (ea : Addr) (oe : Obj) (cls : Value) (d : Option Addr) (pn : List (Addr × Obj)), Zc cls d oe → (∃ vs, oe.data = .fields vs) → PSs (X.suite ea ((ea, oe) :: pn)) (st :: sts) (ts ea cls d)) (r : HdOk X ks l) :
      HdOk X (.ExceptHandler (some (.Name x q1)) (some n) (st :: sts) q2 :: ks) ((c, some i, ts) :: l)
section
variable {X : Cx} {body : List Stmt} {k₀ : ExceptHandler} {ks : List ExceptHandler} {l : List HdT} {pos : Pos} {tb : WX → TS} {W0 : WX}
theorem ps_try_hds (hst : X.stack = X.env :: X.outer) (hfm : X.env.frame = some X.env.locals) (hnd : X.N.Nodup) (tk : Takes X W0)
    (hb : ∀ (W : WX) (pn : List (Addr × Obj)) (xe : Value → Shared → Prop), Takes (X.tr pn xe) W → PassesOwn (model X.prog X.w) X.A X.env xe → PSs (X.tr pn xe) body (tb W)) (hh : HdOk X (k₀ :: ks) l) :
    PS X (.Try body (k₀ :: ks) [] [] pos) (fun D σ H => tb (wHd X.K X.N.length W0 D l) D σ H) := by
  refine ⟨fun pins s σ H D I hw => ?_⟩
  have okX := I.ok
  have hfr2 : X.A.frames = some (X.env :: X.outer) := okX.frames.trans (congrArg some hst)
  refine wpAny_Try_except (wpAny_mono ((hb (wHd X.K X.N.length W0 D l) (X.pn ++ pins) (fun e s₁ => wpAny (model X.prog X.w) X.A (noteFrame e X.env) (fun _ s₂ => wpAny (model X.prog X.w) X.A (setFlight e none) (fun _ s₃ => wpAny (model X.prog X.w) X.A (handleBy e X.env (k₀ :: ks)) (SP X pins D) X.xe s₃) X.xe s₂) X.xe s₁)
    (fun u s' xx => ?_) PassesOwn.looking).run [] s σ H D (I.toTry _) hw) (fun f s1 hsp => ?_) (fun e s1 z => z))
  · obtain ⟨ea, gr, sB, pinsB, σB, HB, cls, d, rfl, JB, nb, up, sky, na, os, ag, ww⟩ := xx
    have J : Inv X pins σB HB sB := JB.ofTry okX
    have skyX : Sky gr (X.env :: X.outer) ea (Zc cls d) X.env.locals s'.heap := hst ▸ sky
    show wpAny _ X.A (noteFrame (.ref ea) X.env) _ _ _
    refine Sky.land Zc.steady hfr2 hfm skyX fun hA flA upA => ?_
    have JA : Inv X pins σB HB { s' with heap := hA } := J.landed nb flA.1 (up.trans upA) os ag
    obtain ⟨oeA, vsA, heA, hzA, hdA⟩ := flA.there
    have outF : ea ∉ frs (X.env :: X.outer) := fun hm => by
      obtain ⟨_, o1, e1, hnf⟩ := flA.2.2.1.mem hm
      rw [heA] at e1; cases e1
      exact hnf _ hdA
    have nLoc : ea ≠ X.env.locals := fun z => outF (List.mem_filterMap.mpr ⟨X.env, .head _, by rw [hfm, z]⟩)
    have nFrs : ea ∉ X.fs := fun hm => by
      obtain ⟨e1, he1, q1⟩ := List.mem_filterMap.mp hm
      exact outF (List.mem_filterMap.mpr ⟨e1, .tail _ he1, q1⟩)
    have SA := JA.suite heA hdA na nLoc nFrs
    have LT : PySem.W.Looks (model X.prog X.w) hA (typeOf (.ref ea)) cls := fun A Q E s kq q => wpAny_typeOf_ref (kq _ _ heA) (by rw [hzA.1]; exact q)
    have asked : ∀ {x : Str} {c : Value} {q1 : Pos} {Q E : Value → Shared → Prop}, Names X x c → Q c { s' with heap := hA } → wpAny (model X.prog X.w) (X.A.mark (some (.ref ea))) (eval (.Name x q1) X.env) Q E { s' with heap := hA } := fun {x c q1 Q E} hc q => by
      obtain ⟨g1, g2, g3 | ⟨g3, g4, g5⟩⟩ := hc
      · exact ld_glob (X := X.suite ea ((ea, oeA) :: (X.pn ++ pins))) SA g1 g3 q g2
      · exact ld_blt (X := X.suite ea ((ea, oeA) :: (X.pn ++ pins))) SA g1 g3 g4 q g5 g2
    have go : ∀ {ks' : List ExceptHandler} {l' : List HdT}, HdOk X ks' l' → wHd X.K X.N.length W0 D l' cls d σB HB → wpAny (model X.prog X.w) X.A (handleBy (.ref ea) X.env ks') (SP X pins D) X.xe { s' with heap := hA } := by
      intro ks' l' hk
      induction hk with
      | nil =>
        intro ww
        refine wpAny_handleBy_nil ?_
        obtain ⟨_, _, _, oe, vs, T, oT, ts', he, hz, hd, h1, hr⟩ := id flA
        unfold PySem.passOn
        refine wpAny_bind (wpAny_field he hd h1 ?_)
        rw [if_neg (show ¬ ((Value.ref T == Value.none) = true) by simp)]
        have last : wpAny (model X.prog X.w) X.A (setFlight (.ref ea) X.env.frame) (fun _ s4 => wpAny (model X.prog X.w) X.A (throw (.ref ea) : Sem Flow) (SP X pins D) X.xe s4) X.xe { s' with heap := hA } := by
          rw [hfm]
          exact HandSPX.setFlight_upZ flA fun hB hhB upB => wpAny_throw (tk _ _ ⟨ea, gr, sB, pins, σB, HB, cls, d, rfl, J, nb, (up.trans upA).trans upB, .inr (.inr (hst.symm ▸ hhB)), na, os, ag, ww⟩)
        first
          | exact wpAny_bind (wpAny_pure (wpAny_bind last))
          | exact wpAny_bind last
      | @anon x c ts st sts q1 q2 ks2 l2 hc hsu r ih =>
        intro ww
        obtain ⟨b, hb1, hyes, hno⟩ := ww
        refine wpAny_handleBy_cons (codeAny_handlers_test (asked hc ((PySem.W.exm_one (M := model X.prog X.w) JA.kIn LT hb1).here ?_))) (by intro q; cases q)
        cases b with
        | false => exact ih (hno rfl)
        | true =>
          refine codeAny_handlers_suite (HandSPX.lands_againZ flA fun hB flB upB => ?_)
          have JB2 : Inv X pins σB HB { s' with heap := hB } := J.landed nb flB.1 ((up.trans upA).trans upB) os ag
          obtain ⟨oeB, vsB, heB, hzB, hdB⟩ := flB.there
          have SB := JB2.suite heB hdB na nLoc nFrs
          refine wpAny_mono ((hsu ea oeB cls d (X.pn ++ pins) hzB ⟨_, hdB⟩).run [] _ _ HB _ SB (hyes rfl ea na J.len)) (fun f s6 hsp => ?_) (fun _ _ z => z.elim)
          cases f with
          | next => obtain ⟨τ, J6, S6, q6⟩ := hsp; exact ⟨_, _, S6.unsuite okX, q6⟩
          | brk => obtain ⟨τ, J6, S6, q6⟩ := hsp; exact ⟨_, _, S6.unsuite okX, q6⟩
          | cont => obtain ⟨τ, J6, S6, q6⟩ := hsp; exact ⟨_, _, S6.unsuite okX, q6⟩
          | ret u => obtain ⟨v6, τ, J6, S6, r6, q6⟩ := hsp; exact ⟨_, _, _, S6.unsuite okX, r6, q6⟩
      | @named x n i c ts st sts q1 q2 ks2 l2 hi hln hc hsu r ih =>
        intro ww
        obtain ⟨b, hb1, hyes, hno⟩ := ww
        refine wpAny_handleBy_cons (codeAny_handlers_test (asked hc ((PySem.W.exm_one (M := model X.prog X.w) JA.kIn LT hb1).here ?_))) (by intro q; cases q)
        cases b with
        | false => exact ih (hno rfl)
        | true =>
          refine codeAny_handlers_suite_as (HandSPX.lands_againZ flA fun hB flB upB => ?_)
          have JB2 : Inv X pins σB HB { s' with heap := hB } := J.landed nb flB.1 ((up.trans upA).trans upB) os ag
          obtain ⟨oeB, vsB, heB, hzB, hdB⟩ := flB.there
          have SB := JB2.suite heB hdB na nLoc nFrs
          refine store_ok (X := X.suite ea ((ea, oeB) :: (X.pn ++ pins))) (v := .ref ea) SB hnd hi (.inl hln) rfl (fun s5 S5 => ?_) (.inr hln)
          refine wpAny_mono ((hsu ea oeB cls d (X.pn ++ pins) hzB ⟨_, hdB⟩).run [] s5 _ HB _ S5 (hyes rfl ea na J.len)) (fun f s6 hsp => ?_) (fun _ _ z => z.elim)
          have away : ∀ {τ : L2.St} {J6 : Hp} {Q : Shared → Prop}, Inv (X.suite ea ((ea, oeB) :: (X.pn ++ pins))) [] τ J6 s6 → (∀ s7, Inv X pins (τ.set i none) J6 s7 → Q s7) → wpAny (model X.prog X.w) X.A (do bindName X.env n .none; unbindBehindTheSuite X.env n q2) (fun _ s7 => Q s7) X.xe s6 :=
            fun {τ J6 Q} S6 hq => gone_ok (S6.unsuite okX) hnd hi hln hq
          cases f with
          | next => obtain ⟨τ, J6, S6, q6⟩ := hsp; exact away S6 fun s7 J7 => ⟨_, _, J7, q6⟩
          | brk => obtain ⟨τ, J6, S6, q6⟩ := hsp; exact away S6 fun s7 J7 => ⟨_, _, J7, q6⟩
          | cont => obtain ⟨τ, J6, S6, q6⟩ := hsp; exact away S6 fun s7 J7 => ⟨_, _, J7, q6⟩
          | ret u => obtain ⟨v6, τ, J6, S6, r6, q6⟩ := hsp; exact away S6 fun s7 J7 => ⟨_, _, _, J7, r6, q6⟩
    exact go hh ww
  · cases f with
    | next => obtain ⟨τ, J6, S6, q6⟩ := hsp; exact wpAny_execs_nil ⟨τ, J6, S6.ofTry okX, q6⟩
    | brk => obtain ⟨τ, J6, S6, q6⟩ := hsp; exact ⟨τ, J6, S6.ofTry okX, q6⟩
    | cont => obtain ⟨τ, J6, S6, q6⟩ := hsp; exact ⟨τ, J6, S6.ofTry okX, q6⟩
    | ret u => obtain ⟨v6, τ, J6, S6, r6, q6⟩ := hsp; exact ⟨v6, τ, J6, S6.ofTry okX, r6, q6⟩
end
end PV

set_option Elab.async false
set_option linter.all false
set_option maxRecDepth 100000
set_option maxHeartbeats 4000000
/-! PvXe: try .. except on data. -/
namespace PV
open PySem L2
/-- what stands in an except suite's row: a constant, a field of the error -/
inductive It where
  | c (x : P)
  | f (n : String)
def constV : P → Option V
  | .non => some .non
  | .bl b => some (.bl b)
  | .int i => some (.int i)
  | .str x => some (.str x)
  | _ => none
def itV (b : Bool) (ns : List String) (vs : List P) : It → Option P
  | .c x => (constV x).map fun _ => x
  | .f n => if b = true then lookF n ns vs else none
def itVs (b : Bool) (ns : List String) (vs : List P) : List It → Option (List P)
  | [] => some []
  | t :: ts => (itV b ns vs t).bind fun x => (itVs b ns vs ts).map fun xs => x :: xs
inductive Act where
  /-- j = (..) -/
  | set (j : Nat) (its : List It)
  | ret (its : List It)
  | retL (its : List It)
  | one (it : It)
structure Hd where
  cls : String
  slot : Option Nat
  act : Act
def offE (o : Option Nat) (σ : Env) : Env := match o with
  | none => σ
  | some i => σ.set i none
def actR (b : Bool) (a : Act) (ns : List String) (vs : List P) (σ : Env) : RS := match a with
  | .set j its => (match itVs b ns vs its with
    | some xs => if xs.length ≤ sizeLine then .next (σ.set j (some (.p (.tup xs)))) else .stuck
    | none => .stuck)
  | .ret its => (match itVs b ns vs its with
    | some xs => if xs.length ≤ sizeLine then .ret (.p (.tup xs)) σ else .stuck
    | none => .stuck)
  | .retL its => (match itVs b ns vs its with
    | some xs => if xs.length ≤ sizeLine then .ret (.p (.lst xs)) σ else .stuck
    | none => .stuck)
  | .one it => (match itV b ns vs it with
    | some x => .ret (.p x) σ
    | none => .stuck)
def hand (sb : String → String → Option Bool) : List Hd → String → List String → List P → Env → RS
  | [], c, ns, vs, σ => .exc c ns vs σ
  | h :: r, c, ns, vs, σ => match sb c h.cls with
    | some true => if c = h.cls then actR h.slot.isSome h.act ns vs (offE h.slot σ) else .stuck
    | some false => hand sb r c ns vs σ
    | none => .stuck
def mTry (sb : String → String → Option Bool) (mb : MS) (hds : List Hd) : MS := fun σ => match mb σ with
  | .exc c ns vs σ1 => hand sb hds c ns vs σ1
  | r => r
/-- their readings -/
def tIt (oi : Option Nat) (C ea : Addr) (cls : Value) (d : Option Addr) : It → TE
  | .c x => fun _ H Q => ∃ v, constV x = some v ∧ Q v H
  | .f n => match oi with
    | some i => tXf ea cls d C (ofS n) (tVar i)
    | none => fun _ _ _ => False
def tIts (oi : Option Nat) (C ea : Addr) (cls : Value) (d : Option Addr) : List It → TA
  | [] => tNil
  | t :: ts => tCons (tIt oi C ea cls d t) (tIts oi C ea cls d ts)
def tAct (oi : Option Nat) (C : Addr) (a : Act) (ea : Addr) (cls : Value) (d : Option Addr) : TS := match a with
  | .set j its => tAsg (tTup (tIts oi C ea cls d its)) (gName j)
  | .ret its => tRet (tTup (tIts oi C ea cls d its))
  | .retL its => tRet (tLst (tIts oi C ea cls d its))
  | .one it => tRet (tIt oi C ea cls d it)
section
variable {g : G} {ω : Om} {H : Hp} {σD : Env} {σ : L2.St}
theorem Sta.off (st : Sta g ω H σD σ) {i : Nat} (x : Option V) (hi : i ∉ g.io) : Sta g ω H (σD.set i none) (σ.set i x) where
  len := by rw [List.length_set, List.length_set]; exact st.len
  rd := fun j d e => by
    rcases set_get e with ⟨e1, e2, e3⟩ | ⟨e1, e2⟩
    · cases e2
    · rw [List.getElem?_set_ne e1]
      exact st.rd j d e2
  par := fun j w hj hw => by
    rw [List.getElem?_set_ne (by rintro rfl; exact hi hj)]
    exact st.par j w hj hw
  dom := st.dom
theorem const_rp {K : PySem.W.Frag} {cl : String → Option Addr} {N : Addr → Prop} {x : P} {v : V} (h : constV x = some v) : RP K cl H N x v := by
  cases x <;> cases h
  · exact .non
  · exact .bl _
  · exact .int _
  · exact .str _
theorem lookup_of {fs : List (Str × V)} {f : Str} {v : V} : ∀ {j : Nat}, (fs.map (·.1)).Nodup → fs[j]? = some (f, v) → fs.lookup f = some v := by
  induction fs with
  | nil => intro j _ h; simp at h
  | cons p fs ih =>
    intro j nd h
    obtain ⟨q, u⟩ := p
    rw [List.map_cons, List.nodup_cons] at nd
    rw [List.lookup_cons]
    cases j with
    | zero => simp at h; obtain ⟨rfl, rfl⟩ := h; simp
    | succ j =>
      have h' : fs[j]? = some (f, v) := by simpa using h
      have : ¬ f = q := fun e => nd.1 (List.mem_map.mpr ⟨(f, v), List.mem_of_getElem? h', e⟩)
      rw [show (f == q) = false by simpa using this]
      exact ih nd.2 h'
theorem its_ok {C ea dx : Addr} {fs : List (Str × V)} {ns : List String} {vs : List P} {τ : L2.St} {oi : Option Nat} (hd : H dx = some (.xd fs)) (hn : fs.map (·.1) = ns.map ofS) (hr : RPs g.K g.cl H (Fr ω) vs (fs.map (·.2))) (hτ : ∀ i, oi = some i → τ[i]? = some (some (.ref ea))) :
    (∀ {it : It} {x : P} {Q : VK}, itV oi.isSome ns vs it = some x → (∀ u, RP g.K g.cl H (Fr ω) x u → Q u H) → tIt oi C ea (.ref C) (some dx) it τ H Q) ∧
    ∀ {its : List It} {xs : List P} {Q : List V → Hp → Prop}, itVs oi.isSome ns vs its = some xs → (∀ us, RPs g.K g.cl H (Fr ω) xs us → Q us H) → tIts oi C ea (.ref C) (some dx) its τ H Q := by
  have one : ∀ {it : It} {x : P} {Q : VK}, itV oi.isSome ns vs it = some x → (∀ u, RP g.K g.cl H (Fr ω) x u → Q u H) → tIt oi C ea (.ref C) (some dx) it τ H Q := by
    intro it x Q e q
    cases it with
    | c y =>
      obtain ⟨v, ev, rfl⟩ := Option.map_eq_some_iff.mp (show (constV y).map (fun _ => y) = some x from e)
      exact ⟨v, ev, q v (const_rp ev)⟩
    | f n =>
      cases oi with
      | none => cases (show (if false = true then lookF n ns vs else none) = some x from e)
      | some i =>
        have e : lookF n ns vs = some x := by simpa [itV] using e
        obtain ⟨v, h1, h2⟩ := lookF_ok hn hr e
        exact ⟨_, hτ i rfl, rfl, rfl, dx, fs, v, rfl, hd, h1, q v h2⟩
  refine ⟨one, ?_⟩
  intro its
  induction its with
  | nil => intro xs Q e q; cases e; exact q [] .nil
  | cons t ts ih =>
    intro xs Q e q
    obtain ⟨x, e1, e⟩ := Option.bind_eq_some_iff.mp (show (itV oi.isSome ns vs t).bind _ = some xs from e)
    obtain ⟨ys, e2, rfl⟩ := Option.map_eq_some_iff.mp e
    exact one e1 fun u ru => ih e2 fun us rus => q (u :: us) (.cons ru rus)
end
def actOk (g : G) (o : Option Nat) (a : Act) : Prop := match a with
  | .set j _ => j ∉ g.io ∧ o ≠ some j
  | _ => True
inductive HdD (X : Cx) (g : G) : ExceptHandler → Hd → Prop
  | anon {x : Str} {c : String} {C : Addr} {act : Act} {st : Stmt} {sts : List Stmt} {q1 q2 : Pos} (hc : Names X x (.ref C)) (hcl : g.cl c = some C) (ha : actOk g none act)
      (hsu : ∀ (ea : Addr) (oe : Obj) (cls : Value) (d : Option Addr) (pn : List (Addr × Obj)), Zc cls d oe → (∃ vs, oe.data = .fields vs) → PSs (X.suite ea ((ea, oe) :: pn)) (st :: sts) (tAct none C act ea cls d)) :
      HdD X g (.ExceptHandler (some (.Name x q1)) none (st :: sts) q2) ⟨c, none, act⟩
  | named {x n : Str} {i : Nat} {c : String} {C : Addr} {act : Act} {st : Stmt} {sts : List Stmt} {q1 q2 : Pos} (hi : X.N[i]? = some n) (hln : X.env.kindOf n = some .local) (hio : i ∉ g.io) (hc : Names X x (.ref C)) (hcl : g.cl c = some C) (ha : actOk g (some i) act)
      (hsu : ∀ (ea : Addr) (oe : Obj) (cls : Value) (d : Option Addr) (pn : List (Addr × Obj)), Zc cls d oe → (∃ vs, oe.data = .fields vs) → PSs (X.suite ea ((ea, oe) :: pn)) (st :: sts) (tAct (some i) C act ea cls d)) :
      HdD X g (.ExceptHandler (some (.Name x q1)) (some n) (st :: sts) q2) ⟨c, some i, act⟩
inductive HdsD (X : Cx) (g : G) : List ExceptHandler → List Hd → Prop
  | nil : HdsD X g [] []
  | cons {k : ExceptHandler} {h : Hd} {ks : List ExceptHandler} {hs : List Hd} (hk : HdD X g k h) (r : HdsD X g ks hs) : HdsD X g (k :: ks) (h :: hs)
def mkT (g : G) (h : Hd) : HdT := (.ref ((g.cl h.cls).getD 0), h.slot, tAct h.slot ((g.cl h.cls).getD 0) h.act)
theorem HdsD.ok {X : Cx} {g : G} {ks : List ExceptHandler} {hs : List Hd} (h : HdsD X g ks hs) : HdOk X ks (hs.map (mkT g)) := by
  induction h with
  | nil => exact .nil
  | cons hk r ih =>
    cases hk with
    | anon hc hcl ha hsu =>
      refine .anon (by show Names X _ (.ref ((g.cl _).getD 0)); rw [hcl]; exact hc) ?_ ih
      rw [hcl]; exact hsu
    | named hi hln hio hc hcl ha hsu =>
      refine .named hi hln (by show Names X _ (.ref ((g.cl _).getD 0)); rw [hcl]; exact hc) ?_ ih
      rw [hcl]; exact hsu
section
variable {X : Cx} {g : G} {sb : String → String → Option Bool}
theorem act_ok {C ea dx : Addr} {fs : List (Str × V)} {ns : List String} {vs : List P} {act : Act} {oi : Option Nat} {ω : Om} {H : Hp} {σD : Env} {σ : L2.St} {D : Ends} (hd : H dx = some (.xd fs)) (hn : fs.map (·.1) = ns.map ofS) (hr : RPs g.K g.cl H (Fr ω) vs (fs.map (·.2)))
    (ha : actOk g oi act) (hio : ∀ i, oi = some i → i ∉ g.io ∧ i < σ.length) (st : Sta g ω H σD σ) (h : PostS g ω H (actR oi.isSome act ns vs (offE oi σD)) D) :
    match oi with
    | none => tAct none C act ea (.ref C) (some dx) D σ H
    | some i => tAct (some i) C act ea (.ref C) (some dx) (delE i D) (σ.set i (some (.ref ea))) H := by
  have main : ∀ (τ : L2.St) (D' : Ends), (∀ i, oi = some i → τ[i]? = some (some (.ref ea))) → (∀ u J, D.rt u J → D'.rt u J) →
      (∀ (j : Nat) (xs : List P) (p : Addr) (us : List V), act = .set j [] ∨ True → j ∉ g.io → oi ≠ some j → H p = none → RPs g.K g.cl H (Fr ω) xs us → (∀ ω' J τ', Step ω H ω' J → Sta g ω' J ((offE oi σD).set j (some (.p (.tup xs)))) τ' → D.nx τ' J) → D'.nx (τ.set j (some (.ref p))) (upd H p (.tup us))) →
      tAct oi C act ea (.ref C) (some dx) D' τ H := by
    intro τ D' hτ hrt hnx
    obtain ⟨ok1, okN⟩ := its_ok (C := C) (τ := τ) (oi := oi) (ea := ea) hd hn hr hτ
    have stO : Sta g ω H (offE oi σD) (match oi with | none => σ | some i => σ.set i none) := by
      cases oi with
      | none => exact st
      | some i => exact st.off none (hio i rfl).1
    cases act with
    | set j its =>
      unfold actR at h
      cases e : itVs oi.isSome ns vs its with
      | none => simp only [e] at h; exact h.elim
      | some xs =>
        simp only [e] at h
        by_cases hl : xs.length ≤ sizeLine
        · rw [if_pos hl] at h
          refine okN e fun us rus => ⟨by rw [← rus.length]; exact hl, fun p hp => ?_⟩
          exact hnx j xs p us (.inr trivial) ha.1 ha.2 hp rus h
        · rw [if_neg hl] at h; exact h.elim
    | ret its =>
      unfold actR at h
      cases e : itVs oi.isSome ns vs its with
      | none => simp only [e] at h; exact h.elim
      | some xs =>
        simp only [e] at h
        by_cases hl : xs.length ≤ sizeLine
        · rw [if_pos hl] at h
          refine okN e fun us rus => ⟨by rw [← rus.length]; exact hl, fun p hp => hrt _ _ ?_⟩
          have sm : Same H (upd H p (.tup us)) := Same.new hp
          exact h ω _ _ _ (.same sm) (stO.same sm) (.p (.tup upd_same (RPs.keep (same_keeps sm) _ _ rus)))
        · rw [if_neg hl] at h; exact h.elim
    | retL its =>
      unfold actR at h
      cases e : itVs oi.isSome ns vs its with
      | none => simp only [e] at h; exact h.elim
      | some xs =>
        simp only [e] at h
        by_cases hl : xs.length ≤ sizeLine
        · rw [if_pos hl] at h
          refine okN e fun us rus => ⟨by rw [← rus.length]; exact hl, fun p hp => hrt _ _ ?_⟩
          have sm : Same H (upd H p (.lst us)) := Same.new hp
          exact h ω _ _ _ (.same sm) (stO.same sm) (.p (.lst upd_same (st.dom.fresh hp) (RPs.keep (same_keeps sm) _ _ rus)))
        · rw [if_neg hl] at h; exact h.elim
    | one it =>
      unfold actR at h
      cases e : itV oi.isSome ns vs it with
      | none => simp only [e] at h; exact h.elim
      | some x =>
        simp only [e] at h
        exact ok1 e fun u ru => hrt _ _ (h ω H _ _ .refl stO (.p ru))
  cases oi with
  | none =>
    refine main σ D (fun i e => by cases e) (fun _ _ z => z) fun j xs p us _ hj _ hp rus q => ?_
    have sm : Same H (upd H p (.tup us)) := Same.new hp
    exact q ω _ _ (.same sm) ((st.same sm).setP hj (.tup upd_same (RPs.keep (same_keeps sm) _ _ rus)))
  | some i =>
    obtain ⟨hi, hil⟩ := hio i rfl
    refine main _ (delE i D) (fun k e => by cases e; exact set_lt hil) (fun _ _ z => z) fun j xs p us _ hj hne hp rus q => ?_
    have sm : Same H (upd H p (.tup us)) := Same.new hp
    have hij : i ≠ j := fun e => hne (by rw [e])
    have e1 : ((σ.set i (some (.ref ea))).set j (some (.ref p))).set i none = (σ.set i none).set j (some (.ref p)) := by
      rw [List.set_comm _ _ hij, List.set_set]
      exact (List.set_comm _ _ hij).symm
    show D.nx (((σ.set i (some (.ref ea))).set j (some (.ref p))).set i none) _
    rw [e1]
    exact q ω _ _ (.same sm) (((st.same sm).off none hi).setP hj (.tup upd_same (RPs.keep (same_keeps sm) _ _ rus)))
theorem hand_ok (hsb : ∀ c c' b C C', sb c c' = some b → g.cl c = some C → g.cl c' = some C' → PySem.W.exmOne g.K (.ref C) (.ref C') = some b) {ks : List ExceptHandler} {hs : List Hd} (hh : HdsD X g ks hs) {c : String} {ns : List String} {vs : List P} {ω : Om} {H : Hp} {σD : Env} {σ : L2.St} {D : Ends} {C : Value} {d : Option Addr}
    (st : Sta g ω H σD σ) (ex : EX g ω H c ns vs C d) (h : PostS g ω H (hand sb hs c ns vs σD) D) : wHd g.K X.N.length g.Ω D (hs.map (mkT g)) C d σ H := by
  obtain ⟨C0, dx, fs, rfl, rfl, hC, hdx, hn, hr⟩ := id ex
  induction hh with
  | nil => exact h ω H σ _ _ .refl st ex
  | @cons k h1 ks hs hk r ih =>
    unfold hand at h
    have hcl : ∃ C1, g.cl h1.cls = some C1 := by
      cases hk with
      | anon _ hcl _ _ => exact ⟨_, hcl⟩
      | named _ _ _ _ hcl _ _ => exact ⟨_, hcl⟩
    obtain ⟨C1, hcl⟩ := hcl
    cases e : sb c h1.cls with
    | none => simp only [e] at h; exact h.elim
    | some b =>
      refine ⟨b, ?_, fun hb ea hna hlen => ?_, fun hb => ?_⟩
      · show PySem.W.exmOne g.K (.ref C0) (.ref ((g.cl h1.cls).getD 0)) = some b
        rw [hcl]
        exact hsb _ _ _ _ _ e hC hcl
      · subst hb
        simp only [e] at h
        by_cases hc : c = h1.cls
        · rw [if_pos hc] at h
          have hCC : C1 = C0 := by rw [hc] at hC; rw [hC] at hcl; exact (Option.some.inj hcl).symm
          subst hCC
          cases hk with
          | @anon x c1 C2 act st1 sts q1 q2 hcn hcl2 ha hsu =>
            have := act_ok (g := g) (C := C1) (ea := ea) (oi := none) hdx hn hr ha (fun i e => by cases e) st h
            show tAct none ((g.cl c1).getD 0) act ea (.ref C1) (some dx) D σ H
            rw [hcl]; exact this
          | @named x n i c1 C2 act st1 sts q1 q2 hi hln hio hcn hcl2 ha hsu =>
            have hil : i < σ.length := by rw [hlen]; exact (List.getElem?_eq_some_iff.mp hi).1
            have := act_ok (g := g) (C := C1) (ea := ea) (oi := some i) hdx hn hr ha (fun j e => by cases e; exact ⟨hio, hil⟩) st h
            show tAct (some i) ((g.cl c1).getD 0) act ea (.ref C1) (some dx) (delE i D) (σ.set i (some (.ref ea))) H
            rw [hcl]; exact this
        · rw [if_neg hc] at h; exact h.elim
      · subst hb
        simp only [e] at h
        exact ih h
theorem ds_try {body : List Stmt} {k₀ : ExceptHandler} {ks : List ExceptHandler} {hs : List Hd} {mb : MS} {pos : Pos} (hst : X.stack = X.env :: X.outer) (hfm : X.env.frame = some X.env.locals) (hnd : X.N.Nodup) (tk : Takes X g.Ω) (hK : g.K = X.K)
    (hsb : ∀ c c' b C C', sb c c' = some b → g.cl c = some C → g.cl c' = some C' → PySem.W.exmOne g.K (.ref C) (.ref C') = some b)
    (hb : ∀ (W : WX) (pn : List (Addr × Obj)) (xe : Value → Shared → Prop), Takes (X.tr pn xe) W → PassesOwn (model X.prog X.w) X.A X.env xe → PSs (X.tr pn xe) body (tS { g with Ω := W } mb)) (hh : HdsD X g (k₀ :: ks) hs) : PS X (.Try body (k₀ :: ks) [] [] pos) (tS g (mTry sb mb hs)) :=
  ps_weak (ps_try_hds hst hfm hnd tk hb hh.ok) fun D σ H h => by
    obtain ⟨ω, σD, st, q⟩ := h
    refine ⟨ω, σD, ⟨st.len, st.rd, st.par, st.dom⟩, ?_⟩
    unfold mTry at q
    cases e : mb σD with
    | exc c ns vs σ1 =>
      rw [e] at q
      intro ω' H' σ' C d s st' ex
      rw [← hK]
      exact hand_ok hsb hh ⟨st'.len, st'.rd, st'.par, st'.dom⟩ ex (PostS.shift s q)
    | next σ1 => rw [e] at q; exact fun ω' H' σ' s st' => q ω' H' σ' s ⟨st'.len, st'.rd, st'.par, st'.dom⟩
    | brk σ1 => rw [e] at q; exact fun ω' H' σ' s st' => q ω' H' σ' s ⟨st'.len, st'.rd, st'.par, st'.dom⟩
    | cont σ1 => rw [e] at q; exact fun ω' H' σ' s st' => q ω' H' σ' s ⟨st'.len, st'.rd, st'.par, st'.dom⟩
    | ret dd σ1 => rw [e] at q; exact fun ω' H' σ' v s st' r => q ω' H' σ' v s ⟨st'.len, st'.rd, st'.par, st'.dom⟩ r
    | stuck => rw [e] at q; exact q.elim
/-- an except suite's items -/
theorem it_c {Y : Cx} {e : Expr} {v : V} {x : P} {oi : Option Nat} {C ea : Addr} {cls : Value} {d : Option Addr} (h : PE Y e (tC v)) (hv : constV x = some v) : PE Y e (tIt oi C ea cls d (.c x)) := pe_weak h fun σ H Q z => by
  obtain ⟨u, e1, q⟩ := z
  rw [hv] at e1; cases e1
  exact q
end
end PV

set_option Elab.async false
set_option linter.all false
set_option maxRecDepth 100000
set_option maxHeartbeats 4000000
/-! PvXf: a lambda handed to a def; what becomes of the table. -/
namespace PV
open PySem L2 PyProof.Rows LamX
/-- the table at P has grown by one code object, or has not -/
def Grow (H : Hp) (P : Addr) (q : Str) (H1 : Hp) : Prop := H1 = H ∨ ∃ (ps : Array Value) (pos : Pos) (cn : Addr), H P = some (.tbl ps) ∧ H cn = none ∧ H1 = upd (upd H P (.tbl (ps ++ #[rawInt pos.line, rawInt pos.col, .ref cn]))) cn (CodeO cn q)
section
variable {X : Cx} {pins : List (Addr × Obj)} {σ : L2.St} {H : Hp} {s : Shared}
theorem lam_make3 {c P : Addr} {params : Arguments} {body : Expr} {scope : Scope} {pos : Pos} {E : Value → Shared → Prop} {Q : Value → Shared → Prop} (I : Inv X pins σ H s) (TB : TabB X.base X.mg c P) (hcode : X.env.code = .ref c) (hT : TabS H P (X.env.qual ++ "<lambda>"))
    (hdef : defaultsOf params X.env = ([], [])) (hfree : ∀ y ∈ scope.names, y.2 = .free → ∃ c, X.env.cells.lookup y.1 = some c)
    (h : ∀ (f cn : Addr) (pm ctv : Value) (H1 : Hp) (s' : Shared), Inv X pins σ H1 s' → Grow H P (X.env.qual ++ "<lambda>") H1 → s'.heap.get? f = some (PySem.W.kla_obj "<lambda>" (X.env.qual ++ "<lambda>") params body scope (cloFrom X.env.cells scope.names []) pm cn ctv) → H1 f = none → f ∉ frs X.stack →
      H1 cn = some (CodeO cn (X.env.qual ++ "<lambda>")) → Q (.ref f) s') : wpAny (model X.prog X.w) X.A (eval (.Lambda params body scope pos) X.env) Q E s := by
  obtain ⟨ps, eP, trip, codes⟩ := hT
  have builtP : s.heap.BuiltinsAt X.mg P := TB.bm.keeps I.bk
  have getP : s.heap.get? P = some { cls := .none, data := .fields ps } := I.hok P _ eP
  have offF : ∀ f, s.heap.objs.size ≤ f → f ∉ frs X.stack := fun f hf z => by
    rcases List.mem_cons.mp (I.stkSub _ z) with e | e
    · exact absurd I.lt (Nat.not_lt.mpr (e ▸ hf))
    · exact I.nofs hf e
  refine PySem.W.kla_eval hdef ?_
  cases hc : codeAmong pos ps.toList with
  | some cv =>
    obtain ⟨cn, rfl, hco⟩ := codes pos cv hc
    refine PySem.W.kla_makeFunctionHit (mg := X.mg) (c := c) (P := P) (ps := ps) (closure_ok hfree) I.ok.glob (I.mod.glob.keeps I.bk) hcode (TB.code.keeps I.bk) getP trip hc builtP fun ctv hn tk hx hsz => ?_
    exact h hn.objs.size cn _ ctv H _ (I.kept fun b o e => Heap.get?_push_of_some _ (hx b o e)) (.inl rfl) (Heap.get?_push_size _ rfl) (I.hok.fresh hsz) (offF _ hsz) hco
  | none =>
    refine PySem.W.kla_makeFunction (mg := X.mg) (c := c) (P := P) (ps := ps) (closure_ok hfree) I.ok.glob (I.mod.glob.keeps I.bk) hcode (TB.code.keeps I.bk) getP trip hc TB.gP builtP fun cn ctv hn tk hx hge hlt hrec htb => ?_
    obtain ⟨c2, oc, vs, t, e2, hoc, hd, hv⟩ := hrec
    cases e2
    have hsz := Nat.le_trans hge (Nat.le_of_lt hlt)
    have freshC : H cn = none := I.hok.fresh hge
    refine h hn.objs.size cn _ ctv _ _ (inv_table (t' := tk) (more := #[rawInt pos.line, rawInt pos.col, .ref cn]) I eP (fun b o hb e => Heap.get?_push_of_some _ (hx b o hb e)) (Heap.get?_push_of_some _ htb) hge ⟨oc, vs, t, Heap.get?_push_of_some _ hoc, hd, hv⟩)
      (.inr ⟨ps, pos, cn, eP, freshC, rfl⟩) (Heap.get?_push_size _ rfl) ?_ (offF _ hsz) upd_same
    have d1 : hn.objs.size ≠ cn := Nat.ne_of_gt hlt
    have d2 : hn.objs.size ≠ P := fun e => absurd (Heap.lt_size getP) (Nat.not_lt.mpr (e ▸ hsz))
    rw [upd_ne d1, upd_ne d2]
    exact I.hok.fresh hsz
def tLam3 (P : Addr) (q : Str) (TT : (XK → Hp → VK → Prop) → Hp → VK → Prop) (t : XK → TE) : TE := fun σ H Q => TabS H P q ∧ ∀ H1, Grow H P q H1 → TT (fun E J R => t E σ J R) H1 Q
theorem pe_lamcall3 {TT : (XK → Hp → VK → Prop) → Hp → VK → Prop} {x a : Str} {g c P : Addr} {k : Nat} {pg : Arguments} {bg : List Stmt} {sg : Scope} {dV kV doc pm cdv ct oc : Value} {an od : Option Addr} {osl : Array (Option Value)} {Ng : List Str} {params : Arguments} {body : Expr} {scope : Scope} {t : XK → TE} {p lpos pos : Pos}
    (hg : Gl X x) (hm : X.mg x = some (.ref g)) (hk : PySem.W.keepIn X.K (.ref g) = true) (lk : X.K.lookup g = some ⟨oc, od, .func (PySem.W.fnOf x x pg bg sg dV kV doc pm an cdv ct), osl⟩) (hcg : PySem.W.codeIn X.K cdv x = true)
    (hb : L2.Binds X.K (PySem.W.fnOf x x pg bg sg dV kV doc pm an cdv ct) [a] []) (Sg : FnScope Ng [a] sg) (hNg : Ng[0]? = some a) (hva : Vis sg a) (hG : GivesTo X Ng x sg g cdv bg a (X.env.qual ++ "<lambda>") TT) (TB : TabB X.base X.mg c P) (hcode : X.env.code = .ref c)
    (hr : Room (k + 2) X.A) (L : LamS X.env.scope scope) (hdef : defaultsOf params X.env = ([], [])) (hbind : ∀ (q : Str) (cl : List (Str × Addr)) (pm cv ctv : Value), bindArgs (PySem.W.kla_fn "<lambda>" q params body scope cl pm cv ctv) ⟨[], []⟩ = pure [])
    (hbody : ∀ (A : Around) (outer : List PySem.Env) (s : Shared) (H : Hp) (E : XK) (f cn : Addr), Room k (A.deeper (lamEnv X scope s.heap.objs.size f cn)) → PE (lamCx X A outer s H E scope f cn) body (t E))
    (hdb : (x == ("__debug__" : Str)) = false := by decide) (hd : (a == ("__debug__" : Str)) = false := by decide) (hcd : (a == ("__classdict__" : Str)) = false := by decide) : PE X (.Call (.Name x p) [.Lambda params body scope lpos] [] pos) (tLam3 P (X.env.qual ++ "<lambda>") TT t) := by
  refine ⟨fun pins s σ H Q I ⟨hT, hq⟩ => ?_⟩
  refine wpAny_Call_Name_kw (ld_glob I hg hm (PySem.W.callWith_K (h₀ := X.base) I.ok.mod.kin hk ?_ (by rfl) (by rfl)) hdb)
  show wpAny _ _ (spliced ((false, eval (.Lambda params body scope lpos) X.env) :: backTo pos (starEach [] X.env))) _ _ s
  refine Calls.spliced_cons (lam_make3 I TB hcode hT hdef (L.has I.ok) fun f cn pm' ctv H1 s1 I1 gr hf hfn hfr hco => Calls.spliced_nil ⟨I1.kIn, ?_⟩)
  have rc : codeAny (model X.prog X.w) X.A (.call (.ref g) ⟨[.ref f], []⟩) (CR C8.CX0 X.stack X.prog X.w H1 s1 Q C8.E0) s1 :=
    run_ofS (N := Ng) (ps := [a]) (us := [.ref f]) (vs := [.ref f]) lk hcg Sg hr I1.env0 (hb s1 [.ref f] I1.kIn rfl) (.cons rfl .nil) rfl fun hr' => by
      obtain ⟨t', ht', hq'⟩ := hG f cn s1 H1 Q (fun E J R => t E σ J R) (fun W pn xe E p1 p2 tk hW => pe_act (i := 0) I1 L hf hfn hfr (hbind _ _ _ _ _) tk hW hr' (fun A outer s H hr2 => hbody A outer s H E f cn hr2) hNg hva hd hcd) hco (hq H1 gr)
      exact ⟨t', ht'.nox, hq'⟩
  refine wpAny_call (codeAny_mono rc fun r s2 z => ?_)
  cases r with
  | error e => exact False.elim z
  | ok fl =>
    cases fl with
    | ret u => exact I1.after z
    | next => exact False.elim z
    | brk => exact False.elim z
    | cont => exact False.elim z
end
end PV

set_option Elab.async false
set_option linter.all false
set_option maxRecDepth 100000
set_option maxHeartbeats 4000000
/-! PvXg: why(lambda: body): what an error says, on data. -/
namespace PV
open PySem L2 PyProof.Rows LamX
def actV (b : Bool) (a : Act) (ns : List String) (vs : List P) : Option P := match a with
  | .set _ its => (itVs b ns vs its).bind fun xs => if xs.length ≤ sizeLine then some (.tup xs) else none
  | .ret its => (itVs b ns vs its).bind fun xs => if xs.length ≤ sizeLine then some (.tup xs) else none
  | .retL its => (itVs b ns vs its).bind fun xs => if xs.length ≤ sizeLine then some (.lst xs) else none
  | .one it => itV b ns vs it
def whyH (sb : String → String → Option Bool) : List Hd → String → List String → List P → Option P
  | [], _, _, _ => none
  | h :: r, c, ns, vs => match sb c h.cls with
    | some true => if c = h.cls then actV h.slot.isSome h.act ns vs else none
    | some false => whyH sb r c ns vs
    | none => none
/-- z0: told where the body raises nothing -/
def mWhy (sb : String → String → Option Bool) (z0 : P) (hds : List Hd) (mb : M) : M := fun σ => match mb σ with
  | .ok _ σ1 => .ok (.v z0) σ1
  | .exc c ns vs σ1 => (match whyH sb hds c ns vs with
    | some z => .ok (.v z) σ1
    | none => .stuck)
  | .stuck => .stuck
/-! ### the two shapes of such a def -/
def endA (j : Nat) (Q : VK) : Ends := { nx := fun τ J => ∃ v, τ[j]? = some (some v) ∧ Q v J, rt := Q }
def endB (te : TE) (Q : VK) : Ends := { nx := fun τ J => te τ J Q, rt := Q }
/-- found = (..); try: found's value is told -/
def TTA (K : PySem.W.Frag) (nN j : Nat) (us0 : List V) (l : List HdT) : (XK → Hp → VK → Prop) → Hp → VK → Prop := fun tl H Q => us0.length ≤ sizeLine ∧ ∀ p, H p = none → ∀ R : VK, (∀ v J, Q (.ref p) J → R v J) →
  tl (fun cls d J => ∀ τ : L2.St, wHd K nN (fun _ _ _ _ => False) (endA j Q) l cls d τ J) (upd H p (.tup us0)) R
def TTB (K : PySem.W.Frag) (nN : Nat) (te : TE) (l : List HdT) : (XK → Hp → VK → Prop) → Hp → VK → Prop := fun tl H Q => ∀ R : VK, (∀ v J, (∀ τ : L2.St, te τ J Q) → R v J) →
  tl (fun cls d J => ∀ τ : L2.St, wHd K nN (fun _ _ _ _ => False) (endB te Q) l cls d τ J) H R
def tCs : List V → TA
  | [] => tNil
  | v :: vs => tCons (tC v) (tCs vs)
theorem tCs_ok {us : List V} {σ : L2.St} {H : Hp} {Q : List V → Hp → Prop} (q : Q us H) : tCs us σ H Q := by
  induction us generalizing Q with
  | nil => exact q
  | cons v vs ih => exact ih (Q := fun xs J => Q (v :: xs) J) q
section
variable {X : Cx} {Ng : List Str} {x a fnd : Str} {sg : Scope} {g0 : Addr} {cdg : Value} {q : Str} {gZ : G} {ks : List ExceptHandler} {k₀ : ExceptHandler} {hds : List Hd}
theorem gives_A {j : Nat} {us0 : List V} {es0 : List Expr} {ctx} {p1 p2 p3 p4 p5 p6 p7 p8 p9 : Pos} (hnd : Ng.Nodup) (hj : Ng[j]? = some fnd) (hj0 : j ≠ 0) (hjl : sg.names.lookup fnd = some .local)
    (hp0 : ∀ Y : Cx, PA Y es0 (tCs us0)) (hsw : ∀ env, swapsWith (.Tuple es0 ctx p2) (some (.Name fnd p1)) p3.line env = pure false) (hsw2 : ∀ env, swapsWith (.Call (.Name a p4) [] [] p5) none p6.line env = pure false)
    (hdf : (fnd == ("__debug__" : Str)) = false) (hcf : (fnd == ("__classdict__" : Str)) = false) (hgZ : gZ.K = X.K)
    (hh : ∀ s H, HdsD (cxOf C8.CX0 X.prog X.w X.K X.mg X.base Ng x sg g0 cdg X.A X.stack s H C8.E0).nox gZ (k₀ :: ks) hds) :
    GivesTo X Ng x sg g0 cdg [.Assign [.Name fnd p1] (.Tuple es0 ctx p2) p3, .Try [.Expr (.Call (.Name a p4) [] [] p5) p6] (k₀ :: ks) [] [] p7, .Return (some (.Name fnd p8)) p9] a q (TTA X.K Ng.length j us0 (hds.map (mkT gZ))) := by
  intro f cn s H Q tl act hc ⟨hz, hq⟩
  have jl : j < Ng.length := (List.getElem?_eq_some_iff.mp hj).1
  have sl : (L2.start Ng [V.ref f]).length = Ng.length := by
    unfold L2.start
    simp
    omega
  have s0 : (L2.start Ng [V.ref f])[0]? = some (some (.ref f)) := rfl
  refine ⟨_, pss_cons (ps_set (X := (cxOf C8.CX0 X.prog X.w X.K X.mg X.base Ng x sg g0 cdg X.A X.stack s H C8.E0).nox) hnd hj (.inl hjl) (pe_tup (hp0 _)) (hsw _)) (pss_cons (ps_try_hds rfl rfl hnd L2.takes0
      (tb := fun W D σ J => ∃ E : XK, (∀ cls d σ' H', E cls d H' → W cls d σ' H') ∧ σ[0]? = some (some (.ref f)) ∧ J cn = some (CodeO cn q) ∧ tl E J fun _ J2 => D.nx σ J2) (fun W pn xe tk _ => ?_) (hh s H).ok) (pss_one (ps_ret (pe_var (i := j) hj (.inl hjl) hdf hcf)))), ?_⟩
  · refine pss_one ⟨fun pins s' σ J D I ⟨E, hW, h1, h2, h3⟩ => ?_⟩
    exact (ps_expr (act W pn xe E p4 p5 tk hW) (hsw2 _)).run pins s' σ J D I ⟨h1, h2, h3⟩
  · refine tCs_ok ⟨hz, fun p hp => ?_⟩
    have hset : ((L2.start Ng [V.ref f]).set j (some (.ref p)))[j]? = some (some (.ref p)) := set_lt (by rw [sl]; exact jl)
    refine ⟨fun cls d J => ∀ τ : L2.St, wHd X.K Ng.length (fun _ _ _ _ => False) (endA j Q) (hds.map (mkT gZ)) cls d τ J, fun cls d σ' H' h => h σ', ?_, ?_, ?_⟩
    · rw [List.getElem?_set_ne hj0]; exact s0
    · rw [upd_ne (ne_of_none hc hp)]; exact hc
    · exact hq p hp _ fun v J z => ⟨_, hset, z⟩
theorem gives_B {e0 : Expr} {te : TE} {p4 p5 p6 p7 p9 : Pos} (hnd : Ng.Nodup) (he0 : ∀ Y : Cx, PE Y e0 te) (hsw2 : ∀ env, swapsWith (.Call (.Name a p4) [] [] p5) none p6.line env = pure false)
    (hh : ∀ s H, HdsD (cxOf C8.CX0 X.prog X.w X.K X.mg X.base Ng x sg g0 cdg X.A X.stack s H C8.E0).nox gZ (k₀ :: ks) hds) :
    GivesTo X Ng x sg g0 cdg [.Try [.Expr (.Call (.Name a p4) [] [] p5) p6] (k₀ :: ks) [] [] p7, .Return (some e0) p9] a q (TTB X.K Ng.length te (hds.map (mkT gZ))) := by
  intro f cn s H Q tl act hc hq
  refine ⟨_, pss_cons (ps_try_hds (X := (cxOf C8.CX0 X.prog X.w X.K X.mg X.base Ng x sg g0 cdg X.A X.stack s H C8.E0).nox) rfl rfl hnd L2.takes0
      (tb := fun W D σ J => ∃ E : XK, (∀ cls d σ' H', E cls d H' → W cls d σ' H') ∧ σ[0]? = some (some (.ref f)) ∧ J cn = some (CodeO cn q) ∧ tl E J fun _ J2 => D.nx σ J2) (fun W pn xe tk _ => ?_) (hh s H).ok) (pss_one (ps_ret (he0 _))), ?_⟩
  · refine pss_one ⟨fun pins s' σ J D I ⟨E, hW, h1, h2, h3⟩ => ?_⟩
    exact (ps_expr (act W pn xe E p4 p5 tk hW) (hsw2 _)).run pins s' σ J D I ⟨h1, h2, h3⟩
  · refine ⟨fun cls d J => ∀ τ : L2.St, wHd X.K Ng.length (fun _ _ _ _ => False) (endB te Q) (hds.map (mkT gZ)) cls d τ J, fun cls d σ' H' h => h σ', rfl, hc, ?_⟩
    exact hq _ fun v J z => z _
end
end PV

set_option Elab.async false
set_option linter.all false
set_option maxRecDepth 100000
set_option maxHeartbeats 4000000
/-! PvXh: why(lambda: body), the rules on data. -/
namespace PV
open PySem L2 PyProof.Rows LamX
section
variable {g gZ : G} {ω : Om} {H H1 : Hp} {σD : Env} {σ : L2.St}
theorem codeO_tbl {c : Addr} {q : Str} {ps : Array Value} (h : CodeO c q = .tbl ps) : False := codeO_ne ps h
theorem grow_ok {n : String} {a : Addr} (hcl : g.cl (TabN n) = some a) (gr : Grow H a (LamN n) H1) (st : Sta g ω H σD σ) : Step ω H ω H1 ∧ Sta g ω H1 σD σ := by
  rcases gr with rfl | ⟨ps, pos, cn, e1, e2, rfl⟩
  · exact ⟨.refl, st⟩
  · have ha : ω a = .tab (LamN n) := st.dom.tbs n a hcl
    have hac : a ≠ cn := ne_of_none e1 e2
    have keep : ∀ b u, H b = some u → b ≠ a → upd (upd H a (.tbl (ps ++ #[rawInt pos.line, rawInt pos.col, .ref cn]))) cn (CodeO cn (LamN n)) b = some u := fun b u h hb => by
      rw [upd_ne (ne_of_none h e2), upd_ne hb]; exact h
    have hna : ∀ b, (∀ q, ω b ≠ .tab q) → b ≠ a := fun b h e => h _ (e ▸ ha)
    have s : Step ω H ω (upd (upd H a (.tbl (ps ++ #[rawInt pos.line, rawInt pos.col, .ref cn]))) cn (CodeO cn (LamN n))) := ⟨fun b u h w => .inl (keep b u h (hna b fun q z => by rw [w] at z; cases z)), fun b u h w _ => keep b u h (hna b fun q z => by rw [w] at z; cases z), fun _ h => h, fun _ h _ => h, fun b h => by
      by_cases hb : b = cn
      · rw [hb, upd_same]; intro z; cases z
      · rw [upd_ne hb]
        by_cases hb2 : b = a
        · rw [hb2, upd_same]; intro z; cases z
        · rw [upd_ne hb2]; exact h, fun _ _ h => h⟩
    refine ⟨s, ⟨st.len, fun j d e => ?_, st.par, ⟨fun b h => ?_, fun b q h => ?_, st.dom.tbs⟩⟩⟩
    · obtain ⟨v, e3, r⟩ := st.rd j d e
      exact ⟨v, e3, r.keep2 (s.keeps st.dom) (fun b u h w _ => keep b u h (hna b fun q z => by rw [w] at z; cases z)) fun _ _ h => h⟩
    · by_cases hb : b = a
      · subst hb
        exact ⟨_, by rw [upd_ne hac]; exact upd_same, rfl⟩
      · obtain ⟨u, h1, h2⟩ := st.dom.dom b h
        exact ⟨u, keep b u h1 hb, h2⟩
    · by_cases hb : b = a
      · subst hb
        rw [ha] at h
        cases h
        obtain ⟨ps', h1, h2, h3⟩ := st.dom.tab b _ ha
        rw [e1] at h1
        cases h1
        have el : (ps ++ #[rawInt pos.line, rawInt pos.col, Value.ref cn]).toList = ps.toList ++ [rawInt pos.line, rawInt pos.col, .ref cn] := by simp
        refine ⟨_, by rw [upd_ne hac]; exact upd_same, by rw [el]; exact PySem.TriplesOk_snoc _ _ _ _ h2, fun p' cv hcv => ?_⟩
        rw [el] at hcv
        rcases among_app _ h2 hcv with z | z
        · obtain ⟨c0, z1, z2, z3⟩ := h3 p' cv z
          refine ⟨c0, z1, keep c0 _ z2 fun e => ?_, z3⟩
          rw [e, ha] at z3; cases z3
        · exact ⟨cn, z, upd_same, st.dom.fresh e2⟩
      · exact (st.dom.tab b q h).keep s.fr s.fz fun u hu => keep b u hu hb
def actWish (σL : L2.St) (oi : Option Nat) (C ea dx : Addr) (act : Act) (D : Ends) (H : Hp) : Prop :=
  match oi with
  | none => tAct none C act ea (.ref C) (some dx) D σL H
  | some i => tAct (some i) C act ea (.ref C) (some dx) (delE i D) (σL.set i (some (.ref ea))) H
theorem act_why {C ea dx : Addr} {fs : List (Str × V)} {ns : List String} {vs : List P} {act : Act} {oi : Option Nat} {D : Ends} {τ : L2.St} {R : VK} {z : P} (dm : Dom g.cl ω H) (hd : H dx = some (.xd fs)) (hn : fs.map (·.1) = ns.map ofS) (hr : RPs g.K g.cl H (Fr ω) vs (fs.map (·.2))) (hτ : ∀ i, oi = some i → i < τ.length)
    (hset : ∀ j its, act = .set j its → j < τ.length ∧ oi ≠ some j ∧ ∀ (τ' : L2.St) (v : V) (J : Hp), τ'[j]? = some (some v) → R v J → D.nx τ' J) (hrt : ∀ v J, R v J → D.rt v J) (e : actV oi.isSome act ns vs = some z) (q : ∀ J v, Same H J → RP g.K g.cl J (Fr ω) z v → R v J) :
    actWish τ oi C ea dx act D H := by
  have main : ∀ (τ1 : L2.St) (D1 : Ends), (∀ i, oi = some i → τ1[i]? = some (some (.ref ea))) → (∀ v J, R v J → D1.rt v J) → (∀ j its, act = .set j its → ∀ (v : V) (J : Hp), R v J → D1.nx (τ1.set j (some v)) J) → tAct oi C act ea (.ref C) (some dx) D1 τ1 H := by
    intro τ1 D1 h1 h2 h3
    obtain ⟨ok1, okN⟩ := its_ok (C := C) (τ := τ1) (oi := oi) (ea := ea) hd hn hr h1
    have tupR : ∀ {its : List It} {T : VK}, (itVs oi.isSome ns vs its).bind (fun xs => if xs.length ≤ sizeLine then some (.tup xs) else none) = some z → (∀ v J, R v J → T v J) → tTup (tIts oi C ea (.ref C) (some dx) its) τ1 H T := by
      intro its T e ht
      obtain ⟨xs, e1, e2⟩ := Option.bind_eq_some_iff.mp e
      split at e2
      · rename_i hl
        cases e2
        refine okN e1 fun us rus => ⟨by rw [← rus.length]; exact hl, fun p hp => ht _ _ ?_⟩
        have sm : Same H (upd H p (.tup us)) := Same.new hp
        exact q _ _ sm (.tup upd_same (RPs.keep (same_keeps sm) _ _ rus))
      · cases e2
    cases act with
    | set j its => exact tupR e fun v J r => h3 j its rfl v J r
    | ret its => exact tupR e h2
    | retL its =>
      obtain ⟨xs, e1, e2⟩ := Option.bind_eq_some_iff.mp (show (itVs oi.isSome ns vs its).bind _ = some z from e)
      split at e2
      · rename_i hl
        cases e2
        refine okN e1 fun us rus => ⟨by rw [← rus.length]; exact hl, fun p hp => h2 _ _ ?_⟩
        have sm : Same H (upd H p (.lst us)) := Same.new hp
        exact q _ _ sm (.lst upd_same (dm.fresh hp) (RPs.keep (same_keeps sm) _ _ rus))
      · cases e2
    | one it => exact ok1 e fun u ru => h2 _ _ (q _ _ (.refl H) ru)
  cases oi with
  | none => exact main τ D (fun i e => by cases e) hrt fun j its ea v J r => (hset j its ea).2.2 _ v J (set_lt (hset j its ea).1) r
  | some i =>
    refine main _ (delE i D) (fun k e => by cases e; exact set_lt (hτ i rfl)) hrt fun j its ea2 v J r => ?_
    obtain ⟨h1, h2, h3⟩ := hset j its ea2
    have hij : i ≠ j := fun e => h2 (by rw [e])
    refine h3 _ v J ?_ r
    rw [List.getElem?_set_ne hij]
    exact set_lt (by rw [List.length_set]; exact h1)
/-- of a clause: its slots are there -/
def hdIn (n : Nat) (j : Option Nat) (h : Hd) : Prop := (∀ i, h.slot = some i → i < n) ∧ ∀ k its, h.act = .set k its → k < n ∧ h.slot ≠ some k ∧ j = some k
theorem why_ok {sb : String → String → Option Bool} (hsb : ∀ c c' b C C', sb c c' = some b → g.cl c = some C → g.cl c' = some C' → PySem.W.exmOne g.K (.ref C) (.ref C') = some b) {c : String} {ns : List String} {vs : List P} {C : Value} {d : Option Addr} (dm : Dom g.cl ω H) (ex : EX g ω H c ns vs C d)
    {nN : Nat} {j : Option Nat} {D : Ends} {R : VK} (hrt : ∀ v J, R v J → D.rt v J) (hnx : ∀ k, j = some k → ∀ (τ' : L2.St) (v : V) (J : Hp), τ'[k]? = some (some v) → R v J → D.nx τ' J) {z : P} (q : ∀ J v, Same H J → RP g.K g.cl J (Fr ω) z v → R v J) :
    ∀ {hs : List Hd}, (∀ h ∈ hs, hdIn nN j h ∧ ∃ C1, g.cl h.cls = some C1) → whyH sb hs c ns vs = some z → ∀ τ : L2.St, wHd g.K nN (fun _ _ _ _ => False) D (hs.map (mkT g)) C d τ H := by
  obtain ⟨C0, dx, fs, rfl, rfl, hC, hdx, hn, hr⟩ := id ex
  intro hs
  induction hs with
  | nil => intro _ e; cases e
  | cons h1 hs ih =>
    intro hall e τ
    obtain ⟨⟨hi1, hi2⟩, C1, hcl⟩ := hall h1 (by simp)
    unfold whyH at e
    cases eb : sb c h1.cls with
    | none => rw [eb] at e; cases e
    | some b =>
      rw [eb] at e
      refine ⟨b, ?_, fun hb ea hna hlen => ?_, fun hb => ?_⟩
      · show PySem.W.exmOne g.K (.ref C0) (.ref ((g.cl h1.cls).getD 0)) = some b
        rw [hcl]
        exact hsb _ _ _ _ _ eb hC hcl
      · subst hb
        simp only at e
        split at e
        · rename_i hc
          have hCC : C1 = C0 := by rw [hc] at hC; rw [hC] at hcl; exact (Option.some.inj hcl).symm
          subst hCC
          have key : ∀ (oi : Option Nat), h1.slot = oi → actWish τ oi C1 ea dx h1.act D H := fun oi eo =>
            act_why (g := g) (C := C1) (ea := ea) (oi := oi) (D := D) (τ := τ) (R := R) dm hdx hn hr (fun i ei => by rw [hlen]; exact hi1 i (by rw [eo, ei])) (fun k its ek => by
              obtain ⟨k1, k2, k3⟩ := hi2 k its ek
              exact ⟨by rw [hlen]; exact k1, by rw [← eo]; exact k2, hnx k k3⟩) hrt (by rw [← eo]; exact e) q
          unfold mkT
          rw [hcl]
          cases es : h1.slot with
          | none => exact key none es
          | some i => exact key (some i) es
        · cases e
      · subst hb
        simp only at e
        exact ih (fun h hh => hall h (by simp [hh])) e τ
theorem tabS_of {n : String} {a : Addr} (hcl : g.cl (TabN n) = some a) (st : Sta g ω H σD σ) : TabS H a (LamN n) := by
  obtain ⟨ps, h1, h2, h3⟩ := st.dom.tab a _ (st.dom.tbs n a hcl)
  exact ⟨ps, h1, h2, fun pos cv e => let ⟨c, z1, z2, _⟩ := h3 pos cv e; ⟨c, z1, z2⟩⟩
end
section
variable {g : G} {sb : String → String → Option Bool} {n : String} {a : Addr} {hds : List Hd} {mb : M} {nN j : Nat}
theorem tWhyA {xs0 : List P} {us0 : List V} (hsb : ∀ c c' b C C', sb c c' = some b → g.cl c = some C → g.cl c' = some C' → PySem.W.exmOne g.K (.ref C) (.ref C') = some b) (hcl : g.cl (TabN n) = some a) (hl : us0.length ≤ sizeLine) (hus : ∀ H N, RPs g.K g.cl H N xs0 us0) (hall : ∀ h ∈ hds, hdIn nN (some j) h ∧ ∃ C1, g.cl h.cls = some C1) (σ : L2.St) (H : Hp) (Q : VK)
    (h : tM g (mWhy sb (.tup xs0) hds mb) σ H Q) : tLam3 a (LamN n) (TTA g.K nN j us0 (hds.map (mkT g))) (fun E => tM { g with Ω := fun c d _ J => E c d J } mb) σ H Q := by
  obtain ⟨ω, σD, st, pq⟩ := h
  refine ⟨tabS_of hcl st, fun H1 gr => ⟨hl, fun p hp R hR => ?_⟩⟩
  obtain ⟨s1, st1⟩ := grow_ok hcl gr st
  have sm : Same H1 (upd H1 p (.tup us0)) := Same.new hp
  have st2 := st1.same sm
  refine ⟨ω, σD, ⟨st2.len, st2.rd, st2.par, st2.dom⟩, ?_⟩
  unfold mWhy at pq
  cases e : mb σD with
  | ok o σ1 =>
    rw [e] at pq
    intro ω' H' s st' v ov
    refine hR v H' (pq ω' H' ((s1.trans (.same sm)).trans s) ⟨st'.len, st'.rd, st'.par, st'.dom⟩ (.ref p) (.v ?_))
    exact .tup ((s.fr p _ upd_same (st1.dom.fresh hp)).of rfl) (hus _ _)
  | exc c ns vs σ1 =>
    rw [e] at pq
    intro ω' H' C d s st' ex τ
    dsimp only at pq
    cases ew : whyH sb hds c ns vs with
    | none => rw [ew] at pq; exact pq.elim
    | some z =>
      rw [ew] at pq
      refine why_ok hsb st'.dom ex (j := some j) (R := Q) (fun _ _ r => r) (fun k ek τ' v J e1 r => by cases ek; exact ⟨v, e1, r⟩) (fun J v smJ r => ?_) hall ew τ
      have stJ := st'.same smJ
      exact pq ω' J (((s1.trans (.same sm)).trans s).trans (.same smJ)) ⟨stJ.len, stJ.rd, stJ.par, stJ.dom⟩ v (.v r)
  | stuck => rw [e] at pq; exact pq.elim
theorem tWhyB {te : TE} {z0 : P} (hsb : ∀ c c' b C C', sb c c' = some b → g.cl c = some C → g.cl c' = some C' → PySem.W.exmOne g.K (.ref C) (.ref C') = some b) (hcl : g.cl (TabN n) = some a) (hte : ∀ (ω : Om) (τ : L2.St) (J : Hp) (Q : VK), Dom g.cl ω J → (∀ J2 v, Same J J2 → RP g.K g.cl J2 (Fr ω) z0 v → Q v J2) → te τ J Q)
    (hall : ∀ h ∈ hds, hdIn nN none h ∧ ∃ C1, g.cl h.cls = some C1) (σ : L2.St) (H : Hp) (Q : VK) (h : tM g (mWhy sb z0 hds mb) σ H Q) : tLam3 a (LamN n) (TTB g.K nN te (hds.map (mkT g))) (fun E => tM { g with Ω := fun c d _ J => E c d J } mb) σ H Q := by
  obtain ⟨ω, σD, st, pq⟩ := h
  refine ⟨tabS_of hcl st, fun H1 gr R hR => ?_⟩
  obtain ⟨s1, st1⟩ := grow_ok hcl gr st
  refine ⟨ω, σD, ⟨st1.len, st1.rd, st1.par, st1.dom⟩, ?_⟩
  unfold mWhy at pq
  cases e : mb σD with
  | ok o σ1 =>
    rw [e] at pq
    intro ω' H' s st' v ov
    refine hR v H' fun τ => hte ω' τ H' Q st'.dom fun J2 u smJ r => ?_
    have stJ := st'.same smJ
    exact pq ω' J2 ((s1.trans s).trans (.same smJ)) ⟨stJ.len, stJ.rd, stJ.par, stJ.dom⟩ u (.v r)
  | exc c ns vs σ1 =>
    rw [e] at pq
    intro ω' H' C d s st' ex τ
    dsimp only at pq
    cases ew : whyH sb hds c ns vs with
    | none => rw [ew] at pq; exact pq.elim
    | some z =>
      rw [ew] at pq
      refine why_ok hsb st'.dom ex (j := none) (R := Q) (fun _ _ r => r) (fun k ek => by cases ek) (fun J v smJ r => ?_) hall ew τ
      have stJ := st'.same smJ
      exact pq ω' J ((s1.trans s).trans (.same smJ)) ⟨stJ.len, stJ.rd, stJ.par, stJ.dom⟩ v (.v r)
  | stuck => rw [e] at pq; exact pq.elim
end
end PV

set_option Elab.async false
set_option linter.all false
set_option maxRecDepth 100000
set_option maxHeartbeats 4000000
/-! PvXi: what a def promises where no repr is under way around it; its call; the end of a row with it. -/
namespace PV
open PySem L2 PyProof.Rows
section
variable {P : Program} {w : World} {K : PySem.W.Frag} {mg : Str → Option Value} {base : Heap} {cl : String → Option Addr}
/-- as FnOk, of a caller around which no repr is under way -/
structure FnG (P : Program) (w : World) (K : PySem.W.Frag) (mg : Str → Option Value) (base : Heap) (k : Nat) (f : Addr) (fd : FuncData) (ps : List Str) (sp : Sp) : Prop where
  len : ∀ vs H Q E, sp vs H Q E → vs.length = ps.length
  run : ∀ (B : Around) (fs : List PySem.Env) (s : Shared) (H : Hp) (as : Args) (us : List Value) (vs : List V) (Q : VK) (E : XK), Room k B → B.guards = some [] → Env0 P w K mg base B fs s H → BindsTo s fd as (ps.zip us) → Vals vs us → sp vs H Q E →
    codeAny (model P w) B (.call (.ref f) as) (CR (L2.CX P w) fs P w H s Q E) s
theorem FnG.imp {k : Nat} {f : Addr} {fd : FuncData} {ps : List Str} {sp sp' : Sp} (F : FnG P w K mg base k f fd ps sp) (h : ∀ vs H Q E, sp' vs H Q E → sp vs H Q E) : FnG P w K mg base k f fd ps sp' :=
  ⟨fun vs H Q E q => F.len vs H Q E (h _ _ _ _ q), fun B fs s H as us vs Q E r g e b v z => F.run B fs s H as us vs Q E r g e b v (h _ _ _ _ z)⟩
theorem FnG.mono {j k : Nat} {f : Addr} {fd : FuncData} {ps : List Str} {sp : Sp} (F : FnG P w K mg base j f fd ps sp) (h : j ≤ k) : FnG P w K mg base k f fd ps sp :=
  ⟨F.len, fun B fs s H as us vs Q E r => F.run B fs s H as us vs Q E (r.mono h)⟩
/-- a def, by its body -/
theorem fn_ofG {k : Nat} {f : Addr} {name qual : Str} {params : Arguments} {body : List Stmt} {scope : Scope} {dV kV doc pm cdv ct oc : Value} {an od : Option Addr} {osl : Array (Option Value)} {N ps : List Str} {sp : Sp}
    (lk : K.lookup f = some ⟨oc, od, .func (PySem.W.fnOf name qual params body scope dV kV doc pm an cdv ct), osl⟩) (cd : PySem.W.codeIn K cdv qual = true) (S : FnScope N ps scope) (len : ∀ vs H Q E, sp vs H Q E → vs.length = ps.length)
    (hb : ∀ (B : Around) (fs : List PySem.Env) (s : Shared) (H : Hp) (vs : List V) (Q : VK) (E : XK), Room k (B.deeper (PyProof.Rows.envOfC qual scope s.heap.objs.size f cdv)) → B.guards = some [] → sp vs H Q E →
      ∃ t, PSs (cxOf (L2.CX P w) P w K mg base N qual scope f cdv B fs s H E) body t ∧ t { nx := fun _ J => Q .non J, rt := Q } (start N vs) H) :
    FnG P w K mg base (k + 1) f (PySem.W.fnOf name qual params body scope dV kV doc pm an cdv ct) ps sp := by
  refine ⟨len, fun B fs s H as us vs Q E room gd e0 bt rv z => ?_⟩
  have kx : ∀ b o, base.get? b = some o → s.heap.get? b = some o := fun b o e => (e0.bs b o e).1
  have kin : K.In s.heap := e0.mod.kin.keeps kx
  have kinds : ∀ y ∈ ps.zip us, scope.names.lookup y.1 = some .local ∨ (scope.names.lookup y.1 = some .cell ∧ ((cellsFrom (s.heap.objs.size + 1) scope.names []).lookup y.1).isSome = true) := by
    rintro ⟨n, v⟩ hy
    rcases S.par n (List.of_mem_zip hy).1 with q | q
    · exact Or.inl q
    · exact Or.inr ⟨q, PySem.W.cellsFrom_some _ _ _ (.inl q)⟩
  refine codeAny_call_function room.depth (kin _ _ lk) rfl S.co S.gen rfl (PySem.W.codeRec_of kin cd) (bt _ _ _ _ (wpAny_newFunctionEnv_cells S.kind kinds ?_))
  intro env he s1 x
  subst he
  obtain ⟨t, ht, hq⟩ := hb B fs s H vs Q E (room.deeper _) gd z
  refine ⟨(e0.mod.nolimit.keeps kx).keeps x.toInCall.keep, codeAny_func (wpAny_mono (ht.run [] s1 (start N vs) H _ (inv_start S room.hd e0 (len _ _ _ _ z) rv x) hq) ?_ fun e s' h => h)⟩
  intro fl s' h
  cases fl with
  | ret u => obtain ⟨v, τ, J, I, r1, r2⟩ := h; exact ⟨v, J, I.os, I.bare, I.base, I.hok, r1, r2⟩
  | next => obtain ⟨τ, J, I, r2⟩ := h; exact ⟨V.non, J, I.os, I.bare, I.base, I.hok, rfl, r2⟩
  | brk => obtain ⟨_, _, _, bad⟩ := h; exact bad.elim
  | cont => obtain ⟨_, _, _, bad⟩ := h; exact bad.elim
/-- what is told of a def's meaning, of its body -/
theorem sem_body {N : List Str} {np nl : Nat} {io : List Nat} {body : MS} {vs : List V} {H : Hp} {Q : VK} {E : XK} (hnl : N.length = np + nl) (h : spOf K cl np (fnOf np nl io body) vs H Q E) :
    tS ⟨K, cl, io, vs, fun C d _ H => E C d H⟩ body { nx := fun _ J => Q .non J, rt := Q } (start N vs) H := by
  obtain ⟨ω, ds, hv, hd, rd, dm, q⟩ := h
  refine ⟨ω, ds.map some ++ List.replicate nl none, ?_, ?_⟩
  · have hst : L2.start N vs = vs.map some ++ List.replicate nl none := by
      unfold L2.start
      rw [hnl, hv, Nat.add_sub_cancel_left]
    rw [hst]
    refine ⟨by simp [hv, hd], fun i d e => ?_, fun i v _ e => ?_, dm⟩
    · have hi : i < ds.length := by
        refine Nat.lt_of_not_le fun hle => ?_
        rw [List.getElem?_append_right (by simpa using hle)] at e
        obtain ⟨_, e2⟩ := List.getElem?_eq_some_iff.mp e
        simp at e2
      rw [List.getElem?_append_left (by simpa using hi)] at e
      have e1 : ds[i]? = some d := by simpa using e
      have hi2 : i < vs.length := by omega
      refine ⟨vs[i], ?_, rd i d _ e1 (List.getElem?_eq_getElem hi2)⟩
      rw [List.getElem?_append_left (by simpa using hi2)]
      simp [hi2]
    · have hi2 := get_lt e
      show (vs.map some ++ List.replicate nl none)[i]? = some (some v)
      rw [List.getElem?_append_left (by simpa using hi2)]
      simpa using e
  · unfold fnOf at q
    by_cases hc : ds.length = np ∧ okArgs io 0 ds = true
    · rw [if_pos hc] at q
      have fins : ∀ {σD' : Env} {fin : List D} {ω' : Om} {H' : Hp} {σ' : L2.St}, finOf io σD' 0 ds = some fin → Step ω H ω' H' → Sta ⟨K, cl, io, vs, fun C d _ H => E C d H⟩ ω' H' σD' σ' → RDs K cl H' ω' fin vs := fun {σD' fin ω' H' σ'} hf s st j d v e1 e2 => by
        rcases finOf_get hf j d e1 with ⟨z1, z2⟩ | ⟨z1, z2⟩
        · rw [Nat.zero_add] at z1 z2
          obtain ⟨v', e3, r⟩ := st.rd j d z2
          have e4 : σ'[j]? = some (some v) := st.par j v z1 e2
          rw [e3] at e4; cases e4
          exact r
        · obtain ⟨y, rfl⟩ := okArgs_get hc.2 j d z2 z1
          have r := rd j _ v z2 e2
          cases r with | p r => exact .p (s.rp dm r)
      show PostS _ ω H (body (ds.map some ++ List.replicate nl none)) _
      cases e : body (ds.map some ++ List.replicate nl none) with
      | next σD' =>
        rw [e] at q
        unfold fnEnd at q
        intro ω' H' σ' s st
        cases hf : finOf io σD' 0 ds with
        | none => simp only [hf] at q; exact q.elim
        | some fin =>
          simp only [hf] at q
          exact q ω' H' .non s st.dom (fins hf s st) (.p .non)
      | ret d σD' =>
        rw [e] at q
        unfold fnEnd at q
        intro ω' H' σ' v s st r
        cases hf : finOf io σD' 0 ds with
        | none => simp only [hf] at q; exact q.elim
        | some fin =>
          simp only [hf] at q
          exact q ω' H' v s st.dom (fins hf s st) r
      | exc c ns xs σD' =>
        rw [e] at q
        unfold fnEnd at q
        intro ω' H' σ' C d s st r
        cases hf : finOf io σD' 0 ds with
        | none => simp only [hf] at q; exact q.elim
        | some fin =>
          simp only [hf] at q
          exact q ω' H' C d s st.dom (fins hf s st) r
      | brk σD' => rw [e] at q; exact False.elim q
      | cont σD' => rw [e] at q; exact False.elim q
      | stuck => rw [e] at q; exact q
    · rw [if_neg hc] at q
      exact q.elim
/-- THE RULE for a def, where no repr is under way -/
theorem fn_semG {x qual : Str} {st : Stmt} {f : Addr} {fd : FuncData} {N ps : List Str} {k np nl : Nat} {io : List Nat} {body : MS} (F : Fun K x qual st f fd) (S : FnScope N ps (defScope st)) (hnp : ps.length = np) (hnl : N.length = np + nl)
    (h : ∀ (cdv : Value) (A : Around) (outer : List PySem.Env) (s : Shared) (H : Hp) (vs : List V) (E : XK), Room k (A.deeper (PyProof.Rows.envOfC qual (defScope st) s.heap.objs.size f cdv)) → A.guards = some [] →
      PSs (cxOf (L2.CX P w) P w K mg base N qual (defScope st) f cdv A outer s H E) (defBody st) (tS ⟨K, cl, io, vs, fun C d _ H => E C d H⟩ body)) :
    FnG P w K mg base (k + 1) f fd ps (spOf K cl np (fnOf np nl io body)) := by
  obtain ⟨oc, od, kV, doc, pm, an, cdv, ct, osl, rfl, lk, hcd⟩ := F.ex
  exact fn_ofG lk hcd S (fun vs H Q E z => by obtain ⟨_, _, hv, _⟩ := z; rw [hnp]; exact hv) fun B fs s H vs Q E r g z => ⟨_, h cdv B fs s H vs E r g, sem_body hnl z⟩
/-- a def that may be called by its name where no repr is under way -/
structure CalG (P : Program) (w : World) (K : PySem.W.Frag) (mg : Str → Option Value) (base : Heap) (cl : String → Option Addr) (x : Str) (k np : Nat) (f : FS) : Prop where
  ex : ∃ (a : Addr) (fd : FuncData) (ps : List Str), FnG P w K mg base k a fd ps (spOf K cl np f) ∧ mg x = some (.ref a) ∧ PySem.W.keepIn K (.ref a) = true ∧ Binds K fd ps []
  fin : ∀ ds d fin, f ds = .ok d fin → fin.length = ds.length
  fin' : ∀ ds c ns xs fin, f ds = .exc c ns xs fin → fin.length = ds.length
end
section
variable {X : Cx} {g : G} {k : Nat} {x : Str} {e : Expr} {es : List Expr} {p pos : Pos}
theorem de_callFG {np : Nat} {f : FS} {ms : List M} (F : CalG X.prog X.w X.K X.mg X.base g.cl x k np f) (hK : g.K = X.K) (hr : Room k X.A) (gd : X.A.guards = some []) (tk : Takes X g.Ω) (hg : Gl X x) (ha : PA X (e :: es) (tA g (mAs ms))) (hn : ms.length = np := by rfl)
    (hdb : (x == ("__debug__" : Str)) = false := by decide) (he : starEach (e :: es) X.env = (false, eval e X.env) :: starEach es X.env := by rfl) (hpl : (backTo pos (starEach es X.env)).any (·.1) = false := by rfl) : PE X (.Call (.Name x p) (e :: es) [] pos) (tF g (mCallF f ms)) := by
  obtain ⟨⟨a, fd, ps, F1, h1, h2, h3⟩, hf, hf'⟩ := F
  refine ⟨fun pins s σ H Q I h => ?_⟩
  have q := tA_call hf hf' hn h
  rw [hK] at q
  refine wpAny_Call_Name_kw (ld_glob I hg h1 (PySem.W.callWith_K (h₀ := X.base) I.ok.mod.kin h2 (thn (ha.run pos pins s σ H _ I q) fun us s1 ⟨vs, H1, I1, r, z⟩ => ⟨I1.kIn, ?_⟩) he hpl) hdb)
  have hl : us.length = ps.length := r.length.symm.trans (F1.len _ _ _ _ z)
  have b := h3 s1 us I1.kIn (by rw [List.append_nil]; exact hl)
  rw [List.append_nil] at b
  refine wpAny_call (codeAny_mono (F1.run _ _ s1 H1 _ us vs Q _ hr gd I1.env0 b r z) fun rr s' hq => ?_)
  match rr, hq with
  | .error e, hq => exact passAt tk σ pins H1 s1 e s' I1 hq
  | .ok (.ret u), hq => exact I1.after hq
  | .ok .next, hq => exact hq.elim
  | .ok .brk, hq => exact hq.elim
  | .ok .cont, hq => exact hq.elim
theorem de_callG {np : Nat} {f : FS} {ms : List M} (F : CalG X.prog X.w X.K X.mg X.base g.cl x k np f) (hK : g.K = X.K) (hr : Room k X.A) (gd : X.A.guards = some []) (tk : Takes X g.Ω) (hg : Gl X x) (ha : PA X (e :: es) (tA g (mAs ms))) (hn : ms.length = np := by rfl)
    (hdb : (x == ("__debug__" : Str)) = false := by decide) (he : starEach (e :: es) X.env = (false, eval e X.env) :: starEach es X.env := by rfl) (hpl : (backTo pos (starEach es X.env)).any (·.1) = false := by rfl) : PE X (.Call (.Name x p) (e :: es) [] pos) (tM g (mCall f ms)) :=
  pe_weak (de_callFG F hK hr gd tk hg ha hn hdb he hpl) fun σ H Q h => call_frz σ H h
end
end PV

set_option Elab.async false
set_option linter.all false
set_option maxRecDepth 100000
set_option maxHeartbeats 4000000
/-! PvXj: the end of a row, for a law's promise where no repr is under way. -/
namespace PV
open PySem L2 PyProof.Rows PySem.Spec
theorem law_endG {P : Program} {w : World} {K : PySem.W.Frag} {mg mb : Str → Option Value} {k : Nat} {fa a : Addr} {cs : List (Addr × Addr)} {fd : FuncData} {x : Str} {sp : Sp} {s₁ : Shared} {vs : List Value} {ns : List Int}
    (KX : K.In s₁.heap) (hns : s₁.heap.Ns mainGlobals mg) (hb : s₁.heap.Ns builtinsNs mb) (hbb : ∀ x : Str, x ≠ "__name__" → mb x = bootBuiltins x) (hlim : s₁.heap.NoLimit) (hg : s₁.gens = #[])
    (hT : ∀ q ∈ cs, s₁.heap.get? q.2 = some { cls := .none, data := .fields #[] }) (nT : ∀ q ∈ cs, K.lookup q.2 = none) (C : ∀ q ∈ cs, PySem.W.CodeHd s₁.heap q.1 q.2)
    (hbm : ∃ (bm : Addr) (ob : Obj), mg "__builtins__" = some (.ref bm) ∧ bm ≠ builtinsNs ∧ s₁.heap.get? bm = some ob ∧ ob.cls = .type "module" ∧ ob.dict = some builtinsNs ∧ ob.data = .plain)
    (ha : s₁.heap.get? a = some { cls := .type "list", data := .seq vs.toArray }) (hi : IntsAre vs ns) (hl : ns.length ≤ sizeLine) (hr : Room k callerA)
    (F : ∀ base : Heap, K.In base → base.Ns mainGlobals mg → (∀ q ∈ cs, LamX.TabB base mg q.1 q.2) → FnG P w K mg base k fa fd [x] sp) (hbind : ∀ (s : Shared) (u : Value), BindsTo s fd ⟨[u], []⟩ [(x, u)])
    (hsp : ∀ H : Hp, (∀ q ∈ cs, H q.2 = some (.tbl #[])) → SqL K H a (ns.map V.int) → sp [.ref a] H (fun v _ => v = .bl true) fun _ _ _ => False) :
    codeAny (model P w) callerA (.call (.ref fa) ⟨[.ref a], []⟩) (fun r s' => r = .ok (.ret (.bool true)) ∧ PySem.OldK s₁.heap s'.heap ∧ s'.os = s₁.os ∧ AllBare s'.gens) s₁ := by
  let ls : HO := .frz { cls := .type "list", data := .seq vs.toArray } (.lst (ns.map V.int))
  let H : Hp := fun b => if ∃ q ∈ cs, q.2 = b then some (.tbl #[]) else if b = a ∧ K.lookup a = none then some ls else none
  have tA : ∀ q ∈ cs, q.2 ≠ a := fun q hq z => by
    have e := hT q hq
    rw [z, ha] at e
    exact absurd (congrArg Obj.data (Option.some.inj e)) (by intro z; cases z)
  have hH : ∀ q ∈ cs, H q.2 = some (.tbl #[]) := fun q hq => if_pos ⟨q, hq, rfl⟩
  have cases' : ∀ {b : Addr} {u : HO}, H b = some u → (∃ q ∈ cs, q.2 = b ∧ u = .tbl #[]) ∨ (b = a ∧ K.lookup a = none ∧ u = ls) := fun {b u} e => by
    by_cases h : ∃ q ∈ cs, q.2 = b
    · have z : H b = some (.tbl #[]) := if_pos h
      rw [z] at e; cases e
      obtain ⟨q, hq, e2⟩ := h
      exact Or.inl ⟨q, hq, e2, rfl⟩
    · have z : H b = if b = a ∧ K.lookup a = none then some ls else none := if_neg h
      rw [z] at e
      split at e
      · rename_i h2; cases e; exact Or.inr ⟨h2.1, h2.2, rfl⟩
      · cases e
  -- what is no list and no table is not tracked
  have off : ∀ {b : Addr} {o : Obj}, s₁.heap.get? b = some o → (∀ ys n, o.data ≠ .seq ys n) → o.data ≠ .fields #[] → H b = none := fun {b o} e h1 h2 => by
    cases q : H b with
    | none => rfl
    | some u =>
      rcases cases' q with ⟨t, ht, rfl, _⟩ | ⟨rfl, _, _⟩
      · rw [hT t ht] at e; cases e; exact (h2 rfl).elim
      · rw [ha] at e; cases e; exact (h1 _ _ rfl).elim
  have inB : ∀ {b : Addr} {o : Obj}, s₁.heap.get? b = some o → (∀ ys n, o.data ≠ .seq ys n) → o.data ≠ .fields #[] → (hidT s₁.heap H).get? b = some o := fun e h1 h2 => hidT_get e (off e h1 h2)
  have nsB : ∀ {b : Addr} {m : Str → Option Value}, s₁.heap.Ns b m → (hidT s₁.heap H).Ns b m := fun {b m} ⟨o, es, ep, e, d, r⟩ => ⟨o, es, ep, inB e (by rw [d]; intro ys n z; cases z) (by rw [d]; intro z; cases z), d, r⟩
  have kB : K.In (hidT s₁.heap H) := fun b o e => hidT_get (KX b o e) (by
    cases q : H b with
    | none => rfl
    | some u =>
      rcases cases' q with ⟨t, ht, rfl, _⟩ | ⟨rfl, h, _⟩
      · rw [nT t ht] at e; cases e
      · rw [h] at e; cases e)
  have md : L2.Mod K mg (hidT s₁.heap H) := by
    obtain ⟨mc, c1, c2⟩ := hlim
    exact ⟨kB, nsB hns, ⟨mb, nsB hb, hbb⟩, ⟨mc, nsB c1, c2⟩⟩
  have tb : ∀ q ∈ cs, LamX.TabB (hidT s₁.heap H) mg q.1 q.2 := fun q hq => by
    refine ⟨?_, ?_, fun z => ?_⟩
    · obtain ⟨o, us, file, tf, flags, tg, inF, text, tt, e1, r1, r2, r3, r4, r5, r6, r7, r8, hne⟩ := C q hq
      exact ⟨o, us, file, tf, flags, tg, inF, text, tt, inB e1 (by rw [r2]; intro ys n z; cases z) (by intro z; rw [r2] at z; cases z; simp at r3), r1, r2, r3, r4, r5, r6, r7, r8, hne⟩
    · obtain ⟨bm, ob, b1, b2, b3, b4, b5, b6⟩ := hbm
      refine ⟨bm, ob, b1, b2, fun z => ?_, fun z => ?_, inB b3 (by rw [b6]; intro ys n z; cases z) (by rw [b6]; intro z; cases z), b4, b5, b6⟩
      · obtain ⟨o, es, ep, e, hd, _⟩ := hns
        rw [z, e] at b3; cases b3; rw [hd] at b6; cases b6
      · rw [z, hT q hq] at b3; cases b3; cases b6
    · obtain ⟨o, es, ep, e, hd, _⟩ := hns
      rw [z, hT q hq] at e; cases e; cases hd
  have hok : HOk P w H s₁.heap := fun b u e => by
    rcases cases' e with ⟨t, ht, rfl, rfl⟩ | ⟨rfl, _, rfl⟩
    · exact hT t ht
    · exact ⟨ha, by rw [List.length_map]; exact hl, vs, _, vals_ints hi, ha⟩
  have hS : SqL K H a (ns.map V.int) := by
    cases hk : K.lookup a with
    | none => exact .inl (.inr ⟨_, (if_neg (fun ⟨q, hq, z⟩ => tA q hq z)).trans (if_pos ⟨rfl, hk⟩)⟩)
    | some o =>
      have e := KX a o hk
      rw [ha] at e; cases e
      refine .inr ⟨_, vs.toArray, _, hk, rfl, rfl, rfl, by rw [List.size_toArray, hi.length]; exact hl, by simpa using vals_ints hi⟩
  have e0 : Env0 P w K mg (hidT s₁.heap H) callerA [] s₁ H := by
    refine ⟨rfl, md, fun b o e => of_hidT e, Nat.le_of_eq (hidT_size _ _), trivial, fun b z => ?_, hok, .of_eq hg⟩
    cases (show b ∈ ([] : List Addr) from z)
  refine codeAny_mono ((F _ kB (nsB hns) tb).run callerA [] s₁ H ⟨[.ref a], []⟩ [.ref a] [.ref a] _ _ hr rfl e0 (hbind s₁ (.ref a)) (.cons rfl .nil) (hsp H hH hS)) fun r s' h => ?_
  match r, h with
  | .error e, h => obtain ⟨_, _, _, _, _, _, _, _, _, _, _, _, z⟩ := h; exact z.elim
  | .ok .next, h => exact h.elim
  | .ok .brk, h => exact h.elim
  | .ok .cont, h => exact h.elim
  | .ok (.ret u), h =>
    obtain ⟨v, J, os, bare, un, hok', rv, q⟩ := h
    obtain rfl : v = V.bl true := q
    obtain rfl : u = Value.bool true := rv
    have tabs : ∀ q ∈ cs, ∃ more : Array Value, s'.heap.get? q.2 = some { cls := .none, data := .fields more } := fun q hq => by
      obtain ⟨more, z⟩ := un.tbls q.2 #[] (hH q hq)
      exact ⟨_, hok' q.2 _ z⟩
    have same : ∀ b o, (¬ ∃ q ∈ cs, q.2 = b) → s₁.heap.get? b = some o → s'.heap.get? b = some o := fun b o nb e => by
      cases q : H b with
      | none => exact un.keep b o e q (by intro z; cases (show b ∈ ([] : List Addr) from z)) (by simp)
      | some u =>
        rcases cases' q with ⟨t, ht, e2, _⟩ | ⟨rfl, _, rfl⟩
        · exact absurd ⟨t, ht, e2⟩ nb
        · obtain ⟨e1, _⟩ := hok' b _ (un.frzs b _ _ q)
          rw [ha] at e; cases e; exact e1
    refine ⟨rfl, ⟨fun b o e => ?_, fun b o e => ?_⟩, os, bare⟩
    · by_cases hq : ∃ q ∈ cs, q.2 = b
      · obtain ⟨q, hq, rfl⟩ := hq
        obtain ⟨more, hm⟩ := tabs q hq
        rw [hT q hq] at e; cases e
        exact Or.inr (Or.inl ⟨((C q hq).tab (hT q hq)).isCodeTable, rfl, #[], more, rfl, by rw [Array.empty_append]; exact hm⟩)
      · exact Or.inl (same b o hq e)
    · by_cases hq : ∃ q ∈ cs, q.2 = b
      · obtain ⟨q, hq, rfl⟩ := hq
        obtain ⟨more, hm⟩ := tabs q hq
        exact ⟨_, hm⟩
      · exact ⟨o, same b o hq e⟩
theorem walk63G {l : PySem.W.OpenLaw} {k : Nat} {x : Str} {q : Program} {loose : List Str} {XP : (Str → Option Value) → Heap → Prop} {YP : World → Heap → Prop} {d : DefRec} {K : Params → PySem.W.Frag} (hn : l.most = some 63) (hdf : d.params.defaults = []) (hr : Room k callerA)
    (hY : ∀ (w : World) (h : Heap), YP w h → (K w.params).In h)
    (F : ∀ (w : World) (mg : Str → Option Value) (fa : Addr) (h : Heap), (K w.params).In h → h.Ns mainGlobals mg → mg d.name = some (.ref fa) →
      ∃ (fd : FuncData) (T : List (String × Addr × Addr)), (∀ t ∈ T, (∃ r, (recsOf q).find? (fun e => e.name == ofS t.1) = some r) ∧ PySem.W.tabIn (K w.params) (ofS t.1) = some t.2 ∧ (K w.params).lookup t.2.2 = none) ∧ (∀ (s : Shared) (u : Value), BindsTo s fd ⟨[u], []⟩ [(x, u)]) ∧
        ∀ base : Heap, (K w.params).In base → base.Ns mainGlobals mg → (∀ t ∈ T, LamX.TabB base mg t.2.1 t.2.2) → FnG l.prog w (K w.params) mg base k fa fd [x] (spTrueT (T.map fun t => (t.1, t.2.2)) (K w.params))) :
    PySem.W.WalkO q loose XP YP l.row.toRowW d [] (fun f vs => PySem.call f vs) := by
  refine Att.attach_callB hn hdf fun w s₀ s₁ mg mb fa o pm cd doc a vs ns G Y ho hd hcd hmg hobj hints hlen hbits hg => ?_
  have KX := hY w _ Y
  obtain ⟨fd, T, hT, hb, hF⟩ := F w mg fa _ KX G.T.g hmg
  have tabs : ∀ t ∈ T, PySem.W.CodeHd s₁.heap t.2.1 t.2.2 ∧ s₁.heap.get? t.2.2 = some (PySem.W.tabObj #[]) := fun t ht => by
    obtain ⟨⟨r, h1⟩, h2, _⟩ := hT t ht
    exact PySem.W.tab_of G.T KX h1 h2
  refine law_endG (cs := T.map (·.2)) KX G.T.g G.T.b G.T.builtins G.T.nolimit hg (fun p hp => ?_) (fun p hp => ?_) (fun p hp => ?_) G.T.bmain hobj hints (Nat.le_trans hlen (by decide)) hr (fun base h1 h2 h3 => hF base h1 h2 fun t ht => h3 t.2 (List.mem_map_of_mem ht)) hb (fun H hH hS => ⟨a, ns, rfl, hS, hlen, fun p hp => ?_, fun _ => rfl⟩)
  · obtain ⟨t, ht, rfl⟩ := List.mem_map.mp hp
    exact (tabs t ht).2
  · obtain ⟨t, ht, rfl⟩ := List.mem_map.mp hp
    exact (hT t ht).2.2
  · obtain ⟨t, ht, rfl⟩ := List.mem_map.mp hp
    exact (tabs t ht).1
  · obtain ⟨t, ht, rfl⟩ := List.mem_map.mp hp
    exact hH t.2 (List.mem_map_of_mem ht)
end PV

set_option Elab.async false
set_option linter.all false
set_option maxRecDepth 100000
set_option maxHeartbeats 4000000
/-! PvXk: repr of data. -/
namespace PV
open PySem L2 PyProof.Rows
mutual
def toD : P → Option PyData
  | .non => some .none
  | .bl b => some (.bool b)
  | .int i => some (.int i)
  | .str x => some (.str x)
  | .tup xs => (toDs xs).map .tuple
  | .lst xs => (toDs xs).map .list
  | .fz xs => (toDs xs).map .list
  | .dK [] [] => some (.dict [])
  | .dT [] [] => some (.dict [])
  | _ => none
def toDs : List P → Option (List PyData)
  | [] => some []
  | x :: xs => (toD x).bind fun d => (toDs xs).bind fun ds => some (d :: ds)
end
mutual
/-- no list within -/
def noL : PyData → Bool
  | .none | .bool _ | .int _ | .str _ => true
  | .list _ => false
  | .tuple xs => noLs xs
  | .dict _ => true
def noLs : List PyData → Bool
  | [] => true
  | x :: xs => noL x && noLs xs
end
section
variable {P0 : Program} {w : World} {K : PySem.W.Frag} {cl : String → Option Addr} {H : Hp} {h : Heap} {N : Addr → Prop}
theorem kv_nil {κ : Type} {kvs : List (κ × V)} {ks : List κ} {xs : List P} (e : kvs.map (·.1) = ks) (hk : ks = []) : kvs = [] := by
  subst hk; simpa using e
theorem reads_seq {a : Addr} {ob : HO} {vs : List V} (ok : ObjOk P0 w H h a ob) (e : ob = .lst vs) : ∃ (its : List Value) (o : Obj) (n : Nat), Vals vs its ∧ h.get? a = some o ∧ o.cls = .type "list" ∧ o.data = .seq its.toArray n := by
  subst e
  obtain ⟨_, its, n, hv, e⟩ := ok
  exact ⟨its, _, n, hv, e, rfl, rfl⟩
mutual
theorem reads_of (hok : HOk P0 w H h) (KX : K.In h) : ∀ (x : P) (v : V) (u : Value) (d : PyData), RP K cl H N x v → RelV v u → toD x = some d → ∃ as, Reads h u d as ∧ (noL d = true → sysModules ∉ as)
  | .non, _, _, _, r, rv, e => by cases r; cases rv; cases e; exact ⟨_, .none, by simp⟩
  | .bl b, _, _, _, r, rv, e => by cases r; cases rv; cases e; exact ⟨_, .bool b, by simp⟩
  | .int i, _, _, _, r, rv, e => by cases r; obtain ⟨t, rfl⟩ := rv; cases e; exact ⟨_, .int i t, by simp⟩
  | .str s, _, _, _, r, rv, e => by cases r; obtain ⟨t, rfl⟩ := rv; cases e; exact ⟨_, .str s t, by simp⟩
  | .tup xs, _, _, d, r, rv, e => by
    cases r with
    | tup ha hs =>
      rename_i a vs
      cases rv
      obtain ⟨ds, e1, e2⟩ := Option.map_eq_some_iff.mp (show (toDs xs).map _ = some d from e)
      subst e2
      obtain ⟨_, its, hv, o, eo, hc, n, hd⟩ := (show ObjOk P0 w H h a (.tup vs) from hok _ _ ha)
      obtain ⟨as, q1, q2⟩ := reads_ofs hok KX xs vs its ds hs hv e1
      exact ⟨_, Reads.tuple eo hc hd q1, fun z => q2 z⟩
  | .lst xs, _, _, d, r, rv, e => by
    cases r with
    | lst ha hn hs =>
      rename_i a vs
      cases rv
      obtain ⟨ds, e1, e2⟩ := Option.map_eq_some_iff.mp (show (toDs xs).map _ = some d from e)
      subst e2
      obtain ⟨its, o, n, hv, eo, hc, hd⟩ := reads_seq (hok _ _ ha) rfl
      obtain ⟨as, q1, q2⟩ := reads_ofs hok KX xs vs its ds hs hv e1
      exact ⟨_, Reads.list eo hc hd q1, fun z => by cases z⟩
  | .fz xs, _, _, d, r, rv, e => by
    cases r with
    | fz ha hs =>
      rename_i a vs
      cases rv
      obtain ⟨ds, e1, e2⟩ := Option.map_eq_some_iff.mp (show (toDs xs).map _ = some d from e)
      subst e2
      have : ∃ (its : List Value) (o : Obj) (n : Nat), Vals vs its ∧ h.get? a = some o ∧ o.cls = .type "list" ∧ o.data = .seq its.toArray n := by
        rcases ha with ⟨o, ha, _⟩ | ⟨o, its, n, hk, hc, _, hd, _, hv⟩
        · exact reads_seq (show ObjOk P0 w H h a (.lst vs) from (hok _ _ ha).2) rfl
        · exact ⟨its.toList, o, n, hv, KX _ _ hk, hc, by simp [hd]⟩
      obtain ⟨its, o, n, hv, eo, hc, hd⟩ := this
      obtain ⟨as, q1, q2⟩ := reads_ofs hok KX xs vs its ds hs hv e1
      exact ⟨_, Reads.list eo hc hd q1, fun z => by cases z⟩
  | .dK [] [], _, _, d, r, rv, e => by
    cases e
    cases r with
    | dK ha hn e1 hs =>
      rename_i a kvs
      cases rv
      obtain rfl : kvs = [] := by simpa using e1
      obtain ⟨_, hsy, vs, hv, o, es, ep, eo, hx, hd, _, hp, _⟩ := (show ObjOk P0 w H h a (.dK []) from ha.ok hok)
      cases hv
      have he : es.toList = [] := by cases hq : es.toList with
        | nil => rfl
        | cons a b => rw [hq] at hp; cases hp
      exact ⟨_, Reads.dict (kvs := []) eo hx.1 hd (by rw [he]; exact .nil) (by rw [he]; exact .nil), fun _ => by simpa using Ne.symm (beq_eq_false_iff_ne.mp hsy)⟩
  | .dT [] [], _, _, d, r, rv, e => by
    cases e
    cases r with
    | dT ha hn e1 hs =>
      rename_i a kvs
      cases rv
      obtain rfl : kvs = [] := by simpa using e1
      obtain ⟨_, hsy, vs, hv, o, es, ep, eo, hx, hd, he, _⟩ := (show ObjOk P0 w H h a (.dT []) from ha.ok hok)
      cases hv
      have he : es.toList = [] := by simpa using he
      exact ⟨_, Reads.dict (kvs := []) eo hx.1 hd (by rw [he]; exact .nil) (by rw [he]; exact .nil), fun _ => by simpa using Ne.symm (beq_eq_false_iff_ne.mp hsy)⟩
  | .dK (_ :: _) _, _, _, d, r, rv, e => by simp [toD] at e
  | .dK [] (_ :: _), _, _, d, r, rv, e => by simp [toD] at e
  | .dT (_ :: _) _, _, _, d, r, rv, e => by simp [toD] at e
  | .dT [] (_ :: _), _, _, d, r, rv, e => by simp [toD] at e
  | .ins _ _ _, _, _, d, r, rv, e => by simp [toD] at e
  | .exv _ _ _, _, _, d, r, rv, e => by simp [toD] at e
theorem reads_ofs (hok : HOk P0 w H h) (KX : K.In h) : ∀ (xs : List P) (vs : List V) (us : List Value) (ds : List PyData), RPs K cl H N xs vs → Vals vs us → toDs xs = some ds → ∃ as, ReadsAll h us ds as ∧ (noLs ds = true → sysModules ∉ as)
  | [], _, _, _, r, rv, e => by cases r; cases rv; cases e; exact ⟨_, .nil, by simp⟩
  | x :: xs, _, _, _, r, rv, e => by
    cases r with
    | cons r1 r2 =>
      cases rv with
      | cons v1 v2 =>
        obtain ⟨d, e1, e⟩ := Option.bind_eq_some_iff.mp (show (toD x).bind _ = some _ from e)
        obtain ⟨ds, e2, e⟩ := Option.bind_eq_some_iff.mp e
        cases e
        obtain ⟨as, q1, q2⟩ := reads_of hok KX x _ _ d r1 v1 e1
        obtain ⟨bs, q3, q4⟩ := reads_ofs hok KX xs _ _ ds r2 v2 e2
        refine ⟨_, .cons q1 q3, fun z => ?_⟩
        have z : (noL d && noLs ds) = true := z
        rw [Bool.and_eq_true] at z
        simpa using ⟨q2 z.1, q4 z.2⟩
end
theorem ro_true {x : P} {v : V} (h : RO K cl H N x v) : RP K cl H (fun _ => True) x v := by
  have k : Keeps H H N (fun _ => True) := ⟨fun a o h _ => .inl h, fun a o h _ => h, fun _ _ _ => trivial⟩
  cases h with
  | p h => exact h.keep k
  | lst a b => exact .lst a trivial (RPs.keep k _ _ b)
  | dK a e b => exact .dK (.inl a) trivial e (RPs.keep k _ _ b)
  | dT a e b => exact .dT (.inl a) trivial e (RPs.keep k _ _ b)
  | ins a c e b => exact .ins a trivial c e (RPs.keep k _ _ b)
end
/-- what can be shown -/
def shOk (d : PyData) : Bool := d.showable && decide (d.depth ≤ 64) && decide (d.shown.length ≤ sizeLine) && (!d.hasDict || noL d)
def pRepr (x : P) : Option P := (toD x).bind fun d => if shOk d = true then some (.str d.shown) else none
section
variable {X : Cx} {cl : String → Option Addr} {k : Nat}
def rRepr (K : PySem.W.Frag) (cl : String → Option Addr) : List V → Hp → VK → Prop := fun xs H Q => ∃ v x d N, xs = [v] ∧ RP K cl H N x v ∧ toD x = some d ∧ shOk d = true ∧ Q (.str d.shown) H
theorem call_reprD (hr : Room k X.A) (gd : X.A.guards = some []) : CallR X (.builtin "repr") (rRepr X.K cl) := by
  intro pins s σ H xs us Q I r h
  obtain ⟨v, x, d, N, rfl, rp, e, ok, q⟩ := h
  obtain ⟨u, rfl, rv⟩ := vals1 r
  obtain ⟨as, rd, hs⟩ := reads_of I.hok I.kIn x v u d rp rv e
  unfold shOk at ok
  simp only [Bool.and_eq_true, decide_eq_true_eq] at ok
  obtain ⟨⟨⟨o1, o2⟩, o3⟩, o4⟩ := ok
  have un : X.A.units + 200 < cLine := by have := hr.un; omega
  have fin : ∀ (h' : Heap) (t : Tok) (tk : Nat), (∀ b o, s.heap.get? b = some o → h'.get? b = some o) → L2.EP X pins σ Q (.str d.shown t) { s with heap := h', toks := tk } := fun h' t tk kk =>
    ⟨.str d.shown, H, I.kept kk, ⟨t, rfl⟩, q⟩
  cases rd with
  | none => exact PySem.P.repr_of_none (fin s.heap _ _ fun _ _ z => z)
  | bool b => exact PySem.P.repr_of_bool (by have := fin s.heap s.toks (s.toks + 1) fun _ _ z => z; cases b <;> simpa [PyData.shown] using this)
  | int i t => exact PySem.P.repr_of_int (by simpa [PyData.showable] using o1) (fin s.heap _ _ fun _ _ z => z)
  | str y t => exact PySem.P.repr_of_str (fin s.heap _ _ fun _ _ z => z) o3
  | list h1 h2 h3 h4 =>
    exact PySem.repr_of_reads' (.list h1 h2 h3 h4) o1 (fun hd => by
      rw [hd] at o4
      exact hs (by simpa using o4)) gd (by omega) (fun _ _ z => z) (fun h' t tk kk => fin h' t tk kk) o3
  | tuple h1 h2 h3 h4 =>
    exact PySem.repr_of_reads' (.tuple h1 h2 h3 h4) o1 (fun hd => by
      rw [hd] at o4
      exact hs (by simpa using o4)) gd (by omega) (fun _ _ z => z) (fun h' t tk kk => fin h' t tk kk) o3
  | dict h1 h2 h3 h4 h5 =>
    exact PySem.repr_of_reads' (.dict h1 h2 h3 h4 h5) o1 (fun hd => by
      rw [hd] at o4
      exact hs (by simpa using o4)) gd (by omega) (fun _ _ z => z) (fun h' t tk kk => fin h' t tk kk) o3
theorem prim_repr {K : PySem.W.Frag} : PrimN K cl (rRepr K cl) (pF1 pRepr) := primN1 fun ω H x z v Q dm hx e q => by
  obtain ⟨d, e1, e2⟩ := Option.bind_eq_some_iff.mp e
  split at e2
  · rename_i ok
    cases e2
    exact ⟨v, x, d, _, rfl, ro_true hx, e1, ok, q H _ (.refl H) (.str _)⟩
  · cases e2
end
end PV

set_option Elab.async false
set_option linter.all false
set_option maxRecDepth 100000
set_option maxHeartbeats 4000000
/-! PvXl: exceptions of own classes as values: made, read, asked for their class. -/
namespace PV
open PySem L2 PyProof.Rows
section
variable {X : Cx} {x : Str} {C fI : Addr} {k : Nat} {fd : FuncData} {ps : List Str} {sp : Sp} {e : Expr} {es : List Expr} {ta : TA} {p pos : Pos}
theorem pe_oexV (T : OexC X.K C) (iC : PySem.W.findIn X.K (.ref C) "__init__" = some (some (.ref fI))) (tI : PySem.W.typeIn X.K (.ref fI) = some (.type "function"))
    (F1 : FnOk X.prog X.w X.K X.mg X.base (L2.CX X.prog X.w) k fI fd ps sp) (hr : Room (k + 1) X.A) (hb : Binds X.K fd ps []) (hg : Gl X x) (hm : X.mg x = some (.ref C)) (ha : PA X (e :: es) ta)
    (hdb : (x == ("__debug__" : Str)) = false := by decide) (he : starEach (e :: es) X.env = (false, eval e X.env) :: starEach es X.env := by rfl) (hpl : (backTo pos (starEach es X.env)).any (·.1) = false := by rfl) :
    PE X (.Call (.Name x p) (e :: es) [] pos) (fun σ H Q => ta σ H fun vs H1 => vs.length ≤ 1000 ∧ ∀ a, H1 a = none → sp (.ref a :: vs) (upd H1 a (exo a C none)) (fun v H2 => v = .non ∧ Q (.ref a) H2) (fun _ _ _ => False)) := by
  refine ⟨fun pins s σ H Q I h => ?_⟩
  obtain ⟨nm, q, N, bs, bm, sn, sub, ab, col, dd, k0, k1, k2, k3, k5, hC, hbm⟩ := T.cls
  refine wpAny_Call_Name_kw (ld_glob I hg hm (PySem.W.callWith_K (h₀ := X.base) I.ok.mod.kin T.kC (thn (ha.run pos pins s σ H _ I h) fun us s1 hh => ?_) he hpl) hdb)
  obtain ⟨vs, H1, I1, r1, hz, q1⟩ := hh
  refine ⟨I1.kIn, ?_⟩
  show wpAny _ _ (call (.ref C) us) _ _ _
  obtain ⟨hp, gs, dr, tk, os⟩ := s1
  have fresh : H1 (hp.objs.size + 1) = none := I1.hok.fresh (Nat.le_succ _)
  have want := q1 (hp.objs.size + 1) fresh
  have I2 : Inv X pins σ (upd H1 (hp.objs.size + 1) (exo (hp.objs.size + 1) C none)) ⟨(hp.push (PySem.W.kdv_tup us)).push (PySem.HandSPX.excO C hp.objs.size), gs, dr, tk, os⟩ :=
    I1.laid (t' := tk) (a := hp.objs.size + 1) (o := exo (hp.objs.size + 1) C none) (h' := (hp.push (PySem.W.kdv_tup us)).push (PySem.HandSPX.excO C hp.objs.size)) (fun b o e => Heap.get?_push_of_some _ (Heap.get?_push_of_some _ e)) (Nat.le_succ _) (exo_ok (by heap_get))
  have r2 : Vals (V.ref (hp.objs.size + 1) :: vs) (Value.ref (hp.objs.size + 1) :: us) := .cons rfl r1
  have hl : (Value.ref (hp.objs.size + 1) :: us).length = ps.length := r2.length.symm.trans (F1.len _ _ _ _ want)
  have hus : us.length ≤ sizeLine := by
    have e := Paired.length r1
    have := sizeLine_eq
    omega
  have bnd := hb _ (Value.ref (hp.objs.size + 1) :: us) I2.kIn (by rw [List.append_nil]; exact hl)
  rw [List.append_nil] at bnd
  refine wpAny_call (PySem.HandSPX.call_own F.excBase_ValueError (fun Y => PySem.HandSPX.refsVE_contains Y bm hbm) (I1.kIn _ _ hC) (PySem.W.looks_findIn I1.kIn iC) (fun self => PySem.W.bind_fn I1.kIn self tI) hus
    (codeAny_mono (F1.run _ X.stack _ _ ⟨Value.ref (hp.objs.size + 1) :: us, []⟩ (Value.ref (hp.objs.size + 1) :: us) _ _ (fun _ _ _ => False) (hr.make C us []) (I2.env0.make C us []) bnd r2 want) fun r s' hq => ?_))
  match r, hq with
  | .error er, hq => obtain ⟨_, _, _, _, _, _, _, _, _, _, _, _, z⟩ := hq; exact z.elim
  | .ok .next, hq => exact hq.elim
  | .ok .brk, hq => exact hq.elim
  | .ok .cont, hq => exact hq.elim
  | .ok (.ret u), hq =>
    obtain ⟨v, H2, os2, bare2, un2, hok2, rv, ev, q2⟩ := hq
    subst ev
    have aft : L2.EP X pins σ (fun v H' => v = .non ∧ Q (.ref (hp.objs.size + 1)) H') u s' := I2.after ⟨_, H2, os2, bare2, un2, hok2, rv, rfl, q2⟩
    obtain ⟨v', H3, I3, rv', ev', q3⟩ := aft
    exact ⟨rv, ⟨.ref (hp.objs.size + 1), H3, I3, rfl, q3⟩⟩
/-- C(), no __init__ of its own -/
theorem pe_exc0 {bmB : List Value} {B newId initId : String} (F : ExcBaseFacts B newId initId bmB) (q : PySem.W.excIn X.K C bmB newId = true) (kC : PySem.W.keepIn X.K (.ref C) = true) (hg : Gl X x) (hm : X.mg x = some (.ref C))
    (hdb : (x == ("__debug__" : Str)) = false := by decide) : PE X (.Call (.Name x p) [] [] pos) (fun σ H Q => ∀ a, H a = none → Q (.ref a) (upd H a (L2.ExO (.ref C) a))) := by
  refine ⟨fun pins s σ H Q I h => ?_⟩
  refine wpAny_Call_Name_kw (ld_glob I hg hm (PySem.W.callWith_K0 I.kIn kC ?_) hdb)
  obtain ⟨bm, N, nm, qn, bs, hdct, sn, sub, ab, col, dd, k0, k1, k2, k3, k5, mN, hC, hN, hni, T⟩ := exc_obj I.kIn q
  refine wpAny_call_exc_subT F T hC hN hni (fun h' a hm => ?_) (by show 0 ≤ sizeLine; omega)
  have hn : H a = none := I.hok.gone hm.new
  obtain ⟨t, ht, _, _⟩ := hm.there
  exact ⟨.ref a, upd H a (L2.ExO (.ref C) a), I.laidN hm.keeps hm.new hn (exO_ok ht ⟨rfl, rfl⟩ rfl rfl rfl (show 4 < 6 by decide)), rfl, h a hn⟩
end
/-- C(..) as a value: ns its fields' names, the last one first -/
def mExv (c : String) (ns : List String) (ms : List M) : M := fun σ => (mAs ms σ).bind fun os σ1 => (frzAll os σ1).bind fun xs σ2 => if xs.length = ns.length then .ok (.v (.exv c ns xs.reverse)) σ2 else .stuck
theorem exo_is {a C : Addr} {d : Option Addr} : ExO C a d (exo a C d) := ⟨_, rfl, fun h ⟨t1, e⟩ => ⟨_, _, e, rfl, rfl, rfl⟩⟩
theorem eXO_is {a C : Addr} : ExO C a none (L2.ExO (.ref C) a) := ⟨_, rfl, fun h ⟨oe, vs, e, z, d, _⟩ => ⟨oe, vs, e, z.1, z.2, d⟩⟩
theorem exd_is {H : Hp} {dx : Addr} {fs : List (Str × V)} (h : H dx = some (exd dx fs)) : EXd H (some dx) fs := ⟨_, h, fun _ z => z⟩
section
variable {X : Cx} {g : G} {x p1 p2 : Str} {c f1 f2 : String} {C D fI : Addr} {fd : FuncData} {k : Nat} {e e2 : Expr} {m m2 : M} {p pos : Pos}
theorem de_exv0 {bmB : List Value} {B newId initId : String} (F : ExcBaseFacts B newId initId bmB) (q : PySem.W.excIn X.K C bmB newId = true) (kC : PySem.W.keepIn X.K (.ref C) = true) (hcl : g.cl c = some C) (hg : Gl X x) (hm : X.mg x = some (.ref C))
    (hdb : (x == ("__debug__" : Str)) = false := by decide) : PE X (.Call (.Name x p) [] [] pos) (tM g (mExv c [] [])) :=
  pe_weak (pe_exc0 F q kC hg hm hdb) fun σ H Q h a hna => by
    obtain ⟨ω, σD, st, q⟩ := h
    have sm : Same H (upd H a (L2.ExO (.ref C) a)) := Same.new hna
    exact q ω _ (.same sm) (st.same sm) _ (.v (.exv (fs := []) (d := none) upd_same eXO_is hcl rfl rfl .nil))
theorem de_exv1 (hcl : g.cl c = some C) (T : OexC X.K C) (S : SuC X.K C D) (hf : PySem.W.findIn X.K (.ref C) (ofS f1) = some none) (iC : PySem.W.findIn X.K (.ref C) "__init__" = some (some (.ref fI))) (tI : PySem.W.typeIn X.K (.ref fI) = some (.type "function"))
    (F1 : FnOk X.prog X.w X.K X.mg X.base (L2.CX X.prog X.w) k fI fd ["self", p1] (spX1 X.K D (ofS f1))) (hb : L2.Binds X.K fd ["self", p1] []) (hr : Room (k + 1) X.A) (hg : Gl X x) (hm : X.mg x = some (.ref C)) (ha : PA X [e] (tA g (mAs [m])))
    (hdb : (x == ("__debug__" : Str)) = false := by decide) (he : starEach [e] X.env = (false, eval e X.env) :: starEach [] X.env := by rfl) : PE X (.Call (.Name x p) [e] [] pos) (tM g (mExv c [f1] [m])) :=
  pe_weak (pe_oexV T iC tI F1 hr hb hg hm ha hdb he rfl) fun σ H Q h => by
    obtain ⟨ω, σD, st, q⟩ := h
    refine ⟨ω, σD, st, q.bind.imp fun os σ1 ω1 H1 s1 st1 q1 vs ov => ?_⟩
    obtain ⟨xs, σ2, ω2, s2, st2, r, e3, q2⟩ := frzAll_ok st1 ov q1.bind
    by_cases hl : xs.length = [f1].length
    · rw [if_pos hl] at q2
      match xs, vs, r, hl with
      | [x0], [y], r, _ =>
        refine ⟨by simp, fun a hna => ⟨a, C, y, rfl, T, S, hf, upd_same, fun dx hdx hne => ⟨rfl, ?_⟩⟩⟩
        rw [upd_ne hne] at hdx
        have eH : upd (upd (upd H1 a (exo a C none)) dx (exd dx [(ofS f1, y)])) a (exo a C (some dx)) = upd (upd H1 dx (exd dx [(ofS f1, y)])) a (exo a C (some dx)) := by
          funext b
          by_cases h2 : b = a
          · subst h2; rw [upd_same, upd_same]
          · rw [upd_ne h2, upd_ne h2]
            by_cases h1 : b = dx
            · subst h1; rw [upd_same, upd_same]
            · rw [upd_ne h1, upd_ne h1, upd_ne h2]
        rw [eH]
        have sm : Same H1 (upd (upd H1 dx (exd dx [(ofS f1, y)])) a (exo a C (some dx))) := (Same.new hdx).trans (Same.new (by rw [upd_ne (Ne.symm hne)]; exact hna))
        exact q2 ω2 _ (.same sm) (st2.same sm) _ (.v (.exv (fs := [(ofS f1, y)]) upd_same exo_is hcl (exd_is (by rw [upd_ne hne]; exact upd_same)) rfl (RPs.keep (same_keeps sm) _ _ r)))
    · rw [if_neg hl] at q2
      exact q2.elim
theorem de_exv2 (hcl : g.cl c = some C) (T : OexC X.K C) (S : SuC X.K C D) (hf : PySem.W.findIn X.K (.ref C) (ofS f1) = some none) (hf2 : PySem.W.findIn X.K (.ref C) (ofS f2) = some none) (iC : PySem.W.findIn X.K (.ref C) "__init__" = some (some (.ref fI))) (tI : PySem.W.typeIn X.K (.ref fI) = some (.type "function"))
    (F1 : FnOk X.prog X.w X.K X.mg X.base (L2.CX X.prog X.w) k fI fd ["self", p1, p2] (spX2 X.K D (ofS f1) (ofS f2))) (hb : L2.Binds X.K fd ["self", p1, p2] []) (hr : Room (k + 1) X.A) (hg : Gl X x) (hm : X.mg x = some (.ref C)) (ha : PA X [e, e2] (tA g (mAs [m, m2])))
    (hdb : (x == ("__debug__" : Str)) = false := by decide) (he : starEach [e, e2] X.env = (false, eval e X.env) :: starEach [e2] X.env := by rfl) (hpl : (backTo pos (starEach [e2] X.env)).any (·.1) = false := by rfl) : PE X (.Call (.Name x p) [e, e2] [] pos) (tM g (mExv c [f2, f1] [m, m2])) :=
  pe_weak (pe_oexV T iC tI F1 hr hb hg hm ha hdb he hpl) fun σ H Q h => by
    obtain ⟨ω, σD, st, q⟩ := h
    refine ⟨ω, σD, st, q.bind.imp fun os σ1 ω1 H1 s1 st1 q1 vs ov => ?_⟩
    obtain ⟨xs, σ2, ω2, s2, st2, r, e3, q2⟩ := frzAll_ok st1 ov q1.bind
    by_cases hl : xs.length = [f2, f1].length
    · rw [if_pos hl] at q2
      match xs, vs, r, hl with
      | [x0, x1], [y, z], r, _ =>
        refine ⟨by simp, fun a hna => ⟨a, C, y, z, rfl, T, S, hf, hf2, upd_same, fun dx hdx hne => ⟨rfl, ?_⟩⟩⟩
        rw [upd_ne hne] at hdx
        have eH : upd (upd (upd (upd H1 a (exo a C none)) dx (exd dx [(ofS f1, y)])) a (exo a C (some dx))) dx (exd dx [(ofS f2, z), (ofS f1, y)]) = upd (upd H1 dx (exd dx [(ofS f2, z), (ofS f1, y)])) a (exo a C (some dx)) := by
          funext b
          by_cases h1 : b = dx
          · subst h1; rw [upd_same, upd_ne hne, upd_same]
          · rw [upd_ne h1]
            by_cases h2 : b = a
            · subst h2; rw [upd_same, upd_same]
            · rw [upd_ne h2, upd_ne h1, upd_ne h2, upd_ne h2, upd_ne h1]
        rw [eH]
        have sm : Same H1 (upd (upd H1 dx (exd dx [(ofS f2, z), (ofS f1, y)])) a (exo a C (some dx))) := (Same.new hdx).trans (Same.new (by rw [upd_ne (Ne.symm hne)]; exact hna))
        exact q2 ω2 _ (.same sm) (st2.same sm) _ (.v (.exv (fs := [(ofS f2, z), (ofS f1, y)]) upd_same exo_is hcl (exd_is (by rw [upd_ne hne]; exact upd_same)) rfl (RPs.keep (same_keeps sm) _ _ r.reverse)))
    · rw [if_neg hl] at q2
      exact q2.elim
end
end PV

set_option Elab.async false
set_option linter.all false
set_option maxRecDepth 100000
set_option maxHeartbeats 4000000
/-! PvXm: an exception's fields, and of which class it is. -/
namespace PV
open PySem L2 PyProof.Rows
/-- an exception as an instance -/
theorem exv_at {P0 : Program} {w : World} {H : Hp} {h : Heap} {a C : Addr} {d : Option Addr} {o : HO} {fs : List (Str × V)} (hok : HOk P0 w H h) (e : H a = some o) (x : ExO C a d o) (y : EXd H d fs) :
    ∃ (oe : Obj) (od : Option Obj), PySem.W.InstAt h a oe C od ∧ ∀ f v, fs.lookup f = some v → ∃ o' u, od = some o' ∧ PySem.W.lookIn f o' = some (some u) ∧ RelV v u := by
  obtain ⟨φ, rfl, hφ⟩ := x
  obtain ⟨hh, _⟩ : φ h ∧ _ := hok a _ e
  obtain ⟨oe, us, e1, e2, e3, e4⟩ := hφ h hh
  cases d with
  | none =>
    obtain rfl : fs = [] := y
    refine ⟨oe, none, ?_, fun f v z => by cases z⟩
    obtain ⟨oc, od, oda, osl⟩ := oe
    dsimp only at e2 e3 e4
    subst e2 e3 e4
    exact ⟨e1, rfl, rfl, trivial⟩
  | some dx =>
    obtain ⟨ψ, y1, y2⟩ := y
    obtain ⟨hψ, _⟩ : ψ h ∧ _ := hok dx _ y1
    obtain ⟨mA, hns, hr⟩ := y2 h hψ
    obtain ⟨od, ho, hl⟩ := lookIn_ns hns
    refine ⟨oe, some od, ⟨e1, e2, by unfold PySem.W.notCls; rw [e4] <;> rfl, by rw [e3]; exact ho⟩, fun f v z => ?_⟩
    obtain ⟨u, hu, ru⟩ := RelO.some_of (v := v) (o := mA f) (by rw [← z]; exact hr f)
    exact ⟨od, u, rfl, by rw [hl, hu], ru⟩
theorem RO.exv_inv {K : PySem.W.Frag} {cl : String → Option Addr} {H : Hp} {N : Addr → Prop} {c : String} {ns : List String} {xs : List P} {v : V} (h : RO K cl H N (.exv c ns xs) v) :
    ∃ (a C : Addr) (d : Option Addr) (o : HO) (fs : List (Str × V)), v = .ref a ∧ H a = some o ∧ ExO C a d o ∧ cl c = some C ∧ EXd H d fs ∧ fs.map (·.1) = ns.map ofS ∧ RPs K cl H N xs (fs.map (·.2)) := by
  cases h with
  | p h => cases h with | exv h1 h2 h3 h4 h5 h6 => exact ⟨_, _, _, _, _, rfl, h1, h2, h3, h4, h5, h6⟩
section
variable {X : Cx} {g : G}
def tXv (K : PySem.W.Frag) (n : Str) (te : TE) : TE := fun σ H Q => te σ H fun x H1 => ∃ (a C : Addr) (d : Option Addr) (o : HO) (fs : List (Str × V)) (v : V), x = .ref a ∧ H1 a = some o ∧ ExO C a d o ∧ EXd H1 d fs ∧ XfC K C ∧ PySem.W.findIn K (.ref C) n = some none ∧ fs.lookup n = some v ∧ Q v H1
theorem pe_xv {e : Expr} {te : TE} {n : Str} {pos : Pos} (he : PE X e te) (hb : attributeBase e n X.env (eval e X.env) = eval e X.env := by rfl) : PE X (.Attribute e n pos) (tXv X.K n te) := by
  refine ⟨fun pins s σ H Q I h => attr_of hb (thn (he.run pins s σ H _ I h) fun u s1 hh => ?_)⟩
  obtain ⟨x, H1, I1, rx, a, C, d, o, fs, v, rfl, h1, h2, h3, T, hno, l, q⟩ := hh
  obtain rfl : u = Value.ref a := rx
  obtain ⟨oe, od, J, look⟩ := exv_at I1.hok h1 h2 h3
  obtain ⟨o', u, rfl, lu, ru⟩ := look n v l
  exact HandSPX.exc_get I1.kIn J T.ga T.gg T.exC (PySem.W.findObj_own T.hdC hno rfl lu) (handed_of ru) ⟨v, H1, I1.tok _, ru, q⟩
/-- class c's exceptions' field f can be read -/
def XvOk (K : PySem.W.Frag) (cl : String → Option Addr) (c f : String) : Prop := ∀ C, cl c = some C → XfC K C ∧ PySem.W.findIn K (.ref C) (ofS f) = some none
def pAttrE (cs : List String) (f : String) : P → Option P
  | .exv c ns xs => if c ∈ cs then lookF f ns xs else none
  | _ => none
theorem de_attrE {e : Expr} {m : M} {f : String} {cs : List String} {pos : Pos} (he : PE X e (tM g m)) (hK : g.K = X.K) (hc : ∀ c ∈ cs, XvOk g.K g.cl c f) (hb : attributeBase e (ofS f) X.env (eval e X.env) = eval e X.env := by rfl) : PE X (.Attribute e (ofS f) pos) (tM g (mOp1 (pAttrE cs f) m)) :=
  pe_weak (pe_xv he hb) fun σ H Q h => by
    obtain ⟨ω, σD, st, q⟩ := h
    refine ⟨ω, σD, st, q.bind.imp fun oa σ1 ω1 H1 s1 st1 q1 v ov => ?_⟩
    obtain ⟨z, e, q1⟩ := lift_post q1
    obtain ⟨x, e1, e2⟩ := Option.bind_eq_some_iff.mp e
    have ro := st1.get ov e1
    cases x with
    | exv c ns xs =>
      dsimp only [pAttrE] at e2
      by_cases hcs : c ∈ cs
      · rw [if_pos hcs] at e2
        obtain ⟨a, C, d, o, fs, rfl, h1, h2, h3, h4, h5, h6⟩ := ro.exv_inv
        obtain ⟨T, hno⟩ := hc c hcs C h3
        obtain ⟨v', l, r⟩ := lookF_ok h5 h6 e2
        rw [hK] at T hno
        exact ⟨a, C, d, o, fs, v', rfl, h1, h2, h4, T, hno, l, q1 ω1 H1 .refl st1 v' (.v r)⟩
      · rw [if_neg hcs] at e2; cases e2
    | _ => cases e2
/-! isinstance -/
def rIsX (K : PySem.W.Frag) : List V → Hp → VK → Prop := fun xs H Q => ∃ (a C : Addr) (d : Option Addr) (o : HO) (fs : List (Str × V)) (c : V) (cv : Value) (b : Bool), xs = [.ref a, c] ∧ H a = some o ∧ ExO C a d o ∧ EXd H d fs ∧ (∀ u, RelV c u → u = cv) ∧ ExcC K C ∧ PySem.W.kitOne K (.ref C) cv = some b ∧ Q (.bl b) H
theorem call_isX : CallR X (.builtin "isinstance") (rIsX X.K) := by
  intro pins s σ H xs us Q I r h
  obtain ⟨a, C, d, o, fs, c, cv, b, rfl, h1, h2, h3, hcv, T, e, q⟩ := h
  cases r with
  | cons rx rr =>
    cases rr with
    | cons rt rr =>
      cases rr
      cases rx
      obtain rfl := hcv _ rt
      obtain ⟨oe, od, J, _⟩ := exv_at I.hok h1 h2 h3
      have hcl : (PySem.W.clsIn X.K C).isSome = true := by obtain ⟨cd, hc, _⟩ := PySem.W.any_some T.hd; rw [hc]; rfl
      exact PySem.W.kia_one (PySem.W.kitx_exc hcl T.hg T.hk T.hs T.ha T.hn T.ht T.hm) I.kIn J e (fun z => nomatch z) fun tk => ⟨.bl b, H, I.kept (t' := tk) fun _ _ z => z, rfl, q⟩
/-- tb: what is to be told of the classes -/
def pIsE (tb : List (String × Bool)) : P → Option P
  | .exv c _ _ => (tb.lookup c).map P.bl
  | _ => none
def IxOk (K : PySem.W.Frag) (cl : String → Option Addr) (tb : List (String × Bool)) (cv : Value) : Prop := ∀ c b C, tb.lookup c = some b → cl c = some C → ExcC K C ∧ PySem.W.kitOne K (.ref C) cv = some b
theorem de_isX {e e2 : Expr} {m : M} {tb : List (String × Bool)} {c : V} {cv : Value} {p pos : Pos} (hg : Gl X "isinstance") (hm : X.mg "isinstance" = none) (h2 : PE X e2 (tC c)) (hcv : ∀ u, RelV c u → u = cv) (ok : IxOk g.K g.cl tb cv) (hK : g.K = X.K) (he : PE X e (tM g m))
    (hs : starEach [e, e2] X.env = (false, eval e X.env) :: starEach [e2] X.env := by rfl) (hs2 : starEach [e2] X.env = (false, eval e2 X.env) :: starEach [] X.env := by rfl) (hpl : (backTo pos (starEach [e2] X.env)).any (·.1) = false := by rfl) :
    PE X (.Call (.Name "isinstance" p) [e, e2] [] pos) (tM g (mOp1 (pIsE tb) m)) :=
  pe_weak (pe_callB call_isX hg hm (by rfl) (pa_cons he (pa_cons h2 pa_nil hs2) hs) (by decide) (by decide) hs hpl) fun σ H Q h => by
    obtain ⟨ω, σD, st, q⟩ := h
    refine ⟨ω, σD, st, q.bind.imp fun oa σ1 ω1 H1 s1 st1 q1 v ov => ?_⟩
    obtain ⟨z, e, q1⟩ := lift_post q1
    obtain ⟨x, e1, e2⟩ := Option.bind_eq_some_iff.mp e
    have ro := st1.get ov e1
    cases x with
    | exv cn ns xs =>
      obtain ⟨b, e3, rfl⟩ := Option.map_eq_some_iff.mp (show (tb.lookup cn).map P.bl = some z from e2)
      obtain ⟨a, C, d, o, fs, rfl, h1, h2, h3, h4, h5, h6⟩ := ro.exv_inv
      obtain ⟨T, hk⟩ := ok cn b C e3 h3
      rw [hK] at T hk
      exact ⟨a, C, d, o, fs, c, cv, b, rfl, h1, h2, h4, hcv, T, hk, q1 ω1 H1 .refl st1 _ (.v (.bl b))⟩
    | _ => cases e2
end
end PV

set_option Elab.async false
set_option linter.all false
set_option maxRecDepth 100000
set_option maxHeartbeats 4000000
/-! PvXn: != of two equal lists that may hold dicts. -/
namespace PySem.SeqAt
open AutoSeq1 (wpAny_loadPart')
open MeetsSeq MeetsSeq2 MeetsSeq3 SeqRoads2
section
variable {prog : Program} {w : World}
/-- two lists of one length, equal item for item -/
def Twins (prog : Program) (w : World) (l b : Addr) (I J : Array Value) (A : Around) (s : Shared) : Prop :=
  (∃ n dd sl, s.heap.get? l = some { cls := .type "list", dict := dd, data := .seq I n, slots := sl }) ∧ (∃ n dd sl, s.heap.get? b = some { cls := .type "list", dict := dd, data := .seq J n, slots := sl }) ∧ ∀ j (h1 : j < I.size) (h2 : j < J.size), EqP prog w A.in1 s I[j] J[j] true
theorem ne_twins (l b : Addr) (I J : Array Value) (hsz : I.size = J.size) : ∀ k i : Nat, I.size - i = k →
    MeetsIn prog w (Builtin.«list.__eq__.loop» ⟨[.ref l, .ref b, rawInt i, rawInt 3], []⟩) (fun A R s => Twins prog w l b I J A s ∧ R (.ok (.ret (.bool false))) s)
  | 0, i, hk => by
    intro A R s h
    obtain ⟨hp, g, d, tk, os⟩ := s
    obtain ⟨⟨⟨n, dd, sl, hl⟩, ⟨n2, dd2, sl2, hb⟩, he⟩, h⟩ := h
    wp_walk using wpAny_loadPart' hl, wpAny_loadPart' hb
    have o1 : I[((i : Nat) : Int).toNat]? = none := by simp; omega
    have o2 : J[((i : Nat) : Int).toNat]? = none := by simp; omega
    rw [o1, o2]
    wp_walk using wpAny_loadPart' hl, wpAny_loadPart' hb
    have z : (I.size != J.size) = false := by simp [hsz]
    show R (.ok (.ret (.bool (I.size != J.size)))) _
    rw [z]
    exact h
  | k + 1, i, hk => by
    intro A R s h
    obtain ⟨hp, g, d, tk, os⟩ := s
    obtain ⟨⟨⟨n, dd, sl, hl⟩, ⟨n2, dd2, sl2, hb⟩, he⟩, h⟩ := h
    wp_walk using wpAny_loadPart' hl, wpAny_loadPart' hb
    have b1 : i < I.size := by omega
    have b2 : i < J.size := by omega
    have o1 : I[((i : Nat) : Int).toNat]? = some I[i] := by simp [b1]
    have o2 : J[((i : Nat) : Int).toNat]? = some J[i] := by simp [b2]
    have hc : ((i : Int) + 1) = ((i + 1 : Nat) : Int) := by push_cast; rfl
    rw [o1, o2]
    refine wpAny_bind (he i b1 b2 _ _ ?_)
    wp_walk
    rw [hc]
    refine ⟨plainId_quiet plain_eq_loop _, codeAny_builtin entry_eq_loop ?_⟩
    rw [Around.under_plainId plain_eq_loop _]
    exact ne_twins l b I J hsz k (i + 1) (by omega) A R _ ⟨⟨⟨n, dd, sl, hl⟩, ⟨n2, dd2, sl2, hb⟩, he⟩, h⟩
theorem list_ne_twins (l b : Addr) (I J : Array Value) (hsz : I.size = J.size) : MeetsIn prog w (Builtin.«list.__ne__» ⟨[.ref l, .ref b], []⟩) (fun A R s => Twins prog w l b I J A s ∧ R (.ok (.ret (.bool false))) s) := by
  intro A R s h
  obtain ⟨hp, g, d, tk, os⟩ := s
  obtain ⟨⟨⟨n, dd, sl, hl⟩, ⟨n2, dd2, sl2, hb⟩, he⟩, h⟩ := h
  have f3 := AutoSeq1.sub_list_list
  have hne : ¬ (I.size != J.size) = true := by simp [hsz]
  wp_walk using wpAny_loadPart' hl, wpAny_loadPart' hb
  refine ⟨plainId_quiet plain_eq_loop _, codeAny_builtin entry_eq_loop ?_⟩
  rw [Around.under_plainId plain_eq_loop _]
  exact ne_twins l b I J hsz _ 0 rfl A R _ ⟨⟨⟨n, dd, sl, hl⟩, ⟨n2, dd2, sl2, hb⟩, he⟩, h⟩
theorem rcNe_twins {A : Around} {s : Shared} {l b : Addr} {I J : Array Value} (hl : s.heap.IsList l I) (hb : s.heap.IsList b J) (hsz : I.size = J.size) (hu : A.units < cLine)
    (he : ∀ j (h1 : j < I.size) (h2 : j < J.size), EqP prog w A.in1 s I[j] J[j] true) (E Q : Value → Shared → Prop) (h : Q (.bool false) s) : wpAny (model prog w) A (richCompare .NotEq (.ref l) (.ref b)) Q E s := by
  obtain ⟨⟨cls, dd, data, sl⟩, ho, hc, n, hd⟩ := id hl
  obtain ⟨⟨cls2, dd2, data2, sl2⟩, ho2, hc2, n2, hd2⟩ := id hb
  simp only at hc hd hc2 hd2
  subst hc hd hc2 hd2
  refine wpAny_richCompare_same_room (op := .NotEq) ⟨_, ho, rfl⟩ ⟨_, ho2, rfl⟩ F.slot_list_ne (call_meetsIn F.slot_list_ne ⟨_, ho, rfl⟩ F.entry_list_ne (F.args_list_ne_2 _ _) (list_ne_twins l b I J hsz) ⟨⟨⟨_, _, _, ho⟩, ⟨_, _, _, ho2⟩, he⟩, ?_⟩) hu
  exact show Value.bool false ≠ Value.notImplemented ∧ Q (.bool false) s from ⟨(fun x => nomatch x), h⟩
end
end PySem.SeqAt
namespace PV
open PySem L2 PyProof.Rows
section
variable {X : Cx} {pins : List (Addr × Obj)} {σ : L2.St} {H : Hp} {s : Shared}
theorem kv_keys {kvs : List (Key × V)} {va : List (Key × Value)} (r : KV kvs va) : kvs.map (·.1) = va.map (·.1) := by
  unfold KV at r
  induction r with
  | nil => rfl
  | cons h _ ih => rw [List.map_cons, List.map_cons, h.1, ih]
theorem valV_mem : ∀ {kvs : List (Key × V)}, (kvs.map (·.1)).Nodup → ∀ p ∈ kvs, valV kvs p.1 = some p.2
  | [], _, p, h => by cases h
  | q :: kvs, hn, p, h => by
    rw [List.map_cons, List.nodup_cons] at hn
    unfold valV
    rw [List.find?_cons]
    rcases List.mem_cons.mp h with rfl | h
    · simp
    · have : q.1 ≠ p.1 := fun e => hn.1 (by rw [e]; exact List.mem_map_of_mem h)
      rw [show decide (q.1 = p.1) = false by simpa using this]
      exact valV_mem hn.2 p h
theorem dict_twins (I : Inv X pins σ H s) {A : Around} (hu : A.units + 1 < cLine) {a b : Addr} {kvs : List (Key × V)} (ha : L2.Rd H a (.dK kvs)) (hb : L2.Rd H b (.dK kvs)) (fl : ∀ p ∈ kvs, flatB p.2 = true) : SeqAt.EqP X.prog X.w A s (.ref a) (.ref b) true := by
  by_cases e : a = b
  · subst e; exact (SeqAt.EqAt.same _).eqP
  · obtain ⟨_, ya, va, ra, da⟩ := dk_rd I.hok ha
    obtain ⟨_, yb, vb, rb, db⟩ := dk_rd I.hok hb
    have nd : (kvs.map (·.1)).Nodup := by rw [kv_keys ra]; exact da.choose_spec.choose_spec.choose_spec.2.2.2.2.2
    refine SeqAt.eqP_refs e fun E Q q => PySem.W.rcP_dicts (knd := mixKind X.prog X.w) (r := true) ya yb da db (by omega) (fun _ => hits_run (F := fun x y => x = y ∧ flatB x = true) (fun x y v u h rx ry => ?_) rb ra fun p hp => ⟨p.2, valV_mem nd p hp, rfl, fl p hp⟩) E Q ?_
    · obtain ⟨rfl, f⟩ := h; exact (eqAt_same rx ry f).eqP
    · have e2 : va.length = vb.length := by rw [← ra.length, ← rb.length]
      rw [show (va.length == vb.length && true) = true from by rw [e2]; simp]
      exact q
/-- equal: as data, or as dicts of flat values -/
def FX (K : PySem.W.Frag) (H : Hp) (x y : V) : Prop := (∃ d e, Dp K H x d ∧ Dp K H y e ∧ SeqAt.shaped d = true ∧ SeqAt.shaped e = true ∧ PyData.eqv d e = true) ∨ ∃ a b kvs, x = .ref a ∧ y = .ref b ∧ L2.Rd H a (.dK kvs) ∧ L2.Rd H b (.dK kvs) ∧ ∀ p ∈ kvs, flatB p.2 = true
def rNeX (K : PySem.W.Frag) : R2 := fun x y H Q => ∃ a b xs ys, x = .ref a ∧ y = .ref b ∧ SqL K H a xs ∧ SqL K H b ys ∧ Paired (FX K H) xs ys ∧ Q (.bl false) H
theorem op_neX (hu : X.A.units + 66 < cLine) : OpR X (compareOp .NotEq) (rNeX X.K) := by
  intro pins s σ H x y v u Q I rx ry h
  obtain ⟨a, b, xs, ys, rfl, rfl, ha, hb, hp, q⟩ := h
  cases (show v = Value.ref a from rx)
  cases (show u = Value.ref b from ry)
  obtain ⟨us, r1, p1, _⟩ := I.list ha
  obtain ⟨ws, r2, p2, _⟩ := I.list hb
  have hsz : us.toArray.size = ws.toArray.size := by
    rw [List.size_toArray, List.size_toArray, ← r1.length, ← r2.length]
    exact Paired.length hp
  refine SeqAt.rcNe_twins p1.isList p2.isList hsz (by omega) (fun j h1 h2 => ?_) _ _ ⟨.bl false, H, I, rfl, q⟩
  have un : X.A.in1.units = X.A.units + 1 := rfl
  have k := items_run (P := X.prog) (w := X.w) (A := X.A.in1) (s := s) (F := FX X.K H) (fun x y v u h rx ry => by
    rcases h with ⟨d, e, hd, he, sd, se, eq⟩ | ⟨a, b, kvs, rfl, rfl, h1, h2, fl⟩
    · obtain ⟨as, q1⟩ := Dp.reads I d x v hd rx
      obtain ⟨bs, q2⟩ := Dp.reads I e y u he ry
      rw [← eq]
      exact (SeqAt.eqAt_reads d e _ s v u as bs q1 q2 (SeqAt.canLay_of_shaped sd) (SeqAt.canLay_of_shaped se) (SeqAt.room_of_shaped sd (by omega))).eqP
    · cases (show v = Value.ref a from rx)
      cases (show u = Value.ref b from ry)
      exact dict_twins I (by omega) h1 h2 fl) hp r1 r2 j (by simpa using h1) (by simpa using h2)
  simpa using k
end
def flatP : P → Option V
  | .non => some .non
  | .bl b => some (.bl b)
  | .int i => some (.int i)
  | .str s => some (.str s)
  | _ => none
def flatPs : List P → Option (List V)
  | [] => some []
  | x :: xs => (flatP x).bind fun v => (flatPs xs).bind fun vs => some (v :: vs)
def itemX (x y : P) : Bool := (match x.py, y.py with
  | some d, some e => SeqAt.shaped d && SeqAt.shaped e && PyData.eqv d e
  | _, _ => false) || (match x, y with
  | .dK ks xs, .dK ls ys => decide (ks = ls) && (match flatPs xs, flatPs ys with
    | some a, some b => decide (a = b)
    | _, _ => false)
  | _, _ => false)
def itemsX : List P → List P → Bool
  | [], [] => true
  | x :: xs, y :: ys => itemX x y && itemsX xs ys
  | _, _ => false
def pNeX : P → P → Option P
  | .lst xs, .lst ys => if itemsX xs ys = true then some (.bl false) else none
  | _, _ => none
def pNeB (x y : P) : Option P := match pNe x y with
  | some z => some z
  | none => pNeX x y
section
variable {K : PySem.W.Frag} {cl : String → Option Addr} {H : Hp} {N : Addr → Prop}
theorem flatP_ok {x : P} {v u : V} (h : flatP x = some v) (r : RP K cl H N x u) : u = v ∧ flatB v = true := by
  cases r <;> first | (cases h; exact ⟨rfl, rfl⟩) | (cases h; done)
theorem flatPs_ok : ∀ {xs : List P} {vs us : List V}, flatPs xs = some vs → RPs K cl H N xs us → us = vs ∧ ∀ v ∈ vs, flatB v = true
  | [], _, _, h, r => by cases h; cases r; exact ⟨rfl, by simp⟩
  | x :: xs, _, _, h, r => by
    cases r with
    | cons r1 r2 =>
      obtain ⟨v, e1, h⟩ := Option.bind_eq_some_iff.mp (show (flatP x).bind _ = some _ from h)
      obtain ⟨vs, e2, h⟩ := Option.bind_eq_some_iff.mp h
      cases h
      obtain ⟨rfl, f1⟩ := flatP_ok e1 r1
      obtain ⟨rfl, f2⟩ := flatPs_ok e2 r2
      exact ⟨rfl, by simpa using ⟨f1, f2⟩⟩
theorem itemX_ok {x y : P} {v u : V} (h : itemX x y = true) (r1 : RP K cl H N x v) (r2 : RP K cl H N y u) : FX K H v u := by
  unfold itemX at h
  rw [Bool.or_eq_true] at h
  rcases h with h | h
  · split at h
    · rename_i d e e1 e2
      simp only [Bool.and_eq_true] at h
      exact .inl ⟨d, e, r1.dp e1, r2.dp e2, h.1.1, h.1.2, h.2⟩
    · cases h
  · split at h
    · rename_i ks xs ls ys
      rw [Bool.and_eq_true] at h
      obtain ⟨hk, h⟩ := h
      have hk : ks = ls := by simpa using hk
      subst hk
      split at h
      · rename_i a b e1 e2
        have h : a = b := by simpa using h
        subst h
        cases r1 with
        | @dK p kvs _ _ a1 _ a2 a3 =>
          cases r2 with
          | @dK q kvt _ _ b1 _ b2 b3 =>
            obtain ⟨z1, f⟩ := flatPs_ok e1 a3
            obtain ⟨z2, _⟩ := flatPs_ok e2 b3
            have : kvs = kvt := by
              have e : kvs.map (·.1) = kvt.map (·.1) := a2.trans b2.symm
              have e' : kvs.map (·.2) = kvt.map (·.2) := z1.trans z2.symm
              have zz : ∀ l : List (Key × V), l = (l.map (·.1)).zip (l.map (·.2)) := fun l => by induction l with
                | nil => rfl
                | cons p l ih => simp [← ih]
              rw [zz kvs, zz kvt, e, e']
            subst this
            exact .inr ⟨p, q, kvs, rfl, rfl, a1, b1, fun p hp => f _ (by rw [← z1]; exact List.mem_map_of_mem hp)⟩
      · cases h
    · cases h
theorem itemsX_ok : ∀ {xs ys : List P} {vs us : List V}, itemsX xs ys = true → RPs K cl H N xs vs → RPs K cl H N ys us → Paired (FX K H) vs us
  | [], [], _, _, _, r1, r2 => by cases r1; cases r2; exact .nil
  | x :: xs, y :: ys, _, _, h, r1, r2 => by
    cases r1 with
    | cons a1 b1 =>
      cases r2 with
      | cons a2 b2 =>
        have h : (itemX x y && itemsX xs ys) = true := h
        rw [Bool.and_eq_true] at h
        exact .cons (itemX_ok h.1 a1 a2) (itemsX_ok h.2 b1 b2)
  | [], _ :: _, _, _, h, _, _ => by simp [itemsX] at h
  | _ :: _, [], _, _, h, _, _ => by simp [itemsX] at h
theorem prim_neB : Prim2 K cl (fun x y H Q => rNeD K x y H Q ∨ rNeX K x y H Q) pNeB := by
  intro ω H x y z vx vy Q dm hx hy e q
  unfold pNeB at e
  split at e
  · rename_i z' e'
    cases e
    exact .inl (prim_ne ω H x y z vx vy Q dm hx hy e' q)
  · cases x with
    | lst xs =>
      cases y with
      | lst ys =>
        have e : (if itemsX xs ys = true then some (P.bl false) else none) = some z := e
        split at e
        · rename_i h
          cases e
          obtain ⟨a, vs, rfl, h1, h2⟩ := hx.lst_inv
          obtain ⟨b, us, rfl, h3, h4⟩ := hy.lst_inv
          exact .inr ⟨a, b, vs, us, rfl, rfl, SqL.of h1, SqL.of h3, itemsX_ok h h2 h4, q H _ (.refl H) (.bl _)⟩
        · cases e
      | _ => cases e
    | _ => cases e
end
end PV

set_option Elab.async false
set_option linter.all false
set_option maxRecDepth 100000
set_option maxHeartbeats 4000000
/-! PvXo: own exception classes by their name, bundled. -/
namespace PV
open PySem L2 PyProof.Rows
def veT : List Value := [.type "ValueError", .type "Exception", .type "BaseException", .type "object"]
/-- a class whose __init__ keeps one field -/
structure ExcMk1 (P : Program) (w : World) (K : PySem.W.Frag) (mg : Str → Option Value) (base : Heap) (cl : String → Option Addr) (x : Str) (c f : String) (k : Nat) : Prop where
  ex : ∃ (C D fI : Addr) (fd : FuncData) (p1 : Str), cl c = some C ∧ OexC K C ∧ SuC K C D ∧ PySem.W.findIn K (.ref C) (ofS f) = some none ∧ PySem.W.findIn K (.ref C) "__init__" = some (some (.ref fI)) ∧ PySem.W.typeIn K (.ref fI) = some (.type "function") ∧
    FnOk P w K mg base (L2.CX P w) k fI fd ["self", p1] (spX1 K D (ofS f)) ∧ L2.Binds K fd ["self", p1] [] ∧ mg x = some (.ref C)
/-- two fields -/
structure ExcMk2 (P : Program) (w : World) (K : PySem.W.Frag) (mg : Str → Option Value) (base : Heap) (cl : String → Option Addr) (x : Str) (c f1 f2 : String) (k : Nat) : Prop where
  ex : ∃ (C D fI : Addr) (fd : FuncData) (p1 p2 : Str), cl c = some C ∧ OexC K C ∧ SuC K C D ∧ PySem.W.findIn K (.ref C) (ofS f1) = some none ∧ PySem.W.findIn K (.ref C) (ofS f2) = some none ∧ PySem.W.findIn K (.ref C) "__init__" = some (some (.ref fI)) ∧ PySem.W.typeIn K (.ref fI) = some (.type "function") ∧
    FnOk P w K mg base (L2.CX P w) k fI fd ["self", p1, p2] (spX2 K D (ofS f1) (ofS f2)) ∧ L2.Binds K fd ["self", p1, p2] [] ∧ mg x = some (.ref C)
/-- no __init__ of its own -/
structure ExcMk0 (K : PySem.W.Frag) (mg : Str → Option Value) (cl : String → Option Addr) (x : Str) (c : String) : Prop where
  ex : ∃ (C : Addr) (bmB : List Value) (B newId initId : String), ExcBaseFacts B newId initId bmB ∧ PySem.W.excIn K C bmB newId = true ∧ PySem.W.keepIn K (.ref C) = true ∧ cl c = some C ∧ mg x = some (.ref C)
/-- a class that isinstance is asked about -/
structure IsC (K : PySem.W.Frag) (mg : Str → Option Value) (cl : String → Option Addr) (x : Str) (tb : List (String × Bool)) : Prop where
  ex : ∃ D : Addr, mg x = some (.ref D) ∧ IxOk K cl tb (.ref D)
section
variable {X : Cx} {g : G} {x : Str} {c f f1 f2 : String} {k : Nat} {e e2 : Expr} {m m2 : M} {p p2 pos pos' : Pos}
theorem de_xmk0 (E : ExcMk0 X.K X.mg g.cl x c) (hg : Gl X x) (hdb : (x == ("__debug__" : Str)) = false := by decide) : PE X (.Call (.Name x p) [] [] pos) (tM g (mExv c [] [])) := by
  obtain ⟨C, bmB, B, newId, initId, F, q, kC, hcl, hm⟩ := E.ex
  exact de_exv0 F q kC hcl hg hm hdb
theorem de_xmk1 (E : ExcMk1 X.prog X.w X.K X.mg X.base g.cl x c f k) (hr : Room (k + 1) X.A) (hg : Gl X x) (ha : PA X [e] (tA g (mAs [m])))
    (hdb : (x == ("__debug__" : Str)) = false := by decide) (he : starEach [e] X.env = (false, eval e X.env) :: starEach [] X.env := by rfl) : PE X (.Call (.Name x p) [e] [] pos) (tM g (mExv c [f] [m])) := by
  obtain ⟨C, D, fI, fd, p1, hcl, T, S, hf, iC, tI, F1, hb, hm⟩ := E.ex
  exact de_exv1 hcl T S hf iC tI F1 hb hr hg hm ha hdb he
theorem de_xmk2 (E : ExcMk2 X.prog X.w X.K X.mg X.base g.cl x c f1 f2 k) (hr : Room (k + 1) X.A) (hg : Gl X x) (ha : PA X [e, e2] (tA g (mAs [m, m2])))
    (hdb : (x == ("__debug__" : Str)) = false := by decide) (he : starEach [e, e2] X.env = (false, eval e X.env) :: starEach [e2] X.env := by rfl) (hpl : (backTo pos (starEach [e2] X.env)).any (·.1) = false := by rfl) : PE X (.Call (.Name x p) [e, e2] [] pos) (tM g (mExv c [f2, f1] [m, m2])) := by
  obtain ⟨C, D, fI, fd, p1, p2, hcl, T, S, hf, hf2, iC, tI, F1, hb, hm⟩ := E.ex
  exact de_exv2 hcl T S hf hf2 iC tI F1 hb hr hg hm ha hdb he hpl
theorem ds_xraise1 (hc : X.calm = true) (hK : g.K = X.K) (E : ExcMk1 X.prog X.w X.K X.mg X.base g.cl x c f k) (hr : Room (k + 1) X.A) (tk : Takes X g.Ω) (hg : Gl X x) (ha : PA X [e] (tA g (mAs [m])))
    (hdb : (x == ("__debug__" : Str)) = false := by decide) (he : starEach [e] X.env = (false, eval e X.env) :: starEach [] X.env := by rfl) : PS X (.Raise (some (.Call (.Name x p) [e] [] pos)) none pos') (tS g (mRaise c [f] [m])) := by
  obtain ⟨C, D, fI, fd, p1, hcl, T, S, hf, iC, tI, F1, hb, hm⟩ := E.ex
  exact ds_raise1 hc hcl hK T S hf iC tI F1 hb hr tk hg hm ha hdb he
theorem ds_xraise2 (hc : X.calm = true) (hK : g.K = X.K) (E : ExcMk2 X.prog X.w X.K X.mg X.base g.cl x c f1 f2 k) (hr : Room (k + 1) X.A) (tk : Takes X g.Ω) (hg : Gl X x) (ha : PA X [e, e2] (tA g (mAs [m, m2])))
    (hdb : (x == ("__debug__" : Str)) = false := by decide) (he : starEach [e, e2] X.env = (false, eval e X.env) :: starEach [e2] X.env := by rfl) (hpl : (backTo pos (starEach [e2] X.env)).any (·.1) = false := by rfl) : PS X (.Raise (some (.Call (.Name x p) [e, e2] [] pos)) none pos') (tS g (mRaise c [f2, f1] [m, m2])) := by
  obtain ⟨C, D, fI, fd, p1, p2, hcl, T, S, hf, hf2, iC, tI, F1, hb, hm⟩ := E.ex
  exact ds_raise2 hc hcl hK T S hf hf2 iC tI F1 hb hr tk hg hm ha hdb he hpl
theorem de_isC {tb : List (String × Bool)} {x : Str} (h : IsC X.K X.mg g.cl x tb) (hg : Gl X "isinstance") (hm : X.mg "isinstance" = none) (hgx : Gl X x) (hK : g.K = X.K) (he : PE X e (tM g m)) (hd : (x == ("__debug__" : Str)) = false := by decide)
    (hs : starEach [e, .Name x p2] X.env = (false, eval e X.env) :: starEach [.Name x p2] X.env := by rfl) (hs2 : starEach [.Name x p2] X.env = (false, eval (.Name x p2) X.env) :: starEach [] X.env := by rfl) (hpl : (backTo pos (starEach [.Name x p2] X.env)).any (·.1) = false := by rfl) :
    PE X (.Call (.Name "isinstance" p) [e, .Name x p2] [] pos) (tM g (mOp1 (pIsE tb) m)) := by
  obtain ⟨D, hx, ok⟩ := h.ex
  exact de_isX hg hm (pe_glob (v := .ref D) hgx hx rfl hd) (fun u r => r) (by rw [hK]; exact ok) hK he hs hs2 hpl
theorem de_isBt {tb : List (String × Bool)} {T : String} {x : Str} (ok : IxOk X.K g.cl tb (.type T)) (hg : Gl X "isinstance") (hm : X.mg "isinstance" = none) (hgx : Gl X x) (hmx : X.mg x = none) (hK : g.K = X.K) (he : PE X e (tM g m)) (hv : bootBuiltins x = some (.type T) := by rfl) (hn : x ≠ "__name__" := by decide) (hd : (x == ("__debug__" : Str)) = false := by decide)
    (hs : starEach [e, .Name x p2] X.env = (false, eval e X.env) :: starEach [.Name x p2] X.env := by rfl) (hs2 : starEach [.Name x p2] X.env = (false, eval (.Name x p2) X.env) :: starEach [] X.env := by rfl) (hpl : (backTo pos (starEach [.Name x p2] X.env)).any (·.1) = false := by rfl) :
    PE X (.Call (.Name "isinstance" p) [e, .Name x p2] [] pos) (tM g (mOp1 (pIsE tb) m)) :=
  de_isX hg hm (pe_bltn (v := .ty T) hgx hmx hv rfl hn hd) (fun u r => r) (by rw [hK]; exact ok) hK he hs hs2 hpl
end
theorem free_cls {l : List (Str × NameKind)} (h : (l.all fun p => match p.2 with
    | .cell => p.1 == ("__class__" : Str)
    | .free => p.1 == ("__class__" : Str)
    | _ => true) = true) : ∀ y, l.lookup y = some .cell ∨ l.lookup y = some .free → y = "__class__" := by
  induction l with
  | nil => intro y h; rcases h with h | h <;> cases h
  | cons p l ih =>
    intro y hy
    rw [List.all_cons, Bool.and_eq_true] at h
    rw [List.lookup_cons] at hy
    split at hy
    · rename_i e
      have e : y = p.1 := by simpa using e
      have h1 := h.1
      rcases hy with hy | hy <;> (rw [Option.some.inj hy] at h1; rw [e]; simpa using h1)
    · exact ih h.2 y hy
/-! three at a time -/
theorem tMEs_len {g : G} : ∀ {ms : List ME} {σ : L2.St} {H : Hp} {Q Q' : List V → Hp → Prop}, (∀ vs H1, vs.length = ms.length → Q vs H1 → Q' vs H1) → tMEs g ms σ H Q → tMEs g ms σ H Q'
  | [], σ, H, Q, Q', f, h => f [] H rfl h
  | .m m :: ms, σ, H, Q, Q', f, h => tM2 (fun v H1 q => tMEs_len (ms := ms) (fun vs H2 hl q => f (v :: vs) H2 (by simp [hl]) q) q) h
  | .f m :: ms, σ, H, Q, Q', f, h => tF2 (fun v H1 q => tMEs_len (ms := ms) (fun vs H2 hl q => f (v :: vs) H2 (by simp [hl]) q) q) h
theorem ds_par3 {X : Cx} {g : G} {i j l : Nat} {a b c : ME} {st : Stmt} (hs : PS X st (tPar3 i j l (tMEs g [a, b, c]))) (hi : i ∉ g.io) (hj : j ∉ g.io) (hl : l ∉ g.io) : PS X st (tS g (mPar [i, j, l] [a, b, c])) := ps_weak hs fun D σ H h => by
  have q := par_core (by intro k hk; simp at hk; rcases hk with rfl | rfl | rfl <;> assumption) h
  refine tMEs_len (fun vs H1 hl z => ?_) q
  match vs, hl with
  | [u, v, w], _ => exact ⟨u, v, w, rfl, z⟩
/-! which class is below which -/
def tbOf (names : List String) (yn cn : String) : List (String × Bool) := names.map fun c => (c, decide (c = cn) || decide (cn = yn))
def tbAll (names : List String) : List (String × Bool) := names.map fun c => (c, true)
theorem lookup_map {α : Type} (f : String → α) : ∀ (ns : List String) (c : String) (b : α), (ns.map fun n => (n, f n)).lookup c = some b → c ∈ ns ∧ b = f c
  | [], c, b, h => by cases h
  | n :: ns, c, b, h => by
    rw [List.map_cons, List.lookup_cons] at h
    split at h
    · rename_i e
      have e : c = n := by simpa using e
      cases h; subst e; exact ⟨by simp, rfl⟩
    · obtain ⟨h1, h2⟩ := lookup_map f ns c b h
      exact ⟨by simp [h1], h2⟩
/-- own classes over ValueError: the root Y, and all others right below it -/
structure Fam (K : PySem.W.Frag) (cl : String → Option Addr) (names : List String) (yn : String) (Y : Addr) : Prop where
  root : cl yn = some Y ∧ yn ∈ names
  mem : ∀ c ∈ names, ∀ C, cl c = some C → ExcC K C ∧ PySem.W.typeIn K (.ref C) = some (.type "type") ∧ ∃ cd, PySem.W.clsIn K C = some cd ∧ cd.name = ofS c ∧ ((C = Y ∧ c = yn ∧ cd.mro = .ref Y :: veT) ∨ cd.mro = .ref C :: .ref Y :: veT)
theorem Fam.is {K : PySem.W.Frag} {cl : String → Option Addr} {names : List String} {yn : String} {Y : Addr} (F : Fam K cl names yn Y) {cn : String} (hn : cn ∈ names) {D : Addr} (hD : cl cn = some D) : IxOk K cl (tbOf names yn cn) (.ref D) := by
  intro c b C h1 h2
  obtain ⟨hm, rfl⟩ := lookup_map (fun c => decide (c = cn) || decide (cn = yn)) names c b h1
  obtain ⟨T, ty, cd, hc, nm, hmro⟩ := F.mem c hm C h2
  obtain ⟨_, tyD, cdD, hcD, nmD, hmroD⟩ := F.mem cn hn D hD
  refine ⟨T, ?_⟩
  have same : C = D ↔ c = cn := by
    constructor
    · intro e
      subst e
      rw [hc] at hcD
      cases hcD
      exact ofS_inj (nm.symm.trans nmD)
    · intro e; subst e; rw [h2] at hD; exact Option.some.inj hD
  have sameY : D = Y ↔ cn = yn := by
    constructor
    · intro e
      subst e
      obtain ⟨_, _, cdY, hcY, nmY, _⟩ := F.mem yn F.root.2 D F.root.1
      rw [hcD] at hcY
      cases hcY
      exact ofS_inj (nmD.symm.trans nmY)
    · intro e; subst e; exact Option.some.inj (hD.symm.trans F.root.1)
  have hcl : ((PySem.W.clsIn K D).isSome && PySem.W.typeIn K (.ref D) == some (.type "type")) = true := by rw [hcD, tyD]; rfl
  have hrest : (veT.contains (.ref D)) = false := by simp [veT]
  have sub : PySem.W.subIn K (.ref C) (.ref D) = some (decide (C = D) || decide (D = Y)) := by
    show PySem.W.mroIn K C (.ref D) = _
    unfold PySem.W.mroIn
    rw [hc, Option.bind_some]
    have bq : ∀ a b : Addr, ((Value.ref a == Value.ref b) : Bool) = decide (a = b) := fun a b => by
      by_cases e : a = b
      · subst e; simp
      · rw [decide_eq_false e]; exact beq_eq_false_iff_ne.mpr fun z => e (by cases z; rfl)
    rcases hmro with ⟨rfl, _, hmro⟩ | hmro
    · rw [hmro]
      simp only [List.isEmpty_cons, Bool.false_eq_true, if_false, List.contains_cons, hrest, Bool.or_false, bq]
      by_cases e : D = C
      · subst e; simp
      · simp [e, Ne.symm e]
    · rw [hmro]
      simp only [List.isEmpty_cons, Bool.false_eq_true, if_false, List.contains_cons, hrest, Bool.or_false, bq]
      by_cases e : D = C
      · subst e; simp
      · simp [e, Ne.symm e]
  unfold PySem.W.kitOne PySem.W.kitCls
  dsimp only
  rw [if_pos hcl, sub]
  by_cases e : C = D
  · have e2 := same.mp e
    subst e
    simp [e2]
  · have hne : ¬ ((Value.ref C == Value.ref D) = true) := fun z => e (by have := eq_of_beq z; cases this; rfl)
    rw [if_neg hne]
    have e2 : ¬ c = cn := fun z => e (same.mpr z)
    by_cases e3 : D = Y
    · simp [e, e2, e3, sameY.mp e3]
    · have e4 : ¬ cn = yn := fun z => e3 (sameY.mpr z)
      simp [e, e2, e3, e4]
theorem kitMeta_VE : PySem.W.kitMeta "ValueError" = true := by decide +kernel
theorem Fam.isVE {K : PySem.W.Frag} {cl : String → Option Addr} {names : List String} {yn : String} {Y : Addr} (F : Fam K cl names yn Y) : IxOk K cl (tbAll names) (.type "ValueError") := by
  intro c b C h1 h2
  obtain ⟨hm, rfl⟩ := lookup_map (fun _ => true) names c b h1
  obtain ⟨T, ty, cd, hc, nm, hmro⟩ := F.mem c hm C h2
  refine ⟨T, ?_⟩
  have sub : PySem.W.subIn K (.ref C) (.type "ValueError") = some true := by
    show PySem.W.mroIn K C (.type "ValueError") = _
    unfold PySem.W.mroIn
    rw [hc, Option.bind_some]
    rcases hmro with ⟨rfl, _, hmro⟩ | hmro <;> (rw [hmro]; simp [veT])
  unfold PySem.W.kitOne PySem.W.kitCls
  dsimp only
  rw [if_pos kitMeta_VE, sub, if_neg (by intro z; cases eq_of_beq z)]
end PV

set_option Elab.async false
set_option linter.all false
set_option maxRecDepth 100000
set_option maxHeartbeats 4000000
/-! PvXp: what must hold ahead, for exceptions as values. -/
namespace PV
open PySem (Str)
section
variable (σ : Env) (X : XP) (E : EP)
@[simp ↓] theorem w_Exv (c : String) (ns : List String) (ms : List M) (Q : O → Env → Prop) : WE (mExv c ns ms σ) X Q = WE (mAs ms σ) X fun os σ1 => fzQs σ1 os fun xs σ2 => xs.length = ns.length ∧ Q (.v (.exv c ns xs.reverse)) σ2 := by
  unfold mExv
  rw [w_bind]
  congr 1; funext os σ1
  rw [w_bind, w_frzAll]
  congr 1; funext xs σ2
  rw [w_ite]
  split <;> simp [*]
@[simp ↓] theorem ws_Raise (c : String) (ns : List String) (ms : List M) : WS (mRaise c ns ms σ) E = WE (mAs ms σ) E.xc fun os σ1 => fzQs σ1 os fun xs σ2 => xs.length = ns.length ∧ E.xc c ns xs.reverse σ2 := by
  unfold mRaise
  rw [ws_toS]
  congr 1; funext os σ1
  rw [ws_toS, w_frzAll]
  congr 1; funext xs σ2
  rw [ws_ite]
  by_cases h : xs.length = ns.length
  · rw [if_pos h]
    simp only [h, true_and]
    with_unfolding_all rfl
  · rw [if_neg h]
    simp [h]
end
@[simp] theorem pAttrE_exv (cs : List String) (f c : String) (ns : List String) (xs : List P) : pAttrE cs f (.exv c ns xs) = if c ∈ cs then lookF f ns xs else none := rfl
@[simp] theorem lookF_cons (f n : String) (ns : List String) (x : P) (xs : List P) : lookF f (n :: ns) (x :: xs) = if n = f then some x else lookF f ns xs := rfl
@[simp] theorem pIsE_exv (tb : List (String × Bool)) (c : String) (ns : List String) (xs : List P) : pIsE tb (.exv c ns xs) = (tb.lookup c).map P.bl := rfl
theorem lookup_tb (f : String → Bool) : ∀ {ns : List String} {c : String}, c ∈ ns → (ns.map fun n => (n, f n)).lookup c = some (f c)
  | n :: ns, c, h => by
    rw [List.map_cons, List.lookup_cons]
    by_cases e : c = n
    · subst e; simp
    · have : (c == n) = false := by simpa using e
      rw [this]
      exact lookup_tb f (by simpa [e] using h)
theorem tb_of {names : List String} {yn cn c : String} (h : c ∈ names) : (tbOf names yn cn).lookup c = some (decide (c = cn) || decide (cn = yn)) := lookup_tb _ h
theorem tb_all {names : List String} {c : String} (h : c ∈ names) : (tbAll names).lookup c = some true := lookup_tb (fun _ => true) h
theorem tabN_ne {n c : String} (h : c.toList.head? ≠ some '#') : TabN n ≠ c := fun e => h (by rw [← e]; simp [TabN])
end PV

set_option Elab.async false
set_option linter.all false
set_option maxRecDepth 100000
set_option maxHeartbeats 4000000
/-! the defs as functions on data, printed by gen.py. -/
namespace Sl
open PySem PV
abbrev xnames : List String := ["YardError", "BadText", "BadLine", "BadNumber", "BadRow", "BadTie", "BadRing", "BadMove", "BadName", "NoName", "TakenName", "Unlike", "TooMany", "NotKept", "NothingToUndo", "NothingToRedo"]
def b__law_draw : MS := mSeq (mDPut 0 (mC (.str "count")) (mOp2 pAdd (mOp2 pSub (mV 0) (mC (.str "count"))) (mC (.int 1)))) (mSeq (mIf (mAndT (mTe (mOp2 pEq (mOp2 pSub (mV 0) (mC (.str "digits"))) (mC (.int 0)))) (mTe (mOp2 pLt (mOp2 pSub (mV 0) (mC (.str "at"))) (mPrim (pF1 pLen) [mOp2 pSub (mV 0) (mC (.str "cells"))])))) (mSeq (mSet 2 (mOp2 pSub (mOp2 pSub (mV 0) (mC (.str "cells"))) (mOp2 pSub (mV 0) (mC (.str "at"))))) (mSeq (mDPut 0 (mC (.str "at")) (mOp2 pAdd (mOp2 pSub (mV 0) (mC (.str "at"))) (mC (.int 1)))) (mIf (mTe (mOp2 pGe (mV 2) (mOp2 pPow (mC (.int 10)) (mC (.int 18))))) (mDPut 0 (mC (.str "digits")) (mOp2 pMinus (mV 2) (mOp2 pPow (mC (.int 10)) (mC (.int 18))))) (mDPut 0 (mC (.str "fold")) (mOp2 pMod (mPrim (pF1 pInt) [mOp2 pAdd (mOp2 pMul (mOp2 pSub (mV 0) (mC (.str "fold"))) (mC (.int 69069))) (mV 2)]) (mC (.int 2147483587))))))) (mNil)) (mSeq (mIf (mTe (mOp2 pGt (mOp2 pSub (mV 0) (mC (.str "digits"))) (mC (.int 0)))) (mSeq (mSet 3 (mOp2 pMod (mPrim (pF1 pInt) [mOp2 pSub (mV 0) (mC (.str "digits"))]) (mV 1))) (mSeq (mDPut 0 (mC (.str "digits")) (mOp2 pDiv (mOp2 pSub (mV 0) (mC (.str "digits"))) (mV 1))) (mRet (mV 3)))) (mNil)) (mSeq (mSet 4 (mOp2 pAdd (mOp2 pAdd (mOp2 pSub (mV 0) (mC (.str "fold"))) (mOp2 pMul (mOp2 pSub (mV 0) (mC (.str "count"))) (mC (.int 8117)))) (mC (.int 61)))) (mRet (mOp2 pMod (mOp2 pDiv (mPrim (pF1 pInt) [mOp2 pMod (mOp2 pPow (mV 4) (mC (.int 17))) (mC (.int 2305843009213693951))]) (mC (.int 128))) (mV 1))))))
def s__law_draw : FS := fnOf 2 3 [0] b__law_draw
def b__law_kinds : MS := mSeq (mSet 1 (mLst [mOp1 (pIsE (tbOf xnames "YardError" "BadText")) (mV 0), mOp1 (pIsE (tbOf xnames "YardError" "BadLine")) (mV 0), mOp1 (pIsE (tbOf xnames "YardError" "BadNumber")) (mV 0)])) (mSeq (mSet 1 (mOp2 pAdd (mV 1) (mLst [mOp1 (pIsE (tbOf xnames "YardError" "BadRow")) (mV 0), mOp1 (pIsE (tbOf xnames "YardError" "BadTie")) (mV 0), mOp1 (pIsE (tbOf xnames "YardError" "BadRing")) (mV 0)]))) (mSeq (mSet 1 (mOp2 pAdd (mV 1) (mLst [mOp1 (pIsE (tbOf xnames "YardError" "BadMove")) (mV 0), mOp1 (pIsE (tbOf xnames "YardError" "BadName")) (mV 0), mOp1 (pIsE (tbOf xnames "YardError" "NoName")) (mV 0)]))) (mSeq (mSet 1 (mOp2 pAdd (mV 1) (mLst [mOp1 (pIsE (tbOf xnames "YardError" "TakenName")) (mV 0), mOp1 (pIsE (tbOf xnames "YardError" "Unlike")) (mV 0), mOp1 (pIsE (tbOf xnames "YardError" "TooMany")) (mV 0)]))) (mSeq (mSet 1 (mOp2 pAdd (mV 1) (mLst [mOp1 (pIsE (tbOf xnames "YardError" "NotKept")) (mV 0), mOp1 (pIsE (tbOf xnames "YardError" "NothingToUndo")) (mV 0), mOp1 (pIsE (tbOf xnames "YardError" "NothingToRedo")) (mV 0)]))) (mRet (mIfE (mAndT (mTe (mOp1 (pIsE (tbOf xnames "YardError" "YardError")) (mV 0))) (mTe (mOp1 (pIsE (tbAll xnames)) (mV 0)))) (mV 1) (mLst [])))))))
def s__law_kinds : FS := fnOf 1 1 [] b__law_kinds
def b__law_pen : MS := mSeq (mSet 1 (mC (.int 0))) (mSeq (mFor (mIter (mV 0)) (mgN 2) (mSet 1 (mOp2 pMod (mPrim (pF1 pInt) [mOp2 pAdd (mOp2 pMul (mV 1) (mC (.int 67))) (mV 2)]) (mC (.int 1000000007))))) (mRetF (mDisp [.inr "cells", .inr "at", .inr "digits", .inr "count", .inr "fold"] [mPrim (fL pItems) [mV 0], mC (.int 0), mC (.int 0), mC (.int 0), mV 1])))
def s__law_pen : FS := fnOf 1 2 [] b__law_pen
def b__law_pick : MS := mRet (mOp2 pSub (mV 1) (mCall s__law_draw [mV 0, mPrim (pF1 pLen) [mV 1]]))
def s__law_pick : FS := fnOf 2 0 [0] b__law_pick
def b_law : MS := mSeq (mSetF 1 (mCallF s__law_pen [mV 0])) (mSeq (mSet 2 (mCall s__law_pick [mV 1, mLst [mC (.int 3), mC (.str "name"), mC .non, mTup [mC (.int 1), mC (.int 2)], mLst [mC (.int 1), mC (.int 2)], mC (.bl true)]])) (mSeq (mSet 3 (mCall s__law_pick [mV 1, mLst [mC (.int 0), mC (.str ""), mTup [mC (.str "a")], mLst [], mFz (mDisp [.inr "a"] [mC (.int 1)])]])) (mSeq (mPar [4, 5, 6] [.m (mExv "BadLine" ["column", "line"] [mV 2, mV 3]), .m (mExv "BadNumber" ["number", "what"] [mV 2, mV 3]), .m (mExv "NotKept" ["witness", "promise"] [mV 2, mV 3])]) (mSeq (mSet 7 (mLst [mOp1 (pAttrE ["BadLine"] "line") (mV 4), mOp1 (pAttrE ["BadText", "BadLine"] "column") (mV 4), mOp1 (pAttrE ["BadNumber", "Unlike"] "what") (mV 5), mOp1 (pAttrE ["BadNumber"] "number") (mV 5), mOp1 (pAttrE ["NotKept"] "promise") (mV 6), mOp1 (pAttrE ["NotKept"] "witness") (mV 6)])) (mSeq (mIf (mTe (mOp2 pNeB (mV 7) (mOp2 pMul (mLst [mV 2, mV 3]) (mC (.int 3))))) (mRet (mC (.bl false))) (mNil)) (mSeq (mAsg (mgTup [mgN 8, mgN 9, mgN 10, mgN 11, mgN 12]) (mTup [mExv "BadText" ["column"] [mV 2], mExv "BadRow" ["row"] [mV 2], mExv "BadTie" ["tie"] [mV 2], mExv "BadRing" ["index"] [mV 2], mExv "BadMove" ["index"] [mV 2]])) (mSeq (mAsg (mgTup [mgN 13, mgN 14, mgN 15, mgN 16, mgN 17]) (mTup [mExv "BadName" ["name"] [mV 2], mExv "NoName" ["name"] [mV 2], mExv "TakenName" ["name"] [mV 2], mExv "Unlike" ["what"] [mV 2], mExv "TooMany" ["most"] [mV 2]])) (mSeq (mSet 7 (mLst [mOp1 (pAttrE ["BadText", "BadLine"] "column") (mV 8), mOp1 (pAttrE ["BadRow"] "row") (mV 9), mOp1 (pAttrE ["BadTie"] "tie") (mV 10), mOp1 (pAttrE ["BadRing", "BadMove"] "index") (mV 11), mOp1 (pAttrE ["BadRing", "BadMove"] "index") (mV 12), mOp1 (pAttrE ["BadName", "NoName", "TakenName"] "name") (mV 13), mOp1 (pAttrE ["BadName", "NoName", "TakenName"] "name") (mV 14), mOp1 (pAttrE ["BadName", "NoName", "TakenName"] "name") (mV 15)])) (mSeq (mIf (mTe (mOp2 pNeB (mOp2 pAdd (mV 7) (mLst [mOp1 (pAttrE ["BadNumber", "Unlike"] "what") (mV 16), mOp1 (pAttrE ["TooMany"] "most") (mV 17)])) (mOp2 pMul (mLst [mV 2]) (mC (.int 10))))) (mRet (mC (.bl false))) (mNil)) (mSeq (mSet 18 (mLst [mV 8, mV 4, mV 5, mV 9, mV 10, mV 11, mV 12, mV 13, mV 14, mV 15, mV 16, mV 17, mV 6])) (mSeq (mSet 18 (mOp2 pAdd (mV 18) (mLst [mExv "NothingToUndo" [] [], mExv "NothingToRedo" [] []]))) (mSeq (mFor (mRg1 (mC (.int 15))) (mgN 19) (mIf (mTe (mOp2 pNeB (mCall s__law_kinds [mOp2 pSub (mV 18) (mV 19)]) (mComp [20] (mRg1 (mC (.int 15))) (mgN 20) mTrue (mOp2 pEq (mV 20) (mV 19))))) (mRet (mC (.bl false))) (mNil))) (mRet (mAndV (mOp1 (pIsE (tbAll xnames)) (mExv "YardError" [] [])) (mOp2 pEq (mCall s__law_kinds [mExv "YardError" [] []]) (mOp2 pMul (mLst [mC (.bl false)]) (mC (.int 15))))))))))))))))))
def s_law : FS := fnOf 1 20 [] b_law
end Sl

set_option Elab.async false
set_option linter.all false
set_option maxRecDepth 100000
set_option maxHeartbeats 4000000
/-! S06a: the pen. -/
namespace Sl
open PV
abbrev XF := String → List String → List P → List D → Prop
def penV (cells : List Int) (at_ digits count fold : Int) : List P := [.lst (cells.map .int), .int at_, .int digits, .int count, .int fold]
def penK : List (Int ⊕ PySem.Str) := [.inr "cells", .inr "at", .inr "digits", .inr "count", .inr "fold"]
def penD (cells : List Int) (at_ digits count fold : Int) : D := .dK penK (penV cells at_ digits count fold)
section
variable (l : List Int) (a d c f x : Int) (i : Nat)
@[simp] theorem pen_view : (penD l a d c f).view = .dK penK (penV l a d c f) := rfl
@[simp] theorem pen_op : D.op i (penD l a d c f) = .at i := rfl
@[simp] theorem pen_own : (penD l a d c f).owned = true := rfl
@[simp] theorem pg1 : pSub (.dK penK (penV l a d c f)) (.str "cells") = some (.lst (l.map .int)) := rfl
@[simp] theorem pg2 : pSub (.dK penK (penV l a d c f)) (.str "at") = some (.int a) := rfl
@[simp] theorem pg3 : pSub (.dK penK (penV l a d c f)) (.str "digits") = some (.int d) := rfl
@[simp] theorem pg4 : pSub (.dK penK (penV l a d c f)) (.str "count") = some (.int c) := rfl
@[simp] theorem pg5 : pSub (.dK penK (penV l a d c f)) (.str "fold") = some (.int f) := rfl
theorem five_sz : (5 : Nat) < PySem.sizeLine := by decide
@[simp] theorem pp2 : dPut (penD l a d c f) (.str "at") (.int x) = some (penD l x d c f) := by
  show (if (5:Nat) < PySem.sizeLine then _ else none) = _
  rw [if_pos five_sz]; rfl
@[simp] theorem pp3 : dPut (penD l a d c f) (.str "digits") (.int x) = some (penD l a x c f) := by
  show (if (5:Nat) < PySem.sizeLine then _ else none) = _
  rw [if_pos five_sz]; rfl
@[simp] theorem pp4 : dPut (penD l a d c f) (.str "count") (.int x) = some (penD l a d x f) := by
  show (if (5:Nat) < PySem.sizeLine then _ else none) = _
  rw [if_pos five_sz]; rfl
@[simp] theorem pp5 : dPut (penD l a d c f) (.str "fold") (.int x) = some (penD l a d c x) := by
  show (if (5:Nat) < PySem.sizeLine then _ else none) = _
  rw [if_pos five_sz]; rfl
end
/-- a pen from which n more draws may come -/
inductive Pen (n : Nat) : D → Prop
  | mk (l : List Int) (a d c f : Int) : 0 ≤ a → 0 ≤ d → 0 ≤ c → c + n ≤ 1000000 → 0 ≤ f → f < 2 ^ 31 → Pen n (penD l a d c f)
theorem Pen.less {n m : Nat} {p : D} (h : Pen n p) (hm : m ≤ n) : Pen m p := by
  cases h with
  | mk l a d c f h1 h2 h3 h4 h5 h6 => exact .mk l a d c f h1 h2 h3 (by omega) h5 h6
theorem Pen.own {n : Nat} {p : D} (h : Pen n p) : p.owned = true := by cases h; rfl
theorem Pen.op {n : Nat} {p : D} (h : Pen n p) (i : Nat) : D.op i p = .at i := by cases h; rfl
theorem atI_ints {l : List Int} {a : Int} (h0 : 0 ≤ a) (h1 : a < l.length) : ∃ z : Int, L2.atI (l.map P.int) a = some (.int z) := by
  obtain ⟨x, e1, e2⟩ := atI_lt (xs := l.map P.int) h0 (by simpa using h1)
  rw [List.getElem?_map] at e2
  obtain ⟨z, _, rfl⟩ := Option.map_eq_some_iff.mp e2
  exact ⟨z, e1⟩
theorem small_abs {i : Int} (h0 : 0 ≤ i) (h1 : i < 2 ^ 64) : i.natAbs < 2 ^ 1000 := by
  have : i.natAbs < 2 ^ 64 := by omega
  exact Nat.lt_of_lt_of_le this (Nat.pow_le_pow_right (by decide) (by decide))
theorem draw {n : Nat} {p : D} {m : Int} (hp : Pen (n + 1) p) (hm : 0 < m) (hm2 : m < 2 ^ 31) {X : XF} {Q : D → List D → Prop} (q : ∀ x p', Pen n p' → 0 ≤ x → x < m → Q (.p (.int x)) [p', .p (.int m)]) : WF s__law_draw [p, .p (.int m)] X Q := by
  obtain ⟨l, a, d, c, f, h1, h2, h3, h4, h5, h6⟩ := hp
  have hmd : ∀ x : Int, 0 ≤ x % m ∧ x % m < m := fun x => ⟨Int.emod_nonneg _ (by omega), Int.emod_lt_of_pos _ hm⟩
  refine wf_fn rfl rfl ?_
  have last : ∀ (l : List Int) (a f : Int), 0 ≤ a → 0 ≤ f → f < 2 ^ 31 → L2.CMulW (c + 1) 8117 ∧ L2.CPow (f + (c + 1) * 8117 + 61) 17 ∧ L2.CDivW ((f + (c + 1) * 8117 + 61) ^ 17 % 2305843009213693951) 128 := fun l a f h7 h8 h9 => by
    refine ⟨CMulW_small (small_abs (by omega) (by omega)) (by decide), ⟨by decide, by decide, ?_⟩, CDivW_small (by decide) (by decide)⟩
    omega
  have dig : ∀ (l : List Int) (a d f : Int), 0 ≤ a → 0 < d → 0 ≤ f → f < 2 ^ 31 → L2.CDivW d m ∧ Q (.p (.int (d % m))) [penD l a (d / m) (c + 1) f, .p (.int m)] := fun l a d f h7 h8 h9 h10 =>
    ⟨CDivW_small hm (small_abs (by omega) (by omega)), q _ _ (.mk l a _ _ f h7 (Int.ediv_nonneg (by omega) (by omega)) (by omega) (by omega) h9 h10) (hmd d).1 (hmd d).2⟩
  have mix : ∀ (l : List Int) (a f : Int) (z : Int), 0 ≤ a → 0 ≤ f → f < 2 ^ 31 → Q (.p (.int (z % m))) [penD l a 0 (c + 1) f, .p (.int m)] := fun l a f z h7 h9 h10 =>
    q _ _ (.mk l a _ _ f h7 (by omega) (by omega) (by omega) h9 h10) (hmd z).1 (hmd z).2
  have c10 : L2.CPow 10 18 := ⟨by decide, by decide, by decide⟩
  by_cases hd : d = 0
  · subst hd
    by_cases ha : a < l.length
    · obtain ⟨z, ez⟩ := atI_ints h1 ha
      have hmf : L2.CMulW f 69069 := CMulW_small (small_abs h5 (by omega)) (by decide)
      have hf2 : 0 ≤ (f * 69069 + z) % 2147483587 ∧ (f * 69069 + z) % 2147483587 < 2 ^ 31 := by
        have := Int.emod_nonneg (f * 69069 + z) (b := 2147483587) (by decide)
        have := Int.emod_lt_of_pos (f * 69069 + z) (b := 2147483587) (by decide)
        omega
      by_cases hz : (1000000000000000000 : Int) ≤ z
      · by_cases hz2 : 0 < z - 1000000000000000000
        · simp [b__law_draw, ha, ez, hz, c10, hm]
          have := dig l (a + 1) (z - 1000000000000000000) f (by omega) (by omega) h5 h6
          have hz3 : (1000000000000000000 : Int) < z := by omega
          simpa [hz3] using this
        · have e0 : z = 1000000000000000000 := by omega
          subst e0
          simp [b__law_draw, ha, ez, c10, hm]
          have := last l (a + 1) f (by omega) h5 h6
          exact ⟨this.1, this.2.1, this.2.2, mix l (a + 1) f _ (by omega) h5 h6⟩
      · simp [b__law_draw, ha, ez, hz, c10, hm, hmf]
        have := last l (a + 1) ((f * 69069 + z) % 2147483587) (by omega) hf2.1 hf2.2
        exact ⟨this.1, this.2.1, this.2.2, mix l (a + 1) _ _ (by omega) hf2.1 hf2.2⟩
    · simp [b__law_draw, ha, hm]
      have := last l a f h1 h5 h6
      exact ⟨this.1, this.2.1, this.2.2, mix l a f _ h1 h5 h6⟩
  · have hd2 : 0 < d := by omega
    simp [b__law_draw, hd, hd2, hm]
    exact dig l a d f h1 hd2 h5 h6
end Sl

set_option Elab.async false
set_option linter.all false
set_option maxRecDepth 100000
set_option maxHeartbeats 4000000
/-! S00b: a drawn item; the pen made. -/
namespace Sl
open PV
theorem pick {n : Nat} {p : D} {xs : List P} (hp : Pen (n + 1) p) (hx : xs ≠ []) (hl : xs.length < 2 ^ 31) {X : XF} {Q : D → List D → Prop} (q : ∀ x p', x ∈ xs → Pen n p' → Q (.p x) [p', .p (.lst xs)]) : WF s__law_pick [p, .p (.lst xs)] X Q := by
  have ho := hp.op
  refine wf_fn rfl (by simp) ?_
  simp [b__law_pick, ho]
  refine draw (m := (xs.length : Int)) hp (by have := List.length_pos_iff.mpr hx; omega) (by omega) fun x p' hp' h0 h1 => ?_
  obtain ⟨y, e1, e2⟩ := atI_lt h0 h1
  simp [e1]
  exact q y p' (List.mem_of_getElem? e2) hp'
theorem szl : PySem.sizeLine = 16777216 := by decide
theorem pen {ns : List Int} {X : XF} {Q : D → List D → Prop} (q : ∀ p, Pen 900000 p → Q p [.p (.fz (ns.map .int))]) : WF s__law_pen [.p (.fz (ns.map .int))] X Q := by
  refine wf_fn rfl (by simp) ?_
  simp [b__law_pen]
  refine ws_for (fun i σ => ∃ f y, σ = [some (.p (.fz (ns.map .int))), some (.p (.int f)), y] ∧ 0 ≤ f ∧ f < 1000000007) ⟨0, _, rfl, by decide, by decide⟩ ?_ ?_
  · rintro i x σ hi ⟨f, y, rfl, h0, h1⟩
    obtain ⟨z, _, rfl⟩ := List.mem_map.mp (List.mem_of_getElem? hi)
    have hm : L2.CMulW f 67 := CMulW_small (small_abs h0 (by omega)) (by decide)
    have := Int.emod_nonneg (f * 67 + z) (b := 1000000007) (by decide)
    have := Int.emod_lt_of_pos (f * 67 + z) (b := 1000000007) (by decide)
    have hd : ∀ i, L2.CDivW i 1000000007 := fun i => CDivW_small (by decide) (by decide)
    simp [hm, hd]
    omega
  · rintro σ ⟨f, y, rfl, h0, h1⟩
    simp [fL]
    exact q _ (.mk ns 0 0 0 f (by decide) (by decide) (by decide) (by decide) h0 (by omega))
end Sl

set_option Elab.async false
set_option linter.all false
set_option maxRecDepth 100000
set_option maxHeartbeats 4000000
/-! S00c: of which classes an error is. -/
namespace Sl
open PV
def kindL : List String := ["BadText", "BadLine", "BadNumber", "BadRow", "BadTie", "BadRing", "BadMove", "BadName", "NoName", "TakenName", "Unlike", "TooMany", "NotKept", "NothingToUndo", "NothingToRedo"]
theorem kinds {c : String} {ns : List String} {vs : List P} (hc : c ∈ xnames) {X : XF} {Q : D → List D → Prop} (q : Q (.p (.lst (kindL.map fun n => .bl (decide (c = n))))) [.p (.exv c ns vs)]) : WF s__law_kinds [.p (.exv c ns vs)] X Q := by
  have hs : PySem.sizeLine = 16777216 := by decide
  refine wf_fn rfl (by simp) ?_
  simp [b__law_kinds, tb_of hc, tb_all hc, hs, pAdd]
  simpa [kindL] using q
end Sl

set_option Elab.async false
set_option linter.all false
set_option maxRecDepth 100000
set_option maxHeartbeats 1000000
/-! L00: the plain law of k00. -/
namespace Sl
open PV
def ones : List P := [.int 3, .str "name", .non, .tup [.int 1, .int 2], .lst [.int 1, .int 2], .bl true]
def twos : List P := [.int 0, .str "", .tup [.str "a"], .lst [], .dK [.inr "a"] [.int 1]]
theorem ne10 {x : P} (h : x ∈ ones) : pNeB (.lst [x, x, x, x, x, x, x, x, x, x]) (.lst [x, x, x, x, x, x, x, x, x, x]) = some (.bl false) := by
  simp only [ones, List.mem_cons, List.not_mem_nil, or_false] at h
  rcases h with rfl | rfl | rfl | rfl | rfl | rfl <;> kernel_rfl
theorem ne6 {x y : P} (h : x ∈ ones) (h2 : y ∈ twos) : pNeB (.lst [x, y, x, y, x, y]) (.lst [x, y, x, y, x, y]) = some (.bl false) := by
  simp only [ones, List.mem_cons, List.not_mem_nil, or_false] at h
  simp only [twos, List.mem_cons, List.not_mem_nil, or_false] at h2
  rcases h with rfl | rfl | rfl | rfl | rfl | rfl <;> rcases h2 with rfl | rfl | rfl | rfl | rfl <;> kernel_rfl
def errs (x y : P) : List P := [.exv "BadText" ["column"] [x], .exv "BadLine" ["column", "line"] [y, x], .exv "BadNumber" ["number", "what"] [y, x], .exv "BadRow" ["row"] [x], .exv "BadTie" ["tie"] [x], .exv "BadRing" ["index"] [x], .exv "BadMove" ["index"] [x],
  .exv "BadName" ["name"] [x], .exv "NoName" ["name"] [x], .exv "TakenName" ["name"] [x], .exv "Unlike" ["what"] [x], .exv "TooMany" ["most"] [x], .exv "NotKept" ["witness", "promise"] [y, x], .exv "NothingToUndo" [] [], .exv "NothingToRedo" [] []]
theorem rg15 {i : Nat} {z : P} (h : (rangeP 0 15)[i]? = some z) : ∃ k : Nat, k < 15 ∧ z = .int (k : Int) := by
  have e : rangeP 0 15 = (List.range 15).map fun i : Nat => P.int (i : Int) := by simp [rangeP]
  have h := List.mem_of_getElem? h
  rw [e] at h
  obtain ⟨k, hk, rfl⟩ := List.mem_map.mp h
  exact ⟨k, by simpa using hk, rfl⟩
theorem err_at (x y : P) (k : Nat) (hk : k < 15) : ∃ c nms vs, L2.atI (errs x y) (k : Int) = some (.exv c nms vs) ∧ c ∈ xnames ∧
    pNeB (.lst (kindL.map fun n => .bl (decide (c = n)))) (.lst ((rangeP 0 15).filterMap fun x => match x with | .int j => some (.bl (decide (j = (k : Int)))) | _ => none)) = some (.bl false) := by
  have : k = 0 ∨ k = 1 ∨ k = 2 ∨ k = 3 ∨ k = 4 ∨ k = 5 ∨ k = 6 ∨ k = 7 ∨ k = 8 ∨ k = 9 ∨ k = 10 ∨ k = 11 ∨ k = 12 ∨ k = 13 ∨ k = 14 := by omega
  rcases this with rfl | rfl | rfl | rfl | rfl | rfl | rfl | rfl | rfl | rfl | rfl | rfl | rfl | rfl | rfl <;> exact ⟨_, _, _, rfl, by decide, by kernel_rfl⟩
theorem law_wf (ns : List Int) : WF s_law [.p (.fz (ns.map .int))] (fun _ _ _ _ => False) fun d _ => d = .p (.bl true) := by
  have hs : PySem.sizeLine = 16777216 := by decide
  refine wf_fn rfl (by simp) ?_
  simp [b_law]
  refine pen fun p hp => ?_
  have ho := hp.op
  simp [ho, hs, mergeP, zipPs]
  refine pick (n := 899999) (xs := ones) hp (by simp [ones]) (by simp [ones]) fun x p1 hx hp1 => ?_
  have ho1 := hp1.op
  simp [ho1, hs, mergeP, zipPs]
  refine pick (n := 899998) (xs := twos) hp1 (by simp [twos]) (by simp [twos]) fun y p2 hy hp2 => ?_
  have ho2 := hp2.op
  simp [ho2, hs, pMul, pAdd]
  simp [ne6 hx hy, ne10 hx]
  refine ws_for (fun i σ => ∃ a, σ = [some (D.p (P.fz (List.map P.int ns))), some p2, some (D.p x), some (D.p y), some (D.p (P.exv "BadLine" ["column", "line"] [y, x])), some (D.p (P.exv "BadNumber" ["number", "what"] [y, x])),
      some (D.p (P.exv "NotKept" ["witness", "promise"] [y, x])), some (D.p (P.lst [x, x, x, x, x, x, x, x])), some (D.p (P.exv "BadText" ["column"] [x])), some (D.p (P.exv "BadRow" ["row"] [x])), some (D.p (P.exv "BadTie" ["tie"] [x])),
      some (D.p (P.exv "BadRing" ["index"] [x])), some (D.p (P.exv "BadMove" ["index"] [x])), some (D.p (P.exv "BadName" ["name"] [x])), some (D.p (P.exv "NoName" ["name"] [x])), some (D.p (P.exv "TakenName" ["name"] [x])),
      some (D.p (P.exv "Unlike" ["what"] [x])), some (D.p (P.exv "TooMany" ["most"] [x])), some (D.p (P.lst (errs x y))), a, none]) ⟨none, rfl⟩ ?_ ?_
  · rintro i z σ hi ⟨a, rfl⟩
    obtain ⟨k, hk, rfl⟩ := rg15 hi
    obtain ⟨c, nms, vs, e1, hc, e2⟩ := err_at x y k hk
    simp [e1, pureAt, wipeE, backE]
    refine kinds hc ?_
    have hm : ∀ z ∈ rangeP 0 15, ∃ j : Nat, z = .int (j : Int) := fun z hz => by
      obtain ⟨i, hi2⟩ := List.mem_iff_getElem?.mp hz
      obtain ⟨j, hj, rfl⟩ := rg15 hi2
      exact ⟨j, rfl⟩
    have hl : (rangeP 0 15).length ≤ PySem.sizeLine := by rw [hs]; simp [rangeP]
    generalize hr : rangeP 0 15 = xs at e2 hm hl
    simp [pureAt, wipeE, backE, hr]
    refine wc_map (fun x => match x with | .int j => some (.bl (decide (j = (k : Int)))) | _ => none) hl ?_ ?_
    · intro z hz
      obtain ⟨j, rfl⟩ := hm z hz
      simp [pEq_int, wipeE]
    · simp [e2]
  · rintro σ ⟨a, rfl⟩
    simp [tb_all (show "YardError" ∈ xnames by decide)]
    refine kinds (by decide) ?_
    have e : pEq (P.lst (List.map (fun n => P.bl (decide ("YardError" = n))) kindL)) (.lst [P.bl false, P.bl false, P.bl false, P.bl false, P.bl false, P.bl false, P.bl false, P.bl false, P.bl false, P.bl false, P.bl false, P.bl false, P.bl false, P.bl false, P.bl false]) = some (.bl true) := by kernel_rfl
    show WO (pEq (P.lst (List.map (fun n => P.bl (decide ("YardError" = n))) kindL)) _) _
    rw [e]
    simp
end Sl
namespace K00
open PySem PV Sl
theorem law_true (ns : List Int) (hl : ns.length ≤ 63) : ∃ fin, s_law [.p (.fz (ns.map .int))] = .ok (.p (.bl true)) fin := by
  obtain ⟨d, fin, e, rfl⟩ := (law_wf ns).ok
  exact ⟨fin, e⟩
end K00

set_option Elab.async false
set_option linter.all false
set_option maxRecDepth 100000
set_option maxHeartbeats 4000000
/-! K00: the walk, printed by gen.py. -/
namespace K00
open PySem L2 PV Sl
def top (i : Nat) : Stmt := PySem.Challenge.pw_slideyards_k00_errors.main.body.getD i (.Pass ⟨0, 0, 0, 0⟩)
theorem hu65 {A : Around} {k : Nat} (hr : Room k A) : A.units + 65 < cLine := by have := hr.un; omega
theorem hu64 {A : Around} {k : Nat} (hr : Room k A) : A.units + 64 < cLine := by have := hr.un; omega
theorem hu66 {A : Around} {k : Nat} (hr : Room k A) : A.units + 66 < cLine := by have := hr.un; omega
structure Gb (K : PySem.W.Frag) (mg : Str → Option Value) (cl : String → Option Addr) : Prop where
  m_ValueError : mg "ValueError" = none
  m_int : mg "int" = none
  m_isinstance : mg "isinstance" = none
  m_len : mg "len" = none
  m_list : mg "list" = none
  m_range : mg "range" = none
  x_BadLine_column : XvOk K cl "BadLine" "column"
  x_BadLine_line : XvOk K cl "BadLine" "line"
  x_BadMove_index : XvOk K cl "BadMove" "index"
  x_BadName_name : XvOk K cl "BadName" "name"
  x_BadNumber_number : XvOk K cl "BadNumber" "number"
  x_BadNumber_what : XvOk K cl "BadNumber" "what"
  x_BadRing_index : XvOk K cl "BadRing" "index"
  x_BadRow_row : XvOk K cl "BadRow" "row"
  x_BadText_column : XvOk K cl "BadText" "column"
  x_BadTie_tie : XvOk K cl "BadTie" "tie"
  x_NoName_name : XvOk K cl "NoName" "name"
  x_NotKept_promise : XvOk K cl "NotKept" "promise"
  x_NotKept_witness : XvOk K cl "NotKept" "witness"
  x_TakenName_name : XvOk K cl "TakenName" "name"
  x_TooMany_most : XvOk K cl "TooMany" "most"
  x_Unlike_what : XvOk K cl "Unlike" "what"
  i_BadLine : IsC K mg cl "BadLine" (tbOf xnames "YardError" "BadLine")
  i_BadMove : IsC K mg cl "BadMove" (tbOf xnames "YardError" "BadMove")
  i_BadName : IsC K mg cl "BadName" (tbOf xnames "YardError" "BadName")
  i_BadNumber : IsC K mg cl "BadNumber" (tbOf xnames "YardError" "BadNumber")
  i_BadRing : IsC K mg cl "BadRing" (tbOf xnames "YardError" "BadRing")
  i_BadRow : IsC K mg cl "BadRow" (tbOf xnames "YardError" "BadRow")
  i_BadText : IsC K mg cl "BadText" (tbOf xnames "YardError" "BadText")
  i_BadTie : IsC K mg cl "BadTie" (tbOf xnames "YardError" "BadTie")
  i_NoName : IsC K mg cl "NoName" (tbOf xnames "YardError" "NoName")
  i_NotKept : IsC K mg cl "NotKept" (tbOf xnames "YardError" "NotKept")
  i_NothingToRedo : IsC K mg cl "NothingToRedo" (tbOf xnames "YardError" "NothingToRedo")
  i_NothingToUndo : IsC K mg cl "NothingToUndo" (tbOf xnames "YardError" "NothingToUndo")
  i_TakenName : IsC K mg cl "TakenName" (tbOf xnames "YardError" "TakenName")
  i_TooMany : IsC K mg cl "TooMany" (tbOf xnames "YardError" "TooMany")
  i_Unlike : IsC K mg cl "Unlike" (tbOf xnames "YardError" "Unlike")
  i_YardError : IsC K mg cl "YardError" (tbOf xnames "YardError" "YardError")
  i_ValueError : IxOk K cl (tbAll xnames) (.type "ValueError")
variable {P : Program} {w : World} {K : PySem.W.Frag} {mg : Str → Option Value} {base : Heap} {cl : String → Option Addr}
/-! ### _law_draw -/
abbrev t__law_draw : Stmt := top 19
theorem sc__law_draw : FnScope ["_law_pen_here", "_law_many", "_law_cell", "_law_digit", "_law_blend"] ["_law_pen_here", "_law_many"] (defScope t__law_draw) := ⟨rfl, rfl, rfl, by decide +kernel, rfl, by decide +kernel, by decide +kernel⟩
theorem k__law_draw {a : Addr} {fd : FuncData} (F : Fun K "_law_draw" "_law_draw" t__law_draw a fd) (B : Gb K mg cl) : FnOk P w K mg base (L2.CX P w) 1 a fd ["_law_pen_here", "_law_many"] (spOf K cl 2 s__law_draw) := fn_sem (k := 0) F sc__law_draw rfl rfl fun cdv A outer s H vs E hr =>
    (dss_cons (ds_dput (ps_dput (hu_of hr) (pv 0) de_str (de_bin op_addA prim_add (de_sub (hu_of hr) (de_var 0) de_str) de_int) rfl))
    (dss_cons (ds_if (dw_and (dt_cmp (op_eqD (hu64 hr)) prim_eq (de_sub (hu_of hr) (de_var 0) de_str) de_int) (dw_and1 (dt_cmp op_lt prim_cmp (de_sub (hu_of hr) (de_var 0) de_str) (de_blt call_lenA prim_len (by rfl) B.m_len (by rfl) (da_cons (de_sub (hu_of hr) (de_var 0) de_str) da_nil))))).pt (dss_cons (ds_set sc__law_draw.nd rfl (by first | exact Or.inl rfl | exact Or.inr rfl) (by show (2 : Nat) ∉ ([0] : List Nat); decide) (de_sub (hu_of hr) (de_sub (hu_of hr) (de_var 0) de_str) (de_sub (hu_of hr) (de_var 0) de_str)))
    (dss_cons (ds_dput (ps_dput (hu_of hr) (pv 0) de_str (de_bin op_addA prim_add (de_sub (hu_of hr) (de_var 0) de_str) de_int) rfl))
    (dss_one (ds_if (dt_cmp op_ge prim_cmp (de_var 2) (de_bin op_pow prim_I de_int de_int)) (dss_one (ds_dput (ps_dput (hu_of hr) (pv 0) de_str (de_bin op_sub prim_I0 (de_var 2) (de_bin op_pow prim_I de_int de_int)) rfl))) (dss_one (ds_dput (ps_dput (hu_of hr) (pv 0) de_str (de_bin op_mod prim_I (de_bty call_int1 prim_int (by rfl) B.m_int (by rfl) (da_cons (de_bin op_addA prim_add (de_bin op_mulA prim_mul (de_sub (hu_of hr) (de_var 0) de_str) de_int) (de_var 2)) da_nil)) de_int) rfl))))))) dss_nil)
    (dss_cons (ds_if (dt_cmp op_gt prim_cmp (de_sub (hu_of hr) (de_var 0) de_str) de_int) (dss_cons (ds_set sc__law_draw.nd rfl (by first | exact Or.inl rfl | exact Or.inr rfl) (by show (3 : Nat) ∉ ([0] : List Nat); decide) (de_bin op_mod prim_I (de_bty call_int1 prim_int (by rfl) B.m_int (by rfl) (da_cons (de_sub (hu_of hr) (de_var 0) de_str) da_nil)) (de_var 1)))
    (dss_cons (ds_dput (ps_dput (hu_of hr) (pv 0) de_str (de_bin op_fdivW prim_I (de_sub (hu_of hr) (de_var 0) de_str) (de_var 1)) rfl))
    (dss_one (ds_ret (de_var 3))))) dss_nil)
    (dss_cons (ds_set sc__law_draw.nd rfl (by first | exact Or.inl rfl | exact Or.inr rfl) (by show (4 : Nat) ∉ ([0] : List Nat); decide) (de_bin op_addA prim_add (de_bin op_addA prim_add (de_sub (hu_of hr) (de_var 0) de_str) (de_bin op_mulA prim_mul (de_sub (hu_of hr) (de_var 0) de_str) de_int)) de_int))
    (dss_one (ds_ret (de_bin op_mod prim_I (de_bin op_fdivW prim_I (de_bty call_int1 prim_int (by rfl) B.m_int (by rfl) (da_cons (de_bin op_mod prim_I (de_bin op_pow prim_I (de_var 4) de_int) de_int) da_nil)) de_int) (de_var 1))))))))
/-! ### _law_kinds -/
abbrev t__law_kinds : Stmt := top 21
theorem sc__law_kinds : FnScope ["_law_error", "_law_found"] ["_law_error"] (defScope t__law_kinds) := ⟨rfl, rfl, rfl, by decide +kernel, rfl, by decide +kernel, by decide +kernel⟩
theorem k__law_kinds {a : Addr} {fd : FuncData} (F : Fun K "_law_kinds" "_law_kinds" t__law_kinds a fd) (B : Gb K mg cl) : FnOk P w K mg base (L2.CX P w) 1 a fd ["_law_error"] (spOf K cl 1 s__law_kinds) := fn_sem (k := 0) F sc__law_kinds rfl rfl fun cdv A outer s H vs E hr =>
    (dss_cons (ds_set sc__law_kinds.nd rfl (by first | exact Or.inl rfl | exact Or.inr rfl) (by show (1 : Nat) ∉ ([] : List Nat); decide) (de_lst (da_cons (de_isC B.i_BadText (by rfl) B.m_isinstance (by rfl) rfl (de_var 0)) (da_cons (de_isC B.i_BadLine (by rfl) B.m_isinstance (by rfl) rfl (de_var 0)) (da_cons (de_isC B.i_BadNumber (by rfl) B.m_isinstance (by rfl) rfl (de_var 0)) da_nil)))))
    (dss_cons (ds_set sc__law_kinds.nd rfl (by first | exact Or.inl rfl | exact Or.inr rfl) (by show (1 : Nat) ∉ ([] : List Nat); decide) (de_bin op_addA prim_add (de_var 1) (de_lst (da_cons (de_isC B.i_BadRow (by rfl) B.m_isinstance (by rfl) rfl (de_var 0)) (da_cons (de_isC B.i_BadTie (by rfl) B.m_isinstance (by rfl) rfl (de_var 0)) (da_cons (de_isC B.i_BadRing (by rfl) B.m_isinstance (by rfl) rfl (de_var 0)) da_nil))))))
    (dss_cons (ds_set sc__law_kinds.nd rfl (by first | exact Or.inl rfl | exact Or.inr rfl) (by show (1 : Nat) ∉ ([] : List Nat); decide) (de_bin op_addA prim_add (de_var 1) (de_lst (da_cons (de_isC B.i_BadMove (by rfl) B.m_isinstance (by rfl) rfl (de_var 0)) (da_cons (de_isC B.i_BadName (by rfl) B.m_isinstance (by rfl) rfl (de_var 0)) (da_cons (de_isC B.i_NoName (by rfl) B.m_isinstance (by rfl) rfl (de_var 0)) da_nil))))))
    (dss_cons (ds_set sc__law_kinds.nd rfl (by first | exact Or.inl rfl | exact Or.inr rfl) (by show (1 : Nat) ∉ ([] : List Nat); decide) (de_bin op_addA prim_add (de_var 1) (de_lst (da_cons (de_isC B.i_TakenName (by rfl) B.m_isinstance (by rfl) rfl (de_var 0)) (da_cons (de_isC B.i_Unlike (by rfl) B.m_isinstance (by rfl) rfl (de_var 0)) (da_cons (de_isC B.i_TooMany (by rfl) B.m_isinstance (by rfl) rfl (de_var 0)) da_nil))))))
    (dss_cons (ds_set sc__law_kinds.nd rfl (by first | exact Or.inl rfl | exact Or.inr rfl) (by show (1 : Nat) ∉ ([] : List Nat); decide) (de_bin op_addA prim_add (de_var 1) (de_lst (da_cons (de_isC B.i_NotKept (by rfl) B.m_isinstance (by rfl) rfl (de_var 0)) (da_cons (de_isC B.i_NothingToUndo (by rfl) B.m_isinstance (by rfl) rfl (de_var 0)) (da_cons (de_isC B.i_NothingToRedo (by rfl) B.m_isinstance (by rfl) rfl (de_var 0)) da_nil))))))
    (dss_one (ds_ret (de_if (dw_and (dt_val (de_isC B.i_YardError (by rfl) B.m_isinstance (by rfl) rfl (de_var 0))) (dw_and1 (dt_val (de_isBt B.i_ValueError (by rfl) B.m_isinstance (by rfl) B.m_ValueError rfl (de_var 0))))).pt (de_var 1) (de_lst da_nil)))))))))
/-! ### _law_pen -/
abbrev t__law_pen : Stmt := top 18
theorem sc__law_pen : FnScope ["_law_script", "_law_fold", "_law_cell"] ["_law_script"] (defScope t__law_pen) := ⟨rfl, rfl, rfl, by decide +kernel, rfl, by decide +kernel, by decide +kernel⟩
theorem k__law_pen {a : Addr} {fd : FuncData} (F : Fun K "_law_pen" "_law_pen" t__law_pen a fd) (B : Gb K mg cl) : FnOk P w K mg base (L2.CX P w) 1 a fd ["_law_script"] (spOf K cl 1 s__law_pen) := fn_sem (k := 0) F sc__law_pen rfl rfl fun cdv A outer s H vs E hr =>
    (dss_cons (ds_set sc__law_pen.nd rfl (by first | exact Or.inl rfl | exact Or.inr rfl) (by show (1 : Nat) ∉ ([] : List Nat); decide) de_int)
    (dss_cons (ds_for (passes_of rfl) rfl (di_iter (de_var 0)) (dg_name sc__law_pen.nd rfl (by first | exact Or.inl rfl | exact Or.inr rfl) (by show (2 : Nat) ∉ ([] : List Nat); decide)) (dss_one (ds_set sc__law_pen.nd rfl (by first | exact Or.inl rfl | exact Or.inr rfl) (by show (1 : Nat) ∉ ([] : List Nat); decide) (de_bin op_mod prim_I (de_bty call_int1 prim_int (by rfl) B.m_int (by rfl) (da_cons (de_bin op_addA prim_add (de_bin op_mulA prim_mul (de_var 1) de_int) (de_var 2)) da_nil)) de_int))))
    (dss_one (ds_retF (df_disp rfl (pe_disp (pps_cons pe_str (de_lift (primL_N primL_list) (pe_callTy call_list_of (by rfl) B.m_list (by rfl) (da_cons (de_var 0) da_nil))) (pps_cons pe_str de_int (pps_cons pe_str de_int (pps_cons pe_str de_int (pps_cons pe_str (de_var 1) pps_nil))))) rfl rfl (by simp) (by decide)))))))
/-! ### _law_pick -/
abbrev t__law_pick : Stmt := top 20
theorem sc__law_pick : FnScope ["_law_pen_here", "_law_some"] ["_law_pen_here", "_law_some"] (defScope t__law_pick) := ⟨rfl, rfl, rfl, by decide +kernel, rfl, by decide +kernel, by decide +kernel⟩
theorem k__law_pick {a : Addr} {fd : FuncData} (F : Fun K "_law_pick" "_law_pick" t__law_pick a fd) (B : Gb K mg cl) (C__law_draw : Callee P w K mg base cl "_law_draw" 1 2 (s__law_draw)) : FnOk P w K mg base (L2.CX P w) 2 a fd ["_law_pen_here", "_law_some"] (spOf K cl 2 s__law_pick) := fn_sem (k := 1) F sc__law_pick rfl rfl fun cdv A outer s H vs E hr =>
    (dss_one (ds_ret (de_sub (hu_of hr) (de_var 1) (de_call C__law_draw rfl (hr.mono (by first | decide | exact Nat.le_refl _ | exact Nat.le_add_right _ _ | (simp only [Nat.add_eq]; omega))) (takes_of rfl rfl rfl rfl) (by rfl) (da_cons (de_var 0) (da_cons (de_blt call_lenA prim_len (by rfl) B.m_len (by rfl) (da_cons (de_var 1) da_nil)) da_nil))))))
/-! ### law -/
abbrev t_law : Stmt := top 22
theorem sc_law : FnScope ["_law_script", "_law_pen_here", "_law_one", "_law_two", "_law_line", "_law_number", "_law_kept", "_law_told", "_law_text", "_law_row", "_law_tie", "_law_ring", "_law_move", "_law_name", "_law_none", "_law_taken", "_law_unlike", "_law_many", "_law_errors", "_law_place", "_law_k"] ["_law_script"] (defScope t_law) := ⟨rfl, rfl, rfl, by decide +kernel, rfl, by decide +kernel, by decide +kernel⟩
theorem k_law {a : Addr} {fd : FuncData} (F : Fun K "law" "law" t_law a fd) (B : Gb K mg cl) (E_BadLine : ExcMk2 P w K mg base cl "BadLine" "BadLine" "line" "column" 1) (E_BadMove : ExcMk1 P w K mg base cl "BadMove" "BadMove" "index" 1) (E_BadName : ExcMk1 P w K mg base cl "BadName" "BadName" "name" 1) (E_BadNumber : ExcMk2 P w K mg base cl "BadNumber" "BadNumber" "what" "number" 1) (E_BadRing : ExcMk1 P w K mg base cl "BadRing" "BadRing" "index" 1) (E_BadRow : ExcMk1 P w K mg base cl "BadRow" "BadRow" "row" 1) (E_BadText : ExcMk1 P w K mg base cl "BadText" "BadText" "column" 1) (E_BadTie : ExcMk1 P w K mg base cl "BadTie" "BadTie" "tie" 1) (E_NoName : ExcMk1 P w K mg base cl "NoName" "NoName" "name" 1) (E_NotKept : ExcMk2 P w K mg base cl "NotKept" "NotKept" "promise" "witness" 1) (E_NothingToRedo : ExcMk0 K mg cl "NothingToRedo" "NothingToRedo") (E_NothingToUndo : ExcMk0 K mg cl "NothingToUndo" "NothingToUndo") (E_TakenName : ExcMk1 P w K mg base cl "TakenName" "TakenName" "name" 1) (E_TooMany : ExcMk1 P w K mg base cl "TooMany" "TooMany" "most" 1) (E_Unlike : ExcMk1 P w K mg base cl "Unlike" "Unlike" "what" 1) (E_YardError : ExcMk0 K mg cl "YardError" "YardError") (C__law_kinds : Callee P w K mg base cl "_law_kinds" 1 1 (s__law_kinds)) (C__law_pen : Callee P w K mg base cl "_law_pen" 1 1 (s__law_pen)) (C__law_pick : Callee P w K mg base cl "_law_pick" 2 2 (s__law_pick)) : FnOk P w K mg base (L2.CX P w) 3 a fd ["_law_script"] (spOf K cl 1 s_law) := fn_sem (k := 2) F sc_law rfl rfl fun cdv A outer s H vs E hr =>
    (dss_cons (ds_setF sc_law.nd rfl (by first | exact Or.inl rfl | exact Or.inr rfl) (by show (1 : Nat) ∉ ([] : List Nat); decide) (de_callF C__law_pen rfl (hr.mono (by first | decide | exact Nat.le_refl _ | exact Nat.le_add_right _ _ | (simp only [Nat.add_eq]; omega))) (takes_of rfl rfl rfl rfl) (by rfl) (da_cons (de_var 0) da_nil)))
    (dss_cons (ds_set sc_law.nd rfl (by first | exact Or.inl rfl | exact Or.inr rfl) (by show (2 : Nat) ∉ ([] : List Nat); decide) (de_call C__law_pick rfl (hr.mono (by first | decide | exact Nat.le_refl _ | exact Nat.le_add_right _ _ | (simp only [Nat.add_eq]; omega))) (takes_of rfl rfl rfl rfl) (by rfl) (da_cons (de_var 1) (da_cons (de_lst (da_cons de_int (da_cons de_str (da_cons de_non (da_cons (de_tup (da_cons de_int (da_cons de_int da_nil))) (da_cons (de_lst (da_cons de_int (da_cons de_int da_nil))) (da_cons de_bl da_nil))))))) da_nil))))
    (dss_cons (ds_set sc_law.nd rfl (by first | exact Or.inl rfl | exact Or.inr rfl) (by show (3 : Nat) ∉ ([] : List Nat); decide) (de_call C__law_pick rfl (hr.mono (by first | decide | exact Nat.le_refl _ | exact Nat.le_add_right _ _ | (simp only [Nat.add_eq]; omega))) (takes_of rfl rfl rfl rfl) (by rfl) (da_cons (de_var 1) (da_cons (de_lst (da_cons de_int (da_cons de_str (da_cons (de_tup (da_cons de_str da_nil)) (da_cons (de_lst da_nil) (da_cons (de_fz (df_disp rfl (pe_disp (pps_cons pe_str de_int pps_nil) rfl rfl (by simp) (by decide)))) da_nil)))))) da_nil))))
    (dss_cons (ds_par3 (ps_par3 rfl sc_law.nd rfl rfl rfl (by decide) (by decide) (by decide) rfl rfl rfl (pa_cons (de_xmk2 E_BadLine (hr.mono (by first | decide | exact Nat.le_refl _ | exact Nat.le_add_right _ _ | (simp only [Nat.add_eq]; omega))) (by rfl) (da_cons (de_var 2) (da_cons (de_var 3) da_nil))) (pa_cons (de_xmk2 E_BadNumber (hr.mono (by first | decide | exact Nat.le_refl _ | exact Nat.le_add_right _ _ | (simp only [Nat.add_eq]; omega))) (by rfl) (da_cons (de_var 2) (da_cons (de_var 3) da_nil))) (pa_cons (de_xmk2 E_NotKept (hr.mono (by first | decide | exact Nat.le_refl _ | exact Nat.le_add_right _ _ | (simp only [Nat.add_eq]; omega))) (by rfl) (da_cons (de_var 2) (da_cons (de_var 3) da_nil))) pa_nil))) (by rfl) (by rfl)) (by show (4 : Nat) ∉ ([] : List Nat); decide) (by show (5 : Nat) ∉ ([] : List Nat); decide) (by show (6 : Nat) ∉ ([] : List Nat); decide))
    (dss_cons (ds_set sc_law.nd rfl (by first | exact Or.inl rfl | exact Or.inr rfl) (by show (7 : Nat) ∉ ([] : List Nat); decide) (de_lst (da_cons (de_attrE (de_var 4) rfl (fun c hc => by obtain rfl := List.mem_singleton.mp hc; exact B.x_BadLine_line)) (da_cons (de_attrE (de_var 4) rfl (fun c hc => by simp only [List.mem_cons, List.not_mem_nil, or_false] at hc; rcases hc with rfl | rfl <;> first | exact B.x_BadText_column | exact B.x_BadLine_column)) (da_cons (de_attrE (de_var 5) rfl (fun c hc => by simp only [List.mem_cons, List.not_mem_nil, or_false] at hc; rcases hc with rfl | rfl <;> first | exact B.x_BadNumber_what | exact B.x_Unlike_what)) (da_cons (de_attrE (de_var 5) rfl (fun c hc => by obtain rfl := List.mem_singleton.mp hc; exact B.x_BadNumber_number)) (da_cons (de_attrE (de_var 6) rfl (fun c hc => by obtain rfl := List.mem_singleton.mp hc; exact B.x_NotKept_promise)) (da_cons (de_attrE (de_var 6) rfl (fun c hc => by obtain rfl := List.mem_singleton.mp hc; exact B.x_NotKept_witness)) da_nil))))))))
    (dss_cons (ds_if (dt_cmp (.or (op_neD (hu64 hr)) (op_neX (hu66 hr))) prim_neB (de_var 7) (de_bin op_mulA prim_mul (de_lst (da_cons (de_var 2) (da_cons (de_var 3) da_nil))) de_int)) (dss_one (ds_ret de_bl)) dss_nil)
    (dss_cons (ds_asg (de_tup (da_cons (de_xmk1 E_BadText (hr.mono (by first | decide | exact Nat.le_refl _ | exact Nat.le_add_right _ _ | (simp only [Nat.add_eq]; omega))) (by rfl) (da_cons (de_var 2) da_nil)) (da_cons (de_xmk1 E_BadRow (hr.mono (by first | decide | exact Nat.le_refl _ | exact Nat.le_add_right _ _ | (simp only [Nat.add_eq]; omega))) (by rfl) (da_cons (de_var 2) da_nil)) (da_cons (de_xmk1 E_BadTie (hr.mono (by first | decide | exact Nat.le_refl _ | exact Nat.le_add_right _ _ | (simp only [Nat.add_eq]; omega))) (by rfl) (da_cons (de_var 2) da_nil)) (da_cons (de_xmk1 E_BadRing (hr.mono (by first | decide | exact Nat.le_refl _ | exact Nat.le_add_right _ _ | (simp only [Nat.add_eq]; omega))) (by rfl) (da_cons (de_var 2) da_nil)) (da_cons (de_xmk1 E_BadMove (hr.mono (by first | decide | exact Nat.le_refl _ | exact Nat.le_add_right _ _ | (simp only [Nat.add_eq]; omega))) (by rfl) (da_cons (de_var 2) da_nil)) da_nil)))))) (dg_tup rfl (dgs_cons (dg_name sc_law.nd rfl (by first | exact Or.inl rfl | exact Or.inr rfl) (by show (8 : Nat) ∉ ([] : List Nat); decide)) (dgs_cons (dg_name sc_law.nd rfl (by first | exact Or.inl rfl | exact Or.inr rfl) (by show (9 : Nat) ∉ ([] : List Nat); decide)) (dgs_cons (dg_name sc_law.nd rfl (by first | exact Or.inl rfl | exact Or.inr rfl) (by show (10 : Nat) ∉ ([] : List Nat); decide)) (dgs_cons (dg_name sc_law.nd rfl (by first | exact Or.inl rfl | exact Or.inr rfl) (by show (11 : Nat) ∉ ([] : List Nat); decide)) (dgs_cons (dg_name sc_law.nd rfl (by first | exact Or.inl rfl | exact Or.inr rfl) (by show (12 : Nat) ∉ ([] : List Nat); decide)) dgs_nil)))))))
    (dss_cons (ds_asg (de_tup (da_cons (de_xmk1 E_BadName (hr.mono (by first | decide | exact Nat.le_refl _ | exact Nat.le_add_right _ _ | (simp only [Nat.add_eq]; omega))) (by rfl) (da_cons (de_var 2) da_nil)) (da_cons (de_xmk1 E_NoName (hr.mono (by first | decide | exact Nat.le_refl _ | exact Nat.le_add_right _ _ | (simp only [Nat.add_eq]; omega))) (by rfl) (da_cons (de_var 2) da_nil)) (da_cons (de_xmk1 E_TakenName (hr.mono (by first | decide | exact Nat.le_refl _ | exact Nat.le_add_right _ _ | (simp only [Nat.add_eq]; omega))) (by rfl) (da_cons (de_var 2) da_nil)) (da_cons (de_xmk1 E_Unlike (hr.mono (by first | decide | exact Nat.le_refl _ | exact Nat.le_add_right _ _ | (simp only [Nat.add_eq]; omega))) (by rfl) (da_cons (de_var 2) da_nil)) (da_cons (de_xmk1 E_TooMany (hr.mono (by first | decide | exact Nat.le_refl _ | exact Nat.le_add_right _ _ | (simp only [Nat.add_eq]; omega))) (by rfl) (da_cons (de_var 2) da_nil)) da_nil)))))) (dg_tup rfl (dgs_cons (dg_name sc_law.nd rfl (by first | exact Or.inl rfl | exact Or.inr rfl) (by show (13 : Nat) ∉ ([] : List Nat); decide)) (dgs_cons (dg_name sc_law.nd rfl (by first | exact Or.inl rfl | exact Or.inr rfl) (by show (14 : Nat) ∉ ([] : List Nat); decide)) (dgs_cons (dg_name sc_law.nd rfl (by first | exact Or.inl rfl | exact Or.inr rfl) (by show (15 : Nat) ∉ ([] : List Nat); decide)) (dgs_cons (dg_name sc_law.nd rfl (by first | exact Or.inl rfl | exact Or.inr rfl) (by show (16 : Nat) ∉ ([] : List Nat); decide)) (dgs_cons (dg_name sc_law.nd rfl (by first | exact Or.inl rfl | exact Or.inr rfl) (by show (17 : Nat) ∉ ([] : List Nat); decide)) dgs_nil)))))))
    (dss_cons (ds_set sc_law.nd rfl (by first | exact Or.inl rfl | exact Or.inr rfl) (by show (7 : Nat) ∉ ([] : List Nat); decide) (de_lst (da_cons (de_attrE (de_var 8) rfl (fun c hc => by simp only [List.mem_cons, List.not_mem_nil, or_false] at hc; rcases hc with rfl | rfl <;> first | exact B.x_BadText_column | exact B.x_BadLine_column)) (da_cons (de_attrE (de_var 9) rfl (fun c hc => by obtain rfl := List.mem_singleton.mp hc; exact B.x_BadRow_row)) (da_cons (de_attrE (de_var 10) rfl (fun c hc => by obtain rfl := List.mem_singleton.mp hc; exact B.x_BadTie_tie)) (da_cons (de_attrE (de_var 11) rfl (fun c hc => by simp only [List.mem_cons, List.not_mem_nil, or_false] at hc; rcases hc with rfl | rfl <;> first | exact B.x_BadRing_index | exact B.x_BadMove_index)) (da_cons (de_attrE (de_var 12) rfl (fun c hc => by simp only [List.mem_cons, List.not_mem_nil, or_false] at hc; rcases hc with rfl | rfl <;> first | exact B.x_BadRing_index | exact B.x_BadMove_index)) (da_cons (de_attrE (de_var 13) rfl (fun c hc => by simp only [List.mem_cons, List.not_mem_nil, or_false] at hc; rcases hc with rfl | rfl | rfl <;> first | exact B.x_BadName_name | exact B.x_NoName_name | exact B.x_TakenName_name)) (da_cons (de_attrE (de_var 14) rfl (fun c hc => by simp only [List.mem_cons, List.not_mem_nil, or_false] at hc; rcases hc with rfl | rfl | rfl <;> first | exact B.x_BadName_name | exact B.x_NoName_name | exact B.x_TakenName_name)) (da_cons (de_attrE (de_var 15) rfl (fun c hc => by simp only [List.mem_cons, List.not_mem_nil, or_false] at hc; rcases hc with rfl | rfl | rfl <;> first | exact B.x_BadName_name | exact B.x_NoName_name | exact B.x_TakenName_name)) da_nil))))))))))
    (dss_cons (ds_if (dt_cmp (.or (op_neD (hu64 hr)) (op_neX (hu66 hr))) prim_neB (de_bin op_addA prim_add (de_var 7) (de_lst (da_cons (de_attrE (de_var 16) rfl (fun c hc => by simp only [List.mem_cons, List.not_mem_nil, or_false] at hc; rcases hc with rfl | rfl <;> first | exact B.x_BadNumber_what | exact B.x_Unlike_what)) (da_cons (de_attrE (de_var 17) rfl (fun c hc => by obtain rfl := List.mem_singleton.mp hc; exact B.x_TooMany_most)) da_nil)))) (de_bin op_mulA prim_mul (de_lst (da_cons (de_var 2) da_nil)) de_int)) (dss_one (ds_ret de_bl)) dss_nil)
    (dss_cons (ds_set sc_law.nd rfl (by first | exact Or.inl rfl | exact Or.inr rfl) (by show (18 : Nat) ∉ ([] : List Nat); decide) (de_lst (da_cons (de_var 8) (da_cons (de_var 4) (da_cons (de_var 5) (da_cons (de_var 9) (da_cons (de_var 10) (da_cons (de_var 11) (da_cons (de_var 12) (da_cons (de_var 13) (da_cons (de_var 14) (da_cons (de_var 15) (da_cons (de_var 16) (da_cons (de_var 17) (da_cons (de_var 6) da_nil)))))))))))))))
    (dss_cons (ds_set sc_law.nd rfl (by first | exact Or.inl rfl | exact Or.inr rfl) (by show (18 : Nat) ∉ ([] : List Nat); decide) (de_bin op_addA prim_add (de_var 18) (de_lst (da_cons (de_xmk0 E_NothingToUndo (by rfl)) (da_cons (de_xmk0 E_NothingToRedo (by rfl)) da_nil)))))
    (dss_cons (ds_for (passes_of rfl) rfl (di_rg1 (pi_range1 (by rfl) B.m_range (da_cons de_int da_nil))) (dg_name sc_law.nd rfl (by first | exact Or.inl rfl | exact Or.inr rfl) (by show (19 : Nat) ∉ ([] : List Nat); decide)) (dss_one (ds_if (dt_cmp (.or (op_neD (hu64 hr)) (op_neX (hu66 hr))) prim_neB (de_call C__law_kinds rfl (hr.mono (by first | decide | exact Nat.le_refl _ | exact Nat.le_add_right _ _ | (simp only [Nat.add_eq]; omega))) (takes_of rfl rfl rfl rfl) (by rfl) (da_cons (de_sub (hu_of hr) (de_var 18) (de_var 19)) da_nil)) (de_comp (S := [20]) (vs := [20]) (pe_lc rfl sc_law.nd (di_rg1 (pi_range1 (by rfl) B.m_range (da_cons de_int da_nil))) (own := [("_law_k", 20)]) (by show BlkOk ["_law_script", "_law_pen_here", "_law_one", "_law_two", "_law_line", "_law_number", "_law_kept", "_law_told", "_law_text", "_law_row", "_law_tie", "_law_ring", "_law_move", "_law_name", "_law_none", "_law_taken", "_law_unlike", "_law_many", "_law_errors", "_law_place", "_law_k"] (defScope t_law) _ [("_law_k", 20)]; exact ⟨rfl, by decide +kernel, by decide +kernel, by decide +kernel, by decide +kernel⟩) (fun _ _ _ _ _ => (dg_name sc_law.nd rfl (by first | exact Or.inl rfl | exact Or.inr rfl) (by show (20 : Nat) ∉ ([] : List Nat); decide))) (fun _ _ _ _ _ => dts_nil) (fun _ _ _ _ _ => (de_cmp (op_eqD (hu64 hr)) prim_eq (de_var 20) (de_var 19)))) (by decide) (by show ∀ v ∈ ([20] : List Nat), v ∉ ([] : List Nat); decide))) (dss_one (ds_ret de_bl)) dss_nil)))
    (dss_one (ds_ret (de_and (de_isBt B.i_ValueError (by rfl) B.m_isinstance (by rfl) B.m_ValueError rfl (de_xmk0 E_YardError (by rfl))) (de_one (de_cmp (op_eqD (hu64 hr)) prim_eq (de_call C__law_kinds rfl (hr.mono (by first | decide | exact Nat.le_refl _ | exact Nat.le_add_right _ _ | (simp only [Nat.add_eq]; omega))) (takes_of rfl rfl rfl rfl) (by rfl) (da_cons (de_xmk0 E_YardError (by rfl)) da_nil)) (de_bin op_mulA prim_mul (de_lst (da_cons de_bl da_nil)) de_int)))))))))))))))))))
/-! ### BadText.__init__ -/
abbrev t_BadText_init : Stmt := inClass (top 2) 0
theorem k_BadText_init {f cc D cda : Addr} {dV kV doc pm ct oc cls ccl : Value} {an od cld cdd : Option Addr} {osl csl ccs : Array (Option Value)} {cvs : Array Value} {file : Str} {tf : Tok}
    (lk : K.lookup f = some ⟨oc, od, .func (PySem.W.ksFn "__init__" "BadText.__init__" (defArgs t_BadText_init) (defBody t_BadText_init) (defScope t_BadText_init) dV kV doc pm an (.ref cda) ct cc), osl⟩)
    (hcd : PySem.W.codeIn K (.ref cda) "BadText.__init__" = true) (hcc : K.lookup cc = some ⟨cls, cld, .cell (some (.ref D)), csl⟩) (hcode : K.lookup cda = some ⟨ccl, cdd, .fields cvs, ccs⟩) (hvs : cvs[2]? = some (.str file tf)) (hfile : ((P.main.file : Str) == file) = true)
    (hsup : mg "super" = none) (htop : (P.main.scope.names.lookup ("super" : Str)).isSome = false) :
    FnOk P w K mg base (L2.CX P w) 1 f (PySem.W.ksFn "__init__" "BadText.__init__" (defArgs t_BadText_init) (defBody t_BadText_init) (defScope t_BadText_init) dV kV doc pm an (.ref cda) ct cc) ["self", "column"] (spX1 K D (ofS "column")) :=
  fn_su (k := 0) (ps := ["self", "column"]) (ta := tCons (tVar 1) tNil) (t := tOst K (ofS "column") (tVar 0) (tVar 1)) lk hcd rfl rfl rfl (by decide +kernel) (by decide +kernel) (free_cls rfl) (by decide +kernel) hcc hcode hvs hfile hsup (by rfl) (by rfl) htop rfl rfl
    (fun _ => rfl) (fun _ => rfl) (fun _ => rfl) (fun _ _ => trivial) (fun _ => rfl) (fun A outer s H E => pa_cons (pe_var rfl (by first | exact Or.inl rfl | exact Or.inr rfl)) pa_nil) (fun A outer s H E => pss_one (ps_ost (pe_var rfl (by first | exact Or.inl rfl | exact Or.inr rfl)) (pe_var rfl (by first | exact Or.inl rfl | exact Or.inr rfl))))
    (fun vs H Q E h => by obtain ⟨a, C, y, rfl, _⟩ := h; rfl) spX1_su
/-! ### BadLine.__init__ -/
abbrev t_BadLine_init : Stmt := inClass (top 3) 0
theorem k_BadLine_init {f cc D cda : Addr} {dV kV doc pm ct oc cls ccl : Value} {an od cld cdd : Option Addr} {osl csl ccs : Array (Option Value)} {cvs : Array Value} {file : Str} {tf : Tok}
    (lk : K.lookup f = some ⟨oc, od, .func (PySem.W.ksFn "__init__" "BadLine.__init__" (defArgs t_BadLine_init) (defBody t_BadLine_init) (defScope t_BadLine_init) dV kV doc pm an (.ref cda) ct cc), osl⟩)
    (hcd : PySem.W.codeIn K (.ref cda) "BadLine.__init__" = true) (hcc : K.lookup cc = some ⟨cls, cld, .cell (some (.ref D)), csl⟩) (hcode : K.lookup cda = some ⟨ccl, cdd, .fields cvs, ccs⟩) (hvs : cvs[2]? = some (.str file tf)) (hfile : ((P.main.file : Str) == file) = true)
    (hsup : mg "super" = none) (htop : (P.main.scope.names.lookup ("super" : Str)).isSome = false) :
    FnOk P w K mg base (L2.CX P w) 1 f (PySem.W.ksFn "__init__" "BadLine.__init__" (defArgs t_BadLine_init) (defBody t_BadLine_init) (defScope t_BadLine_init) dV kV doc pm an (.ref cda) ct cc) ["self", "line", "column"] (spX2 K D (ofS "line") (ofS "column")) :=
  fn_su (k := 0) (ps := ["self", "line", "column"]) (ta := tCons (tVar 1) (tCons (tVar 2) tNil)) (t := tSeq (tOst K (ofS "line") (tVar 0) (tVar 1)) (tOst K (ofS "column") (tVar 0) (tVar 2))) lk hcd rfl rfl rfl (by decide +kernel) (by decide +kernel) (free_cls rfl) (by decide +kernel) hcc hcode hvs hfile hsup (by rfl) (by rfl) htop rfl rfl
    (fun _ => rfl) (fun _ => rfl) (fun _ => rfl) (fun _ _ => trivial) (fun _ => rfl) (fun A outer s H E => pa_cons (pe_var rfl (by first | exact Or.inl rfl | exact Or.inr rfl)) (pa_cons (pe_var rfl (by first | exact Or.inl rfl | exact Or.inr rfl)) pa_nil)) (fun A outer s H E => pss_cons (ps_ost (pe_var rfl (by first | exact Or.inl rfl | exact Or.inr rfl)) (pe_var rfl (by first | exact Or.inl rfl | exact Or.inr rfl))) (pss_one (ps_ost (pe_var rfl (by first | exact Or.inl rfl | exact Or.inr rfl)) (pe_var rfl (by first | exact Or.inl rfl | exact Or.inr rfl)))))
    (fun vs H Q E h => by obtain ⟨a, C, y, z, rfl, _⟩ := h; rfl) spX2_su
/-! ### BadNumber.__init__ -/
abbrev t_BadNumber_init : Stmt := inClass (top 4) 0
theorem k_BadNumber_init {f cc D cda : Addr} {dV kV doc pm ct oc cls ccl : Value} {an od cld cdd : Option Addr} {osl csl ccs : Array (Option Value)} {cvs : Array Value} {file : Str} {tf : Tok}
    (lk : K.lookup f = some ⟨oc, od, .func (PySem.W.ksFn "__init__" "BadNumber.__init__" (defArgs t_BadNumber_init) (defBody t_BadNumber_init) (defScope t_BadNumber_init) dV kV doc pm an (.ref cda) ct cc), osl⟩)
    (hcd : PySem.W.codeIn K (.ref cda) "BadNumber.__init__" = true) (hcc : K.lookup cc = some ⟨cls, cld, .cell (some (.ref D)), csl⟩) (hcode : K.lookup cda = some ⟨ccl, cdd, .fields cvs, ccs⟩) (hvs : cvs[2]? = some (.str file tf)) (hfile : ((P.main.file : Str) == file) = true)
    (hsup : mg "super" = none) (htop : (P.main.scope.names.lookup ("super" : Str)).isSome = false) :
    FnOk P w K mg base (L2.CX P w) 1 f (PySem.W.ksFn "__init__" "BadNumber.__init__" (defArgs t_BadNumber_init) (defBody t_BadNumber_init) (defScope t_BadNumber_init) dV kV doc pm an (.ref cda) ct cc) ["self", "what", "number"] (spX2 K D (ofS "what") (ofS "number")) :=
  fn_su (k := 0) (ps := ["self", "what", "number"]) (ta := tCons (tVar 1) (tCons (tVar 2) tNil)) (t := tSeq (tOst K (ofS "what") (tVar 0) (tVar 1)) (tOst K (ofS "number") (tVar 0) (tVar 2))) lk hcd rfl rfl rfl (by decide +kernel) (by decide +kernel) (free_cls rfl) (by decide +kernel) hcc hcode hvs hfile hsup (by rfl) (by rfl) htop rfl rfl
    (fun _ => rfl) (fun _ => rfl) (fun _ => rfl) (fun _ _ => trivial) (fun _ => rfl) (fun A outer s H E => pa_cons (pe_var rfl (by first | exact Or.inl rfl | exact Or.inr rfl)) (pa_cons (pe_var rfl (by first | exact Or.inl rfl | exact Or.inr rfl)) pa_nil)) (fun A outer s H E => pss_cons (ps_ost (pe_var rfl (by first | exact Or.inl rfl | exact Or.inr rfl)) (pe_var rfl (by first | exact Or.inl rfl | exact Or.inr rfl))) (pss_one (ps_ost (pe_var rfl (by first | exact Or.inl rfl | exact Or.inr rfl)) (pe_var rfl (by first | exact Or.inl rfl | exact Or.inr rfl)))))
    (fun vs H Q E h => by obtain ⟨a, C, y, z, rfl, _⟩ := h; rfl) spX2_su
/-! ### BadRow.__init__ -/
abbrev t_BadRow_init : Stmt := inClass (top 5) 0
theorem k_BadRow_init {f cc D cda : Addr} {dV kV doc pm ct oc cls ccl : Value} {an od cld cdd : Option Addr} {osl csl ccs : Array (Option Value)} {cvs : Array Value} {file : Str} {tf : Tok}
    (lk : K.lookup f = some ⟨oc, od, .func (PySem.W.ksFn "__init__" "BadRow.__init__" (defArgs t_BadRow_init) (defBody t_BadRow_init) (defScope t_BadRow_init) dV kV doc pm an (.ref cda) ct cc), osl⟩)
    (hcd : PySem.W.codeIn K (.ref cda) "BadRow.__init__" = true) (hcc : K.lookup cc = some ⟨cls, cld, .cell (some (.ref D)), csl⟩) (hcode : K.lookup cda = some ⟨ccl, cdd, .fields cvs, ccs⟩) (hvs : cvs[2]? = some (.str file tf)) (hfile : ((P.main.file : Str) == file) = true)
    (hsup : mg "super" = none) (htop : (P.main.scope.names.lookup ("super" : Str)).isSome = false) :
    FnOk P w K mg base (L2.CX P w) 1 f (PySem.W.ksFn "__init__" "BadRow.__init__" (defArgs t_BadRow_init) (defBody t_BadRow_init) (defScope t_BadRow_init) dV kV doc pm an (.ref cda) ct cc) ["self", "row"] (spX1 K D (ofS "row")) :=
  fn_su (k := 0) (ps := ["self", "row"]) (ta := tCons (tVar 1) tNil) (t := tOst K (ofS "row") (tVar 0) (tVar 1)) lk hcd rfl rfl rfl (by decide +kernel) (by decide +kernel) (free_cls rfl) (by decide +kernel) hcc hcode hvs hfile hsup (by rfl) (by rfl) htop rfl rfl
    (fun _ => rfl) (fun _ => rfl) (fun _ => rfl) (fun _ _ => trivial) (fun _ => rfl) (fun A outer s H E => pa_cons (pe_var rfl (by first | exact Or.inl rfl | exact Or.inr rfl)) pa_nil) (fun A outer s H E => pss_one (ps_ost (pe_var rfl (by first | exact Or.inl rfl | exact Or.inr rfl)) (pe_var rfl (by first | exact Or.inl rfl | exact Or.inr rfl))))
    (fun vs H Q E h => by obtain ⟨a, C, y, rfl, _⟩ := h; rfl) spX1_su
/-! ### BadTie.__init__ -/
abbrev t_BadTie_init : Stmt := inClass (top 6) 0
theorem k_BadTie_init {f cc D cda : Addr} {dV kV doc pm ct oc cls ccl : Value} {an od cld cdd : Option Addr} {osl csl ccs : Array (Option Value)} {cvs : Array Value} {file : Str} {tf : Tok}
    (lk : K.lookup f = some ⟨oc, od, .func (PySem.W.ksFn "__init__" "BadTie.__init__" (defArgs t_BadTie_init) (defBody t_BadTie_init) (defScope t_BadTie_init) dV kV doc pm an (.ref cda) ct cc), osl⟩)
    (hcd : PySem.W.codeIn K (.ref cda) "BadTie.__init__" = true) (hcc : K.lookup cc = some ⟨cls, cld, .cell (some (.ref D)), csl⟩) (hcode : K.lookup cda = some ⟨ccl, cdd, .fields cvs, ccs⟩) (hvs : cvs[2]? = some (.str file tf)) (hfile : ((P.main.file : Str) == file) = true)
    (hsup : mg "super" = none) (htop : (P.main.scope.names.lookup ("super" : Str)).isSome = false) :
    FnOk P w K mg base (L2.CX P w) 1 f (PySem.W.ksFn "__init__" "BadTie.__init__" (defArgs t_BadTie_init) (defBody t_BadTie_init) (defScope t_BadTie_init) dV kV doc pm an (.ref cda) ct cc) ["self", "tie"] (spX1 K D (ofS "tie")) :=
  fn_su (k := 0) (ps := ["self", "tie"]) (ta := tCons (tVar 1) tNil) (t := tOst K (ofS "tie") (tVar 0) (tVar 1)) lk hcd rfl rfl rfl (by decide +kernel) (by decide +kernel) (free_cls rfl) (by decide +kernel) hcc hcode hvs hfile hsup (by rfl) (by rfl) htop rfl rfl
    (fun _ => rfl) (fun _ => rfl) (fun _ => rfl) (fun _ _ => trivial) (fun _ => rfl) (fun A outer s H E => pa_cons (pe_var rfl (by first | exact Or.inl rfl | exact Or.inr rfl)) pa_nil) (fun A outer s H E => pss_one (ps_ost (pe_var rfl (by first | exact Or.inl rfl | exact Or.inr rfl)) (pe_var rfl (by first | exact Or.inl rfl | exact Or.inr rfl))))
    (fun vs H Q E h => by obtain ⟨a, C, y, rfl, _⟩ := h; rfl) spX1_su
/-! ### BadRing.__init__ -/
abbrev t_BadRing_init : Stmt := inClass (top 7) 0
theorem k_BadRing_init {f cc D cda : Addr} {dV kV doc pm ct oc cls ccl : Value} {an od cld cdd : Option Addr} {osl csl ccs : Array (Option Value)} {cvs : Array Value} {file : Str} {tf : Tok}
    (lk : K.lookup f = some ⟨oc, od, .func (PySem.W.ksFn "__init__" "BadRing.__init__" (defArgs t_BadRing_init) (defBody t_BadRing_init) (defScope t_BadRing_init) dV kV doc pm an (.ref cda) ct cc), osl⟩)
    (hcd : PySem.W.codeIn K (.ref cda) "BadRing.__init__" = true) (hcc : K.lookup cc = some ⟨cls, cld, .cell (some (.ref D)), csl⟩) (hcode : K.lookup cda = some ⟨ccl, cdd, .fields cvs, ccs⟩) (hvs : cvs[2]? = some (.str file tf)) (hfile : ((P.main.file : Str) == file) = true)
    (hsup : mg "super" = none) (htop : (P.main.scope.names.lookup ("super" : Str)).isSome = false) :
    FnOk P w K mg base (L2.CX P w) 1 f (PySem.W.ksFn "__init__" "BadRing.__init__" (defArgs t_BadRing_init) (defBody t_BadRing_init) (defScope t_BadRing_init) dV kV doc pm an (.ref cda) ct cc) ["self", "index"] (spX1 K D (ofS "index")) :=
  fn_su (k := 0) (ps := ["self", "index"]) (ta := tCons (tVar 1) tNil) (t := tOst K (ofS "index") (tVar 0) (tVar 1)) lk hcd rfl rfl rfl (by decide +kernel) (by decide +kernel) (free_cls rfl) (by decide +kernel) hcc hcode hvs hfile hsup (by rfl) (by rfl) htop rfl rfl
    (fun _ => rfl) (fun _ => rfl) (fun _ => rfl) (fun _ _ => trivial) (fun _ => rfl) (fun A outer s H E => pa_cons (pe_var rfl (by first | exact Or.inl rfl | exact Or.inr rfl)) pa_nil) (fun A outer s H E => pss_one (ps_ost (pe_var rfl (by first | exact Or.inl rfl | exact Or.inr rfl)) (pe_var rfl (by first | exact Or.inl rfl | exact Or.inr rfl))))
    (fun vs H Q E h => by obtain ⟨a, C, y, rfl, _⟩ := h; rfl) spX1_su
/-! ### BadMove.__init__ -/
abbrev t_BadMove_init : Stmt := inClass (top 8) 0
theorem k_BadMove_init {f cc D cda : Addr} {dV kV doc pm ct oc cls ccl : Value} {an od cld cdd : Option Addr} {osl csl ccs : Array (Option Value)} {cvs : Array Value} {file : Str} {tf : Tok}
    (lk : K.lookup f = some ⟨oc, od, .func (PySem.W.ksFn "__init__" "BadMove.__init__" (defArgs t_BadMove_init) (defBody t_BadMove_init) (defScope t_BadMove_init) dV kV doc pm an (.ref cda) ct cc), osl⟩)
    (hcd : PySem.W.codeIn K (.ref cda) "BadMove.__init__" = true) (hcc : K.lookup cc = some ⟨cls, cld, .cell (some (.ref D)), csl⟩) (hcode : K.lookup cda = some ⟨ccl, cdd, .fields cvs, ccs⟩) (hvs : cvs[2]? = some (.str file tf)) (hfile : ((P.main.file : Str) == file) = true)
    (hsup : mg "super" = none) (htop : (P.main.scope.names.lookup ("super" : Str)).isSome = false) :
    FnOk P w K mg base (L2.CX P w) 1 f (PySem.W.ksFn "__init__" "BadMove.__init__" (defArgs t_BadMove_init) (defBody t_BadMove_init) (defScope t_BadMove_init) dV kV doc pm an (.ref cda) ct cc) ["self", "index"] (spX1 K D (ofS "index")) :=
  fn_su (k := 0) (ps := ["self", "index"]) (ta := tCons (tVar 1) tNil) (t := tOst K (ofS "index") (tVar 0) (tVar 1)) lk hcd rfl rfl rfl (by decide +kernel) (by decide +kernel) (free_cls rfl) (by decide +kernel) hcc hcode hvs hfile hsup (by rfl) (by rfl) htop rfl rfl
    (fun _ => rfl) (fun _ => rfl) (fun _ => rfl) (fun _ _ => trivial) (fun _ => rfl) (fun A outer s H E => pa_cons (pe_var rfl (by first | exact Or.inl rfl | exact Or.inr rfl)) pa_nil) (fun A outer s H E => pss_one (ps_ost (pe_var rfl (by first | exact Or.inl rfl | exact Or.inr rfl)) (pe_var rfl (by first | exact Or.inl rfl | exact Or.inr rfl))))
    (fun vs H Q E h => by obtain ⟨a, C, y, rfl, _⟩ := h; rfl) spX1_su
/-! ### BadName.__init__ -/
abbrev t_BadName_init : Stmt := inClass (top 9) 0
theorem k_BadName_init {f cc D cda : Addr} {dV kV doc pm ct oc cls ccl : Value} {an od cld cdd : Option Addr} {osl csl ccs : Array (Option Value)} {cvs : Array Value} {file : Str} {tf : Tok}
    (lk : K.lookup f = some ⟨oc, od, .func (PySem.W.ksFn "__init__" "BadName.__init__" (defArgs t_BadName_init) (defBody t_BadName_init) (defScope t_BadName_init) dV kV doc pm an (.ref cda) ct cc), osl⟩)
    (hcd : PySem.W.codeIn K (.ref cda) "BadName.__init__" = true) (hcc : K.lookup cc = some ⟨cls, cld, .cell (some (.ref D)), csl⟩) (hcode : K.lookup cda = some ⟨ccl, cdd, .fields cvs, ccs⟩) (hvs : cvs[2]? = some (.str file tf)) (hfile : ((P.main.file : Str) == file) = true)
    (hsup : mg "super" = none) (htop : (P.main.scope.names.lookup ("super" : Str)).isSome = false) :
    FnOk P w K mg base (L2.CX P w) 1 f (PySem.W.ksFn "__init__" "BadName.__init__" (defArgs t_BadName_init) (defBody t_BadName_init) (defScope t_BadName_init) dV kV doc pm an (.ref cda) ct cc) ["self", "name"] (spX1 K D (ofS "name")) :=
  fn_su (k := 0) (ps := ["self", "name"]) (ta := tCons (tVar 1) tNil) (t := tOst K (ofS "name") (tVar 0) (tVar 1)) lk hcd rfl rfl rfl (by decide +kernel) (by decide +kernel) (free_cls rfl) (by decide +kernel) hcc hcode hvs hfile hsup (by rfl) (by rfl) htop rfl rfl
    (fun _ => rfl) (fun _ => rfl) (fun _ => rfl) (fun _ _ => trivial) (fun _ => rfl) (fun A outer s H E => pa_cons (pe_var rfl (by first | exact Or.inl rfl | exact Or.inr rfl)) pa_nil) (fun A outer s H E => pss_one (ps_ost (pe_var rfl (by first | exact Or.inl rfl | exact Or.inr rfl)) (pe_var rfl (by first | exact Or.inl rfl | exact Or.inr rfl))))
    (fun vs H Q E h => by obtain ⟨a, C, y, rfl, _⟩ := h; rfl) spX1_su
/-! ### NoName.__init__ -/
abbrev t_NoName_init : Stmt := inClass (top 10) 0
theorem k_NoName_init {f cc D cda : Addr} {dV kV doc pm ct oc cls ccl : Value} {an od cld cdd : Option Addr} {osl csl ccs : Array (Option Value)} {cvs : Array Value} {file : Str} {tf : Tok}
    (lk : K.lookup f = some ⟨oc, od, .func (PySem.W.ksFn "__init__" "NoName.__init__" (defArgs t_NoName_init) (defBody t_NoName_init) (defScope t_NoName_init) dV kV doc pm an (.ref cda) ct cc), osl⟩)
    (hcd : PySem.W.codeIn K (.ref cda) "NoName.__init__" = true) (hcc : K.lookup cc = some ⟨cls, cld, .cell (some (.ref D)), csl⟩) (hcode : K.lookup cda = some ⟨ccl, cdd, .fields cvs, ccs⟩) (hvs : cvs[2]? = some (.str file tf)) (hfile : ((P.main.file : Str) == file) = true)
    (hsup : mg "super" = none) (htop : (P.main.scope.names.lookup ("super" : Str)).isSome = false) :
    FnOk P w K mg base (L2.CX P w) 1 f (PySem.W.ksFn "__init__" "NoName.__init__" (defArgs t_NoName_init) (defBody t_NoName_init) (defScope t_NoName_init) dV kV doc pm an (.ref cda) ct cc) ["self", "name"] (spX1 K D (ofS "name")) :=
  fn_su (k := 0) (ps := ["self", "name"]) (ta := tCons (tVar 1) tNil) (t := tOst K (ofS "name") (tVar 0) (tVar 1)) lk hcd rfl rfl rfl (by decide +kernel) (by decide +kernel) (free_cls rfl) (by decide +kernel) hcc hcode hvs hfile hsup (by rfl) (by rfl) htop rfl rfl
    (fun _ => rfl) (fun _ => rfl) (fun _ => rfl) (fun _ _ => trivial) (fun _ => rfl) (fun A outer s H E => pa_cons (pe_var rfl (by first | exact Or.inl rfl | exact Or.inr rfl)) pa_nil) (fun A outer s H E => pss_one (ps_ost (pe_var rfl (by first | exact Or.inl rfl | exact Or.inr rfl)) (pe_var rfl (by first | exact Or.inl rfl | exact Or.inr rfl))))
    (fun vs H Q E h => by obtain ⟨a, C, y, rfl, _⟩ := h; rfl) spX1_su
/-! ### TakenName.__init__ -/
abbrev t_TakenName_init : Stmt := inClass (top 11) 0
theorem k_TakenName_init {f cc D cda : Addr} {dV kV doc pm ct oc cls ccl : Value} {an od cld cdd : Option Addr} {osl csl ccs : Array (Option Value)} {cvs : Array Value} {file : Str} {tf : Tok}
    (lk : K.lookup f = some ⟨oc, od, .func (PySem.W.ksFn "__init__" "TakenName.__init__" (defArgs t_TakenName_init) (defBody t_TakenName_init) (defScope t_TakenName_init) dV kV doc pm an (.ref cda) ct cc), osl⟩)
    (hcd : PySem.W.codeIn K (.ref cda) "TakenName.__init__" = true) (hcc : K.lookup cc = some ⟨cls, cld, .cell (some (.ref D)), csl⟩) (hcode : K.lookup cda = some ⟨ccl, cdd, .fields cvs, ccs⟩) (hvs : cvs[2]? = some (.str file tf)) (hfile : ((P.main.file : Str) == file) = true)
    (hsup : mg "super" = none) (htop : (P.main.scope.names.lookup ("super" : Str)).isSome = false) :
    FnOk P w K mg base (L2.CX P w) 1 f (PySem.W.ksFn "__init__" "TakenName.__init__" (defArgs t_TakenName_init) (defBody t_TakenName_init) (defScope t_TakenName_init) dV kV doc pm an (.ref cda) ct cc) ["self", "name"] (spX1 K D (ofS "name")) :=
  fn_su (k := 0) (ps := ["self", "name"]) (ta := tCons (tVar 1) tNil) (t := tOst K (ofS "name") (tVar 0) (tVar 1)) lk hcd rfl rfl rfl (by decide +kernel) (by decide +kernel) (free_cls rfl) (by decide +kernel) hcc hcode hvs hfile hsup (by rfl) (by rfl) htop rfl rfl
    (fun _ => rfl) (fun _ => rfl) (fun _ => rfl) (fun _ _ => trivial) (fun _ => rfl) (fun A outer s H E => pa_cons (pe_var rfl (by first | exact Or.inl rfl | exact Or.inr rfl)) pa_nil) (fun A outer s H E => pss_one (ps_ost (pe_var rfl (by first | exact Or.inl rfl | exact Or.inr rfl)) (pe_var rfl (by first | exact Or.inl rfl | exact Or.inr rfl))))
    (fun vs H Q E h => by obtain ⟨a, C, y, rfl, _⟩ := h; rfl) spX1_su
/-! ### Unlike.__init__ -/
abbrev t_Unlike_init : Stmt := inClass (top 12) 0
theorem k_Unlike_init {f cc D cda : Addr} {dV kV doc pm ct oc cls ccl : Value} {an od cld cdd : Option Addr} {osl csl ccs : Array (Option Value)} {cvs : Array Value} {file : Str} {tf : Tok}
    (lk : K.lookup f = some ⟨oc, od, .func (PySem.W.ksFn "__init__" "Unlike.__init__" (defArgs t_Unlike_init) (defBody t_Unlike_init) (defScope t_Unlike_init) dV kV doc pm an (.ref cda) ct cc), osl⟩)
    (hcd : PySem.W.codeIn K (.ref cda) "Unlike.__init__" = true) (hcc : K.lookup cc = some ⟨cls, cld, .cell (some (.ref D)), csl⟩) (hcode : K.lookup cda = some ⟨ccl, cdd, .fields cvs, ccs⟩) (hvs : cvs[2]? = some (.str file tf)) (hfile : ((P.main.file : Str) == file) = true)
    (hsup : mg "super" = none) (htop : (P.main.scope.names.lookup ("super" : Str)).isSome = false) :
    FnOk P w K mg base (L2.CX P w) 1 f (PySem.W.ksFn "__init__" "Unlike.__init__" (defArgs t_Unlike_init) (defBody t_Unlike_init) (defScope t_Unlike_init) dV kV doc pm an (.ref cda) ct cc) ["self", "what"] (spX1 K D (ofS "what")) :=
  fn_su (k := 0) (ps := ["self", "what"]) (ta := tCons (tVar 1) tNil) (t := tOst K (ofS "what") (tVar 0) (tVar 1)) lk hcd rfl rfl rfl (by decide +kernel) (by decide +kernel) (free_cls rfl) (by decide +kernel) hcc hcode hvs hfile hsup (by rfl) (by rfl) htop rfl rfl
    (fun _ => rfl) (fun _ => rfl) (fun _ => rfl) (fun _ _ => trivial) (fun _ => rfl) (fun A outer s H E => pa_cons (pe_var rfl (by first | exact Or.inl rfl | exact Or.inr rfl)) pa_nil) (fun A outer s H E => pss_one (ps_ost (pe_var rfl (by first | exact Or.inl rfl | exact Or.inr rfl)) (pe_var rfl (by first | exact Or.inl rfl | exact Or.inr rfl))))
    (fun vs H Q E h => by obtain ⟨a, C, y, rfl, _⟩ := h; rfl) spX1_su
/-! ### TooMany.__init__ -/
abbrev t_TooMany_init : Stmt := inClass (top 13) 0
theorem k_TooMany_init {f cc D cda : Addr} {dV kV doc pm ct oc cls ccl : Value} {an od cld cdd : Option Addr} {osl csl ccs : Array (Option Value)} {cvs : Array Value} {file : Str} {tf : Tok}
    (lk : K.lookup f = some ⟨oc, od, .func (PySem.W.ksFn "__init__" "TooMany.__init__" (defArgs t_TooMany_init) (defBody t_TooMany_init) (defScope t_TooMany_init) dV kV doc pm an (.ref cda) ct cc), osl⟩)
    (hcd : PySem.W.codeIn K (.ref cda) "TooMany.__init__" = true) (hcc : K.lookup cc = some ⟨cls, cld, .cell (some (.ref D)), csl⟩) (hcode : K.lookup cda = some ⟨ccl, cdd, .fields cvs, ccs⟩) (hvs : cvs[2]? = some (.str file tf)) (hfile : ((P.main.file : Str) == file) = true)
    (hsup : mg "super" = none) (htop : (P.main.scope.names.lookup ("super" : Str)).isSome = false) :
    FnOk P w K mg base (L2.CX P w) 1 f (PySem.W.ksFn "__init__" "TooMany.__init__" (defArgs t_TooMany_init) (defBody t_TooMany_init) (defScope t_TooMany_init) dV kV doc pm an (.ref cda) ct cc) ["self", "most"] (spX1 K D (ofS "most")) :=
  fn_su (k := 0) (ps := ["self", "most"]) (ta := tCons (tVar 1) tNil) (t := tOst K (ofS "most") (tVar 0) (tVar 1)) lk hcd rfl rfl rfl (by decide +kernel) (by decide +kernel) (free_cls rfl) (by decide +kernel) hcc hcode hvs hfile hsup (by rfl) (by rfl) htop rfl rfl
    (fun _ => rfl) (fun _ => rfl) (fun _ => rfl) (fun _ _ => trivial) (fun _ => rfl) (fun A outer s H E => pa_cons (pe_var rfl (by first | exact Or.inl rfl | exact Or.inr rfl)) pa_nil) (fun A outer s H E => pss_one (ps_ost (pe_var rfl (by first | exact Or.inl rfl | exact Or.inr rfl)) (pe_var rfl (by first | exact Or.inl rfl | exact Or.inr rfl))))
    (fun vs H Q E h => by obtain ⟨a, C, y, rfl, _⟩ := h; rfl) spX1_su
/-! ### NotKept.__init__ -/
abbrev t_NotKept_init : Stmt := inClass (top 14) 0
theorem k_NotKept_init {f cc D cda : Addr} {dV kV doc pm ct oc cls ccl : Value} {an od cld cdd : Option Addr} {osl csl ccs : Array (Option Value)} {cvs : Array Value} {file : Str} {tf : Tok}
    (lk : K.lookup f = some ⟨oc, od, .func (PySem.W.ksFn "__init__" "NotKept.__init__" (defArgs t_NotKept_init) (defBody t_NotKept_init) (defScope t_NotKept_init) dV kV doc pm an (.ref cda) ct cc), osl⟩)
    (hcd : PySem.W.codeIn K (.ref cda) "NotKept.__init__" = true) (hcc : K.lookup cc = some ⟨cls, cld, .cell (some (.ref D)), csl⟩) (hcode : K.lookup cda = some ⟨ccl, cdd, .fields cvs, ccs⟩) (hvs : cvs[2]? = some (.str file tf)) (hfile : ((P.main.file : Str) == file) = true)
    (hsup : mg "super" = none) (htop : (P.main.scope.names.lookup ("super" : Str)).isSome = false) :
    FnOk P w K mg base (L2.CX P w) 1 f (PySem.W.ksFn "__init__" "NotKept.__init__" (defArgs t_NotKept_init) (defBody t_NotKept_init) (defScope t_NotKept_init) dV kV doc pm an (.ref cda) ct cc) ["self", "promise", "witness"] (spX2 K D (ofS "promise") (ofS "witness")) :=
  fn_su (k := 0) (ps := ["self", "promise", "witness"]) (ta := tCons (tVar 1) (tCons (tVar 2) tNil)) (t := tSeq (tOst K (ofS "promise") (tVar 0) (tVar 1)) (tOst K (ofS "witness") (tVar 0) (tVar 2))) lk hcd rfl rfl rfl (by decide +kernel) (by decide +kernel) (free_cls rfl) (by decide +kernel) hcc hcode hvs hfile hsup (by rfl) (by rfl) htop rfl rfl
    (fun _ => rfl) (fun _ => rfl) (fun _ => rfl) (fun _ _ => trivial) (fun _ => rfl) (fun A outer s H E => pa_cons (pe_var rfl (by first | exact Or.inl rfl | exact Or.inr rfl)) (pa_cons (pe_var rfl (by first | exact Or.inl rfl | exact Or.inr rfl)) pa_nil)) (fun A outer s H E => pss_cons (ps_ost (pe_var rfl (by first | exact Or.inl rfl | exact Or.inr rfl)) (pe_var rfl (by first | exact Or.inl rfl | exact Or.inr rfl))) (pss_one (ps_ost (pe_var rfl (by first | exact Or.inl rfl | exact Or.inr rfl)) (pe_var rfl (by first | exact Or.inl rfl | exact Or.inr rfl)))))
    (fun vs H Q E h => by obtain ⟨a, C, y, z, rfl, _⟩ := h; rfl) spX2_su
end K00

set_option Elab.async false
set_option linter.all false
set_option maxRecDepth 100000
set_option maxHeartbeats 4000000
/-! K00: the head, printed by gen.py. -/
namespace K00
open PySem L2 PV Sl
theorem all_mk {l : PySem.W.OpenLaw} {w : World} {K : PySem.W.Frag} {h : Heap} {mg : Str → Option Value} {fa : Addr} (X : K.In h) (G : h.Ns mainGlobals mg) (hfa : mg "law" = some (.ref fa))
    {x__law_draw : Addr} {od__law_draw an__law_draw : Option Addr} {sl__law_draw : Array (Option Value)} {oc__law_draw kV__law_draw dc__law_draw pm__law_draw cd__law_draw ct__law_draw : Value}
    {x__law_kinds : Addr} {od__law_kinds an__law_kinds : Option Addr} {sl__law_kinds : Array (Option Value)} {oc__law_kinds kV__law_kinds dc__law_kinds pm__law_kinds cd__law_kinds ct__law_kinds : Value}
    {x__law_pen : Addr} {od__law_pen an__law_pen : Option Addr} {sl__law_pen : Array (Option Value)} {oc__law_pen kV__law_pen dc__law_pen pm__law_pen cd__law_pen ct__law_pen : Value}
    {x__law_pick : Addr} {od__law_pick an__law_pick : Option Addr} {sl__law_pick : Array (Option Value)} {oc__law_pick kV__law_pick dc__law_pick pm__law_pick cd__law_pick ct__law_pick : Value}
    {x_law : Addr} {od_law an_law : Option Addr} {sl_law : Array (Option Value)} {oc_law kV_law dc_law pm_law cd_law ct_law : Value}
    {C_YardError N_YardError : Addr} {q_YardError : Str} {bs_YardError sub_YardError : List Value} {sn_YardError : List Str} {ab_YardError : Bool} {col_YardError : Option Bool} {dd_YardError : Option Addr} {k0_YardError k1_YardError k2_YardError k3_YardError k5_YardError : Option Value}
    {C_BadText N_BadText : Addr} {q_BadText : Str} {bs_BadText sub_BadText : List Value} {sn_BadText : List Str} {ab_BadText : Bool} {col_BadText : Option Bool} {dd_BadText : Option Addr} {k0_BadText k1_BadText k2_BadText k3_BadText k5_BadText : Option Value}
    {C_BadLine N_BadLine : Addr} {q_BadLine : Str} {bs_BadLine sub_BadLine : List Value} {sn_BadLine : List Str} {ab_BadLine : Bool} {col_BadLine : Option Bool} {dd_BadLine : Option Addr} {k0_BadLine k1_BadLine k2_BadLine k3_BadLine k5_BadLine : Option Value}
    {C_BadNumber N_BadNumber : Addr} {q_BadNumber : Str} {bs_BadNumber sub_BadNumber : List Value} {sn_BadNumber : List Str} {ab_BadNumber : Bool} {col_BadNumber : Option Bool} {dd_BadNumber : Option Addr} {k0_BadNumber k1_BadNumber k2_BadNumber k3_BadNumber k5_BadNumber : Option Value}
    {C_BadRow N_BadRow : Addr} {q_BadRow : Str} {bs_BadRow sub_BadRow : List Value} {sn_BadRow : List Str} {ab_BadRow : Bool} {col_BadRow : Option Bool} {dd_BadRow : Option Addr} {k0_BadRow k1_BadRow k2_BadRow k3_BadRow k5_BadRow : Option Value}
    {C_BadTie N_BadTie : Addr} {q_BadTie : Str} {bs_BadTie sub_BadTie : List Value} {sn_BadTie : List Str} {ab_BadTie : Bool} {col_BadTie : Option Bool} {dd_BadTie : Option Addr} {k0_BadTie k1_BadTie k2_BadTie k3_BadTie k5_BadTie : Option Value}
    {C_BadRing N_BadRing : Addr} {q_BadRing : Str} {bs_BadRing sub_BadRing : List Value} {sn_BadRing : List Str} {ab_BadRing : Bool} {col_BadRing : Option Bool} {dd_BadRing : Option Addr} {k0_BadRing k1_BadRing k2_BadRing k3_BadRing k5_BadRing : Option Value}
    {C_BadMove N_BadMove : Addr} {q_BadMove : Str} {bs_BadMove sub_BadMove : List Value} {sn_BadMove : List Str} {ab_BadMove : Bool} {col_BadMove : Option Bool} {dd_BadMove : Option Addr} {k0_BadMove k1_BadMove k2_BadMove k3_BadMove k5_BadMove : Option Value}
    {C_BadName N_BadName : Addr} {q_BadName : Str} {bs_BadName sub_BadName : List Value} {sn_BadName : List Str} {ab_BadName : Bool} {col_BadName : Option Bool} {dd_BadName : Option Addr} {k0_BadName k1_BadName k2_BadName k3_BadName k5_BadName : Option Value}
    {C_NoName N_NoName : Addr} {q_NoName : Str} {bs_NoName sub_NoName : List Value} {sn_NoName : List Str} {ab_NoName : Bool} {col_NoName : Option Bool} {dd_NoName : Option Addr} {k0_NoName k1_NoName k2_NoName k3_NoName k5_NoName : Option Value}
    {C_TakenName N_TakenName : Addr} {q_TakenName : Str} {bs_TakenName sub_TakenName : List Value} {sn_TakenName : List Str} {ab_TakenName : Bool} {col_TakenName : Option Bool} {dd_TakenName : Option Addr} {k0_TakenName k1_TakenName k2_TakenName k3_TakenName k5_TakenName : Option Value}
    {C_Unlike N_Unlike : Addr} {q_Unlike : Str} {bs_Unlike sub_Unlike : List Value} {sn_Unlike : List Str} {ab_Unlike : Bool} {col_Unlike : Option Bool} {dd_Unlike : Option Addr} {k0_Unlike k1_Unlike k2_Unlike k3_Unlike k5_Unlike : Option Value}
    {C_TooMany N_TooMany : Addr} {q_TooMany : Str} {bs_TooMany sub_TooMany : List Value} {sn_TooMany : List Str} {ab_TooMany : Bool} {col_TooMany : Option Bool} {dd_TooMany : Option Addr} {k0_TooMany k1_TooMany k2_TooMany k3_TooMany k5_TooMany : Option Value}
    {C_NotKept N_NotKept : Addr} {q_NotKept : Str} {bs_NotKept sub_NotKept : List Value} {sn_NotKept : List Str} {ab_NotKept : Bool} {col_NotKept : Option Bool} {dd_NotKept : Option Addr} {k0_NotKept k1_NotKept k2_NotKept k3_NotKept k5_NotKept : Option Value}
    {C_NothingToUndo N_NothingToUndo : Addr} {q_NothingToUndo : Str} {bs_NothingToUndo sub_NothingToUndo : List Value} {sn_NothingToUndo : List Str} {ab_NothingToUndo : Bool} {col_NothingToUndo : Option Bool} {dd_NothingToUndo : Option Addr} {k0_NothingToUndo k1_NothingToUndo k2_NothingToUndo k3_NothingToUndo k5_NothingToUndo : Option Value}
    {C_NothingToRedo N_NothingToRedo : Addr} {q_NothingToRedo : Str} {bs_NothingToRedo sub_NothingToRedo : List Value} {sn_NothingToRedo : List Str} {ab_NothingToRedo : Bool} {col_NothingToRedo : Option Bool} {dd_NothingToRedo : Option Addr} {k0_NothingToRedo k1_NothingToRedo k2_NothingToRedo k3_NothingToRedo k5_NothingToRedo : Option Value}
    {x_BadText cda_BadText cc_BadText : Addr} {od_BadText an_BadText cld_BadText cdd_BadText : Option Addr} {osl_BadText csl_BadText ccs_BadText : Array (Option Value)} {kV_BadText dc_BadText pm_BadText ct_BadText oc_BadText cls_BadText ccl_BadText : Value} {cvs_BadText : Array Value} {file_BadText : Str} {tf_BadText : Tok}
    {x_BadLine cda_BadLine cc_BadLine : Addr} {od_BadLine an_BadLine cld_BadLine cdd_BadLine : Option Addr} {osl_BadLine csl_BadLine ccs_BadLine : Array (Option Value)} {kV_BadLine dc_BadLine pm_BadLine ct_BadLine oc_BadLine cls_BadLine ccl_BadLine : Value} {cvs_BadLine : Array Value} {file_BadLine : Str} {tf_BadLine : Tok}
    {x_BadNumber cda_BadNumber cc_BadNumber : Addr} {od_BadNumber an_BadNumber cld_BadNumber cdd_BadNumber : Option Addr} {osl_BadNumber csl_BadNumber ccs_BadNumber : Array (Option Value)} {kV_BadNumber dc_BadNumber pm_BadNumber ct_BadNumber oc_BadNumber cls_BadNumber ccl_BadNumber : Value} {cvs_BadNumber : Array Value} {file_BadNumber : Str} {tf_BadNumber : Tok}
    {x_BadRow cda_BadRow cc_BadRow : Addr} {od_BadRow an_BadRow cld_BadRow cdd_BadRow : Option Addr} {osl_BadRow csl_BadRow ccs_BadRow : Array (Option Value)} {kV_BadRow dc_BadRow pm_BadRow ct_BadRow oc_BadRow cls_BadRow ccl_BadRow : Value} {cvs_BadRow : Array Value} {file_BadRow : Str} {tf_BadRow : Tok}
    {x_BadTie cda_BadTie cc_BadTie : Addr} {od_BadTie an_BadTie cld_BadTie cdd_BadTie : Option Addr} {osl_BadTie csl_BadTie ccs_BadTie : Array (Option Value)} {kV_BadTie dc_BadTie pm_BadTie ct_BadTie oc_BadTie cls_BadTie ccl_BadTie : Value} {cvs_BadTie : Array Value} {file_BadTie : Str} {tf_BadTie : Tok}
    {x_BadRing cda_BadRing cc_BadRing : Addr} {od_BadRing an_BadRing cld_BadRing cdd_BadRing : Option Addr} {osl_BadRing csl_BadRing ccs_BadRing : Array (Option Value)} {kV_BadRing dc_BadRing pm_BadRing ct_BadRing oc_BadRing cls_BadRing ccl_BadRing : Value} {cvs_BadRing : Array Value} {file_BadRing : Str} {tf_BadRing : Tok}
    {x_BadMove cda_BadMove cc_BadMove : Addr} {od_BadMove an_BadMove cld_BadMove cdd_BadMove : Option Addr} {osl_BadMove csl_BadMove ccs_BadMove : Array (Option Value)} {kV_BadMove dc_BadMove pm_BadMove ct_BadMove oc_BadMove cls_BadMove ccl_BadMove : Value} {cvs_BadMove : Array Value} {file_BadMove : Str} {tf_BadMove : Tok}
    {x_BadName cda_BadName cc_BadName : Addr} {od_BadName an_BadName cld_BadName cdd_BadName : Option Addr} {osl_BadName csl_BadName ccs_BadName : Array (Option Value)} {kV_BadName dc_BadName pm_BadName ct_BadName oc_BadName cls_BadName ccl_BadName : Value} {cvs_BadName : Array Value} {file_BadName : Str} {tf_BadName : Tok}
    {x_NoName cda_NoName cc_NoName : Addr} {od_NoName an_NoName cld_NoName cdd_NoName : Option Addr} {osl_NoName csl_NoName ccs_NoName : Array (Option Value)} {kV_NoName dc_NoName pm_NoName ct_NoName oc_NoName cls_NoName ccl_NoName : Value} {cvs_NoName : Array Value} {file_NoName : Str} {tf_NoName : Tok}
    {x_TakenName cda_TakenName cc_TakenName : Addr} {od_TakenName an_TakenName cld_TakenName cdd_TakenName : Option Addr} {osl_TakenName csl_TakenName ccs_TakenName : Array (Option Value)} {kV_TakenName dc_TakenName pm_TakenName ct_TakenName oc_TakenName cls_TakenName ccl_TakenName : Value} {cvs_TakenName : Array Value} {file_TakenName : Str} {tf_TakenName : Tok}
    {x_Unlike cda_Unlike cc_Unlike : Addr} {od_Unlike an_Unlike cld_Unlike cdd_Unlike : Option Addr} {osl_Unlike csl_Unlike ccs_Unlike : Array (Option Value)} {kV_Unlike dc_Unlike pm_Unlike ct_Unlike oc_Unlike cls_Unlike ccl_Unlike : Value} {cvs_Unlike : Array Value} {file_Unlike : Str} {tf_Unlike : Tok}
    {x_TooMany cda_TooMany cc_TooMany : Addr} {od_TooMany an_TooMany cld_TooMany cdd_TooMany : Option Addr} {osl_TooMany csl_TooMany ccs_TooMany : Array (Option Value)} {kV_TooMany dc_TooMany pm_TooMany ct_TooMany oc_TooMany cls_TooMany ccl_TooMany : Value} {cvs_TooMany : Array Value} {file_TooMany : Str} {tf_TooMany : Tok}
    {x_NotKept cda_NotKept cc_NotKept : Addr} {od_NotKept an_NotKept cld_NotKept cdd_NotKept : Option Addr} {osl_NotKept csl_NotKept ccs_NotKept : Array (Option Value)} {kV_NotKept dc_NotKept pm_NotKept ct_NotKept oc_NotKept cls_NotKept ccl_NotKept : Value} {cvs_NotKept : Array Value} {file_NotKept : Str} {tf_NotKept : Tok}
    (aC_YardError : PySem.W.nsIn K mainGlobals "YardError" = some (some (.ref C_YardError)))
    (aC_BadText : PySem.W.nsIn K mainGlobals "BadText" = some (some (.ref C_BadText)))
    (aC_BadLine : PySem.W.nsIn K mainGlobals "BadLine" = some (some (.ref C_BadLine)))
    (aC_BadNumber : PySem.W.nsIn K mainGlobals "BadNumber" = some (some (.ref C_BadNumber)))
    (aC_BadRow : PySem.W.nsIn K mainGlobals "BadRow" = some (some (.ref C_BadRow)))
    (aC_BadTie : PySem.W.nsIn K mainGlobals "BadTie" = some (some (.ref C_BadTie)))
    (aC_BadRing : PySem.W.nsIn K mainGlobals "BadRing" = some (some (.ref C_BadRing)))
    (aC_BadMove : PySem.W.nsIn K mainGlobals "BadMove" = some (some (.ref C_BadMove)))
    (aC_BadName : PySem.W.nsIn K mainGlobals "BadName" = some (some (.ref C_BadName)))
    (aC_NoName : PySem.W.nsIn K mainGlobals "NoName" = some (some (.ref C_NoName)))
    (aC_TakenName : PySem.W.nsIn K mainGlobals "TakenName" = some (some (.ref C_TakenName)))
    (aC_Unlike : PySem.W.nsIn K mainGlobals "Unlike" = some (some (.ref C_Unlike)))
    (aC_TooMany : PySem.W.nsIn K mainGlobals "TooMany" = some (some (.ref C_TooMany)))
    (aC_NotKept : PySem.W.nsIn K mainGlobals "NotKept" = some (some (.ref C_NotKept)))
    (aC_NothingToUndo : PySem.W.nsIn K mainGlobals "NothingToUndo" = some (some (.ref C_NothingToUndo)))
    (aC_NothingToRedo : PySem.W.nsIn K mainGlobals "NothingToRedo" = some (some (.ref C_NothingToRedo)))
    (lk_YardError : K.lookup C_YardError = some (excClassObj "YardError" q_YardError C_YardError N_YardError bs_YardError [.type "ValueError", .type "Exception", .type "BaseException", .type "object"] true sn_YardError sub_YardError ab_YardError col_YardError dd_YardError k0_YardError k1_YardError k2_YardError k3_YardError k5_YardError "ValueError.__new__"))
    (sa_YardError : PySem.W.findIn K (.ref C_YardError) "__setattr__" = some (some (.builtin "object.__setattr__")))
    (ga_YardError : PySem.W.findIn K (.ref C_YardError) "__getattribute__" = some (some (.builtin "BaseException.__getattribute__")))
    (gg_YardError : PySem.W.findIn K (.ref C_YardError) "__getattr__" = some none)
    (ha_YardError : PySem.W.findIn K (.ref C_YardError) "__class__" = some (some (.builtin "object.__class__")))
    (xb_YardError : PySem.W.subIn K (.ref C_YardError) (.type "BaseException") = some true)
    (ty_YardError : PySem.W.typeIn K (.ref C_YardError) = some (.type "type"))
    (kc_YardError : PySem.W.keepIn K (.ref C_YardError) = true)
    (hd_YardError : PySem.W.hasDictIn K C_YardError = true)
    (mo_YardError : PySem.W.mroIn K C_YardError (.type "object") = some true)
    (ei_YardError : PySem.W.excIn K C_YardError [.type "ValueError", .type "Exception", .type "BaseException", .type "object"] "ValueError.__new__" = true)
    (lk_BadText : K.lookup C_BadText = some (excClassObj "BadText" q_BadText C_BadText N_BadText bs_BadText [.ref C_YardError, .type "ValueError", .type "Exception", .type "BaseException", .type "object"] true sn_BadText sub_BadText ab_BadText col_BadText dd_BadText k0_BadText k1_BadText k2_BadText k3_BadText k5_BadText "ValueError.__new__"))
    (sa_BadText : PySem.W.findIn K (.ref C_BadText) "__setattr__" = some (some (.builtin "object.__setattr__")))
    (ga_BadText : PySem.W.findIn K (.ref C_BadText) "__getattribute__" = some (some (.builtin "BaseException.__getattribute__")))
    (gg_BadText : PySem.W.findIn K (.ref C_BadText) "__getattr__" = some none)
    (ha_BadText : PySem.W.findIn K (.ref C_BadText) "__class__" = some (some (.builtin "object.__class__")))
    (xb_BadText : PySem.W.subIn K (.ref C_BadText) (.type "BaseException") = some true)
    (ty_BadText : PySem.W.typeIn K (.ref C_BadText) = some (.type "type"))
    (kc_BadText : PySem.W.keepIn K (.ref C_BadText) = true)
    (hd_BadText : PySem.W.hasDictIn K C_BadText = true)
    (mo_BadText : PySem.W.mroIn K C_BadText (.type "object") = some true)
    (nf_column_BadText : PySem.W.findIn K (.ref C_BadText) "column" = some none)
    (in_BadText : PySem.W.findIn K (.ref C_BadText) "__init__" = some (some (.ref x_BadText)))
    (ti_BadText : PySem.W.typeIn K (.ref x_BadText) = some (.type "function"))
    (l_BadText : K.lookup x_BadText = some ⟨oc_BadText, od_BadText, .func (PySem.W.ksFn "__init__" "BadText.__init__" (defArgs t_BadText_init) (defBody t_BadText_init) (defScope t_BadText_init) .none kV_BadText dc_BadText pm_BadText an_BadText (.ref cda_BadText) ct_BadText cc_BadText), osl_BadText⟩)
    (c_BadText : PySem.W.codeIn K (.ref cda_BadText) "BadText.__init__" = true)
    (cc_BadText : K.lookup cc_BadText = some ⟨cls_BadText, cld_BadText, .cell (some (.ref C_BadText)), csl_BadText⟩)
    (cd_BadText : K.lookup cda_BadText = some ⟨ccl_BadText, cdd_BadText, .fields cvs_BadText, ccs_BadText⟩)
    (hv_BadText : cvs_BadText[2]? = some (.str file_BadText tf_BadText))
    (hf_BadText : ((l.prog.main.file : Str) == file_BadText) = true)
    (su_BadText : PySem.W.mroIn K C_BadText (.ref C_BadText) = some true)
    (nx_BadText : PySem.W.ks_superIn K C_BadText C_BadText "__init__" = some (some (.builtin "ValueError.__init__")))
    (iv_BadText : PySem.W.mroIn K C_BadText (.type "ValueError") = some true)
    (lk_BadLine : K.lookup C_BadLine = some (excClassObj "BadLine" q_BadLine C_BadLine N_BadLine bs_BadLine [.ref C_YardError, .type "ValueError", .type "Exception", .type "BaseException", .type "object"] true sn_BadLine sub_BadLine ab_BadLine col_BadLine dd_BadLine k0_BadLine k1_BadLine k2_BadLine k3_BadLine k5_BadLine "ValueError.__new__"))
    (sa_BadLine : PySem.W.findIn K (.ref C_BadLine) "__setattr__" = some (some (.builtin "object.__setattr__")))
    (ga_BadLine : PySem.W.findIn K (.ref C_BadLine) "__getattribute__" = some (some (.builtin "BaseException.__getattribute__")))
    (gg_BadLine : PySem.W.findIn K (.ref C_BadLine) "__getattr__" = some none)
    (ha_BadLine : PySem.W.findIn K (.ref C_BadLine) "__class__" = some (some (.builtin "object.__class__")))
    (xb_BadLine : PySem.W.subIn K (.ref C_BadLine) (.type "BaseException") = some true)
    (ty_BadLine : PySem.W.typeIn K (.ref C_BadLine) = some (.type "type"))
    (kc_BadLine : PySem.W.keepIn K (.ref C_BadLine) = true)
    (hd_BadLine : PySem.W.hasDictIn K C_BadLine = true)
    (mo_BadLine : PySem.W.mroIn K C_BadLine (.type "object") = some true)
    (nf_line_BadLine : PySem.W.findIn K (.ref C_BadLine) "line" = some none)
    (nf_column_BadLine : PySem.W.findIn K (.ref C_BadLine) "column" = some none)
    (in_BadLine : PySem.W.findIn K (.ref C_BadLine) "__init__" = some (some (.ref x_BadLine)))
    (ti_BadLine : PySem.W.typeIn K (.ref x_BadLine) = some (.type "function"))
    (l_BadLine : K.lookup x_BadLine = some ⟨oc_BadLine, od_BadLine, .func (PySem.W.ksFn "__init__" "BadLine.__init__" (defArgs t_BadLine_init) (defBody t_BadLine_init) (defScope t_BadLine_init) .none kV_BadLine dc_BadLine pm_BadLine an_BadLine (.ref cda_BadLine) ct_BadLine cc_BadLine), osl_BadLine⟩)
    (c_BadLine : PySem.W.codeIn K (.ref cda_BadLine) "BadLine.__init__" = true)
    (cc_BadLine : K.lookup cc_BadLine = some ⟨cls_BadLine, cld_BadLine, .cell (some (.ref C_BadLine)), csl_BadLine⟩)
    (cd_BadLine : K.lookup cda_BadLine = some ⟨ccl_BadLine, cdd_BadLine, .fields cvs_BadLine, ccs_BadLine⟩)
    (hv_BadLine : cvs_BadLine[2]? = some (.str file_BadLine tf_BadLine))
    (hf_BadLine : ((l.prog.main.file : Str) == file_BadLine) = true)
    (su_BadLine : PySem.W.mroIn K C_BadLine (.ref C_BadLine) = some true)
    (nx_BadLine : PySem.W.ks_superIn K C_BadLine C_BadLine "__init__" = some (some (.builtin "ValueError.__init__")))
    (iv_BadLine : PySem.W.mroIn K C_BadLine (.type "ValueError") = some true)
    (lk_BadNumber : K.lookup C_BadNumber = some (excClassObj "BadNumber" q_BadNumber C_BadNumber N_BadNumber bs_BadNumber [.ref C_YardError, .type "ValueError", .type "Exception", .type "BaseException", .type "object"] true sn_BadNumber sub_BadNumber ab_BadNumber col_BadNumber dd_BadNumber k0_BadNumber k1_BadNumber k2_BadNumber k3_BadNumber k5_BadNumber "ValueError.__new__"))
    (sa_BadNumber : PySem.W.findIn K (.ref C_BadNumber) "__setattr__" = some (some (.builtin "object.__setattr__")))
    (ga_BadNumber : PySem.W.findIn K (.ref C_BadNumber) "__getattribute__" = some (some (.builtin "BaseException.__getattribute__")))
    (gg_BadNumber : PySem.W.findIn K (.ref C_BadNumber) "__getattr__" = some none)
    (ha_BadNumber : PySem.W.findIn K (.ref C_BadNumber) "__class__" = some (some (.builtin "object.__class__")))
    (xb_BadNumber : PySem.W.subIn K (.ref C_BadNumber) (.type "BaseException") = some true)
    (ty_BadNumber : PySem.W.typeIn K (.ref C_BadNumber) = some (.type "type"))
    (kc_BadNumber : PySem.W.keepIn K (.ref C_BadNumber) = true)
    (hd_BadNumber : PySem.W.hasDictIn K C_BadNumber = true)
    (mo_BadNumber : PySem.W.mroIn K C_BadNumber (.type "object") = some true)
    (nf_what_BadNumber : PySem.W.findIn K (.ref C_BadNumber) "what" = some none)
    (nf_number_BadNumber : PySem.W.findIn K (.ref C_BadNumber) "number" = some none)
    (in_BadNumber : PySem.W.findIn K (.ref C_BadNumber) "__init__" = some (some (.ref x_BadNumber)))
    (ti_BadNumber : PySem.W.typeIn K (.ref x_BadNumber) = some (.type "function"))
    (l_BadNumber : K.lookup x_BadNumber = some ⟨oc_BadNumber, od_BadNumber, .func (PySem.W.ksFn "__init__" "BadNumber.__init__" (defArgs t_BadNumber_init) (defBody t_BadNumber_init) (defScope t_BadNumber_init) .none kV_BadNumber dc_BadNumber pm_BadNumber an_BadNumber (.ref cda_BadNumber) ct_BadNumber cc_BadNumber), osl_BadNumber⟩)
    (c_BadNumber : PySem.W.codeIn K (.ref cda_BadNumber) "BadNumber.__init__" = true)
    (cc_BadNumber : K.lookup cc_BadNumber = some ⟨cls_BadNumber, cld_BadNumber, .cell (some (.ref C_BadNumber)), csl_BadNumber⟩)
    (cd_BadNumber : K.lookup cda_BadNumber = some ⟨ccl_BadNumber, cdd_BadNumber, .fields cvs_BadNumber, ccs_BadNumber⟩)
    (hv_BadNumber : cvs_BadNumber[2]? = some (.str file_BadNumber tf_BadNumber))
    (hf_BadNumber : ((l.prog.main.file : Str) == file_BadNumber) = true)
    (su_BadNumber : PySem.W.mroIn K C_BadNumber (.ref C_BadNumber) = some true)
    (nx_BadNumber : PySem.W.ks_superIn K C_BadNumber C_BadNumber "__init__" = some (some (.builtin "ValueError.__init__")))
    (iv_BadNumber : PySem.W.mroIn K C_BadNumber (.type "ValueError") = some true)
    (lk_BadRow : K.lookup C_BadRow = some (excClassObj "BadRow" q_BadRow C_BadRow N_BadRow bs_BadRow [.ref C_YardError, .type "ValueError", .type "Exception", .type "BaseException", .type "object"] true sn_BadRow sub_BadRow ab_BadRow col_BadRow dd_BadRow k0_BadRow k1_BadRow k2_BadRow k3_BadRow k5_BadRow "ValueError.__new__"))
    (sa_BadRow : PySem.W.findIn K (.ref C_BadRow) "__setattr__" = some (some (.builtin "object.__setattr__")))
    (ga_BadRow : PySem.W.findIn K (.ref C_BadRow) "__getattribute__" = some (some (.builtin "BaseException.__getattribute__")))
    (gg_BadRow : PySem.W.findIn K (.ref C_BadRow) "__getattr__" = some none)
    (ha_BadRow : PySem.W.findIn K (.ref C_BadRow) "__class__" = some (some (.builtin "object.__class__")))
    (xb_BadRow : PySem.W.subIn K (.ref C_BadRow) (.type "BaseException") = some true)
    (ty_BadRow : PySem.W.typeIn K (.ref C_BadRow) = some (.type "type"))
    (kc_BadRow : PySem.W.keepIn K (.ref C_BadRow) = true)
    (hd_BadRow : PySem.W.hasDictIn K C_BadRow = true)
    (mo_BadRow : PySem.W.mroIn K C_BadRow (.type "object") = some true)
    (nf_row_BadRow : PySem.W.findIn K (.ref C_BadRow) "row" = some none)
    (in_BadRow : PySem.W.findIn K (.ref C_BadRow) "__init__" = some (some (.ref x_BadRow)))
    (ti_BadRow : PySem.W.typeIn K (.ref x_BadRow) = some (.type "function"))
    (l_BadRow : K.lookup x_BadRow = some ⟨oc_BadRow, od_BadRow, .func (PySem.W.ksFn "__init__" "BadRow.__init__" (defArgs t_BadRow_init) (defBody t_BadRow_init) (defScope t_BadRow_init) .none kV_BadRow dc_BadRow pm_BadRow an_BadRow (.ref cda_BadRow) ct_BadRow cc_BadRow), osl_BadRow⟩)
    (c_BadRow : PySem.W.codeIn K (.ref cda_BadRow) "BadRow.__init__" = true)
    (cc_BadRow : K.lookup cc_BadRow = some ⟨cls_BadRow, cld_BadRow, .cell (some (.ref C_BadRow)), csl_BadRow⟩)
    (cd_BadRow : K.lookup cda_BadRow = some ⟨ccl_BadRow, cdd_BadRow, .fields cvs_BadRow, ccs_BadRow⟩)
    (hv_BadRow : cvs_BadRow[2]? = some (.str file_BadRow tf_BadRow))
    (hf_BadRow : ((l.prog.main.file : Str) == file_BadRow) = true)
    (su_BadRow : PySem.W.mroIn K C_BadRow (.ref C_BadRow) = some true)
    (nx_BadRow : PySem.W.ks_superIn K C_BadRow C_BadRow "__init__" = some (some (.builtin "ValueError.__init__")))
    (iv_BadRow : PySem.W.mroIn K C_BadRow (.type "ValueError") = some true)
    (lk_BadTie : K.lookup C_BadTie = some (excClassObj "BadTie" q_BadTie C_BadTie N_BadTie bs_BadTie [.ref C_YardError, .type "ValueError", .type "Exception", .type "BaseException", .type "object"] true sn_BadTie sub_BadTie ab_BadTie col_BadTie dd_BadTie k0_BadTie k1_BadTie k2_BadTie k3_BadTie k5_BadTie "ValueError.__new__"))
    (sa_BadTie : PySem.W.findIn K (.ref C_BadTie) "__setattr__" = some (some (.builtin "object.__setattr__")))
    (ga_BadTie : PySem.W.findIn K (.ref C_BadTie) "__getattribute__" = some (some (.builtin "BaseException.__getattribute__")))
    (gg_BadTie : PySem.W.findIn K (.ref C_BadTie) "__getattr__" = some none)
    (ha_BadTie : PySem.W.findIn K (.ref C_BadTie) "__class__" = some (some (.builtin "object.__class__")))
    (xb_BadTie : PySem.W.subIn K (.ref C_BadTie) (.type "BaseException") = some true)
    (ty_BadTie : PySem.W.typeIn K (.ref C_BadTie) = some (.type "type"))
    (kc_BadTie : PySem.W.keepIn K (.ref C_BadTie) = true)
    (hd_BadTie : PySem.W.hasDictIn K C_BadTie = true)
    (mo_BadTie : PySem.W.mroIn K C_BadTie (.type "object") = some true)
    (nf_tie_BadTie : PySem.W.findIn K (.ref C_BadTie) "tie" = some none)
    (in_BadTie : PySem.W.findIn K (.ref C_BadTie) "__init__" = some (some (.ref x_BadTie)))
    (ti_BadTie : PySem.W.typeIn K (.ref x_BadTie) = some (.type "function"))
    (l_BadTie : K.lookup x_BadTie = some ⟨oc_BadTie, od_BadTie, .func (PySem.W.ksFn "__init__" "BadTie.__init__" (defArgs t_BadTie_init) (defBody t_BadTie_init) (defScope t_BadTie_init) .none kV_BadTie dc_BadTie pm_BadTie an_BadTie (.ref cda_BadTie) ct_BadTie cc_BadTie), osl_BadTie⟩)
    (c_BadTie : PySem.W.codeIn K (.ref cda_BadTie) "BadTie.__init__" = true)
    (cc_BadTie : K.lookup cc_BadTie = some ⟨cls_BadTie, cld_BadTie, .cell (some (.ref C_BadTie)), csl_BadTie⟩)
    (cd_BadTie : K.lookup cda_BadTie = some ⟨ccl_BadTie, cdd_BadTie, .fields cvs_BadTie, ccs_BadTie⟩)
    (hv_BadTie : cvs_BadTie[2]? = some (.str file_BadTie tf_BadTie))
    (hf_BadTie : ((l.prog.main.file : Str) == file_BadTie) = true)
    (su_BadTie : PySem.W.mroIn K C_BadTie (.ref C_BadTie) = some true)
    (nx_BadTie : PySem.W.ks_superIn K C_BadTie C_BadTie "__init__" = some (some (.builtin "ValueError.__init__")))
    (iv_BadTie : PySem.W.mroIn K C_BadTie (.type "ValueError") = some true)
    (lk_BadRing : K.lookup C_BadRing = some (excClassObj "BadRing" q_BadRing C_BadRing N_BadRing bs_BadRing [.ref C_YardError, .type "ValueError", .type "Exception", .type "BaseException", .type "object"] true sn_BadRing sub_BadRing ab_BadRing col_BadRing dd_BadRing k0_BadRing k1_BadRing k2_BadRing k3_BadRing k5_BadRing "ValueError.__new__"))
    (sa_BadRing : PySem.W.findIn K (.ref C_BadRing) "__setattr__" = some (some (.builtin "object.__setattr__")))
    (ga_BadRing : PySem.W.findIn K (.ref C_BadRing) "__getattribute__" = some (some (.builtin "BaseException.__getattribute__")))
    (gg_BadRing : PySem.W.findIn K (.ref C_BadRing) "__getattr__" = some none)
    (ha_BadRing : PySem.W.findIn K (.ref C_BadRing) "__class__" = some (some (.builtin "object.__class__")))
    (xb_BadRing : PySem.W.subIn K (.ref C_BadRing) (.type "BaseException") = some true)
    (ty_BadRing : PySem.W.typeIn K (.ref C_BadRing) = some (.type "type"))
    (kc_BadRing : PySem.W.keepIn K (.ref C_BadRing) = true)
    (hd_BadRing : PySem.W.hasDictIn K C_BadRing = true)
    (mo_BadRing : PySem.W.mroIn K C_BadRing (.type "object") = some true)
    (nf_index_BadRing : PySem.W.findIn K (.ref C_BadRing) "index" = some none)
    (in_BadRing : PySem.W.findIn K (.ref C_BadRing) "__init__" = some (some (.ref x_BadRing)))
    (ti_BadRing : PySem.W.typeIn K (.ref x_BadRing) = some (.type "function"))
    (l_BadRing : K.lookup x_BadRing = some ⟨oc_BadRing, od_BadRing, .func (PySem.W.ksFn "__init__" "BadRing.__init__" (defArgs t_BadRing_init) (defBody t_BadRing_init) (defScope t_BadRing_init) .none kV_BadRing dc_BadRing pm_BadRing an_BadRing (.ref cda_BadRing) ct_BadRing cc_BadRing), osl_BadRing⟩)
    (c_BadRing : PySem.W.codeIn K (.ref cda_BadRing) "BadRing.__init__" = true)
    (cc_BadRing : K.lookup cc_BadRing = some ⟨cls_BadRing, cld_BadRing, .cell (some (.ref C_BadRing)), csl_BadRing⟩)
    (cd_BadRing : K.lookup cda_BadRing = some ⟨ccl_BadRing, cdd_BadRing, .fields cvs_BadRing, ccs_BadRing⟩)
    (hv_BadRing : cvs_BadRing[2]? = some (.str file_BadRing tf_BadRing))
    (hf_BadRing : ((l.prog.main.file : Str) == file_BadRing) = true)
    (su_BadRing : PySem.W.mroIn K C_BadRing (.ref C_BadRing) = some true)
    (nx_BadRing : PySem.W.ks_superIn K C_BadRing C_BadRing "__init__" = some (some (.builtin "ValueError.__init__")))
    (iv_BadRing : PySem.W.mroIn K C_BadRing (.type "ValueError") = some true)
    (lk_BadMove : K.lookup C_BadMove = some (excClassObj "BadMove" q_BadMove C_BadMove N_BadMove bs_BadMove [.ref C_YardError, .type "ValueError", .type "Exception", .type "BaseException", .type "object"] true sn_BadMove sub_BadMove ab_BadMove col_BadMove dd_BadMove k0_BadMove k1_BadMove k2_BadMove k3_BadMove k5_BadMove "ValueError.__new__"))
    (sa_BadMove : PySem.W.findIn K (.ref C_BadMove) "__setattr__" = some (some (.builtin "object.__setattr__")))
    (ga_BadMove : PySem.W.findIn K (.ref C_BadMove) "__getattribute__" = some (some (.builtin "BaseException.__getattribute__")))
    (gg_BadMove : PySem.W.findIn K (.ref C_BadMove) "__getattr__" = some none)
    (ha_BadMove : PySem.W.findIn K (.ref C_BadMove) "__class__" = some (some (.builtin "object.__class__")))
    (xb_BadMove : PySem.W.subIn K (.ref C_BadMove) (.type "BaseException") = some true)
    (ty_BadMove : PySem.W.typeIn K (.ref C_BadMove) = some (.type "type"))
    (kc_BadMove : PySem.W.keepIn K (.ref C_BadMove) = true)
    (hd_BadMove : PySem.W.hasDictIn K C_BadMove = true)
    (mo_BadMove : PySem.W.mroIn K C_BadMove (.type "object") = some true)
    (nf_index_BadMove : PySem.W.findIn K (.ref C_BadMove) "index" = some none)
    (in_BadMove : PySem.W.findIn K (.ref C_BadMove) "__init__" = some (some (.ref x_BadMove)))
    (ti_BadMove : PySem.W.typeIn K (.ref x_BadMove) = some (.type "function"))
    (l_BadMove : K.lookup x_BadMove = some ⟨oc_BadMove, od_BadMove, .func (PySem.W.ksFn "__init__" "BadMove.__init__" (defArgs t_BadMove_init) (defBody t_BadMove_init) (defScope t_BadMove_init) .none kV_BadMove dc_BadMove pm_BadMove an_BadMove (.ref cda_BadMove) ct_BadMove cc_BadMove), osl_BadMove⟩)
    (c_BadMove : PySem.W.codeIn K (.ref cda_BadMove) "BadMove.__init__" = true)
    (cc_BadMove : K.lookup cc_BadMove = some ⟨cls_BadMove, cld_BadMove, .cell (some (.ref C_BadMove)), csl_BadMove⟩)
    (cd_BadMove : K.lookup cda_BadMove = some ⟨ccl_BadMove, cdd_BadMove, .fields cvs_BadMove, ccs_BadMove⟩)
    (hv_BadMove : cvs_BadMove[2]? = some (.str file_BadMove tf_BadMove))
    (hf_BadMove : ((l.prog.main.file : Str) == file_BadMove) = true)
    (su_BadMove : PySem.W.mroIn K C_BadMove (.ref C_BadMove) = some true)
    (nx_BadMove : PySem.W.ks_superIn K C_BadMove C_BadMove "__init__" = some (some (.builtin "ValueError.__init__")))
    (iv_BadMove : PySem.W.mroIn K C_BadMove (.type "ValueError") = some true)
    (lk_BadName : K.lookup C_BadName = some (excClassObj "BadName" q_BadName C_BadName N_BadName bs_BadName [.ref C_YardError, .type "ValueError", .type "Exception", .type "BaseException", .type "object"] true sn_BadName sub_BadName ab_BadName col_BadName dd_BadName k0_BadName k1_BadName k2_BadName k3_BadName k5_BadName "ValueError.__new__"))
    (sa_BadName : PySem.W.findIn K (.ref C_BadName) "__setattr__" = some (some (.builtin "object.__setattr__")))
    (ga_BadName : PySem.W.findIn K (.ref C_BadName) "__getattribute__" = some (some (.builtin "BaseException.__getattribute__")))
    (gg_BadName : PySem.W.findIn K (.ref C_BadName) "__getattr__" = some none)
    (ha_BadName : PySem.W.findIn K (.ref C_BadName) "__class__" = some (some (.builtin "object.__class__")))
    (xb_BadName : PySem.W.subIn K (.ref C_BadName) (.type "BaseException") = some true)
    (ty_BadName : PySem.W.typeIn K (.ref C_BadName) = some (.type "type"))
    (kc_BadName : PySem.W.keepIn K (.ref C_BadName) = true)
    (hd_BadName : PySem.W.hasDictIn K C_BadName = true)
    (mo_BadName : PySem.W.mroIn K C_BadName (.type "object") = some true)
    (nf_name_BadName : PySem.W.findIn K (.ref C_BadName) "name" = some none)
    (in_BadName : PySem.W.findIn K (.ref C_BadName) "__init__" = some (some (.ref x_BadName)))
    (ti_BadName : PySem.W.typeIn K (.ref x_BadName) = some (.type "function"))
    (l_BadName : K.lookup x_BadName = some ⟨oc_BadName, od_BadName, .func (PySem.W.ksFn "__init__" "BadName.__init__" (defArgs t_BadName_init) (defBody t_BadName_init) (defScope t_BadName_init) .none kV_BadName dc_BadName pm_BadName an_BadName (.ref cda_BadName) ct_BadName cc_BadName), osl_BadName⟩)
    (c_BadName : PySem.W.codeIn K (.ref cda_BadName) "BadName.__init__" = true)
    (cc_BadName : K.lookup cc_BadName = some ⟨cls_BadName, cld_BadName, .cell (some (.ref C_BadName)), csl_BadName⟩)
    (cd_BadName : K.lookup cda_BadName = some ⟨ccl_BadName, cdd_BadName, .fields cvs_BadName, ccs_BadName⟩)
    (hv_BadName : cvs_BadName[2]? = some (.str file_BadName tf_BadName))
    (hf_BadName : ((l.prog.main.file : Str) == file_BadName) = true)
    (su_BadName : PySem.W.mroIn K C_BadName (.ref C_BadName) = some true)
    (nx_BadName : PySem.W.ks_superIn K C_BadName C_BadName "__init__" = some (some (.builtin "ValueError.__init__")))
    (iv_BadName : PySem.W.mroIn K C_BadName (.type "ValueError") = some true)
    (lk_NoName : K.lookup C_NoName = some (excClassObj "NoName" q_NoName C_NoName N_NoName bs_NoName [.ref C_YardError, .type "ValueError", .type "Exception", .type "BaseException", .type "object"] true sn_NoName sub_NoName ab_NoName col_NoName dd_NoName k0_NoName k1_NoName k2_NoName k3_NoName k5_NoName "ValueError.__new__"))
    (sa_NoName : PySem.W.findIn K (.ref C_NoName) "__setattr__" = some (some (.builtin "object.__setattr__")))
    (ga_NoName : PySem.W.findIn K (.ref C_NoName) "__getattribute__" = some (some (.builtin "BaseException.__getattribute__")))
    (gg_NoName : PySem.W.findIn K (.ref C_NoName) "__getattr__" = some none)
    (ha_NoName : PySem.W.findIn K (.ref C_NoName) "__class__" = some (some (.builtin "object.__class__")))
    (xb_NoName : PySem.W.subIn K (.ref C_NoName) (.type "BaseException") = some true)
    (ty_NoName : PySem.W.typeIn K (.ref C_NoName) = some (.type "type"))
    (kc_NoName : PySem.W.keepIn K (.ref C_NoName) = true)
    (hd_NoName : PySem.W.hasDictIn K C_NoName = true)
    (mo_NoName : PySem.W.mroIn K C_NoName (.type "object") = some true)
    (nf_name_NoName : PySem.W.findIn K (.ref C_NoName) "name" = some none)
    (in_NoName : PySem.W.findIn K (.ref C_NoName) "__init__" = some (some (.ref x_NoName)))
    (ti_NoName : PySem.W.typeIn K (.ref x_NoName) = some (.type "function"))
    (l_NoName : K.lookup x_NoName = some ⟨oc_NoName, od_NoName, .func (PySem.W.ksFn "__init__" "NoName.__init__" (defArgs t_NoName_init) (defBody t_NoName_init) (defScope t_NoName_init) .none kV_NoName dc_NoName pm_NoName an_NoName (.ref cda_NoName) ct_NoName cc_NoName), osl_NoName⟩)
    (c_NoName : PySem.W.codeIn K (.ref cda_NoName) "NoName.__init__" = true)
    (cc_NoName : K.lookup cc_NoName = some ⟨cls_NoName, cld_NoName, .cell (some (.ref C_NoName)), csl_NoName⟩)
    (cd_NoName : K.lookup cda_NoName = some ⟨ccl_NoName, cdd_NoName, .fields cvs_NoName, ccs_NoName⟩)
    (hv_NoName : cvs_NoName[2]? = some (.str file_NoName tf_NoName))
    (hf_NoName : ((l.prog.main.file : Str) == file_NoName) = true)
    (su_NoName : PySem.W.mroIn K C_NoName (.ref C_NoName) = some true)
    (nx_NoName : PySem.W.ks_superIn K C_NoName C_NoName "__init__" = some (some (.builtin "ValueError.__init__")))
    (iv_NoName : PySem.W.mroIn K C_NoName (.type "ValueError") = some true)
    (lk_TakenName : K.lookup C_TakenName = some (excClassObj "TakenName" q_TakenName C_TakenName N_TakenName bs_TakenName [.ref C_YardError, .type "ValueError", .type "Exception", .type "BaseException", .type "object"] true sn_TakenName sub_TakenName ab_TakenName col_TakenName dd_TakenName k0_TakenName k1_TakenName k2_TakenName k3_TakenName k5_TakenName "ValueError.__new__"))
    (sa_TakenName : PySem.W.findIn K (.ref C_TakenName) "__setattr__" = some (some (.builtin "object.__setattr__")))
    (ga_TakenName : PySem.W.findIn K (.ref C_TakenName) "__getattribute__" = some (some (.builtin "BaseException.__getattribute__")))
    (gg_TakenName : PySem.W.findIn K (.ref C_TakenName) "__getattr__" = some none)
    (ha_TakenName : PySem.W.findIn K (.ref C_TakenName) "__class__" = some (some (.builtin "object.__class__")))
    (xb_TakenName : PySem.W.subIn K (.ref C_TakenName) (.type "BaseException") = some true)
    (ty_TakenName : PySem.W.typeIn K (.ref C_TakenName) = some (.type "type"))
    (kc_TakenName : PySem.W.keepIn K (.ref C_TakenName) = true)
    (hd_TakenName : PySem.W.hasDictIn K C_TakenName = true)
    (mo_TakenName : PySem.W.mroIn K C_TakenName (.type "object") = some true)
    (nf_name_TakenName : PySem.W.findIn K (.ref C_TakenName) "name" = some none)
    (in_TakenName : PySem.W.findIn K (.ref C_TakenName) "__init__" = some (some (.ref x_TakenName)))
    (ti_TakenName : PySem.W.typeIn K (.ref x_TakenName) = some (.type "function"))
    (l_TakenName : K.lookup x_TakenName = some ⟨oc_TakenName, od_TakenName, .func (PySem.W.ksFn "__init__" "TakenName.__init__" (defArgs t_TakenName_init) (defBody t_TakenName_init) (defScope t_TakenName_init) .none kV_TakenName dc_TakenName pm_TakenName an_TakenName (.ref cda_TakenName) ct_TakenName cc_TakenName), osl_TakenName⟩)
    (c_TakenName : PySem.W.codeIn K (.ref cda_TakenName) "TakenName.__init__" = true)
    (cc_TakenName : K.lookup cc_TakenName = some ⟨cls_TakenName, cld_TakenName, .cell (some (.ref C_TakenName)), csl_TakenName⟩)
    (cd_TakenName : K.lookup cda_TakenName = some ⟨ccl_TakenName, cdd_TakenName, .fields cvs_TakenName, ccs_TakenName⟩)
    (hv_TakenName : cvs_TakenName[2]? = some (.str file_TakenName tf_TakenName))
    (hf_TakenName : ((l.prog.main.file : Str) == file_TakenName) = true)
    (su_TakenName : PySem.W.mroIn K C_TakenName (.ref C_TakenName) = some true)
    (nx_TakenName : PySem.W.ks_superIn K C_TakenName C_TakenName "__init__" = some (some (.builtin "ValueError.__init__")))
    (iv_TakenName : PySem.W.mroIn K C_TakenName (.type "ValueError") = some true)
    (lk_Unlike : K.lookup C_Unlike = some (excClassObj "Unlike" q_Unlike C_Unlike N_Unlike bs_Unlike [.ref C_YardError, .type "ValueError", .type "Exception", .type "BaseException", .type "object"] true sn_Unlike sub_Unlike ab_Unlike col_Unlike dd_Unlike k0_Unlike k1_Unlike k2_Unlike k3_Unlike k5_Unlike "ValueError.__new__"))
    (sa_Unlike : PySem.W.findIn K (.ref C_Unlike) "__setattr__" = some (some (.builtin "object.__setattr__")))
    (ga_Unlike : PySem.W.findIn K (.ref C_Unlike) "__getattribute__" = some (some (.builtin "BaseException.__getattribute__")))
    (gg_Unlike : PySem.W.findIn K (.ref C_Unlike) "__getattr__" = some none)
    (ha_Unlike : PySem.W.findIn K (.ref C_Unlike) "__class__" = some (some (.builtin "object.__class__")))
    (xb_Unlike : PySem.W.subIn K (.ref C_Unlike) (.type "BaseException") = some true)
    (ty_Unlike : PySem.W.typeIn K (.ref C_Unlike) = some (.type "type"))
    (kc_Unlike : PySem.W.keepIn K (.ref C_Unlike) = true)
    (hd_Unlike : PySem.W.hasDictIn K C_Unlike = true)
    (mo_Unlike : PySem.W.mroIn K C_Unlike (.type "object") = some true)
    (nf_what_Unlike : PySem.W.findIn K (.ref C_Unlike) "what" = some none)
    (in_Unlike : PySem.W.findIn K (.ref C_Unlike) "__init__" = some (some (.ref x_Unlike)))
    (ti_Unlike : PySem.W.typeIn K (.ref x_Unlike) = some (.type "function"))
    (l_Unlike : K.lookup x_Unlike = some ⟨oc_Unlike, od_Unlike, .func (PySem.W.ksFn "__init__" "Unlike.__init__" (defArgs t_Unlike_init) (defBody t_Unlike_init) (defScope t_Unlike_init) .none kV_Unlike dc_Unlike pm_Unlike an_Unlike (.ref cda_Unlike) ct_Unlike cc_Unlike), osl_Unlike⟩)
    (c_Unlike : PySem.W.codeIn K (.ref cda_Unlike) "Unlike.__init__" = true)
    (cc_Unlike : K.lookup cc_Unlike = some ⟨cls_Unlike, cld_Unlike, .cell (some (.ref C_Unlike)), csl_Unlike⟩)
    (cd_Unlike : K.lookup cda_Unlike = some ⟨ccl_Unlike, cdd_Unlike, .fields cvs_Unlike, ccs_Unlike⟩)
    (hv_Unlike : cvs_Unlike[2]? = some (.str file_Unlike tf_Unlike))
    (hf_Unlike : ((l.prog.main.file : Str) == file_Unlike) = true)
    (su_Unlike : PySem.W.mroIn K C_Unlike (.ref C_Unlike) = some true)
    (nx_Unlike : PySem.W.ks_superIn K C_Unlike C_Unlike "__init__" = some (some (.builtin "ValueError.__init__")))
    (iv_Unlike : PySem.W.mroIn K C_Unlike (.type "ValueError") = some true)
    (lk_TooMany : K.lookup C_TooMany = some (excClassObj "TooMany" q_TooMany C_TooMany N_TooMany bs_TooMany [.ref C_YardError, .type "ValueError", .type "Exception", .type "BaseException", .type "object"] true sn_TooMany sub_TooMany ab_TooMany col_TooMany dd_TooMany k0_TooMany k1_TooMany k2_TooMany k3_TooMany k5_TooMany "ValueError.__new__"))
    (sa_TooMany : PySem.W.findIn K (.ref C_TooMany) "__setattr__" = some (some (.builtin "object.__setattr__")))
    (ga_TooMany : PySem.W.findIn K (.ref C_TooMany) "__getattribute__" = some (some (.builtin "BaseException.__getattribute__")))
    (gg_TooMany : PySem.W.findIn K (.ref C_TooMany) "__getattr__" = some none)
    (ha_TooMany : PySem.W.findIn K (.ref C_TooMany) "__class__" = some (some (.builtin "object.__class__")))
    (xb_TooMany : PySem.W.subIn K (.ref C_TooMany) (.type "BaseException") = some true)
    (ty_TooMany : PySem.W.typeIn K (.ref C_TooMany) = some (.type "type"))
    (kc_TooMany : PySem.W.keepIn K (.ref C_TooMany) = true)
    (hd_TooMany : PySem.W.hasDictIn K C_TooMany = true)
    (mo_TooMany : PySem.W.mroIn K C_TooMany (.type "object") = some true)
    (nf_most_TooMany : PySem.W.findIn K (.ref C_TooMany) "most" = some none)
    (in_TooMany : PySem.W.findIn K (.ref C_TooMany) "__init__" = some (some (.ref x_TooMany)))
    (ti_TooMany : PySem.W.typeIn K (.ref x_TooMany) = some (.type "function"))
    (l_TooMany : K.lookup x_TooMany = some ⟨oc_TooMany, od_TooMany, .func (PySem.W.ksFn "__init__" "TooMany.__init__" (defArgs t_TooMany_init) (defBody t_TooMany_init) (defScope t_TooMany_init) .none kV_TooMany dc_TooMany pm_TooMany an_TooMany (.ref cda_TooMany) ct_TooMany cc_TooMany), osl_TooMany⟩)
    (c_TooMany : PySem.W.codeIn K (.ref cda_TooMany) "TooMany.__init__" = true)
    (cc_TooMany : K.lookup cc_TooMany = some ⟨cls_TooMany, cld_TooMany, .cell (some (.ref C_TooMany)), csl_TooMany⟩)
    (cd_TooMany : K.lookup cda_TooMany = some ⟨ccl_TooMany, cdd_TooMany, .fields cvs_TooMany, ccs_TooMany⟩)
    (hv_TooMany : cvs_TooMany[2]? = some (.str file_TooMany tf_TooMany))
    (hf_TooMany : ((l.prog.main.file : Str) == file_TooMany) = true)
    (su_TooMany : PySem.W.mroIn K C_TooMany (.ref C_TooMany) = some true)
    (nx_TooMany : PySem.W.ks_superIn K C_TooMany C_TooMany "__init__" = some (some (.builtin "ValueError.__init__")))
    (iv_TooMany : PySem.W.mroIn K C_TooMany (.type "ValueError") = some true)
    (lk_NotKept : K.lookup C_NotKept = some (excClassObj "NotKept" q_NotKept C_NotKept N_NotKept bs_NotKept [.ref C_YardError, .type "ValueError", .type "Exception", .type "BaseException", .type "object"] true sn_NotKept sub_NotKept ab_NotKept col_NotKept dd_NotKept k0_NotKept k1_NotKept k2_NotKept k3_NotKept k5_NotKept "ValueError.__new__"))
    (sa_NotKept : PySem.W.findIn K (.ref C_NotKept) "__setattr__" = some (some (.builtin "object.__setattr__")))
    (ga_NotKept : PySem.W.findIn K (.ref C_NotKept) "__getattribute__" = some (some (.builtin "BaseException.__getattribute__")))
    (gg_NotKept : PySem.W.findIn K (.ref C_NotKept) "__getattr__" = some none)
    (ha_NotKept : PySem.W.findIn K (.ref C_NotKept) "__class__" = some (some (.builtin "object.__class__")))
    (xb_NotKept : PySem.W.subIn K (.ref C_NotKept) (.type "BaseException") = some true)
    (ty_NotKept : PySem.W.typeIn K (.ref C_NotKept) = some (.type "type"))
    (kc_NotKept : PySem.W.keepIn K (.ref C_NotKept) = true)
    (hd_NotKept : PySem.W.hasDictIn K C_NotKept = true)
    (mo_NotKept : PySem.W.mroIn K C_NotKept (.type "object") = some true)
    (nf_promise_NotKept : PySem.W.findIn K (.ref C_NotKept) "promise" = some none)
    (nf_witness_NotKept : PySem.W.findIn K (.ref C_NotKept) "witness" = some none)
    (in_NotKept : PySem.W.findIn K (.ref C_NotKept) "__init__" = some (some (.ref x_NotKept)))
    (ti_NotKept : PySem.W.typeIn K (.ref x_NotKept) = some (.type "function"))
    (l_NotKept : K.lookup x_NotKept = some ⟨oc_NotKept, od_NotKept, .func (PySem.W.ksFn "__init__" "NotKept.__init__" (defArgs t_NotKept_init) (defBody t_NotKept_init) (defScope t_NotKept_init) .none kV_NotKept dc_NotKept pm_NotKept an_NotKept (.ref cda_NotKept) ct_NotKept cc_NotKept), osl_NotKept⟩)
    (c_NotKept : PySem.W.codeIn K (.ref cda_NotKept) "NotKept.__init__" = true)
    (cc_NotKept : K.lookup cc_NotKept = some ⟨cls_NotKept, cld_NotKept, .cell (some (.ref C_NotKept)), csl_NotKept⟩)
    (cd_NotKept : K.lookup cda_NotKept = some ⟨ccl_NotKept, cdd_NotKept, .fields cvs_NotKept, ccs_NotKept⟩)
    (hv_NotKept : cvs_NotKept[2]? = some (.str file_NotKept tf_NotKept))
    (hf_NotKept : ((l.prog.main.file : Str) == file_NotKept) = true)
    (su_NotKept : PySem.W.mroIn K C_NotKept (.ref C_NotKept) = some true)
    (nx_NotKept : PySem.W.ks_superIn K C_NotKept C_NotKept "__init__" = some (some (.builtin "ValueError.__init__")))
    (iv_NotKept : PySem.W.mroIn K C_NotKept (.type "ValueError") = some true)
    (lk_NothingToUndo : K.lookup C_NothingToUndo = some (excClassObj "NothingToUndo" q_NothingToUndo C_NothingToUndo N_NothingToUndo bs_NothingToUndo [.ref C_YardError, .type "ValueError", .type "Exception", .type "BaseException", .type "object"] true sn_NothingToUndo sub_NothingToUndo ab_NothingToUndo col_NothingToUndo dd_NothingToUndo k0_NothingToUndo k1_NothingToUndo k2_NothingToUndo k3_NothingToUndo k5_NothingToUndo "ValueError.__new__"))
    (sa_NothingToUndo : PySem.W.findIn K (.ref C_NothingToUndo) "__setattr__" = some (some (.builtin "object.__setattr__")))
    (ga_NothingToUndo : PySem.W.findIn K (.ref C_NothingToUndo) "__getattribute__" = some (some (.builtin "BaseException.__getattribute__")))
    (gg_NothingToUndo : PySem.W.findIn K (.ref C_NothingToUndo) "__getattr__" = some none)
    (ha_NothingToUndo : PySem.W.findIn K (.ref C_NothingToUndo) "__class__" = some (some (.builtin "object.__class__")))
    (xb_NothingToUndo : PySem.W.subIn K (.ref C_NothingToUndo) (.type "BaseException") = some true)
    (ty_NothingToUndo : PySem.W.typeIn K (.ref C_NothingToUndo) = some (.type "type"))
    (kc_NothingToUndo : PySem.W.keepIn K (.ref C_NothingToUndo) = true)
    (hd_NothingToUndo : PySem.W.hasDictIn K C_NothingToUndo = true)
    (mo_NothingToUndo : PySem.W.mroIn K C_NothingToUndo (.type "object") = some true)
    (ei_NothingToUndo : PySem.W.excIn K C_NothingToUndo [.type "ValueError", .type "Exception", .type "BaseException", .type "object"] "ValueError.__new__" = true)
    (lk_NothingToRedo : K.lookup C_NothingToRedo = some (excClassObj "NothingToRedo" q_NothingToRedo C_NothingToRedo N_NothingToRedo bs_NothingToRedo [.ref C_YardError, .type "ValueError", .type "Exception", .type "BaseException", .type "object"] true sn_NothingToRedo sub_NothingToRedo ab_NothingToRedo col_NothingToRedo dd_NothingToRedo k0_NothingToRedo k1_NothingToRedo k2_NothingToRedo k3_NothingToRedo k5_NothingToRedo "ValueError.__new__"))
    (sa_NothingToRedo : PySem.W.findIn K (.ref C_NothingToRedo) "__setattr__" = some (some (.builtin "object.__setattr__")))
    (ga_NothingToRedo : PySem.W.findIn K (.ref C_NothingToRedo) "__getattribute__" = some (some (.builtin "BaseException.__getattribute__")))
    (gg_NothingToRedo : PySem.W.findIn K (.ref C_NothingToRedo) "__getattr__" = some none)
    (ha_NothingToRedo : PySem.W.findIn K (.ref C_NothingToRedo) "__class__" = some (some (.builtin "object.__class__")))
    (xb_NothingToRedo : PySem.W.subIn K (.ref C_NothingToRedo) (.type "BaseException") = some true)
    (ty_NothingToRedo : PySem.W.typeIn K (.ref C_NothingToRedo) = some (.type "type"))
    (kc_NothingToRedo : PySem.W.keepIn K (.ref C_NothingToRedo) = true)
    (hd_NothingToRedo : PySem.W.hasDictIn K C_NothingToRedo = true)
    (mo_NothingToRedo : PySem.W.mroIn K C_NothingToRedo (.type "object") = some true)
    (ei_NothingToRedo : PySem.W.excIn K C_NothingToRedo [.type "ValueError", .type "Exception", .type "BaseException", .type "object"] "ValueError.__new__" = true)
    (g_hn : PySem.W.specialIn K (.builtin "object.__class__") "__get__" = some (some (.builtin "getset_descriptor.__get__")))
    (g_ht : PySem.W.takesIn K (.builtin "object.__class__") = some true)
    (g_opq : PySem.W.nsIn K cStatics "thirdparty.any" = some none)
    (z_super : PySem.W.nsIn K mainGlobals "super" = some none)
    (g_top : (l.prog.main.scope.names.lookup ("super" : Str)).isSome = false)
    (z_ValueError : PySem.W.nsIn K mainGlobals "ValueError" = some none)
    (z_int : PySem.W.nsIn K mainGlobals "int" = some none)
    (z_isinstance : PySem.W.nsIn K mainGlobals "isinstance" = some none)
    (z_len : PySem.W.nsIn K mainGlobals "len" = some none)
    (z_list : PySem.W.nsIn K mainGlobals "list" = some none)
    (z_range : PySem.W.nsIn K mainGlobals "range" = some none)
    (a__law_draw : PySem.W.nsIn K mainGlobals "_law_draw" = some (some (.ref x__law_draw)))
    (l__law_draw : K.lookup x__law_draw = some ⟨oc__law_draw, od__law_draw, .func (PySem.W.fnOf "_law_draw" "_law_draw" (defArgs t__law_draw) (defBody t__law_draw) (defScope t__law_draw) .none kV__law_draw dc__law_draw pm__law_draw an__law_draw cd__law_draw ct__law_draw), sl__law_draw⟩)
    (c__law_draw : PySem.W.codeIn K cd__law_draw "_law_draw" = true)
    (k__law_draw : PySem.W.keepIn K (.ref x__law_draw) = true)
    (a__law_kinds : PySem.W.nsIn K mainGlobals "_law_kinds" = some (some (.ref x__law_kinds)))
    (l__law_kinds : K.lookup x__law_kinds = some ⟨oc__law_kinds, od__law_kinds, .func (PySem.W.fnOf "_law_kinds" "_law_kinds" (defArgs t__law_kinds) (defBody t__law_kinds) (defScope t__law_kinds) .none kV__law_kinds dc__law_kinds pm__law_kinds an__law_kinds cd__law_kinds ct__law_kinds), sl__law_kinds⟩)
    (c__law_kinds : PySem.W.codeIn K cd__law_kinds "_law_kinds" = true)
    (k__law_kinds : PySem.W.keepIn K (.ref x__law_kinds) = true)
    (a__law_pen : PySem.W.nsIn K mainGlobals "_law_pen" = some (some (.ref x__law_pen)))
    (l__law_pen : K.lookup x__law_pen = some ⟨oc__law_pen, od__law_pen, .func (PySem.W.fnOf "_law_pen" "_law_pen" (defArgs t__law_pen) (defBody t__law_pen) (defScope t__law_pen) .none kV__law_pen dc__law_pen pm__law_pen an__law_pen cd__law_pen ct__law_pen), sl__law_pen⟩)
    (c__law_pen : PySem.W.codeIn K cd__law_pen "_law_pen" = true)
    (k__law_pen : PySem.W.keepIn K (.ref x__law_pen) = true)
    (a__law_pick : PySem.W.nsIn K mainGlobals "_law_pick" = some (some (.ref x__law_pick)))
    (l__law_pick : K.lookup x__law_pick = some ⟨oc__law_pick, od__law_pick, .func (PySem.W.fnOf "_law_pick" "_law_pick" (defArgs t__law_pick) (defBody t__law_pick) (defScope t__law_pick) .none kV__law_pick dc__law_pick pm__law_pick an__law_pick cd__law_pick ct__law_pick), sl__law_pick⟩)
    (c__law_pick : PySem.W.codeIn K cd__law_pick "_law_pick" = true)
    (k__law_pick : PySem.W.keepIn K (.ref x__law_pick) = true)
    (a_law : PySem.W.nsIn K mainGlobals "law" = some (some (.ref x_law)))
    (l_law : K.lookup x_law = some ⟨oc_law, od_law, .func (PySem.W.fnOf "law" "law" (defArgs t_law) (defBody t_law) (defScope t_law) .none kV_law dc_law pm_law an_law cd_law ct_law), sl_law⟩)
    (c_law : PySem.W.codeIn K cd_law "law" = true)
    (k_law : PySem.W.keepIn K (.ref x_law) = true)
    : ∃ fd : FuncData, (∀ (s : Shared) (v : Value), BindsTo s fd ⟨[v], []⟩ [("_law_script", v)]) ∧ ∀ base : Heap, K.In base → base.Ns mainGlobals mg → FnOk l.prog w K mg base (L2.CX l.prog w) 3 fa fd ["_law_script"] (spTrue K) := by
  have e := hfa.symm.trans (PySem.W.mg_of X G a_law)
  cases e
  let cl : String → Option Addr := fun c => if c = "YardError" then some C_YardError else if c = "BadText" then some C_BadText else if c = "BadLine" then some C_BadLine else if c = "BadNumber" then some C_BadNumber else if c = "BadRow" then some C_BadRow else if c = "BadTie" then some C_BadTie else if c = "BadRing" then some C_BadRing else if c = "BadMove" then some C_BadMove else if c = "BadName" then some C_BadName else if c = "NoName" then some C_NoName else if c = "TakenName" then some C_TakenName else if c = "Unlike" then some C_Unlike else if c = "TooMany" then some C_TooMany else if c = "NotKept" then some C_NotKept else if c = "NothingToUndo" then some C_NothingToUndo else if c = "NothingToRedo" then some C_NothingToRedo else none
  have cl_YardError : cl "YardError" = some C_YardError := by simp [cl]
  have ci_YardError : PySem.W.clsIn K C_YardError = some { name := "YardError", bases := bs_YardError, mro := .ref C_YardError :: [.type "ValueError", .type "Exception", .type "BaseException", .type "object"], ns := N_YardError, qualname := q_YardError, hasDict := true, slotNames := sn_YardError, subclasses := sub_YardError, abstract := ab_YardError, collection := col_YardError, hasDel := false } := by unfold PySem.W.clsIn; rw [lk_YardError]
  have cl_BadText : cl "BadText" = some C_BadText := by simp [cl]
  have ci_BadText : PySem.W.clsIn K C_BadText = some { name := "BadText", bases := bs_BadText, mro := .ref C_BadText :: [.ref C_YardError, .type "ValueError", .type "Exception", .type "BaseException", .type "object"], ns := N_BadText, qualname := q_BadText, hasDict := true, slotNames := sn_BadText, subclasses := sub_BadText, abstract := ab_BadText, collection := col_BadText, hasDel := false } := by unfold PySem.W.clsIn; rw [lk_BadText]
  have cl_BadLine : cl "BadLine" = some C_BadLine := by simp [cl]
  have ci_BadLine : PySem.W.clsIn K C_BadLine = some { name := "BadLine", bases := bs_BadLine, mro := .ref C_BadLine :: [.ref C_YardError, .type "ValueError", .type "Exception", .type "BaseException", .type "object"], ns := N_BadLine, qualname := q_BadLine, hasDict := true, slotNames := sn_BadLine, subclasses := sub_BadLine, abstract := ab_BadLine, collection := col_BadLine, hasDel := false } := by unfold PySem.W.clsIn; rw [lk_BadLine]
  have cl_BadNumber : cl "BadNumber" = some C_BadNumber := by simp [cl]
  have ci_BadNumber : PySem.W.clsIn K C_BadNumber = some { name := "BadNumber", bases := bs_BadNumber, mro := .ref C_BadNumber :: [.ref C_YardError, .type "ValueError", .type "Exception", .type "BaseException", .type "object"], ns := N_BadNumber, qualname := q_BadNumber, hasDict := true, slotNames := sn_BadNumber, subclasses := sub_BadNumber, abstract := ab_BadNumber, collection := col_BadNumber, hasDel := false } := by unfold PySem.W.clsIn; rw [lk_BadNumber]
  have cl_BadRow : cl "BadRow" = some C_BadRow := by simp [cl]
  have ci_BadRow : PySem.W.clsIn K C_BadRow = some { name := "BadRow", bases := bs_BadRow, mro := .ref C_BadRow :: [.ref C_YardError, .type "ValueError", .type "Exception", .type "BaseException", .type "object"], ns := N_BadRow, qualname := q_BadRow, hasDict := true, slotNames := sn_BadRow, subclasses := sub_BadRow, abstract := ab_BadRow, collection := col_BadRow, hasDel := false } := by unfold PySem.W.clsIn; rw [lk_BadRow]
  have cl_BadTie : cl "BadTie" = some C_BadTie := by simp [cl]
  have ci_BadTie : PySem.W.clsIn K C_BadTie = some { name := "BadTie", bases := bs_BadTie, mro := .ref C_BadTie :: [.ref C_YardError, .type "ValueError", .type "Exception", .type "BaseException", .type "object"], ns := N_BadTie, qualname := q_BadTie, hasDict := true, slotNames := sn_BadTie, subclasses := sub_BadTie, abstract := ab_BadTie, collection := col_BadTie, hasDel := false } := by unfold PySem.W.clsIn; rw [lk_BadTie]
  have cl_BadRing : cl "BadRing" = some C_BadRing := by simp [cl]
  have ci_BadRing : PySem.W.clsIn K C_BadRing = some { name := "BadRing", bases := bs_BadRing, mro := .ref C_BadRing :: [.ref C_YardError, .type "ValueError", .type "Exception", .type "BaseException", .type "object"], ns := N_BadRing, qualname := q_BadRing, hasDict := true, slotNames := sn_BadRing, subclasses := sub_BadRing, abstract := ab_BadRing, collection := col_BadRing, hasDel := false } := by unfold PySem.W.clsIn; rw [lk_BadRing]
  have cl_BadMove : cl "BadMove" = some C_BadMove := by simp [cl]
  have ci_BadMove : PySem.W.clsIn K C_BadMove = some { name := "BadMove", bases := bs_BadMove, mro := .ref C_BadMove :: [.ref C_YardError, .type "ValueError", .type "Exception", .type "BaseException", .type "object"], ns := N_BadMove, qualname := q_BadMove, hasDict := true, slotNames := sn_BadMove, subclasses := sub_BadMove, abstract := ab_BadMove, collection := col_BadMove, hasDel := false } := by unfold PySem.W.clsIn; rw [lk_BadMove]
  have cl_BadName : cl "BadName" = some C_BadName := by simp [cl]
  have ci_BadName : PySem.W.clsIn K C_BadName = some { name := "BadName", bases := bs_BadName, mro := .ref C_BadName :: [.ref C_YardError, .type "ValueError", .type "Exception", .type "BaseException", .type "object"], ns := N_BadName, qualname := q_BadName, hasDict := true, slotNames := sn_BadName, subclasses := sub_BadName, abstract := ab_BadName, collection := col_BadName, hasDel := false } := by unfold PySem.W.clsIn; rw [lk_BadName]
  have cl_NoName : cl "NoName" = some C_NoName := by simp [cl]
  have ci_NoName : PySem.W.clsIn K C_NoName = some { name := "NoName", bases := bs_NoName, mro := .ref C_NoName :: [.ref C_YardError, .type "ValueError", .type "Exception", .type "BaseException", .type "object"], ns := N_NoName, qualname := q_NoName, hasDict := true, slotNames := sn_NoName, subclasses := sub_NoName, abstract := ab_NoName, collection := col_NoName, hasDel := false } := by unfold PySem.W.clsIn; rw [lk_NoName]
  have cl_TakenName : cl "TakenName" = some C_TakenName := by simp [cl]
  have ci_TakenName : PySem.W.clsIn K C_TakenName = some { name := "TakenName", bases := bs_TakenName, mro := .ref C_TakenName :: [.ref C_YardError, .type "ValueError", .type "Exception", .type "BaseException", .type "object"], ns := N_TakenName, qualname := q_TakenName, hasDict := true, slotNames := sn_TakenName, subclasses := sub_TakenName, abstract := ab_TakenName, collection := col_TakenName, hasDel := false } := by unfold PySem.W.clsIn; rw [lk_TakenName]
  have cl_Unlike : cl "Unlike" = some C_Unlike := by simp [cl]
  have ci_Unlike : PySem.W.clsIn K C_Unlike = some { name := "Unlike", bases := bs_Unlike, mro := .ref C_Unlike :: [.ref C_YardError, .type "ValueError", .type "Exception", .type "BaseException", .type "object"], ns := N_Unlike, qualname := q_Unlike, hasDict := true, slotNames := sn_Unlike, subclasses := sub_Unlike, abstract := ab_Unlike, collection := col_Unlike, hasDel := false } := by unfold PySem.W.clsIn; rw [lk_Unlike]
  have cl_TooMany : cl "TooMany" = some C_TooMany := by simp [cl]
  have ci_TooMany : PySem.W.clsIn K C_TooMany = some { name := "TooMany", bases := bs_TooMany, mro := .ref C_TooMany :: [.ref C_YardError, .type "ValueError", .type "Exception", .type "BaseException", .type "object"], ns := N_TooMany, qualname := q_TooMany, hasDict := true, slotNames := sn_TooMany, subclasses := sub_TooMany, abstract := ab_TooMany, collection := col_TooMany, hasDel := false } := by unfold PySem.W.clsIn; rw [lk_TooMany]
  have cl_NotKept : cl "NotKept" = some C_NotKept := by simp [cl]
  have ci_NotKept : PySem.W.clsIn K C_NotKept = some { name := "NotKept", bases := bs_NotKept, mro := .ref C_NotKept :: [.ref C_YardError, .type "ValueError", .type "Exception", .type "BaseException", .type "object"], ns := N_NotKept, qualname := q_NotKept, hasDict := true, slotNames := sn_NotKept, subclasses := sub_NotKept, abstract := ab_NotKept, collection := col_NotKept, hasDel := false } := by unfold PySem.W.clsIn; rw [lk_NotKept]
  have cl_NothingToUndo : cl "NothingToUndo" = some C_NothingToUndo := by simp [cl]
  have ci_NothingToUndo : PySem.W.clsIn K C_NothingToUndo = some { name := "NothingToUndo", bases := bs_NothingToUndo, mro := .ref C_NothingToUndo :: [.ref C_YardError, .type "ValueError", .type "Exception", .type "BaseException", .type "object"], ns := N_NothingToUndo, qualname := q_NothingToUndo, hasDict := true, slotNames := sn_NothingToUndo, subclasses := sub_NothingToUndo, abstract := ab_NothingToUndo, collection := col_NothingToUndo, hasDel := false } := by unfold PySem.W.clsIn; rw [lk_NothingToUndo]
  have cl_NothingToRedo : cl "NothingToRedo" = some C_NothingToRedo := by simp [cl]
  have ci_NothingToRedo : PySem.W.clsIn K C_NothingToRedo = some { name := "NothingToRedo", bases := bs_NothingToRedo, mro := .ref C_NothingToRedo :: [.ref C_YardError, .type "ValueError", .type "Exception", .type "BaseException", .type "object"], ns := N_NothingToRedo, qualname := q_NothingToRedo, hasDict := true, slotNames := sn_NothingToRedo, subclasses := sub_NothingToRedo, abstract := ab_NothingToRedo, collection := col_NothingToRedo, hasDel := false } := by unfold PySem.W.clsIn; rw [lk_NothingToRedo]
  have FM : Fam K cl xnames "YardError" C_YardError := ⟨⟨cl_YardError, by decide⟩, fun c hc C h => by
    simp only [xnames, List.mem_cons, List.not_mem_nil, or_false] at hc
    rcases hc with rfl | rfl | rfl | rfl | rfl | rfl | rfl | rfl | rfl | rfl | rfl | rfl | rfl | rfl | rfl | rfl
    · cases (cl_YardError.symm.trans h); exact ⟨⟨ga_YardError, gg_YardError, xb_YardError, hd_YardError, ha_YardError, g_hn, g_ht, mo_YardError⟩, ty_YardError, _, ci_YardError, rfl, .inl ⟨rfl, rfl, rfl⟩⟩
    · cases (cl_BadText.symm.trans h); exact ⟨⟨ga_BadText, gg_BadText, xb_BadText, hd_BadText, ha_BadText, g_hn, g_ht, mo_BadText⟩, ty_BadText, _, ci_BadText, rfl, .inr rfl⟩
    · cases (cl_BadLine.symm.trans h); exact ⟨⟨ga_BadLine, gg_BadLine, xb_BadLine, hd_BadLine, ha_BadLine, g_hn, g_ht, mo_BadLine⟩, ty_BadLine, _, ci_BadLine, rfl, .inr rfl⟩
    · cases (cl_BadNumber.symm.trans h); exact ⟨⟨ga_BadNumber, gg_BadNumber, xb_BadNumber, hd_BadNumber, ha_BadNumber, g_hn, g_ht, mo_BadNumber⟩, ty_BadNumber, _, ci_BadNumber, rfl, .inr rfl⟩
    · cases (cl_BadRow.symm.trans h); exact ⟨⟨ga_BadRow, gg_BadRow, xb_BadRow, hd_BadRow, ha_BadRow, g_hn, g_ht, mo_BadRow⟩, ty_BadRow, _, ci_BadRow, rfl, .inr rfl⟩
    · cases (cl_BadTie.symm.trans h); exact ⟨⟨ga_BadTie, gg_BadTie, xb_BadTie, hd_BadTie, ha_BadTie, g_hn, g_ht, mo_BadTie⟩, ty_BadTie, _, ci_BadTie, rfl, .inr rfl⟩
    · cases (cl_BadRing.symm.trans h); exact ⟨⟨ga_BadRing, gg_BadRing, xb_BadRing, hd_BadRing, ha_BadRing, g_hn, g_ht, mo_BadRing⟩, ty_BadRing, _, ci_BadRing, rfl, .inr rfl⟩
    · cases (cl_BadMove.symm.trans h); exact ⟨⟨ga_BadMove, gg_BadMove, xb_BadMove, hd_BadMove, ha_BadMove, g_hn, g_ht, mo_BadMove⟩, ty_BadMove, _, ci_BadMove, rfl, .inr rfl⟩
    · cases (cl_BadName.symm.trans h); exact ⟨⟨ga_BadName, gg_BadName, xb_BadName, hd_BadName, ha_BadName, g_hn, g_ht, mo_BadName⟩, ty_BadName, _, ci_BadName, rfl, .inr rfl⟩
    · cases (cl_NoName.symm.trans h); exact ⟨⟨ga_NoName, gg_NoName, xb_NoName, hd_NoName, ha_NoName, g_hn, g_ht, mo_NoName⟩, ty_NoName, _, ci_NoName, rfl, .inr rfl⟩
    · cases (cl_TakenName.symm.trans h); exact ⟨⟨ga_TakenName, gg_TakenName, xb_TakenName, hd_TakenName, ha_TakenName, g_hn, g_ht, mo_TakenName⟩, ty_TakenName, _, ci_TakenName, rfl, .inr rfl⟩
    · cases (cl_Unlike.symm.trans h); exact ⟨⟨ga_Unlike, gg_Unlike, xb_Unlike, hd_Unlike, ha_Unlike, g_hn, g_ht, mo_Unlike⟩, ty_Unlike, _, ci_Unlike, rfl, .inr rfl⟩
    · cases (cl_TooMany.symm.trans h); exact ⟨⟨ga_TooMany, gg_TooMany, xb_TooMany, hd_TooMany, ha_TooMany, g_hn, g_ht, mo_TooMany⟩, ty_TooMany, _, ci_TooMany, rfl, .inr rfl⟩
    · cases (cl_NotKept.symm.trans h); exact ⟨⟨ga_NotKept, gg_NotKept, xb_NotKept, hd_NotKept, ha_NotKept, g_hn, g_ht, mo_NotKept⟩, ty_NotKept, _, ci_NotKept, rfl, .inr rfl⟩
    · cases (cl_NothingToUndo.symm.trans h); exact ⟨⟨ga_NothingToUndo, gg_NothingToUndo, xb_NothingToUndo, hd_NothingToUndo, ha_NothingToUndo, g_hn, g_ht, mo_NothingToUndo⟩, ty_NothingToUndo, _, ci_NothingToUndo, rfl, .inr rfl⟩
    · cases (cl_NothingToRedo.symm.trans h); exact ⟨⟨ga_NothingToRedo, gg_NothingToRedo, xb_NothingToRedo, hd_NothingToRedo, ha_NothingToRedo, g_hn, g_ht, mo_NothingToRedo⟩, ty_NothingToRedo, _, ci_NothingToRedo, rfl, .inr rfl⟩⟩
  have E_YardError : Heap → ExcMk0 K mg cl "YardError" "YardError" := fun _ => ⟨⟨C_YardError, _, _, _, _, PySem.F.excBase_ValueError, ei_YardError, kc_YardError, cl_YardError, PySem.W.mg_of X G aC_YardError⟩⟩
  have T_BadText : OexC K C_BadText := ⟨⟨_, _, _, _, _, _, _, _, _, _, _, _, _, _, _, lk_BadText, by rfl⟩, sa_BadText, xb_BadText, ty_BadText, kc_BadText⟩
  have S_BadText : SuC K C_BadText C_BadText := ⟨⟨_, ci_BadText⟩, ⟨_, ci_BadText⟩, su_BadText, nx_BadText, iv_BadText, g_opq⟩
  have O_BadText := fun base : Heap => K00.k_BadText_init (P := l.prog) (w := w) (mg := mg) (base := base) l_BadText c_BadText cc_BadText cd_BadText hv_BadText hf_BadText (PySem.W.mg_none_of X G z_super) g_top
  have E_BadText : ∀ base : Heap, ExcMk1 l.prog w K mg base cl "BadText" "BadText" "column" 1 := fun base => ⟨⟨C_BadText, C_BadText, x_BadText, _, _, cl_BadText, T_BadText, S_BadText, nf_column_BadText, in_BadText, ti_BadText, O_BadText base, L2.Binds.all fun us hl => match us, hl with | [_, _], _ => rfl, PySem.W.mg_of X G aC_BadText⟩⟩
  have T_BadLine : OexC K C_BadLine := ⟨⟨_, _, _, _, _, _, _, _, _, _, _, _, _, _, _, lk_BadLine, by rfl⟩, sa_BadLine, xb_BadLine, ty_BadLine, kc_BadLine⟩
  have S_BadLine : SuC K C_BadLine C_BadLine := ⟨⟨_, ci_BadLine⟩, ⟨_, ci_BadLine⟩, su_BadLine, nx_BadLine, iv_BadLine, g_opq⟩
  have O_BadLine := fun base : Heap => K00.k_BadLine_init (P := l.prog) (w := w) (mg := mg) (base := base) l_BadLine c_BadLine cc_BadLine cd_BadLine hv_BadLine hf_BadLine (PySem.W.mg_none_of X G z_super) g_top
  have E_BadLine : ∀ base : Heap, ExcMk2 l.prog w K mg base cl "BadLine" "BadLine" "line" "column" 1 := fun base => ⟨⟨C_BadLine, C_BadLine, x_BadLine, _, _, _, cl_BadLine, T_BadLine, S_BadLine, nf_line_BadLine, nf_column_BadLine, in_BadLine, ti_BadLine, O_BadLine base, L2.Binds.all fun us hl => match us, hl with | [_, _, _], _ => rfl, PySem.W.mg_of X G aC_BadLine⟩⟩
  have T_BadNumber : OexC K C_BadNumber := ⟨⟨_, _, _, _, _, _, _, _, _, _, _, _, _, _, _, lk_BadNumber, by rfl⟩, sa_BadNumber, xb_BadNumber, ty_BadNumber, kc_BadNumber⟩
  have S_BadNumber : SuC K C_BadNumber C_BadNumber := ⟨⟨_, ci_BadNumber⟩, ⟨_, ci_BadNumber⟩, su_BadNumber, nx_BadNumber, iv_BadNumber, g_opq⟩
  have O_BadNumber := fun base : Heap => K00.k_BadNumber_init (P := l.prog) (w := w) (mg := mg) (base := base) l_BadNumber c_BadNumber cc_BadNumber cd_BadNumber hv_BadNumber hf_BadNumber (PySem.W.mg_none_of X G z_super) g_top
  have E_BadNumber : ∀ base : Heap, ExcMk2 l.prog w K mg base cl "BadNumber" "BadNumber" "what" "number" 1 := fun base => ⟨⟨C_BadNumber, C_BadNumber, x_BadNumber, _, _, _, cl_BadNumber, T_BadNumber, S_BadNumber, nf_what_BadNumber, nf_number_BadNumber, in_BadNumber, ti_BadNumber, O_BadNumber base, L2.Binds.all fun us hl => match us, hl with | [_, _, _], _ => rfl, PySem.W.mg_of X G aC_BadNumber⟩⟩
  have T_BadRow : OexC K C_BadRow := ⟨⟨_, _, _, _, _, _, _, _, _, _, _, _, _, _, _, lk_BadRow, by rfl⟩, sa_BadRow, xb_BadRow, ty_BadRow, kc_BadRow⟩
  have S_BadRow : SuC K C_BadRow C_BadRow := ⟨⟨_, ci_BadRow⟩, ⟨_, ci_BadRow⟩, su_BadRow, nx_BadRow, iv_BadRow, g_opq⟩
  have O_BadRow := fun base : Heap => K00.k_BadRow_init (P := l.prog) (w := w) (mg := mg) (base := base) l_BadRow c_BadRow cc_BadRow cd_BadRow hv_BadRow hf_BadRow (PySem.W.mg_none_of X G z_super) g_top
  have E_BadRow : ∀ base : Heap, ExcMk1 l.prog w K mg base cl "BadRow" "BadRow" "row" 1 := fun base => ⟨⟨C_BadRow, C_BadRow, x_BadRow, _, _, cl_BadRow, T_BadRow, S_BadRow, nf_row_BadRow, in_BadRow, ti_BadRow, O_BadRow base, L2.Binds.all fun us hl => match us, hl with | [_, _], _ => rfl, PySem.W.mg_of X G aC_BadRow⟩⟩
  have T_BadTie : OexC K C_BadTie := ⟨⟨_, _, _, _, _, _, _, _, _, _, _, _, _, _, _, lk_BadTie, by rfl⟩, sa_BadTie, xb_BadTie, ty_BadTie, kc_BadTie⟩
  have S_BadTie : SuC K C_BadTie C_BadTie := ⟨⟨_, ci_BadTie⟩, ⟨_, ci_BadTie⟩, su_BadTie, nx_BadTie, iv_BadTie, g_opq⟩
  have O_BadTie := fun base : Heap => K00.k_BadTie_init (P := l.prog) (w := w) (mg := mg) (base := base) l_BadTie c_BadTie cc_BadTie cd_BadTie hv_BadTie hf_BadTie (PySem.W.mg_none_of X G z_super) g_top
  have E_BadTie : ∀ base : Heap, ExcMk1 l.prog w K mg base cl "BadTie" "BadTie" "tie" 1 := fun base => ⟨⟨C_BadTie, C_BadTie, x_BadTie, _, _, cl_BadTie, T_BadTie, S_BadTie, nf_tie_BadTie, in_BadTie, ti_BadTie, O_BadTie base, L2.Binds.all fun us hl => match us, hl with | [_, _], _ => rfl, PySem.W.mg_of X G aC_BadTie⟩⟩
  have T_BadRing : OexC K C_BadRing := ⟨⟨_, _, _, _, _, _, _, _, _, _, _, _, _, _, _, lk_BadRing, by rfl⟩, sa_BadRing, xb_BadRing, ty_BadRing, kc_BadRing⟩
  have S_BadRing : SuC K C_BadRing C_BadRing := ⟨⟨_, ci_BadRing⟩, ⟨_, ci_BadRing⟩, su_BadRing, nx_BadRing, iv_BadRing, g_opq⟩
  have O_BadRing := fun base : Heap => K00.k_BadRing_init (P := l.prog) (w := w) (mg := mg) (base := base) l_BadRing c_BadRing cc_BadRing cd_BadRing hv_BadRing hf_BadRing (PySem.W.mg_none_of X G z_super) g_top
  have E_BadRing : ∀ base : Heap, ExcMk1 l.prog w K mg base cl "BadRing" "BadRing" "index" 1 := fun base => ⟨⟨C_BadRing, C_BadRing, x_BadRing, _, _, cl_BadRing, T_BadRing, S_BadRing, nf_index_BadRing, in_BadRing, ti_BadRing, O_BadRing base, L2.Binds.all fun us hl => match us, hl with | [_, _], _ => rfl, PySem.W.mg_of X G aC_BadRing⟩⟩
  have T_BadMove : OexC K C_BadMove := ⟨⟨_, _, _, _, _, _, _, _, _, _, _, _, _, _, _, lk_BadMove, by rfl⟩, sa_BadMove, xb_BadMove, ty_BadMove, kc_BadMove⟩
  have S_BadMove : SuC K C_BadMove C_BadMove := ⟨⟨_, ci_BadMove⟩, ⟨_, ci_BadMove⟩, su_BadMove, nx_BadMove, iv_BadMove, g_opq⟩
  have O_BadMove := fun base : Heap => K00.k_BadMove_init (P := l.prog) (w := w) (mg := mg) (base := base) l_BadMove c_BadMove cc_BadMove cd_BadMove hv_BadMove hf_BadMove (PySem.W.mg_none_of X G z_super) g_top
  have E_BadMove : ∀ base : Heap, ExcMk1 l.prog w K mg base cl "BadMove" "BadMove" "index" 1 := fun base => ⟨⟨C_BadMove, C_BadMove, x_BadMove, _, _, cl_BadMove, T_BadMove, S_BadMove, nf_index_BadMove, in_BadMove, ti_BadMove, O_BadMove base, L2.Binds.all fun us hl => match us, hl with | [_, _], _ => rfl, PySem.W.mg_of X G aC_BadMove⟩⟩
  have T_BadName : OexC K C_BadName := ⟨⟨_, _, _, _, _, _, _, _, _, _, _, _, _, _, _, lk_BadName, by rfl⟩, sa_BadName, xb_BadName, ty_BadName, kc_BadName⟩
  have S_BadName : SuC K C_BadName C_BadName := ⟨⟨_, ci_BadName⟩, ⟨_, ci_BadName⟩, su_BadName, nx_BadName, iv_BadName, g_opq⟩
  have O_BadName := fun base : Heap => K00.k_BadName_init (P := l.prog) (w := w) (mg := mg) (base := base) l_BadName c_BadName cc_BadName cd_BadName hv_BadName hf_BadName (PySem.W.mg_none_of X G z_super) g_top
  have E_BadName : ∀ base : Heap, ExcMk1 l.prog w K mg base cl "BadName" "BadName" "name" 1 := fun base => ⟨⟨C_BadName, C_BadName, x_BadName, _, _, cl_BadName, T_BadName, S_BadName, nf_name_BadName, in_BadName, ti_BadName, O_BadName base, L2.Binds.all fun us hl => match us, hl with | [_, _], _ => rfl, PySem.W.mg_of X G aC_BadName⟩⟩
  have T_NoName : OexC K C_NoName := ⟨⟨_, _, _, _, _, _, _, _, _, _, _, _, _, _, _, lk_NoName, by rfl⟩, sa_NoName, xb_NoName, ty_NoName, kc_NoName⟩
  have S_NoName : SuC K C_NoName C_NoName := ⟨⟨_, ci_NoName⟩, ⟨_, ci_NoName⟩, su_NoName, nx_NoName, iv_NoName, g_opq⟩
  have O_NoName := fun base : Heap => K00.k_NoName_init (P := l.prog) (w := w) (mg := mg) (base := base) l_NoName c_NoName cc_NoName cd_NoName hv_NoName hf_NoName (PySem.W.mg_none_of X G z_super) g_top
  have E_NoName : ∀ base : Heap, ExcMk1 l.prog w K mg base cl "NoName" "NoName" "name" 1 := fun base => ⟨⟨C_NoName, C_NoName, x_NoName, _, _, cl_NoName, T_NoName, S_NoName, nf_name_NoName, in_NoName, ti_NoName, O_NoName base, L2.Binds.all fun us hl => match us, hl with | [_, _], _ => rfl, PySem.W.mg_of X G aC_NoName⟩⟩
  have T_TakenName : OexC K C_TakenName := ⟨⟨_, _, _, _, _, _, _, _, _, _, _, _, _, _, _, lk_TakenName, by rfl⟩, sa_TakenName, xb_TakenName, ty_TakenName, kc_TakenName⟩
  have S_TakenName : SuC K C_TakenName C_TakenName := ⟨⟨_, ci_TakenName⟩, ⟨_, ci_TakenName⟩, su_TakenName, nx_TakenName, iv_TakenName, g_opq⟩
  have O_TakenName := fun base : Heap => K00.k_TakenName_init (P := l.prog) (w := w) (mg := mg) (base := base) l_TakenName c_TakenName cc_TakenName cd_TakenName hv_TakenName hf_TakenName (PySem.W.mg_none_of X G z_super) g_top
  have E_TakenName : ∀ base : Heap, ExcMk1 l.prog w K mg base cl "TakenName" "TakenName" "name" 1 := fun base => ⟨⟨C_TakenName, C_TakenName, x_TakenName, _, _, cl_TakenName, T_TakenName, S_TakenName, nf_name_TakenName, in_TakenName, ti_TakenName, O_TakenName base, L2.Binds.all fun us hl => match us, hl with | [_, _], _ => rfl, PySem.W.mg_of X G aC_TakenName⟩⟩
  have T_Unlike : OexC K C_Unlike := ⟨⟨_, _, _, _, _, _, _, _, _, _, _, _, _, _, _, lk_Unlike, by rfl⟩, sa_Unlike, xb_Unlike, ty_Unlike, kc_Unlike⟩
  have S_Unlike : SuC K C_Unlike C_Unlike := ⟨⟨_, ci_Unlike⟩, ⟨_, ci_Unlike⟩, su_Unlike, nx_Unlike, iv_Unlike, g_opq⟩
  have O_Unlike := fun base : Heap => K00.k_Unlike_init (P := l.prog) (w := w) (mg := mg) (base := base) l_Unlike c_Unlike cc_Unlike cd_Unlike hv_Unlike hf_Unlike (PySem.W.mg_none_of X G z_super) g_top
  have E_Unlike : ∀ base : Heap, ExcMk1 l.prog w K mg base cl "Unlike" "Unlike" "what" 1 := fun base => ⟨⟨C_Unlike, C_Unlike, x_Unlike, _, _, cl_Unlike, T_Unlike, S_Unlike, nf_what_Unlike, in_Unlike, ti_Unlike, O_Unlike base, L2.Binds.all fun us hl => match us, hl with | [_, _], _ => rfl, PySem.W.mg_of X G aC_Unlike⟩⟩
  have T_TooMany : OexC K C_TooMany := ⟨⟨_, _, _, _, _, _, _, _, _, _, _, _, _, _, _, lk_TooMany, by rfl⟩, sa_TooMany, xb_TooMany, ty_TooMany, kc_TooMany⟩
  have S_TooMany : SuC K C_TooMany C_TooMany := ⟨⟨_, ci_TooMany⟩, ⟨_, ci_TooMany⟩, su_TooMany, nx_TooMany, iv_TooMany, g_opq⟩
  have O_TooMany := fun base : Heap => K00.k_TooMany_init (P := l.prog) (w := w) (mg := mg) (base := base) l_TooMany c_TooMany cc_TooMany cd_TooMany hv_TooMany hf_TooMany (PySem.W.mg_none_of X G z_super) g_top
  have E_TooMany : ∀ base : Heap, ExcMk1 l.prog w K mg base cl "TooMany" "TooMany" "most" 1 := fun base => ⟨⟨C_TooMany, C_TooMany, x_TooMany, _, _, cl_TooMany, T_TooMany, S_TooMany, nf_most_TooMany, in_TooMany, ti_TooMany, O_TooMany base, L2.Binds.all fun us hl => match us, hl with | [_, _], _ => rfl, PySem.W.mg_of X G aC_TooMany⟩⟩
  have T_NotKept : OexC K C_NotKept := ⟨⟨_, _, _, _, _, _, _, _, _, _, _, _, _, _, _, lk_NotKept, by rfl⟩, sa_NotKept, xb_NotKept, ty_NotKept, kc_NotKept⟩
  have S_NotKept : SuC K C_NotKept C_NotKept := ⟨⟨_, ci_NotKept⟩, ⟨_, ci_NotKept⟩, su_NotKept, nx_NotKept, iv_NotKept, g_opq⟩
  have O_NotKept := fun base : Heap => K00.k_NotKept_init (P := l.prog) (w := w) (mg := mg) (base := base) l_NotKept c_NotKept cc_NotKept cd_NotKept hv_NotKept hf_NotKept (PySem.W.mg_none_of X G z_super) g_top
  have E_NotKept : ∀ base : Heap, ExcMk2 l.prog w K mg base cl "NotKept" "NotKept" "promise" "witness" 1 := fun base => ⟨⟨C_NotKept, C_NotKept, x_NotKept, _, _, _, cl_NotKept, T_NotKept, S_NotKept, nf_promise_NotKept, nf_witness_NotKept, in_NotKept, ti_NotKept, O_NotKept base, L2.Binds.all fun us hl => match us, hl with | [_, _, _], _ => rfl, PySem.W.mg_of X G aC_NotKept⟩⟩
  have E_NothingToUndo : Heap → ExcMk0 K mg cl "NothingToUndo" "NothingToUndo" := fun _ => ⟨⟨C_NothingToUndo, _, _, _, _, PySem.F.excBase_ValueError, ei_NothingToUndo, kc_NothingToUndo, cl_NothingToUndo, PySem.W.mg_of X G aC_NothingToUndo⟩⟩
  have E_NothingToRedo : Heap → ExcMk0 K mg cl "NothingToRedo" "NothingToRedo" := fun _ => ⟨⟨C_NothingToRedo, _, _, _, _, PySem.F.excBase_ValueError, ei_NothingToRedo, kc_NothingToRedo, cl_NothingToRedo, PySem.W.mg_of X G aC_NothingToRedo⟩⟩
  have B : Gb K mg cl := ⟨PySem.W.mg_none_of X G z_ValueError, PySem.W.mg_none_of X G z_int, PySem.W.mg_none_of X G z_isinstance, PySem.W.mg_none_of X G z_len, PySem.W.mg_none_of X G z_list, PySem.W.mg_none_of X G z_range, fun C h => by cases (cl_BadLine.symm.trans h); exact ⟨⟨ga_BadLine, gg_BadLine, xb_BadLine, hd_BadLine⟩, nf_column_BadLine⟩, fun C h => by cases (cl_BadLine.symm.trans h); exact ⟨⟨ga_BadLine, gg_BadLine, xb_BadLine, hd_BadLine⟩, nf_line_BadLine⟩, fun C h => by cases (cl_BadMove.symm.trans h); exact ⟨⟨ga_BadMove, gg_BadMove, xb_BadMove, hd_BadMove⟩, nf_index_BadMove⟩, fun C h => by cases (cl_BadName.symm.trans h); exact ⟨⟨ga_BadName, gg_BadName, xb_BadName, hd_BadName⟩, nf_name_BadName⟩, fun C h => by cases (cl_BadNumber.symm.trans h); exact ⟨⟨ga_BadNumber, gg_BadNumber, xb_BadNumber, hd_BadNumber⟩, nf_number_BadNumber⟩, fun C h => by cases (cl_BadNumber.symm.trans h); exact ⟨⟨ga_BadNumber, gg_BadNumber, xb_BadNumber, hd_BadNumber⟩, nf_what_BadNumber⟩, fun C h => by cases (cl_BadRing.symm.trans h); exact ⟨⟨ga_BadRing, gg_BadRing, xb_BadRing, hd_BadRing⟩, nf_index_BadRing⟩, fun C h => by cases (cl_BadRow.symm.trans h); exact ⟨⟨ga_BadRow, gg_BadRow, xb_BadRow, hd_BadRow⟩, nf_row_BadRow⟩, fun C h => by cases (cl_BadText.symm.trans h); exact ⟨⟨ga_BadText, gg_BadText, xb_BadText, hd_BadText⟩, nf_column_BadText⟩, fun C h => by cases (cl_BadTie.symm.trans h); exact ⟨⟨ga_BadTie, gg_BadTie, xb_BadTie, hd_BadTie⟩, nf_tie_BadTie⟩, fun C h => by cases (cl_NoName.symm.trans h); exact ⟨⟨ga_NoName, gg_NoName, xb_NoName, hd_NoName⟩, nf_name_NoName⟩, fun C h => by cases (cl_NotKept.symm.trans h); exact ⟨⟨ga_NotKept, gg_NotKept, xb_NotKept, hd_NotKept⟩, nf_promise_NotKept⟩, fun C h => by cases (cl_NotKept.symm.trans h); exact ⟨⟨ga_NotKept, gg_NotKept, xb_NotKept, hd_NotKept⟩, nf_witness_NotKept⟩, fun C h => by cases (cl_TakenName.symm.trans h); exact ⟨⟨ga_TakenName, gg_TakenName, xb_TakenName, hd_TakenName⟩, nf_name_TakenName⟩, fun C h => by cases (cl_TooMany.symm.trans h); exact ⟨⟨ga_TooMany, gg_TooMany, xb_TooMany, hd_TooMany⟩, nf_most_TooMany⟩, fun C h => by cases (cl_Unlike.symm.trans h); exact ⟨⟨ga_Unlike, gg_Unlike, xb_Unlike, hd_Unlike⟩, nf_what_Unlike⟩, ⟨⟨C_BadLine, PySem.W.mg_of X G aC_BadLine, FM.is (by decide) cl_BadLine⟩⟩, ⟨⟨C_BadMove, PySem.W.mg_of X G aC_BadMove, FM.is (by decide) cl_BadMove⟩⟩, ⟨⟨C_BadName, PySem.W.mg_of X G aC_BadName, FM.is (by decide) cl_BadName⟩⟩, ⟨⟨C_BadNumber, PySem.W.mg_of X G aC_BadNumber, FM.is (by decide) cl_BadNumber⟩⟩, ⟨⟨C_BadRing, PySem.W.mg_of X G aC_BadRing, FM.is (by decide) cl_BadRing⟩⟩, ⟨⟨C_BadRow, PySem.W.mg_of X G aC_BadRow, FM.is (by decide) cl_BadRow⟩⟩, ⟨⟨C_BadText, PySem.W.mg_of X G aC_BadText, FM.is (by decide) cl_BadText⟩⟩, ⟨⟨C_BadTie, PySem.W.mg_of X G aC_BadTie, FM.is (by decide) cl_BadTie⟩⟩, ⟨⟨C_NoName, PySem.W.mg_of X G aC_NoName, FM.is (by decide) cl_NoName⟩⟩, ⟨⟨C_NotKept, PySem.W.mg_of X G aC_NotKept, FM.is (by decide) cl_NotKept⟩⟩, ⟨⟨C_NothingToRedo, PySem.W.mg_of X G aC_NothingToRedo, FM.is (by decide) cl_NothingToRedo⟩⟩, ⟨⟨C_NothingToUndo, PySem.W.mg_of X G aC_NothingToUndo, FM.is (by decide) cl_NothingToUndo⟩⟩, ⟨⟨C_TakenName, PySem.W.mg_of X G aC_TakenName, FM.is (by decide) cl_TakenName⟩⟩, ⟨⟨C_TooMany, PySem.W.mg_of X G aC_TooMany, FM.is (by decide) cl_TooMany⟩⟩, ⟨⟨C_Unlike, PySem.W.mg_of X G aC_Unlike, FM.is (by decide) cl_Unlike⟩⟩, ⟨⟨C_YardError, PySem.W.mg_of X G aC_YardError, FM.is (by decide) cl_YardError⟩⟩, FM.isVE⟩
  have F__law_draw := fun_mk (st := t__law_draw) l__law_draw c__law_draw k__law_draw
  have b__law_draw := F__law_draw.binds (ps := ["_law_pen_here", "_law_many"]) fun _ _ _ _ _ _ us hl => match us, hl with | [_, _], _ => rfl
  have O__law_draw := fun base : Heap => K00.k__law_draw (P := l.prog) (w := w) (base := base) F__law_draw B
  have C__law_draw : ∀ base : Heap, Callee l.prog w K mg base cl "_law_draw" 1 2 s__law_draw := fun base => callee_of (O__law_draw base) (PySem.W.mg_of X G a__law_draw) k__law_draw b__law_draw
  have F__law_kinds := fun_mk (st := t__law_kinds) l__law_kinds c__law_kinds k__law_kinds
  have b__law_kinds := F__law_kinds.binds (ps := ["_law_error"]) fun _ _ _ _ _ _ us hl => match us, hl with | [_], _ => rfl
  have O__law_kinds := fun base : Heap => K00.k__law_kinds (P := l.prog) (w := w) (base := base) F__law_kinds B
  have C__law_kinds : ∀ base : Heap, Callee l.prog w K mg base cl "_law_kinds" 1 1 s__law_kinds := fun base => callee_of (O__law_kinds base) (PySem.W.mg_of X G a__law_kinds) k__law_kinds b__law_kinds
  have F__law_pen := fun_mk (st := t__law_pen) l__law_pen c__law_pen k__law_pen
  have b__law_pen := F__law_pen.binds (ps := ["_law_script"]) fun _ _ _ _ _ _ us hl => match us, hl with | [_], _ => rfl
  have O__law_pen := fun base : Heap => K00.k__law_pen (P := l.prog) (w := w) (base := base) F__law_pen B
  have C__law_pen : ∀ base : Heap, Callee l.prog w K mg base cl "_law_pen" 1 1 s__law_pen := fun base => callee_of (O__law_pen base) (PySem.W.mg_of X G a__law_pen) k__law_pen b__law_pen
  have F__law_pick := fun_mk (st := t__law_pick) l__law_pick c__law_pick k__law_pick
  have b__law_pick := F__law_pick.binds (ps := ["_law_pen_here", "_law_some"]) fun _ _ _ _ _ _ us hl => match us, hl with | [_, _], _ => rfl
  have O__law_pick := fun base : Heap => K00.k__law_pick (P := l.prog) (w := w) (base := base) F__law_pick B (C__law_draw base)
  have C__law_pick : ∀ base : Heap, Callee l.prog w K mg base cl "_law_pick" 2 2 s__law_pick := fun base => callee_of (O__law_pick base) (PySem.W.mg_of X G a__law_pick) k__law_pick b__law_pick
  have F_law := fun_mk (st := t_law) l_law c_law k_law
  have b_law := F_law.binds (ps := ["_law_script"]) fun _ _ _ _ _ _ us hl => match us, hl with | [_], _ => rfl
  have O_law := fun base : Heap => K00.k_law (P := l.prog) (w := w) (base := base) F_law B (E_BadLine base) (E_BadMove base) (E_BadName base) (E_BadNumber base) (E_BadRing base) (E_BadRow base) (E_BadText base) (E_BadTie base) (E_NoName base) (E_NotKept base) (E_NothingToRedo base) (E_NothingToUndo base) (E_TakenName base) (E_TooMany base) (E_Unlike base) (E_YardError base) (C__law_kinds base) (C__law_pen base) (C__law_pick base)
  exact ⟨_, fun s v => .of_eq rfl, fun base _ _ => (O_law base).imp (sp_true (fun n => by
    show (if TabN n = "YardError" then some C_YardError else if TabN n = "BadText" then some C_BadText else if TabN n = "BadLine" then some C_BadLine else if TabN n = "BadNumber" then some C_BadNumber else if TabN n = "BadRow" then some C_BadRow else if TabN n = "BadTie" then some C_BadTie else if TabN n = "BadRing" then some C_BadRing else if TabN n = "BadMove" then some C_BadMove else if TabN n = "BadName" then some C_BadName else if TabN n = "NoName" then some C_NoName else if TabN n = "TakenName" then some C_TakenName else if TabN n = "Unlike" then some C_Unlike else if TabN n = "TooMany" then some C_TooMany else if TabN n = "NotKept" then some C_NotKept else if TabN n = "NothingToUndo" then some C_NothingToUndo else if TabN n = "NothingToRedo" then some C_NothingToRedo else none) = none
    repeat rw [if_neg (tabN_ne (by decide))]) law_true)⟩
end K00
open PySem PySem.W PyProof.Rows
set_option maxRecDepth 100000 in
set_option maxHeartbeats 0 in
theorem PySem.Challenge.cw_slideyards_k00_errors_holds : PySem.Challenge.rw_slideyards_k00_errors.Holds := by
  w_on; o_law; k_head; (case hw => w_witness2)
  k_fill
  refine PV.walk63 (l := PySem.Challenge.rw_slideyards_k00_errors) (k := 3) (x := "_law_script") rfl rfl ⟨rfl, by decide, by decide⟩ (fun w h Y => PySem.W.kIn_of Y) ?F
  case F =>
    intro w mg fa h KX G hmg
    refine' K00.all_mk (l := PySem.Challenge.rw_slideyards_k00_errors) KX G hmg ?aC_YardError ?aC_BadText ?aC_BadLine ?aC_BadNumber ?aC_BadRow ?aC_BadTie ?aC_BadRing ?aC_BadMove ?aC_BadName ?aC_NoName ?aC_TakenName ?aC_Unlike ?aC_TooMany ?aC_NotKept ?aC_NothingToUndo ?aC_NothingToRedo ?lk_YardError ?sa_YardError ?ga_YardError ?gg_YardError ?ha_YardError ?xb_YardError ?ty_YardError ?kc_YardError ?hd_YardError ?mo_YardError ?ei_YardError ?lk_BadText ?sa_BadText ?ga_BadText ?gg_BadText ?ha_BadText ?xb_BadText ?ty_BadText ?kc_BadText ?hd_BadText ?mo_BadText ?nf_column_BadText ?in_BadText ?ti_BadText ?l_BadText ?c_BadText ?cc_BadText ?cd_BadText ?hv_BadText ?hf_BadText ?su_BadText ?nx_BadText ?iv_BadText ?lk_BadLine ?sa_BadLine ?ga_BadLine ?gg_BadLine ?ha_BadLine ?xb_BadLine ?ty_BadLine ?kc_BadLine ?hd_BadLine ?mo_BadLine ?nf_line_BadLine ?nf_column_BadLine ?in_BadLine ?ti_BadLine ?l_BadLine ?c_BadLine ?cc_BadLine ?cd_BadLine ?hv_BadLine ?hf_BadLine ?su_BadLine ?nx_BadLine ?iv_BadLine ?lk_BadNumber ?sa_BadNumber ?ga_BadNumber ?gg_BadNumber ?ha_BadNumber ?xb_BadNumber ?ty_BadNumber ?kc_BadNumber ?hd_BadNumber ?mo_BadNumber ?nf_what_BadNumber ?nf_number_BadNumber ?in_BadNumber ?ti_BadNumber ?l_BadNumber ?c_BadNumber ?cc_BadNumber ?cd_BadNumber ?hv_BadNumber ?hf_BadNumber ?su_BadNumber ?nx_BadNumber ?iv_BadNumber ?lk_BadRow ?sa_BadRow ?ga_BadRow ?gg_BadRow ?ha_BadRow ?xb_BadRow ?ty_BadRow ?kc_BadRow ?hd_BadRow ?mo_BadRow ?nf_row_BadRow ?in_BadRow ?ti_BadRow ?l_BadRow ?c_BadRow ?cc_BadRow ?cd_BadRow ?hv_BadRow ?hf_BadRow ?su_BadRow ?nx_BadRow ?iv_BadRow ?lk_BadTie ?sa_BadTie ?ga_BadTie ?gg_BadTie ?ha_BadTie ?xb_BadTie ?ty_BadTie ?kc_BadTie ?hd_BadTie ?mo_BadTie ?nf_tie_BadTie ?in_BadTie ?ti_BadTie ?l_BadTie ?c_BadTie ?cc_BadTie ?cd_BadTie ?hv_BadTie ?hf_BadTie ?su_BadTie ?nx_BadTie ?iv_BadTie ?lk_BadRing ?sa_BadRing ?ga_BadRing ?gg_BadRing ?ha_BadRing ?xb_BadRing ?ty_BadRing ?kc_BadRing ?hd_BadRing ?mo_BadRing ?nf_index_BadRing ?in_BadRing ?ti_BadRing ?l_BadRing ?c_BadRing ?cc_BadRing ?cd_BadRing ?hv_BadRing ?hf_BadRing ?su_BadRing ?nx_BadRing ?iv_BadRing ?lk_BadMove ?sa_BadMove ?ga_BadMove ?gg_BadMove ?ha_BadMove ?xb_BadMove ?ty_BadMove ?kc_BadMove ?hd_BadMove ?mo_BadMove ?nf_index_BadMove ?in_BadMove ?ti_BadMove ?l_BadMove ?c_BadMove ?cc_BadMove ?cd_BadMove ?hv_BadMove ?hf_BadMove ?su_BadMove ?nx_BadMove ?iv_BadMove ?lk_BadName ?sa_BadName ?ga_BadName ?gg_BadName ?ha_BadName ?xb_BadName ?ty_BadName ?kc_BadName ?hd_BadName ?mo_BadName ?nf_name_BadName ?in_BadName ?ti_BadName ?l_BadName ?c_BadName ?cc_BadName ?cd_BadName ?hv_BadName ?hf_BadName ?su_BadName ?nx_BadName ?iv_BadName ?lk_NoName ?sa_NoName ?ga_NoName ?gg_NoName ?ha_NoName ?xb_NoName ?ty_NoName ?kc_NoName ?hd_NoName ?mo_NoName ?nf_name_NoName ?in_NoName ?ti_NoName ?l_NoName ?c_NoName ?cc_NoName ?cd_NoName ?hv_NoName ?hf_NoName ?su_NoName ?nx_NoName ?iv_NoName ?lk_TakenName ?sa_TakenName ?ga_TakenName ?gg_TakenName ?ha_TakenName ?xb_TakenName ?ty_TakenName ?kc_TakenName ?hd_TakenName ?mo_TakenName ?nf_name_TakenName ?in_TakenName ?ti_TakenName ?l_TakenName ?c_TakenName ?cc_TakenName ?cd_TakenName ?hv_TakenName ?hf_TakenName ?su_TakenName ?nx_TakenName ?iv_TakenName ?lk_Unlike ?sa_Unlike ?ga_Unlike ?gg_Unlike ?ha_Unlike ?xb_Unlike ?ty_Unlike ?kc_Unlike ?hd_Unlike ?mo_Unlike ?nf_what_Unlike ?in_Unlike ?ti_Unlike ?l_Unlike ?c_Unlike ?cc_Unlike ?cd_Unlike ?hv_Unlike ?hf_Unlike ?su_Unlike ?nx_Unlike ?iv_Unlike ?lk_TooMany ?sa_TooMany ?ga_TooMany ?gg_TooMany ?ha_TooMany ?xb_TooMany ?ty_TooMany ?kc_TooMany ?hd_TooMany ?mo_TooMany ?nf_most_TooMany ?in_TooMany ?ti_TooMany ?l_TooMany ?c_TooMany ?cc_TooMany ?cd_TooMany ?hv_TooMany ?hf_TooMany ?su_TooMany ?nx_TooMany ?iv_TooMany ?lk_NotKept ?sa_NotKept ?ga_NotKept ?gg_NotKept ?ha_NotKept ?xb_NotKept ?ty_NotKept ?kc_NotKept ?hd_NotKept ?mo_NotKept ?nf_promise_NotKept ?nf_witness_NotKept ?in_NotKept ?ti_NotKept ?l_NotKept ?c_NotKept ?cc_NotKept ?cd_NotKept ?hv_NotKept ?hf_NotKept ?su_NotKept ?nx_NotKept ?iv_NotKept ?lk_NothingToUndo ?sa_NothingToUndo ?ga_NothingToUndo ?gg_NothingToUndo ?ha_NothingToUndo ?xb_NothingToUndo ?ty_NothingToUndo ?kc_NothingToUndo ?hd_NothingToUndo ?mo_NothingToUndo ?ei_NothingToUndo ?lk_NothingToRedo ?sa_NothingToRedo ?ga_NothingToRedo ?gg_NothingToRedo ?ha_NothingToRedo ?xb_NothingToRedo ?ty_NothingToRedo ?kc_NothingToRedo ?hd_NothingToRedo ?mo_NothingToRedo ?ei_NothingToRedo ?g_hn ?g_ht ?g_opq ?z_super ?g_top ?z_ValueError ?z_int ?z_isinstance ?z_len ?z_list ?z_range ?a__law_draw ?l__law_draw ?c__law_draw ?k__law_draw ?a__law_kinds ?l__law_kinds ?c__law_kinds ?k__law_kinds ?a__law_pen ?l__law_pen ?c__law_pen ?k__law_pen ?a__law_pick ?l__law_pick ?c__law_pick ?k__law_pick ?a_law ?l_law ?c_law ?k_law
    (case aC_YardError => k_is)
    (case aC_BadText => k_is)
    (case aC_BadLine => k_is)
    (case aC_BadNumber => k_is)
    (case aC_BadRow => k_is)
    (case aC_BadTie => k_is)
    (case aC_BadRing => k_is)
    (case aC_BadMove => k_is)
    (case aC_BadName => k_is)
    (case aC_NoName => k_is)
    (case aC_TakenName => k_is)
    (case aC_Unlike => k_is)
    (case aC_TooMany => k_is)
    (case aC_NotKept => k_is)
    (case aC_NothingToUndo => k_is)
    (case aC_NothingToRedo => k_is)
    (case lk_YardError => k_is)
    (case sa_YardError => k_is)
    (case ga_YardError => k_is)
    (case gg_YardError => k_is)
    (case ha_YardError => k_is)
    (case xb_YardError => k_is)
    (case ty_YardError => k_is)
    (case kc_YardError => k_is)
    (case hd_YardError => k_is)
    (case mo_YardError => k_is)
    (case ei_YardError => first | k_is | rfl | kernel_rfl)
    (case lk_BadText => k_is)
    (case sa_BadText => k_is)
    (case ga_BadText => k_is)
    (case gg_BadText => k_is)
    (case ha_BadText => k_is)
    (case xb_BadText => k_is)
    (case ty_BadText => k_is)
    (case kc_BadText => k_is)
    (case hd_BadText => k_is)
    (case mo_BadText => k_is)
    (case nf_column_BadText => k_is)
    (case in_BadText => k_is)
    (case ti_BadText => k_is)
    (case l_BadText => k_is)
    (case c_BadText => k_is)
    (case cc_BadText => k_is)
    (case cd_BadText => k_is)
    (case hv_BadText => rfl)
    (case hf_BadText => first | rfl | kernel_rfl)
    (case su_BadText => k_is)
    (case nx_BadText => first | k_is | rfl | kernel_rfl)
    (case iv_BadText => k_is)
    (case lk_BadLine => k_is)
    (case sa_BadLine => k_is)
    (case ga_BadLine => k_is)
    (case gg_BadLine => k_is)
    (case ha_BadLine => k_is)
    (case xb_BadLine => k_is)
    (case ty_BadLine => k_is)
    (case kc_BadLine => k_is)
    (case hd_BadLine => k_is)
    (case mo_BadLine => k_is)
    (case nf_line_BadLine => k_is)
    (case nf_column_BadLine => k_is)
    (case in_BadLine => k_is)
    (case ti_BadLine => k_is)
    (case l_BadLine => k_is)
    (case c_BadLine => k_is)
    (case cc_BadLine => k_is)
    (case cd_BadLine => k_is)
    (case hv_BadLine => rfl)
    (case hf_BadLine => first | rfl | kernel_rfl)
    (case su_BadLine => k_is)
    (case nx_BadLine => first | k_is | rfl | kernel_rfl)
    (case iv_BadLine => k_is)
    (case lk_BadNumber => k_is)
    (case sa_BadNumber => k_is)
    (case ga_BadNumber => k_is)
    (case gg_BadNumber => k_is)
    (case ha_BadNumber => k_is)
    (case xb_BadNumber => k_is)
    (case ty_BadNumber => k_is)
    (case kc_BadNumber => k_is)
    (case hd_BadNumber => k_is)
    (case mo_BadNumber => k_is)
    (case nf_what_BadNumber => k_is)
    (case nf_number_BadNumber => k_is)
    (case in_BadNumber => k_is)
    (case ti_BadNumber => k_is)
    (case l_BadNumber => k_is)
    (case c_BadNumber => k_is)
    (case cc_BadNumber => k_is)
    (case cd_BadNumber => k_is)
    (case hv_BadNumber => rfl)
    (case hf_BadNumber => first | rfl | kernel_rfl)
    (case su_BadNumber => k_is)
    (case nx_BadNumber => first | k_is | rfl | kernel_rfl)
    (case iv_BadNumber => k_is)
    (case lk_BadRow => k_is)
    (case sa_BadRow => k_is)
    (case ga_BadRow => k_is)
    (case gg_BadRow => k_is)
    (case ha_BadRow => k_is)
    (case xb_BadRow => k_is)
    (case ty_BadRow => k_is)
    (case kc_BadRow => k_is)
    (case hd_BadRow => k_is)
    (case mo_BadRow => k_is)
    (case nf_row_BadRow => k_is)
    (case in_BadRow => k_is)
    (case ti_BadRow => k_is)
    (case l_BadRow => k_is)
    (case c_BadRow => k_is)
    (case cc_BadRow => k_is)
    (case cd_BadRow => k_is)
    (case hv_BadRow => rfl)
    (case hf_BadRow => first | rfl | kernel_rfl)
    (case su_BadRow => k_is)
    (case nx_BadRow => first | k_is | rfl | kernel_rfl)
    (case iv_BadRow => k_is)
    (case lk_BadTie => k_is)
    (case sa_BadTie => k_is)
    (case ga_BadTie => k_is)
    (case gg_BadTie => k_is)
    (case ha_BadTie => k_is)
    (case xb_BadTie => k_is)
    (case ty_BadTie => k_is)
    (case kc_BadTie => k_is)
    (case hd_BadTie => k_is)
    (case mo_BadTie => k_is)
    (case nf_tie_BadTie => k_is)
    (case in_BadTie => k_is)
    (case ti_BadTie => k_is)
    (case l_BadTie => k_is)
    (case c_BadTie => k_is)
    (case cc_BadTie => k_is)
    (case cd_BadTie => k_is)
    (case hv_BadTie => rfl)
    (case hf_BadTie => first | rfl | kernel_rfl)
    (case su_BadTie => k_is)
    (case nx_BadTie => first | k_is | rfl | kernel_rfl)
    (case iv_BadTie => k_is)
    (case lk_BadRing => k_is)
    (case sa_BadRing => k_is)
    (case ga_BadRing => k_is)
    (case gg_BadRing => k_is)
    (case ha_BadRing => k_is)
    (case xb_BadRing => k_is)
    (case ty_BadRing => k_is)
    (case kc_BadRing => k_is)
    (case hd_BadRing => k_is)
    (case mo_BadRing => k_is)
    (case nf_index_BadRing => k_is)
    (case in_BadRing => k_is)
    (case ti_BadRing => k_is)
    (case l_BadRing => k_is)
    (case c_BadRing => k_is)
    (case cc_BadRing => k_is)
    (case cd_BadRing => k_is)
    (case hv_BadRing => rfl)
    (case hf_BadRing => first | rfl | kernel_rfl)
    (case su_BadRing => k_is)
    (case nx_BadRing => first | k_is | rfl | kernel_rfl)
    (case iv_BadRing => k_is)
    (case lk_BadMove => k_is)
    (case sa_BadMove => k_is)
    (case ga_BadMove => k_is)
    (case gg_BadMove => k_is)
    (case ha_BadMove => k_is)
    (case xb_BadMove => k_is)
    (case ty_BadMove => k_is)
    (case kc_BadMove => k_is)
    (case hd_BadMove => k_is)
    (case mo_BadMove => k_is)
    (case nf_index_BadMove => k_is)
    (case in_BadMove => k_is)
    (case ti_BadMove => k_is)
    (case l_BadMove => k_is)
    (case c_BadMove => k_is)
    (case cc_BadMove => k_is)
    (case cd_BadMove => k_is)
    (case hv_BadMove => rfl)
    (case hf_BadMove => first | rfl | kernel_rfl)
    (case su_BadMove => k_is)
    (case nx_BadMove => first | k_is | rfl | kernel_rfl)
    (case iv_BadMove => k_is)
    (case lk_BadName => k_is)
    (case sa_BadName => k_is)
    (case ga_BadName => k_is)
    (case gg_BadName => k_is)
    (case ha_BadName => k_is)
    (case xb_BadName => k_is)
    (case ty_BadName => k_is)
    (case kc_BadName => k_is)
    (case hd_BadName => k_is)
    (case mo_BadName => k_is)
    (case nf_name_BadName => k_is)
    (case in_BadName => k_is)
    (case ti_BadName => k_is)
    (case l_BadName => k_is)
    (case c_BadName => k_is)
    (case cc_BadName => k_is)
    (case cd_BadName => k_is)
    (case hv_BadName => rfl)
    (case hf_BadName => first | rfl | kernel_rfl)
    (case su_BadName => k_is)
    (case nx_BadName => first | k_is | rfl | kernel_rfl)
    (case iv_BadName => k_is)
    (case lk_NoName => k_is)
    (case sa_NoName => k_is)
    (case ga_NoName => k_is)
    (case gg_NoName => k_is)
    (case ha_NoName => k_is)
    (case xb_NoName => k_is)
    (case ty_NoName => k_is)
    (case kc_NoName => k_is)
    (case hd_NoName => k_is)
    (case mo_NoName => k_is)
    (case nf_name_NoName => k_is)
    (case in_NoName => k_is)
    (case ti_NoName => k_is)
    (case l_NoName => k_is)
    (case c_NoName => k_is)
    (case cc_NoName => k_is)
    (case cd_NoName => k_is)
    (case hv_NoName => rfl)
    (case hf_NoName => first | rfl | kernel_rfl)
    (case su_NoName => k_is)
    (case nx_NoName => first | k_is | rfl | kernel_rfl)
    (case iv_NoName => k_is)
    (case lk_TakenName => k_is)
    (case sa_TakenName => k_is)
    (case ga_TakenName => k_is)
    (case gg_TakenName => k_is)
    (case ha_TakenName => k_is)
    (case xb_TakenName => k_is)
    (case ty_TakenName => k_is)
    (case kc_TakenName => k_is)
    (case hd_TakenName => k_is)
    (case mo_TakenName => k_is)
    (case nf_name_TakenName => k_is)
    (case in_TakenName => k_is)
    (case ti_TakenName => k_is)
    (case l_TakenName => k_is)
    (case c_TakenName => k_is)
    (case cc_TakenName => k_is)
    (case cd_TakenName => k_is)
    (case hv_TakenName => rfl)
    (case hf_TakenName => first | rfl | kernel_rfl)
    (case su_TakenName => k_is)
    (case nx_TakenName => first | k_is | rfl | kernel_rfl)
    (case iv_TakenName => k_is)
    (case lk_Unlike => k_is)
    (case sa_Unlike => k_is)
    (case ga_Unlike => k_is)
    (case gg_Unlike => k_is)
    (case ha_Unlike => k_is)
    (case xb_Unlike => k_is)
    (case ty_Unlike => k_is)
    (case kc_Unlike => k_is)
    (case hd_Unlike => k_is)
    (case mo_Unlike => k_is)
    (case nf_what_Unlike => k_is)
    (case in_Unlike => k_is)
    (case ti_Unlike => k_is)
    (case l_Unlike => k_is)
    (case c_Unlike => k_is)
    (case cc_Unlike => k_is)
    (case cd_Unlike => k_is)
    (case hv_Unlike => rfl)
    (case hf_Unlike => first | rfl | kernel_rfl)
    (case su_Unlike => k_is)
    (case nx_Unlike => first | k_is | rfl | kernel_rfl)
    (case iv_Unlike => k_is)
    (case lk_TooMany => k_is)
    (case sa_TooMany => k_is)
    (case ga_TooMany => k_is)
    (case gg_TooMany => k_is)
    (case ha_TooMany => k_is)
    (case xb_TooMany => k_is)
    (case ty_TooMany => k_is)
    (case kc_TooMany => k_is)
    (case hd_TooMany => k_is)
    (case mo_TooMany => k_is)
    (case nf_most_TooMany => k_is)
    (case in_TooMany => k_is)
    (case ti_TooMany => k_is)
    (case l_TooMany => k_is)
    (case c_TooMany => k_is)
    (case cc_TooMany => k_is)
    (case cd_TooMany => k_is)
    (case hv_TooMany => rfl)
    (case hf_TooMany => first | rfl | kernel_rfl)
    (case su_TooMany => k_is)
    (case nx_TooMany => first | k_is | rfl | kernel_rfl)
    (case iv_TooMany => k_is)
    (case lk_NotKept => k_is)
    (case sa_NotKept => k_is)
    (case ga_NotKept => k_is)
    (case gg_NotKept => k_is)
    (case ha_NotKept => k_is)
    (case xb_NotKept => k_is)
    (case ty_NotKept => k_is)
    (case kc_NotKept => k_is)
    (case hd_NotKept => k_is)
    (case mo_NotKept => k_is)
    (case nf_promise_NotKept => k_is)
    (case nf_witness_NotKept => k_is)
    (case in_NotKept => k_is)
    (case ti_NotKept => k_is)
    (case l_NotKept => k_is)
    (case c_NotKept => k_is)
    (case cc_NotKept => k_is)
    (case cd_NotKept => k_is)
    (case hv_NotKept => rfl)
    (case hf_NotKept => first | rfl | kernel_rfl)
    (case su_NotKept => k_is)
    (case nx_NotKept => first | k_is | rfl | kernel_rfl)
    (case iv_NotKept => k_is)
    (case lk_NothingToUndo => k_is)
    (case sa_NothingToUndo => k_is)
    (case ga_NothingToUndo => k_is)
    (case gg_NothingToUndo => k_is)
    (case ha_NothingToUndo => k_is)
    (case xb_NothingToUndo => k_is)
    (case ty_NothingToUndo => k_is)
    (case kc_NothingToUndo => k_is)
    (case hd_NothingToUndo => k_is)
    (case mo_NothingToUndo => k_is)
    (case ei_NothingToUndo => first | k_is | rfl | kernel_rfl)
    (case lk_NothingToRedo => k_is)
    (case sa_NothingToRedo => k_is)
    (case ga_NothingToRedo => k_is)
    (case gg_NothingToRedo => k_is)
    (case ha_NothingToRedo => k_is)
    (case xb_NothingToRedo => k_is)
    (case ty_NothingToRedo => k_is)
    (case kc_NothingToRedo => k_is)
    (case hd_NothingToRedo => k_is)
    (case mo_NothingToRedo => k_is)
    (case ei_NothingToRedo => first | k_is | rfl | kernel_rfl)
    (case g_hn => k_is)
    (case g_ht => k_is)
    (case g_opq => k_is)
    (case z_super => k_is)
    (case g_top => first | rfl | kernel_rfl)
    (case z_ValueError => k_is)
    (case z_int => k_is)
    (case z_isinstance => k_is)
    (case z_len => k_is)
    (case z_list => k_is)
    (case z_range => k_is)
    (case a__law_draw => k_is)
    (case l__law_draw => k_is)
    (case c__law_draw => k_is)
    (case k__law_draw => k_is)
    (case a__law_kinds => k_is)
    (case l__law_kinds => k_is)
    (case c__law_kinds => k_is)
    (case k__law_kinds => k_is)
    (case a__law_pen => k_is)
    (case l__law_pen => k_is)
    (case c__law_pen => k_is)
    (case k__law_pen => k_is)
    (case a__law_pick => k_is)
    (case l__law_pick => k_is)
    (case c__law_pick => k_is)
    (case k__law_pick => k_is)
    (case a_law => k_is)
    (case l_law => k_is)
    (case c_law => k_is)
    (case k_law => k_is)

