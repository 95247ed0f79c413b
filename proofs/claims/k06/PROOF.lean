import PyProof.Rows.All
import Wide.All
import OpenK.AllK
import Wide.FinOn
import HandS.ForMost
import HandS.Exc
import HandS.ExcOwn
import HandS.WordsExc
import HandS.TupMul
import HandS.TupAny
import HandS.TupLen
import HandS.Deep
import HandS.Wide
import HandS.IsInst
import HandS.Conv
import HandS.SortRule
import HandS.SortInts
import KE.GoesMore
import HandS.Zip
import KE.KDictZip
import KE.GoesZip
import HandS.More
import HandS.SetFor
import HandS.Style
import PySem.Challenge.RW_slideyards_k06_whole_moves_taken_back
set_option Elab.async false
set_option linter.all false
set_option maxRecDepth 100000
set_option maxHeartbeats 4000000
/-! PvA: data P, how it lies on the heap (RP); owned containers D (RD); a frame's state (St); what a step may change (Step). -/
namespace PV
open PySem L2

inductive P where
  | non | bl (b : Bool) | int (i : Int) | str (s : Str)
  | tup (xs : List P) | lst (xs : List P)
  | dK (ks : List Key) (vs : List P) | dT (ks : List (List Key)) (vs : List P)
  | ins (c : String) (ns : List String) (vs : List P)
  /-- a list that can't be changed by anybody: the script -/
  | fz (xs : List P)
  deriving Inhabited

abbrev ofS (x : String) : Str := Str.ofString x

inductive Own where
  | free | out | at (i : Nat) | res | tmp
  deriving DecidableEq
abbrev Om := Addr → Own

/-- a tuple never changes -/
def isT : HO → Bool
  | .tup _ => true
  | .frz _ (.tup _) => true
  | _ => false

/-- the script: a locked list, or one that the text has written -/
def SqZ (K : PySem.W.Frag) (H : Hp) (N : Addr → Prop) (a : Addr) (vs : List V) : Prop := (∃ o, H a = some (.frz o (.lst vs)) ∧ N a) ∨
  ∃ (o : Obj) (its : Array Value) (n : Nat), K.lookup a = some o ∧ o.cls = .type "list" ∧ o.dict = none ∧ o.data = .seq its n ∧ its.size ≤ sizeLine ∧ Vals vs its.toList
theorem SqZ.sq {K : PySem.W.Frag} {H : Hp} {N : Addr → Prop} {a : Addr} {vs : List V} (h : SqZ K H N a vs) : SqL K H a vs := by
  rcases h with ⟨o, h, _⟩ | h
  · exact .inl (.inr ⟨o, h⟩)
  · exact .inr h
mutual
inductive RP (K : PySem.W.Frag) (cl : String → Option Addr) (H : Hp) (N : Addr → Prop) : P → V → Prop
  | non : RP K cl H N .non .non
  | bl (b : Bool) : RP K cl H N (.bl b) (.bl b)
  | int (i : Int) : RP K cl H N (.int i) (.int i)
  | str (x : Str) : RP K cl H N (.str x) (.str x)
  | tup {a : Addr} {vs : List V} {xs : List P} : H a = some (.tup vs) → RPs K cl H N xs vs → RP K cl H N (.tup xs) (.ref a)
  | fz {a : Addr} {vs : List V} {xs : List P} : SqZ K H N a vs → RPs K cl H N xs vs → RP K cl H N (.fz xs) (.ref a)
  | lst {a : Addr} {vs : List V} {xs : List P} : H a = some (.lst vs) → N a → RPs K cl H N xs vs → RP K cl H N (.lst xs) (.ref a)
  | dK {a : Addr} {kvs : List (Key × V)} {ks : List Key} {xs : List P} : Rd H a (.dK kvs) → N a → kvs.map (·.1) = ks → RPs K cl H N xs (kvs.map (·.2)) → RP K cl H N (.dK ks xs) (.ref a)
  | dT {a : Addr} {kvs : List (List Key × V)} {ks : List (List Key)} {xs : List P} : Rd H a (.dT kvs) → N a → kvs.map (·.1) = ks → RPs K cl H N xs (kvs.map (·.2)) → RP K cl H N (.dT ks xs) (.ref a)
  | ins {a C dx : Addr} {fs : List (Str × V)} {c : String} {ns : List String} {xs : List P} : H a = some (.ins C dx fs) → N a → cl c = some C → fs.map (·.1) = ns.map ofS → RPs K cl H N xs (fs.map (·.2)) → RP K cl H N (.ins c ns xs) (.ref a)
inductive RPs (K : PySem.W.Frag) (cl : String → Option Addr) (H : Hp) (N : Addr → Prop) : List P → List V → Prop
  | nil : RPs K cl H N [] []
  | cons {x : P} {v : V} {xs : List P} {vs : List V} : RP K cl H N x v → RPs K cl H N xs vs → RPs K cl H N (x :: xs) (v :: vs)
end

section
variable {K : PySem.W.Frag} {cl : String → Option Addr} {H H' : Hp} {N N' : Addr → Prop}
theorem rd_ne {a : Addr} {u : HO} (h : L2.Rd H a u) : H a ≠ none := by
  rcases h with h | ⟨o, h⟩ <;> (rw [h]; intro z; cases z)
theorem rd_keep {a : Addr} {u : HO} (h : L2.Rd H a u) (k : ∀ o, H a = some o → H' a = some o) : L2.Rd H' a u := by
  rcases h with h | ⟨o, h⟩
  · exact .inl (k _ h)
  · exact .inr ⟨o, k _ h⟩
theorem sqL_keep {a : Addr} {vs : List V} (h : SqL K H a vs) (k : ∀ o, H a = some o → H' a = some o) : SqL K H' a vs := by
  rcases h with h | h
  · exact .inl (rd_keep h k)
  · exact .inr h
theorem sqT_keep {a : Addr} {vs : List V} (h : SqT K H a vs) (k : ∀ a o, H a = some o → isT o = true → H' a = some o) : SqT K H' a vs := by
  rcases h with (h | ⟨o, h⟩) | h
  · exact .inl (.inl (k _ _ h rfl))
  · exact .inl (.inr ⟨o, k _ _ h rfl⟩)
  · exact .inr h
/-- a dict may be locked for good (a loop walks it) -/
def isD : HO → Bool
  | .dK _ => true
  | .dT _ => true
  | _ => false
def Kp (H' : Hp) (a : Addr) (o : HO) : Prop := H' a = some o ∨ isD o = true ∧ ∃ od, H' a = some (.frz od o)
theorem Kp.of {a : Addr} {o : HO} (k : Kp H' a o) (h : isD o = false) : H' a = some o := by
  rcases k with k | ⟨k, _⟩
  · exact k
  · rw [h] at k; cases k
theorem Kp.rd {a : Addr} {o : HO} (h : L2.Rd H a o) (k : ∀ u, H a = some u → Kp H' a u) : L2.Rd H' a o := by
  rcases h with h | ⟨od, h⟩
  · rcases k _ h with k | ⟨_, od, k⟩
    · exact .inl k
    · exact .inr ⟨od, k⟩
  · exact .inr ⟨od, (k _ h).of rfl⟩
/-- data stands while its cells and all tuples stand -/
structure Keeps (H H' : Hp) (N N' : Addr → Prop) : Prop where
  fr : ∀ a o, H a = some o → N a → Kp H' a o
  tp : ∀ a o, H a = some o → isT o = true → H' a = some o
  nn : ∀ a, N a → H a ≠ none → N' a
mutual
theorem RP.keep (k : Keeps H H' N N') : ∀ (x : P) (v : V), RP K cl H N x v → RP K cl H' N' x v
  | .non, _, h => by cases h; exact .non
  | .bl _, _, h => by cases h; exact .bl _
  | .int _, _, h => by cases h; exact .int _
  | .str _, _, h => by cases h; exact .str _
  | .tup xs, _, h => by
    cases h with
    | tup h1 h2 => exact .tup (k.tp _ _ h1 rfl) (RPs.keep k xs _ h2)
  | .lst xs, _, h => by
    cases h with
    | lst h1 h2 h3 => exact .lst ((k.fr _ _ h1 h2).of rfl) (k.nn _ h2 (by rw [h1]; intro z; cases z)) (RPs.keep k xs _ h3)
  | .fz xs, _, h => by
    cases h with
    | fz h1 h3 =>
      refine .fz ?_ (RPs.keep k xs _ h3)
      rcases h1 with ⟨o, h1, h2⟩ | h1
      · exact .inl ⟨o, (k.fr _ _ h1 h2).of rfl, k.nn _ h2 (by rw [h1]; intro z; cases z)⟩
      · exact .inr h1
  | .dK ks xs, _, h => by
    cases h with
    | dK h1 h2 h0 h3 => exact .dK (Kp.rd h1 fun o e => k.fr _ o e h2) (k.nn _ h2 (rd_ne h1)) h0 (RPs.keep k xs _ h3)
  | .dT ks xs, _, h => by
    cases h with
    | dT h1 h2 h0 h3 => exact .dT (Kp.rd h1 fun o e => k.fr _ o e h2) (k.nn _ h2 (rd_ne h1)) h0 (RPs.keep k xs _ h3)
  | .ins c ns xs, _, h => by
    cases h with
    | ins h1 h2 h3 h4 h5 => exact .ins ((k.fr _ _ h1 h2).of rfl) (k.nn _ h2 (by rw [h1]; intro z; cases z)) h3 h4 (RPs.keep k xs _ h5)
theorem RPs.keep (k : Keeps H H' N N') : ∀ (xs : List P) (vs : List V), RPs K cl H N xs vs → RPs K cl H' N' xs vs
  | [], _, h => by cases h; exact .nil
  | x :: xs, _, h => by
    cases h with
    | cons h1 h2 => exact .cons (RP.keep k x _ h1) (RPs.keep k xs _ h2)
end
theorem RPs.length : ∀ {xs : List P} {vs : List V}, RPs K cl H N xs vs → xs.length = vs.length
  | [], _, h => by cases h; rfl
  | x :: xs, _, h => by
    cases h with
    | cons h1 h2 => simp [RPs.length h2]
theorem RPs.get : ∀ {xs : List P} {vs : List V} {i : Nat} {x : P}, RPs K cl H N xs vs → xs[i]? = some x → ∃ v, vs[i]? = some v ∧ RP K cl H N x v
  | [], _, _, _, _, e => by simp at e
  | y :: xs, _, i, x, h, e => by
    cases h with
    | cons h1 h2 =>
      cases i with
      | zero => simp at e; subst e; exact ⟨_, rfl, h1⟩
      | succ i =>
        obtain ⟨v, e1, r⟩ := RPs.get (i := i) (x := x) h2 (by simpa using e)
        exact ⟨v, by simpa using e1, r⟩
theorem RPs.get' {xs : List P} {vs : List V} {i : Nat} {v : V} (h : RPs K cl H N xs vs) (e : vs[i]? = some v) : ∃ x, xs[i]? = some x ∧ RP K cl H N x v := by
  have hl := h.length
  have hi : i < xs.length := by
    have := (List.getElem?_eq_some_iff.mp e).1
    omega
  obtain ⟨w, e1, r⟩ := h.get (List.getElem?_eq_getElem hi)
  rw [e] at e1; cases e1
  exact ⟨_, List.getElem?_eq_getElem hi, r⟩
theorem RPs.append : ∀ {xs ys : List P} {vs ws : List V}, RPs K cl H N xs vs → RPs K cl H N ys ws → RPs K cl H N (xs ++ ys) (vs ++ ws)
  | [], _, _, _, h, g => by cases h; exact g
  | x :: xs, _, _, _, h, g => by
    cases h with
    | cons h1 h2 => exact .cons h1 (RPs.append h2 g)
theorem RPs.set : ∀ {xs : List P} {vs : List V} {x : P} {v : V} (i : Nat), RPs K cl H N xs vs → RP K cl H N x v → RPs K cl H N (xs.set i x) (vs.set i v)
  | [], _, _, _, _, h, _ => by cases h; exact .nil
  | y :: xs, _, _, _, i, h, g => by
    cases h with
    | cons h1 h2 =>
      cases i with
      | zero => exact .cons g h2
      | succ i => exact .cons h1 (RPs.set i h2 g)
theorem RPs.take : ∀ {xs : List P} {vs : List V} (n : Nat), RPs K cl H N xs vs → RPs K cl H N (xs.take n) (vs.take n)
  | [], _, n, h => by cases h; simp; exact .nil
  | x :: xs, _, 0, h => .nil
  | x :: xs, _, n + 1, h => by
    cases h with
    | cons h1 h2 => exact .cons h1 (RPs.take n h2)
theorem RPs.drop : ∀ {xs : List P} {vs : List V} (n : Nat), RPs K cl H N xs vs → RPs K cl H N (xs.drop n) (vs.drop n)
  | [], _, n, h => by cases h; simp; exact .nil
  | x :: xs, _, 0, h => h
  | x :: xs, _, n + 1, h => by
    cases h with
    | cons h1 h2 => exact RPs.drop n h2
theorem RPs.eraseIdx : ∀ {xs : List P} {vs : List V} (n : Nat), RPs K cl H N xs vs → RPs K cl H N (xs.eraseIdx n) (vs.eraseIdx n)
  | [], _, n, h => by cases h; simp; exact .nil
  | x :: xs, _, 0, h => by
    cases h with
    | cons h1 h2 => exact h2
  | x :: xs, _, n + 1, h => by
    cases h with
    | cons h1 h2 => exact .cons h1 (RPs.eraseIdx n h2)
theorem RPs.reverse : ∀ {xs : List P} {vs : List V}, RPs K cl H N xs vs → RPs K cl H N xs.reverse vs.reverse
  | [], _, h => by cases h; exact .nil
  | x :: xs, _, h => by
    cases h with
    | cons h1 h2 =>
      rw [List.reverse_cons, List.reverse_cons]
      exact (RPs.reverse h2).append (.cons h1 .nil)
theorem RPs.repl {x : P} {v : V} (h : RP K cl H N x v) : ∀ n : Nat, RPs K cl H N (List.replicate n x) (List.replicate n v)
  | 0 => .nil
  | n + 1 => .cons h (RPs.repl h n)
theorem RPs.flat {xs : List P} {vs : List V} (h : RPs K cl H N xs vs) : ∀ n : Nat, RPs K cl H N (List.replicate n xs).flatten (List.replicate n vs).flatten
  | 0 => .nil
  | n + 1 => by
    rw [List.replicate_succ, List.replicate_succ, List.flatten_cons, List.flatten_cons]
    exact h.append (RPs.flat h n)
theorem RPs.ints : ∀ {ns : List Int} {vs : List V}, RPs K cl H N (ns.map P.int) vs → vs = ns.map V.int
  | [], _, h => by cases h; rfl
  | n :: ns, _, h => by
    cases h with
    | cons h1 h2 => cases h1; rw [RPs.ints h2]; rfl
theorem RPs.of_ints : ∀ (ns : List Int), RPs K cl H N (ns.map P.int) (ns.map V.int)
  | [] => .nil
  | n :: ns => .cons (.int n) (RPs.of_ints ns)
theorem RPs.strs : ∀ {ns : List Str} {vs : List V}, RPs K cl H N (ns.map P.str) vs → vs = ns.map V.str
  | [], _, h => by cases h; rfl
  | n :: ns, _, h => by
    cases h with
    | cons h1 h2 => cases h1; rw [RPs.strs h2]; rfl
theorem RPs.of_strs : ∀ (ns : List Str), RPs K cl H N (ns.map P.str) (ns.map V.str)
  | [] => .nil
  | n :: ns => .cons (.str n) (RPs.of_strs ns)
theorem RPs.bls : ∀ {ns : List Bool} {vs : List V}, RPs K cl H N (ns.map P.bl) vs → vs = ns.map V.bl
  | [], _, h => by cases h; rfl
  | n :: ns, _, h => by
    cases h with
    | cons h1 h2 => cases h1; rw [RPs.bls h2]; rfl
end

/-! ### owned containers -/
inductive D where
  | p (x : P)
  | lst (xs : List P)
  | dK (ks : List Key) (vs : List P) | dT (ks : List (List Key)) (vs : List P)
  | ins (c : String) (ns : List String) (vs : List P)
  | lk (d : D)
  deriving Inhabited

def D.owned : D → Bool
  | .p _ => false
  | _ => true
/-- as data: to be read -/
def D.view : D → P
  | .p x => x
  | .lst xs => .lst xs
  | .dK ks vs => .dK ks vs
  | .dT ks vs => .dT ks vs
  | .ins c ns vs => .ins c ns vs
  | .lk d => d.view

abbrev Fr (ω : Om) : Addr → Prop := fun a => ω a = .free

inductive RD (K : PySem.W.Frag) (cl : String → Option Addr) (H : Hp) (ω : Om) (i : Own) : D → V → Prop
  | p {x : P} {v : V} : RP K cl H (Fr ω) x v → RD K cl H ω i (.p x) v
  | lst {a : Addr} {vs : List V} {xs : List P} : H a = some (.lst vs) → ω a = i → RPs K cl H (Fr ω) xs vs → RD K cl H ω i (.lst xs) (.ref a)
  | dK {a : Addr} {kvs : List (Key × V)} {ks : List Key} {xs : List P} : H a = some (.dK kvs) → ω a = i → kvs.map (·.1) = ks → RPs K cl H (Fr ω) xs (kvs.map (·.2)) → RD K cl H ω i (.dK ks xs) (.ref a)
  | dT {a : Addr} {kvs : List (List Key × V)} {ks : List (List Key)} {xs : List P} : H a = some (.dT kvs) → ω a = i → kvs.map (·.1) = ks → RPs K cl H (Fr ω) xs (kvs.map (·.2)) → RD K cl H ω i (.dT ks xs) (.ref a)
  | ins {a C dx : Addr} {fs : List (Str × V)} {c : String} {ns : List String} {xs : List P} : H a = some (.ins C dx fs) → ω a = i → cl c = some C → fs.map (·.1) = ns.map ofS → RPs K cl H (Fr ω) xs (fs.map (·.2)) → RD K cl H ω i (.ins c ns xs) (.ref a)
  | lk {d : D} {v : V} : RD K cl H ω i d v → RD K cl H ω i (.lk d) v

/-- data with its root exempt from N -/
inductive RO (K : PySem.W.Frag) (cl : String → Option Addr) (H : Hp) (N : Addr → Prop) : P → V → Prop
  | p {x : P} {v : V} : RP K cl H N x v → RO K cl H N x v
  | lst {a : Addr} {vs : List V} {xs : List P} : H a = some (.lst vs) → RPs K cl H N xs vs → RO K cl H N (.lst xs) (.ref a)
  | dK {a : Addr} {kvs : List (Key × V)} {ks : List Key} {xs : List P} : H a = some (.dK kvs) → kvs.map (·.1) = ks → RPs K cl H N xs (kvs.map (·.2)) → RO K cl H N (.dK ks xs) (.ref a)
  | dT {a : Addr} {kvs : List (List Key × V)} {ks : List (List Key)} {xs : List P} : H a = some (.dT kvs) → kvs.map (·.1) = ks → RPs K cl H N xs (kvs.map (·.2)) → RO K cl H N (.dT ks xs) (.ref a)
  | ins {a C dx : Addr} {fs : List (Str × V)} {c : String} {ns : List String} {xs : List P} : H a = some (.ins C dx fs) → cl c = some C → fs.map (·.1) = ns.map ofS → RPs K cl H N xs (fs.map (·.2)) → RO K cl H N (.ins c ns xs) (.ref a)

section
variable {K : PySem.W.Frag} {cl : String → Option Addr} {H H' : Hp} {ω ω' : Om} {i : Own}
theorem RD.view : ∀ {d : D} {v : V}, RD K cl H ω i d v → RO K cl H (Fr ω) d.view v
  | .p x, _, h => by cases h with | p h => exact .p h
  | .lst xs, _, h => by cases h with | lst h1 h2 h3 => exact .lst h1 h3
  | .dK ks xs, _, h => by cases h with | dK h1 h2 h0 h3 => exact .dK h1 h0 h3
  | .dT ks xs, _, h => by cases h with | dT h1 h2 h0 h3 => exact .dT h1 h0 h3
  | .ins c ns xs, _, h => by cases h with | ins h1 h2 h3 h4 h5 => exact .ins h1 h3 h4 h5
  | .lk d, _, h => by cases h with | lk h => exact RD.view (d := d) h
theorem RO.lst_inv {N : Addr → Prop} {xs : List P} {v : V} (h : RO K cl H N (.lst xs) v) : ∃ a vs, v = .ref a ∧ H a = some (.lst vs) ∧ RPs K cl H N xs vs := by
  cases h with
  | p h => cases h with | lst h1 h2 h3 => exact ⟨_, _, rfl, h1, h3⟩
  | lst h1 h3 => exact ⟨_, _, rfl, h1, h3⟩
theorem RO.fz_inv {N : Addr → Prop} {xs : List P} {v : V} (h : RO K cl H N (.fz xs) v) : ∃ a vs, v = .ref a ∧ SqL K H a vs ∧ RPs K cl H N xs vs := by
  cases h with
  | p h => cases h with | fz h1 h3 => exact ⟨_, _, rfl, h1.sq, h3⟩
theorem RO.dK_inv {N : Addr → Prop} {ks : List Key} {xs : List P} {v : V} (h : RO K cl H N (.dK ks xs) v) : ∃ (a : Addr) (kvs : List (Key × V)), v = .ref a ∧ Rd H a (.dK kvs) ∧ kvs.map (·.1) = ks ∧ RPs K cl H N xs (kvs.map (·.2)) := by
  cases h with
  | p h => cases h with | dK h1 h2 h0 h3 => exact ⟨_, _, rfl, h1, h0, h3⟩
  | dK h1 h0 h3 => exact ⟨_, _, rfl, .inl h1, h0, h3⟩
theorem RO.dT_inv {N : Addr → Prop} {ks : List (List Key)} {xs : List P} {v : V} (h : RO K cl H N (.dT ks xs) v) : ∃ (a : Addr) (kvs : List (List Key × V)), v = .ref a ∧ Rd H a (.dT kvs) ∧ kvs.map (·.1) = ks ∧ RPs K cl H N xs (kvs.map (·.2)) := by
  cases h with
  | p h => cases h with | dT h1 h2 h0 h3 => exact ⟨_, _, rfl, h1, h0, h3⟩
  | dT h1 h0 h3 => exact ⟨_, _, rfl, .inl h1, h0, h3⟩
theorem RO.int_inv {N : Addr → Prop} {i : Int} {v : V} (h : RO K cl H N (.int i) v) : v = .int i := by cases h with | p h => cases h; rfl
theorem RO.bl_inv {N : Addr → Prop} {i : Bool} {v : V} (h : RO K cl H N (.bl i) v) : v = .bl i := by cases h with | p h => cases h; rfl
theorem RO.str_inv {N : Addr → Prop} {i : Str} {v : V} (h : RO K cl H N (.str i) v) : v = .str i := by cases h with | p h => cases h; rfl
theorem RO.non_inv {N : Addr → Prop} {v : V} (h : RO K cl H N .non v) : v = .non := by cases h with | p h => cases h; rfl
theorem RO.tup_inv {N : Addr → Prop} {xs : List P} {v : V} (h : RO K cl H N (.tup xs) v) : ∃ a vs, v = .ref a ∧ H a = some (.tup vs) ∧ RPs K cl H N xs vs := by
  cases h with
  | p h => cases h with | tup h1 h3 => exact ⟨_, _, rfl, h1, h3⟩

/-- what a step from one state to another may change -/
structure Step (ω : Om) (H : Hp) (ω' : Om) (H' : Hp) : Prop where
  fr : ∀ a o, H a = some o → ω a = .free → Kp H' a o
  ot : ∀ a o, H a = some o → ω a = .out → H' a = some o
  out : ∀ a, ω a = .out → ω' a = .out
  fz : ∀ a, ω a = .free → H a ≠ none → ω' a = .free
  th : ∀ a, H a ≠ none → H' a ≠ none
/-- owned things are tracked, and no tuples -/
structure Dom (ω : Om) (H : Hp) : Prop where
  dom : ∀ a, ω a ≠ .free → ∃ o, H a = some o ∧ isT o = false

theorem Dom.fresh (d : Dom ω H) {a : Addr} (h : H a = none) : ω a = .free := by
  cases e : ω a with
  | free => rfl
  | out => obtain ⟨o, h', _⟩ := d.dom a (by rw [e]; intro z; cases z); rw [h] at h'; cases h'
  | _ => obtain ⟨o, h', _⟩ := d.dom a (by rw [e]; intro z; cases z); rw [h] at h'; cases h'
theorem Dom.tup (d : Dom ω H) {a : Addr} {o : HO} (h : H a = some o) (t : isT o = true) : ω a = .free := by
  cases e : ω a with
  | free => rfl
  | out => obtain ⟨o', h', t'⟩ := d.dom a (by rw [e]; intro z; cases z); rw [h] at h'; cases h'; rw [t] at t'; cases t'
  | _ => obtain ⟨o', h', t'⟩ := d.dom a (by rw [e]; intro z; cases z); rw [h] at h'; cases h'; rw [t] at t'; cases t'

theorem Step.refl : Step ω H ω H := ⟨fun _ _ h _ => .inl h, fun _ _ h _ => h, fun _ h => h, fun _ h _ => h, fun _ h => h⟩
theorem Step.trans {ω1 ω2 : Om} {H1 H2 : Hp} (a : Step ω H ω1 H1) (b : Step ω1 H1 ω2 H2) : Step ω H ω2 H2 where
  fr := fun x o h w => by
    have h2 := a.fz x w (by rw [h]; intro z; cases z)
    rcases a.fr x o h w with h1 | ⟨h1, od, h3⟩
    · exact b.fr x o h1 h2
    · exact .inr ⟨h1, od, (b.fr x _ h3 h2).of rfl⟩
  ot := fun x o h w => b.ot x o (a.ot x o h w) (a.out x w)
  out := fun x h => b.out x (a.out x h)
  fz := fun x h t => b.fz x (a.fz x h t) (a.th x t)
  th := fun x h => b.th x (a.th x h)
theorem Step.keeps (s : Step ω H ω' H') (d : Dom ω H) : Keeps H H' (Fr ω) (Fr ω') :=
  ⟨fun a o h n => s.fr a o h n, fun a o h t => (s.fr a o h (d.tup h t)).of (by cases o <;> first | rfl | cases t), fun a n h => s.fz a n h⟩
/-- the same for data alone -/
structure Wk (ω : Om) (H : Hp) (ω' : Om) (H' : Hp) : Prop where
  fr : ∀ a o, H a = some o → ω a = .free → Kp H' a o
  fz : ∀ a, ω a = .free → H a ≠ none → ω' a = .free
theorem Step.wk (s : Step ω H ω' H') : Wk ω H ω' H' := ⟨s.fr, s.fz⟩
theorem Wk.keeps (s : Wk ω H ω' H') (d : Dom ω H) : Keeps H H' (Fr ω) (Fr ω') :=
  ⟨fun a o h n => s.fr a o h n, fun a o h t => (s.fr a o h (d.tup h t)).of (by cases o <;> first | rfl | cases t), fun a n h => s.fz a n h⟩
theorem Wk.rp (s : Wk ω H ω' H') (d : Dom ω H) {x : P} {v : V} (h : RP K cl H (Fr ω) x v) : RP K cl H' (Fr ω') x v := RP.keep (s.keeps d) x v h
theorem Wk.rps (s : Wk ω H ω' H') (d : Dom ω H) {x : List P} {v : List V} (h : RPs K cl H (Fr ω) x v) : RPs K cl H' (Fr ω') x v := RPs.keep (s.keeps d) x v h
theorem Step.rp (s : Step ω H ω' H') (d : Dom ω H) {x : P} {v : V} (h : RP K cl H (Fr ω) x v) : RP K cl H' (Fr ω') x v := RP.keep (s.keeps d) x v h
theorem Step.rps (s : Step ω H ω' H') (d : Dom ω H) {x : List P} {v : List V} (h : RPs K cl H (Fr ω) x v) : RPs K cl H' (Fr ω') x v := RPs.keep (s.keeps d) x v h
end
end PV

set_option Elab.async false
set_option linter.all false
set_option maxRecDepth 100000
set_option maxHeartbeats 4000000
/-! PvB: a frame's state, what a piece of code yields (R), expressions as functions on states (M), the reading tM. -/
namespace PV
open PySem L2

abbrev Env := List (Option D)
inductive O where
  | v (x : P) | at (i : Nat)
inductive R (α : Type) where
  | ok (a : α) (σ : Env) | exc (c : String) (ns : List String) (vs : List P) (σ : Env) | stuck
def R.bind {α β : Type} (r : R α) (k : α → Env → R β) : R β := match r with
  | .ok a σ => k a σ
  | .exc c ns vs σ => .exc c ns vs σ
  | .stuck => .stuck
@[simp] theorem R.bind_ok {α β : Type} (a : α) (σ : Env) (k : α → Env → R β) : (R.ok a σ).bind k = k a σ := rfl
@[simp] theorem R.bind_exc {α β : Type} (c ns vs) (σ : Env) (k : α → Env → R β) : (R.exc c ns vs σ : R α).bind k = .exc c ns vs σ := rfl
@[simp] theorem R.bind_stuck {α β : Type} (k : α → Env → R β) : (R.stuck : R α).bind k = .stuck := rfl
abbrev M := Env → R O
abbrev MT := Env → R Bool
abbrev MA := Env → R (List O)
inductive RS where
  | next (σ : Env) | ret (d : D) (σ : Env) | brk (σ : Env) | cont (σ : Env) | exc (c : String) (ns : List String) (vs : List P) (σ : Env) | stuck
abbrev MS := Env → RS

def O.get (σ : Env) : O → Option P
  | .v x => some x
  | .at i => match σ[i]? with
    | some (some d) => some d.view
    | _ => none
@[simp] theorem O.get_v (σ : Env) (x : P) : O.get σ (.v x) = some x := rfl

/-- what a text's place fixes: the written part, the classes' addresses, the parameters as handed in, the wish about exceptions -/
structure G where
  K : PySem.W.Frag
  cl : String → Option Addr
  /-- the parameters that may be owned things, by their numbers -/
  io : List Nat
  /-- what was handed in -/
  ρ : List V
  Ω : WX

structure Sta (g : G) (ω : Om) (H : Hp) (σD : Env) (σ : L2.St) : Prop where
  len : σD.length = σ.length
  rd : ∀ (i : Nat) (d : D), σD[i]? = some (some d) → ∃ v, σ[i]? = some (some v) ∧ RD g.K g.cl H ω (.at i) d v
  par : ∀ (i : Nat) (v : V), i ∈ g.io → g.ρ[i]? = some v → σ[i]? = some (some v)
  dom : Dom ω H

inductive OV (g : G) (ω : Om) (H : Hp) (σ : L2.St) : O → V → Prop
  | v {x : P} {v : V} : RP g.K g.cl H (Fr ω) x v → OV g ω H σ (.v x) v
  | at {i : Nat} {v : V} : σ[i]? = some (some v) → OV g ω H σ (.at i) v
inductive OVs (g : G) (ω : Om) (H : Hp) (σ : L2.St) : List O → List V → Prop
  | nil : OVs g ω H σ [] []
  | cons {o : O} {v : V} {os : List O} {vs : List V} : OV g ω H σ o v → OVs g ω H σ os vs → OVs g ω H σ (o :: os) (v :: vs)

/-- an own exception: its class, its fields in its dict -/
def EX (g : G) (ω : Om) (H : Hp) (c : String) (ns : List String) (vs : List P) (cls : Value) (d : Option Addr) : Prop :=
  ∃ (C dx : Addr) (fs : List (Str × V)), cls = .ref C ∧ d = some dx ∧ g.cl c = some C ∧ H dx = some (.xd fs) ∧ fs.map (·.1) = ns.map ofS ∧ RPs g.K g.cl H (Fr ω) vs (fs.map (·.2))

def Post (g : G) (ω : Om) (H : Hp) (σ : L2.St) {β : Type} (r : R β) (k : β → Env → Om → Hp → Prop) : Prop := match r with
  | .ok b σD' => ∀ ω' H', Step ω H ω' H' → Sta g ω' H' σD' σ → k b σD' ω' H'
  | .exc c ns vs σD' => ∀ ω' H' C d, Step ω H ω' H' → Sta g ω' H' σD' σ → EX g ω' H' c ns vs C d → g.Ω C d σ H'
  | .stuck => False

def tM (g : G) (m : M) : TE := fun σ H Q => ∃ ω σD, Sta g ω H σD σ ∧ Post g ω H σ (m σD) fun o _ ω' H' => ∀ v, OV g ω' H' σ o v → Q v H'
def tT (g : G) (m : MT) : TT := fun σ H Q => ∃ ω σD, Sta g ω H σD σ ∧ Post g ω H σ (m σD) fun b _ _ H' => Q b H'
def tA (g : G) (m : MA) : TA := fun σ H Q => ∃ ω σD, Sta g ω H σD σ ∧ Post g ω H σ (m σD) fun os _ ω' H' => ∀ vs, OVs g ω' H' σ os vs → Q vs H'

section
variable {g : G} {ω ω' : Om} {H H' : Hp} {σD σD' : Env} {σ : L2.St}
theorem Post.shift {β : Type} {r : R β} {k : β → Env → Om → Hp → Prop} (s : Step ω H ω' H') (h : Post g ω H σ r k) : Post g ω' H' σ r k := by
  cases r with
  | ok b σD' => exact fun ω2 H2 s2 st => h ω2 H2 (s.trans s2) st
  | exc c ns vs σD' => exact fun ω2 H2 C d s2 st => h ω2 H2 C d (s.trans s2) st
  | stuck => exact h
theorem Post.imp {β : Type} {r : R β} {k k' : β → Env → Om → Hp → Prop} (h : Post g ω H σ r k) (f : ∀ b σD' ω' H', Step ω H ω' H' → Sta g ω' H' σD' σ → k b σD' ω' H' → k' b σD' ω' H') : Post g ω H σ r k' := by
  cases r with
  | ok b σD' => exact fun ω2 H2 s2 st => f _ _ _ _ s2 st (h ω2 H2 s2 st)
  | exc c ns vs σD' => exact h
  | stuck => exact h
theorem Post.ok {β : Type} {b : β} {k : β → Env → Om → Hp → Prop} (h : Post g ω H σ (.ok b σD) k) (st : Sta g ω H σD σ) : k b σD ω H := h ω H .refl st
theorem Post.bind {α β : Type} {r : R α} {f : α → Env → R β} {k : β → Env → Om → Hp → Prop} (h : Post g ω H σ (r.bind f) k) : Post g ω H σ r fun a σD' ω' H' => Post g ω' H' σ (f a σD') k := by
  cases r with
  | ok b σD' => exact fun ω2 H2 s2 st => Post.shift s2 h
  | exc c ns vs σD' => exact h
  | stuck => exact h
theorem OV.step {o : O} {v : V} (h : OV g ω H σ o v) (s : Step ω H ω' H') (d : Dom ω H) : OV g ω' H' σ o v := by
  cases h with
  | v h => exact .v (s.rp d h)
  | «at» h => exact .at h
theorem OVs.step {o : List O} {v : List V} (h : OVs g ω H σ o v) (s : Step ω H ω' H') (d : Dom ω H) : OVs g ω' H' σ o v := by
  induction h with
  | nil => exact .nil
  | cons h _ ih => exact .cons (h.step s d) ih
theorem Sta.get (st : Sta g ω H σD σ) {o : O} {v : V} {x : P} (h : OV g ω H σ o v) (e : o.get σD = some x) : RO g.K g.cl H (Fr ω) x v := by
  cases h with
  | v h => cases e; exact .p h
  | «at» h =>
    rename_i i
    dsimp only [O.get] at e
    cases q : σD[i]? with
    | none => rw [q] at e; cases e
    | some o =>
      cases o with
      | none => rw [q] at e; cases e
      | some d =>
        rw [q] at e
        cases e
        obtain ⟨w, e1, r⟩ := st.rd i d q
        rw [h] at e1; cases e1
        exact r.view

/-- all that stood stands, as far as it matters: nothing owned is touched -/
theorem Step.same (s : Same H H') : Step ω H ω H' := ⟨fun a o h _ => .inl (s a o h), fun a o h _ => s a o h, fun _ h => h, fun _ h _ => h, fun a h => by
  cases e : H a with
  | none => exact absurd e h
  | some o => rw [s a o e]; intro z; cases z⟩
theorem Dom.same (d : Dom ω H) (s : Same H H') : Dom ω H' := ⟨fun a h => by
  obtain ⟨o, e, t⟩ := d.dom a h
  exact ⟨o, s a o e, t⟩⟩
theorem same_keeps {N : Addr → Prop} (s : Same H H') : Keeps H H' N N := ⟨fun a o h _ => .inl (s a o h), fun a o h _ => s a o h, fun _ h _ => h⟩
theorem RD.same {K : PySem.W.Frag} {cl : String → Option Addr} {i : Own} (s : Same H H') : ∀ {d : D} {v : V}, RD K cl H ω i d v → RD K cl H' ω i d v
  | .p x, _, h => by cases h with | p h => exact .p (RP.keep (same_keeps s) _ _ h)
  | .lst xs, _, h => by cases h with | lst h1 h2 h3 => exact .lst (s _ _ h1) h2 (RPs.keep (same_keeps s) _ _ h3)
  | .dK ks xs, _, h => by cases h with | dK h1 h2 h0 h3 => exact .dK (s _ _ h1) h2 h0 (RPs.keep (same_keeps s) _ _ h3)
  | .dT ks xs, _, h => by cases h with | dT h1 h2 h0 h3 => exact .dT (s _ _ h1) h2 h0 (RPs.keep (same_keeps s) _ _ h3)
  | .ins c ns xs, _, h => by cases h with | ins h1 h2 h3 h4 h5 => exact .ins (s _ _ h1) h2 h3 h4 (RPs.keep (same_keeps s) _ _ h5)
  | .lk d, _, h => by cases h with | lk h => exact .lk (RD.same s h)
theorem Sta.same (st : Sta g ω H σD σ) (s : Same H H') : Sta g ω H' σD σ := ⟨st.len, fun i d e => by
  obtain ⟨v, e1, r⟩ := st.rd i d e
  exact ⟨v, e1, r.same s⟩, st.par, st.dom.same s⟩
theorem Same.new {a : Addr} {o : HO} (h : H a = none) : Same H (upd H a o) := fun b u e => by
  rw [upd_ne (ne_of_none e h)]; exact e
end

/-! ### judgements weakened to a reading -/
theorem pe_weak {X : Cx} {e : Expr} {t t' : TE} (h : PE X e t) (f : ∀ σ H Q, t' σ H Q → t σ H Q) : PE X e t' := ⟨fun pins s σ H Q I q => h.run pins s σ H Q I (f _ _ _ q)⟩
theorem pt_weak {X : Cx} {e : Expr} {t t' : TT} (h : PT X e t) (f : ∀ σ H Q, t' σ H Q → t σ H Q) : PT X e t' := ⟨fun pins s σ H Q I q => h.run pins s σ H Q I (f _ _ _ q)⟩
theorem pw_weak {X : Cx} {e : Expr} {t t' : TT} (h : PW X e t) (f : ∀ σ H Q, t' σ H Q → t σ H Q) : PW X e t' := ⟨fun wh pins s σ H Q I q => h.run wh pins s σ H Q I (f _ _ _ q)⟩
theorem pa_weak {X : Cx} {e : List Expr} {t t' : TA} (h : PA X e t) (f : ∀ σ H Q, t' σ H Q → t σ H Q) : PA X e t' := ⟨fun pos pins s σ H Q I q => h.run pos pins s σ H Q I (f _ _ _ q)⟩
theorem ps_weak {X : Cx} {e : Stmt} {t t' : TS} (h : PS X e t) (f : ∀ D σ H, t' D σ H → t D σ H) : PS X e t' := ⟨fun pins s σ H D I q => h.run pins s σ H D I (f _ _ _ q)⟩
theorem pss_weak {X : Cx} {e : List Stmt} {t t' : TS} (h : PSs X e t) (f : ∀ D σ H, t' D σ H → t D σ H) : PSs X e t' := ⟨fun pins s σ H D I q => h.run pins s σ H D I (f _ _ _ q)⟩
theorem pe_or' {X : Cx} {e : Expr} {t t' : TE} (h : PE X e t) (h' : PE X e t') : PE X e (fun σ H Q => t σ H Q ∨ t' σ H Q) := ⟨fun pins s σ H Q I q => q.elim (h.run pins s σ H Q I) (h'.run pins s σ H Q I)⟩

section
variable {X : Cx} {g : G}
/-! ### constants, names -/
def mC (x : P) : M := fun σ => .ok (.v x) σ
theorem tM_C {x : P} {v : V} (r : ∀ K cl H N, RP K cl H N x v) (σ : L2.St) (H : Hp) (Q : VK) (h : tM g (mC x) σ H Q) : tC v σ H Q := by
  obtain ⟨ω, σD, st, q⟩ := h
  exact (Post.ok q st) v (.v (r _ _ _ _))
theorem de_int {i j pos} : PE X (.Constant (.int i) j pos) (tM g (mC (.int i))) := pe_weak pe_int (tM_C fun _ _ _ _ => .int i)
theorem de_bl {b j pos} : PE X (.Constant (.bool b) j pos) (tM g (mC (.bl b))) := pe_weak pe_bl (tM_C fun _ _ _ _ => .bl b)
theorem de_non {j pos} : PE X (.Constant .none j pos) (tM g (mC .non)) := pe_weak pe_non (tM_C fun _ _ _ _ => .non)
theorem de_str {x j pos} : PE X (.Constant (.str x) j pos) (tM g (mC (.str x))) := pe_weak pe_str (tM_C fun _ _ _ _ => .str x)
/-- a name of the def: data, or the place of an owned thing -/
def mV (i : Nat) : M := fun σ => match σ[i]? with
  | some (some (.p x)) => .ok (.v x) σ
  | some (some _) => .ok (.at i) σ
  | _ => .stuck
theorem tM_V {i : Nat} (σ : L2.St) (H : Hp) (Q : VK) (h : tM g (mV i) σ H Q) : tVar i σ H Q := by
  obtain ⟨ω, σD, st, q⟩ := h
  unfold mV at q
  cases e : σD[i]? with
  | none => rw [e] at q; exact q.elim
  | some o =>
    cases o with
    | none => rw [e] at q; exact q.elim
    | some d =>
      rw [e] at q
      obtain ⟨v, e1, r⟩ := st.rd i d e
      refine ⟨v, e1, ?_⟩
      cases d with
      | p x => cases r with | p r => exact (Post.ok q st) v (.v r)
      | lst _ => exact (Post.ok q st) v (.at e1)
      | dK _ _ => exact (Post.ok q st) v (.at e1)
      | dT _ _ => exact (Post.ok q st) v (.at e1)
      | ins _ _ _ => exact (Post.ok q st) v (.at e1)
      | lk _ => exact (Post.ok q st) v (.at e1)
theorem de_var (i : Nat) {x : Str} {pos : Pos} (hN : X.N[i]? = some x := by rfl) (hv : Vis X.env.scope x := by first | exact Or.inl rfl | exact Or.inr (Or.inl rfl) | exact Or.inr (Or.inr rfl)) (hd : (x == ("__debug__" : Str)) = false := by decide)
    (hcd : (x == ("__classdict__" : Str)) = false := by decide) : PE X (.Name x pos) (tM g (mV i)) := pe_weak (pe_var hN hv hd hcd) tM_V
/-- a module's constant -/
theorem de_glob {x : Str} {p : P} {v : V} {u : Value} {pos : Pos} (hg : Gl X x) (hm : X.mg x = some u) (r : RelV v u) (rp : ∀ H N, RP g.K g.cl H N p v) (hd : (x == ("__debug__" : Str)) = false := by decide) : PE X (.Name x pos) (tM g (mC p)) :=
  pe_weak (pe_glob hg hm r hd) fun σ H Q h => by
    obtain ⟨ω, σD, st, q⟩ := h
    exact (Post.ok q st) v (.v (rp _ _))

/-! ### operations by values -/
def Prim1 (K : PySem.W.Frag) (cl : String → Option Addr) (r : V → Hp → VK → Prop) (f : P → Option P) : Prop :=
  ∀ (ω : Om) (H : Hp) (x z : P) (vx : V) (Q : VK), Dom ω H → RO K cl H (Fr ω) x vx → f x = some z → (∀ H' v, Same H H' → RP K cl H' (Fr ω) z v → Q v H') → r vx H Q
def Prim2 (K : PySem.W.Frag) (cl : String → Option Addr) (r : R2) (f : P → P → Option P) : Prop :=
  ∀ (ω : Om) (H : Hp) (x y z : P) (vx vy : V) (Q : VK), Dom ω H → RO K cl H (Fr ω) x vx → RO K cl H (Fr ω) y vy → f x y = some z → (∀ H' v, Same H H' → RP K cl H' (Fr ω) z v → Q v H') → r vx vy H Q
def R.lift (σ : Env) : Option P → R O
  | some z => .ok (.v z) σ
  | none => .stuck
@[simp] theorem R.lift_some (σ : Env) (z : P) : R.lift σ (some z) = .ok (.v z) σ := rfl
def mOp1 (f : P → Option P) (a : M) : M := fun σ => (a σ).bind fun oa σ1 => R.lift σ1 ((oa.get σ1).bind f)
def mOp2 (f : P → P → Option P) (a b : M) : M := fun σ => (a σ).bind fun oa σ1 => (b σ1).bind fun ob σ2 => R.lift σ2 ((oa.get σ2).bind fun x => (ob.get σ2).bind fun y => f x y)
theorem lift_post {ω : Om} {H : Hp} {σ : L2.St} {σD : Env} {o : Option P} {k : O → Env → Om → Hp → Prop} (h : Post g ω H σ (R.lift σD o) k) : ∃ z, o = some z ∧ Post g ω H σ (.ok (.v z) σD) k := by
  cases o with
  | none => exact h.elim
  | some z => exact ⟨z, rfl, h⟩
theorem tM_op1 {r : V → Hp → VK → Prop} {f : P → Option P} {a : M} (hp : Prim1 g.K g.cl r f) (σ : L2.St) (H : Hp) (Q : VK) (h : tM g (mOp1 f a) σ H Q) : tM g a σ H fun x H1 => r x H1 Q := by
  obtain ⟨ω, σD, st, q⟩ := h
  refine ⟨ω, σD, st, q.bind.imp fun oa σ1 ω1 H1 s1 st1 q1 v ov => ?_⟩
  obtain ⟨z, e, q1⟩ := lift_post q1
  obtain ⟨x, e1, e2⟩ := Option.bind_eq_some_iff.mp e
  refine hp ω1 H1 x z v Q st1.dom (st1.get ov e1) e2 fun H' u sm rz => ?_
  exact q1 ω1 H' (.same sm) (st1.same sm) u (.v rz)
theorem tM_op2 {r : R2} {f : P → P → Option P} {a b : M} (hp : Prim2 g.K g.cl r f) (σ : L2.St) (H : Hp) (Q : VK) (h : tM g (mOp2 f a b) σ H Q) : tOp r (tM g a) (tM g b) σ H Q := by
  obtain ⟨ω, σD, st, q⟩ := h
  refine ⟨ω, σD, st, q.bind.imp fun oa σ1 ω1 H1 s1 st1 q1 va ova => ⟨ω1, σ1, st1, q1.bind.imp fun ob σ2 ω2 H2 s2 st2 q2 vb ovb => ?_⟩⟩
  obtain ⟨z, e, q2⟩ := lift_post q2
  obtain ⟨x, e1, e⟩ := Option.bind_eq_some_iff.mp e
  obtain ⟨y, e2, e⟩ := Option.bind_eq_some_iff.mp e
  refine hp ω2 H2 x y z va vb Q st2.dom (st2.get (ova.step s2 st1.dom) e1) (st2.get ovb e2) e fun H' u sm rz => ?_
  exact q2 ω2 H' (.same sm) (st2.same sm) u (.v rz)
theorem de_bin {op : Operator} {r : R2} {f : P → P → Option P} {a b : Expr} {ma mb : M} {pos : Pos} (ho : OpR X (binaryOp op) r) (hp : Prim2 g.K g.cl r f) (ha : PE X a (tM g ma)) (hb : PE X b (tM g mb)) : PE X (.BinOp a op b pos) (tM g (mOp2 f ma mb)) :=
  pe_weak (pe_op ho ha hb) (tM_op2 hp)
theorem de_cmp {op : CmpOp} {r : R2} {f : P → P → Option P} {a b : Expr} {ma mb : M} {pos : Pos} (ho : OpR X (compareOp op) r) (hp : Prim2 g.K g.cl r f) (ha : PE X a (tM g ma)) (hb : PE X b (tM g mb)) (hm : behindInMarks op b = false := by first | exact nomark _ | rfl) : PE X (.Compare a [op] [b] pos) (tM g (mOp2 f ma mb)) :=
  pe_weak (pe_cmpR ho ha hb hm) (tM_op2 hp)
theorem de_ix {r : R2} {f : P → P → Option P} {a b : Expr} {ma mb : M} {pos : Pos} (ho : IxR X r) (hp : Prim2 g.K g.cl r f) (ha : PE X a (tM g ma)) (hb : PE X b (tM g mb)) (hs : PlainIx b := by exact fun _ _ => rfl) : PE X (.Subscript a b pos) (tM g (mOp2 f ma mb)) :=
  pe_weak (pe_ix ho ha hb hs) (tM_op2 hp)
theorem de_un {op : UnaryOp} {r : V → Hp → VK → Prop} {f : P → Option P} {a : Expr} {ma : M} {pos : Pos} (ho : UnR X (unaryOp op) r) (hp : Prim1 g.K g.cl r f) (ha : PE X a (tM g ma)) : PE X (.UnaryOp op a pos) (tM g (mOp1 f ma)) :=
  pe_weak (pe_un ho ha) (tM_op1 hp)

/-! ### arguments -/
def mAs : List M → MA
  | [] => fun σ => .ok [] σ
  | m :: ms => fun σ => (m σ).bind fun o σ1 => (mAs ms σ1).bind fun os σ2 => .ok (o :: os) σ2
theorem da_nil : PA X [] (tA g (mAs [])) := pa_weak pa_nil fun σ H Q h => by
  obtain ⟨ω, σD, st, q⟩ := h
  exact (Post.ok q st) [] .nil
theorem da_cons {e : Expr} {es : List Expr} {m : M} {ms : List M} (ha : PE X e (tM g m)) (hr : PA X es (tA g (mAs ms))) (hs : starEach (e :: es) X.env = (false, eval e X.env) :: starEach es X.env := by rfl) : PA X (e :: es) (tA g (mAs (m :: ms))) :=
  pa_weak (pa_cons ha hr hs) fun σ H Q h => by
    obtain ⟨ω, σD, st, q⟩ := h
    refine ⟨ω, σD, st, q.bind.imp fun oa σ1 ω1 H1 s1 st1 q1 va ova => ⟨ω1, σ1, st1, q1.bind.imp fun os σ2 ω2 H2 s2 st2 q2 vs ovs => ?_⟩⟩
    exact (Post.ok q2 st2) _ (.cons (ova.step s2 st1.dom) ovs)
/-- the data of some operands -/
def getAll (σ : Env) : List O → Option (List P)
  | [] => some []
  | o :: os => (o.get σ).bind fun x => (getAll σ os).bind fun xs => some (x :: xs)
@[simp] theorem getAll_nil (σ : Env) : getAll σ [] = some [] := rfl
@[simp] theorem getAll_cons (σ : Env) (o : O) (os : List O) : getAll σ (o :: os) = (o.get σ).bind fun x => (getAll σ os).bind fun xs => some (x :: xs) := rfl
inductive ROs (K : PySem.W.Frag) (cl : String → Option Addr) (H : Hp) (N : Addr → Prop) : List P → List V → Prop
  | nil : ROs K cl H N [] []
  | cons {x : P} {v : V} {xs : List P} {vs : List V} : RO K cl H N x v → ROs K cl H N xs vs → ROs K cl H N (x :: xs) (v :: vs)
theorem Sta.getAll {ω : Om} {H : Hp} {σD : Env} {σ : L2.St} (st : Sta g ω H σD σ) {os : List O} {vs : List V} (h : OVs g ω H σ os vs) : ∀ {xs : List P}, getAll σD os = some xs → ROs g.K g.cl H (Fr ω) xs vs := by
  induction h with
  | nil => intro xs e; cases e; exact .nil
  | cons h1 _ ih =>
    intro xs e
    obtain ⟨x, e1, e⟩ := Option.bind_eq_some_iff.mp e
    obtain ⟨ys, e2, e⟩ := Option.bind_eq_some_iff.mp e
    cases e
    exact .cons (st.get h1 e1) (ih e2)
def PrimN (K : PySem.W.Frag) (cl : String → Option Addr) (r : List V → Hp → VK → Prop) (f : List P → Option P) : Prop :=
  ∀ (ω : Om) (H : Hp) (xs : List P) (z : P) (vs : List V) (Q : VK), Dom ω H → ROs K cl H (Fr ω) xs vs → f xs = some z → (∀ H' v, Same H H' → RP K cl H' (Fr ω) z v → Q v H') → r vs H Q
def mPrim (f : List P → Option P) (ms : List M) : M := fun σ => (mAs ms σ).bind fun os σ1 => R.lift σ1 ((getAll σ1 os).bind f)
theorem tM_prim {r : List V → Hp → VK → Prop} {f : List P → Option P} {ms : List M} (hp : PrimN g.K g.cl r f) (σ : L2.St) (H : Hp) (Q : VK) (h : tM g (mPrim f ms) σ H Q) : tA g (mAs ms) σ H fun vs H1 => r vs H1 Q := by
  obtain ⟨ω, σD, st, q⟩ := h
  refine ⟨ω, σD, st, q.bind.imp fun os σ1 ω1 H1 s1 st1 q1 vs ov => ?_⟩
  obtain ⟨z, e, q1⟩ := lift_post q1
  obtain ⟨xs, e1, e2⟩ := Option.bind_eq_some_iff.mp e
  refine hp ω1 H1 xs z vs Q st1.dom (st1.getAll ov e1) e2 fun H' u sm rz => ?_
  exact q1 ω1 H' (.same sm) (st1.same sm) u (.v rz)
theorem de_blt {id : String} {r : List V → Hp → VK → Prop} {f : List P → Option P} {x : Str} {e : Expr} {es : List Expr} {ms : List M} {p pos : Pos} (hc : CallR X (.builtin id) r) (hp : PrimN g.K g.cl r f) (hg : Gl X x) (hm : X.mg x = none) (hv : bootBuiltins x = some (.builtin id)) (ha : PA X (e :: es) (tA g (mAs ms)))
    (hn : x ≠ "__name__" := by decide) (hdb : (x == ("__debug__" : Str)) = false := by decide) (he : starEach (e :: es) X.env = (false, eval e X.env) :: starEach es X.env := by rfl) (hpl : (backTo pos (starEach es X.env)).any (·.1) = false := by rfl) : PE X (.Call (.Name x p) (e :: es) [] pos) (tM g (mPrim f ms)) :=
  pe_weak (pe_callB hc hg hm hv ha hn hdb he hpl) (tM_prim hp)
theorem de_bty {T : String} {r : List V → Hp → VK → Prop} {f : List P → Option P} {x : Str} {e : Expr} {es : List Expr} {ms : List M} {p pos : Pos} (hc : CallR X (.type T) r) (hp : PrimN g.K g.cl r f) (hg : Gl X x) (hm : X.mg x = none) (hv : bootBuiltins x = some (.type T)) (ha : PA X (e :: es) (tA g (mAs ms)))
    (hn : x ≠ "__name__" := by decide) (hdb : (x == ("__debug__" : Str)) = false := by decide) (he : starEach (e :: es) X.env = (false, eval e X.env) :: starEach es X.env := by rfl) (hpl : (backTo pos (starEach es X.env)).any (·.1) = false := by rfl) : PE X (.Call (.Name x p) (e :: es) [] pos) (tM g (mPrim f ms)) :=
  pe_weak (pe_callTy hc hg hm hv ha hn hdb he hpl) (tM_prim hp)
/-- a tuple of data: owned parts may not stand in it -/
def pureAll : List O → Option (List P)
  | [] => some []
  | .v x :: os => (pureAll os).bind fun xs => some (x :: xs)
  | .at _ :: _ => none
@[simp] theorem pureAll_nil : pureAll [] = some [] := rfl
@[simp] theorem pureAll_cons (x : P) (os : List O) : pureAll (.v x :: os) = (pureAll os).bind fun xs => some (x :: xs) := rfl
theorem pureAll_ok {ω : Om} {H : Hp} {σ : L2.St} {os : List O} {vs : List V} (h : OVs g ω H σ os vs) : ∀ {xs : List P}, pureAll os = some xs → RPs g.K g.cl H (Fr ω) xs vs := by
  induction h with
  | nil => intro xs e; cases e; exact .nil
  | cons h1 _ ih =>
    intro xs e
    cases h1 with
    | v h1 =>
      obtain ⟨ys, e2, e⟩ := Option.bind_eq_some_iff.mp e
      cases e
      exact .cons h1 (ih e2)
    | «at» _ => cases e
/-- the longest line -/
def fits (n : Nat) : Option Unit := if n ≤ sizeLine then some () else none
def mTup (ms : List M) : M := fun σ => (mAs ms σ).bind fun os σ1 => R.lift σ1 ((pureAll os).bind fun xs => if xs.length ≤ sizeLine then some (.tup xs) else none)
theorem de_tup {es : List Expr} {ms : List M} {x1} {pos : Pos} (ha : PA X es (tA g (mAs ms))) : PE X (.Tuple es x1 pos) (tM g (mTup ms)) :=
  pe_weak (pe_tup ha) fun σ H Q h => by
    obtain ⟨ω, σD, st, q⟩ := h
    refine ⟨ω, σD, st, q.bind.imp fun os σ1 ω1 H1 s1 st1 q1 vs ov => ?_⟩
    obtain ⟨z, e, q1⟩ := lift_post q1
    obtain ⟨xs, e1, e2⟩ := Option.bind_eq_some_iff.mp e
    have rp := pureAll_ok ov e1
    split at e2
    · rename_i hl
      cases e2
      refine ⟨by rw [← rp.length]; exact hl, fun p hp => ?_⟩
      have sm : Same H1 (upd H1 p (.tup vs)) := Same.new hp
      exact q1 ω1 _ (.same sm) (st1.same sm) _ (.v (.tup upd_same (RPs.keep (same_keeps sm) _ _ rp)))
    · cases e2
/-- a list that is handed on as data -/
def mLst (ms : List M) : M := fun σ => (mAs ms σ).bind fun os σ1 => R.lift σ1 ((pureAll os).bind fun xs => if xs.length ≤ sizeLine then some (.lst xs) else none)
theorem de_lst {es : List Expr} {ms : List M} {pos : Pos} (ha : PA X es (tA g (mAs ms))) : PE X (.List es pos) (tM g (mLst ms)) :=
  pe_weak (pe_lst ha) fun σ H Q h => by
    obtain ⟨ω, σD, st, q⟩ := h
    refine ⟨ω, σD, st, q.bind.imp fun os σ1 ω1 H1 s1 st1 q1 vs ov => ?_⟩
    obtain ⟨z, e, q1⟩ := lift_post q1
    obtain ⟨xs, e1, e2⟩ := Option.bind_eq_some_iff.mp e
    have rp := pureAll_ok ov e1
    split at e2
    · rename_i hl
      cases e2
      refine ⟨by rw [← rp.length]; exact hl, fun p hp => ?_⟩
      have sm : Same H1 (upd H1 p (.lst vs)) := Same.new hp
      exact q1 ω1 _ (.same sm) (st1.same sm) _ (.v (.lst upd_same (st1.dom.fresh hp) (RPs.keep (same_keeps sm) _ _ rp)))
    · cases e2

/-! ### tests -/
def mTe (m : M) : MT := fun σ => (m σ).bind fun o σ1 => match o.get σ1 with
  | some (.bl b) => .ok b σ1
  | _ => .stuck
theorem tT_e {m : M} (σ : L2.St) (H : Hp) (Q : Bool → Hp → Prop) (h : tT g (mTe m) σ H Q) : tTest (tM g m) σ H Q := by
  obtain ⟨ω, σD, st, q⟩ := h
  refine ⟨ω, σD, st, q.bind.imp fun oa σ1 ω1 H1 s1 st1 q1 v ov => ?_⟩
  cases e : oa.get σ1 with
  | none => rw [e] at q1; exact q1.elim
  | some x =>
    rw [e] at q1
    have ro := st1.get ov e
    cases x with
    | bl b =>
      refine ⟨b, ?_, Post.ok q1 st1⟩
      cases ro with | p ro => cases ro; rfl
    | _ => exact q1.elim
theorem dt_cmp {op : CmpOp} {r : R2} {f : P → P → Option P} {a b : Expr} {ma mb : M} {pos : Pos} (ho : OpR X (compareOp op) r) (hp : Prim2 g.K g.cl r f) (ha : PE X a (tM g ma)) (hb : PE X b (tM g mb)) (hm : behindInMarks op b = false := by first | exact nomark _ | rfl) : PT X (.Compare a [op] [b] pos) (tT g (mTe (mOp2 f ma mb))) := by
  refine pt_weak (pt_cmpR ho ha hb hm) fun σ H Q h => ?_
  obtain ⟨ω, σD, st, q⟩ := tT_e σ H Q h
  exact tM_op2 hp σ H _ ⟨ω, σD, st, q⟩
theorem dt_val {e : Expr} {m : M} (he : PE X e (tM g m)) (hw : ∀ whole, isTrue e X.env whole = (do let v ← whole; standAt e.pos; holding [v] (truthy v)) := by intro _; rfl) : PT X e (tT g (mTe m)) :=
  pt_weak (pt_val he hw) fun σ H Q h => tT_e σ H Q h
def mNotT (m : MT) : MT := fun σ => (m σ).bind fun b σ1 => .ok (!b) σ1
theorem dt_not {a : Expr} {m : MT} {pos : Pos} (ha : PT X a (tT g m)) : PT X (.UnaryOp .Not a pos) (tT g (mNotT m)) := pt_weak (pt_not ha) fun σ H Q h => by
  obtain ⟨ω, σD, st, q⟩ := h
  exact ⟨ω, σD, st, q.bind.imp fun b σ1 ω1 H1 s1 st1 q1 => Post.ok q1 st1⟩
def mAndT (a b : MT) : MT := fun σ => (a σ).bind fun x σ1 => if x = true then b σ1 else .ok false σ1
def mOrT (a b : MT) : MT := fun σ => (a σ).bind fun x σ1 => if x = true then .ok true σ1 else b σ1
theorem dw_and1 {a : Expr} {m : MT} {pos : Pos} (ha : PT X a (tT g m)) : PW X (.BoolOp .And [a] pos) (tT g m) := pw_and1 ha
theorem dw_or1 {a : Expr} {m : MT} {pos : Pos} (ha : PT X a (tT g m)) : PW X (.BoolOp .Or [a] pos) (tT g m) := pw_or1 ha
theorem dw_and {a b : Expr} {rest : List Expr} {ma mb : MT} {pos : Pos} (ha : PT X a (tT g ma)) (hb : PW X (.BoolOp .And (b :: rest) pos) (tT g mb)) : PW X (.BoolOp .And (a :: b :: rest) pos) (tT g (mAndT ma mb)) := pw_weak (pw_and ha hb) fun σ H Q h => by
  obtain ⟨ω, σD, st, q⟩ := h
  refine ⟨ω, σD, st, q.bind.imp fun x σ1 ω1 H1 s1 st1 q1 => ?_⟩
  cases x with
  | true => exact ⟨ω1, σ1, st1, q1⟩
  | false => exact Post.ok q1 st1
theorem dw_or {a b : Expr} {rest : List Expr} {ma mb : MT} {pos : Pos} (ha : PT X a (tT g ma)) (hb : PW X (.BoolOp .Or (b :: rest) pos) (tT g mb)) : PW X (.BoolOp .Or (a :: b :: rest) pos) (tT g (mOrT ma mb)) := pw_weak (pw_or ha hb) fun σ H Q h => by
  obtain ⟨ω, σD, st, q⟩ := h
  refine ⟨ω, σD, st, q.bind.imp fun x σ1 ω1 H1 s1 st1 q1 => ?_⟩
  cases x with
  | false => exact ⟨ω1, σ1, st1, q1⟩
  | true => exact Post.ok q1 st1
/-- and, or, not, if-else as values -/
def mAndV (a b : M) : M := fun σ => (mTe a σ).bind fun x σ1 => if x = true then b σ1 else .ok (.v (.bl false)) σ1
def mOrV (a b : M) : M := fun σ => (mTe a σ).bind fun x σ1 => if x = true then .ok (.v (.bl true)) σ1 else b σ1
def mNotV (a : M) : M := fun σ => (mTe a σ).bind fun x σ1 => .ok (.v (.bl (!x))) σ1
theorem tT_e' {ω : Om} {H : Hp} {σ : L2.St} {σD : Env} {m : M} {k : Bool → Env → Om → Hp → Prop} (st : Sta g ω H σD σ) (h : Post g ω H σ (mTe m σD) k) : Post g ω H σ (m σD) fun o σ1 ω1 H1 => ∀ v, OV g ω1 H1 σ o v → ∃ b, v = .bl b ∧ k b σ1 ω1 H1 := by
  refine h.bind.imp fun oa σ1 ω1 H1 s1 st1 q1 v ov => ?_
  cases e : oa.get σ1 with
  | none => rw [e] at q1; exact q1.elim
  | some x =>
    rw [e] at q1
    have ro := st1.get ov e
    cases x with
    | bl b =>
      refine ⟨b, ?_, Post.ok q1 st1⟩
      cases ro with | p ro => cases ro; rfl
    | _ => exact q1.elim
theorem de_one {op} {a : Expr} {m : M} {pos : Pos} (h : PE X a (tM g m)) : PE X (.BoolOp op [a] pos) (tM g m) := pe_one h
theorem de_and {a b : Expr} {rest : List Expr} {ma mb : M} {pos : Pos} (ha : PE X a (tM g ma)) (hb : PE X (.BoolOp .And (b :: rest) pos) (tM g mb)) : PE X (.BoolOp .And (a :: b :: rest) pos) (tM g (mAndV ma mb)) := pe_weak (pe_and ha hb) fun σ H Q h => by
  obtain ⟨ω, σD, st, q⟩ := h
  refine ⟨ω, σD, st, (tT_e' st q.bind).imp fun o σ1 ω1 H1 s1 st1 q1 v ov => ?_⟩
  obtain ⟨b, e, q1⟩ := q1 v ov
  refine ⟨b, e, ?_⟩
  cases b with
  | true => exact ⟨ω1, σ1, st1, q1⟩
  | false => exact Post.ok q1 st1 _ (.v (.bl false))
theorem de_or {a b : Expr} {rest : List Expr} {ma mb : M} {pos : Pos} (ha : PE X a (tM g ma)) (hb : PE X (.BoolOp .Or (b :: rest) pos) (tM g mb)) : PE X (.BoolOp .Or (a :: b :: rest) pos) (tM g (mOrV ma mb)) := pe_weak (pe_or ha hb) fun σ H Q h => by
  obtain ⟨ω, σD, st, q⟩ := h
  refine ⟨ω, σD, st, (tT_e' st q.bind).imp fun o σ1 ω1 H1 s1 st1 q1 v ov => ?_⟩
  obtain ⟨b, e, q1⟩ := q1 v ov
  refine ⟨b, e, ?_⟩
  cases b with
  | false => exact ⟨ω1, σ1, st1, q1⟩
  | true => exact Post.ok q1 st1 _ (.v (.bl true))
theorem de_not {a : Expr} {m : M} {pos : Pos} (ha : PE X a (tM g m)) : PE X (.UnaryOp .Not a pos) (tM g (mNotV m)) := pe_weak (pe_not ha) fun σ H Q h => by
  obtain ⟨ω, σD, st, q⟩ := h
  refine ⟨ω, σD, st, (tT_e' st q.bind).imp fun o σ1 ω1 H1 s1 st1 q1 v ov => ?_⟩
  obtain ⟨b, e, q1⟩ := q1 v ov
  exact ⟨b, e, Post.ok q1 st1 _ (.v (.bl _))⟩
def mIfE (c : MT) (a b : M) : M := fun σ => (c σ).bind fun x σ1 => if x = true then a σ1 else b σ1
theorem de_if {c a b : Expr} {mc : MT} {ma mb : M} {pos : Pos} (hc : PT X c (tT g mc)) (ha : PE X a (tM g ma)) (hb : PE X b (tM g mb)) : PE X (.IfExp c a b pos) (tM g (mIfE mc ma mb)) := pe_weak (pe_ifExp hc ha hb) fun σ H Q h => by
  obtain ⟨ω, σD, st, q⟩ := h
  refine ⟨ω, σD, st, q.bind.imp fun x σ1 ω1 H1 s1 st1 q1 => ?_⟩
  cases x with
  | true => exact ⟨ω1, σ1, st1, q1⟩
  | false => exact ⟨ω1, σ1, st1, q1⟩
end
end PV

set_option Elab.async false
set_option linter.all false
set_option maxRecDepth 100000
set_option maxHeartbeats 4000000
/-! PvC: statements on states; freezing; owned things made and changed; blocks, tests, loops. -/
namespace PV
open PySem L2

/-! ### lists of slots -/
theorem set_get {α : Type} {l : List α} {i j : Nat} {x y : α} (h : (l.set i x)[j]? = some y) : (i = j ∧ x = y ∧ i < l.length) ∨ (i ≠ j ∧ l[j]? = some y) := by
  by_cases e : i = j
  · subst e
    rw [List.getElem?_set_self'] at h
    cases q : l[i]? with
    | none => rw [q] at h; cases h
    | some z =>
      rw [q] at h
      exact .inl ⟨rfl, by simpa using h, (List.getElem?_eq_some_iff.mp q).1⟩
  · rw [List.getElem?_set_ne e] at h
    exact .inr ⟨e, h⟩
theorem set_lt {α : Type} {l : List α} {i : Nat} {x : α} (h : i < l.length) : (l.set i x)[i]? = some x := by
  rw [List.getElem?_set_self h]
theorem get_lt {α : Type} {l : List α} {i : Nat} {x : α} (h : l[i]? = some x) : i < l.length := (List.getElem?_eq_some_iff.mp h).1

section
variable {g : G} {ω ω' : Om} {H H' : Hp} {σD σD' : Env} {σ : L2.St}

/-! ### another ownership over the same heap -/
theorem Keeps.own (h : ∀ a, ω a = .free → ω' a = .free) : Keeps H H (Fr ω) (Fr ω') := ⟨fun _ _ e _ => .inl e, fun _ _ e _ => e, fun a e _ => h a e⟩
theorem RD.keep2 {K : PySem.W.Frag} {cl : String → Option Addr} {w w' : Own} (k : Keeps H H' (Fr ω) (Fr ω')) (hc : ∀ a o, H a = some o → ω a = w → H' a = some o) (hw : ∀ a, H a ≠ none → ω a = w → ω' a = w') : ∀ {d : D} {v : V}, RD K cl H ω w d v → RD K cl H' ω' w' d v
  | .p x, _, h => by cases h with | p h => exact .p (RP.keep k _ _ h)
  | .lst xs, _, h => by cases h with | lst h1 h2 h3 => exact .lst (hc _ _ h1 h2) (hw _ (by rw [h1]; intro z; cases z) h2) (RPs.keep k _ _ h3)
  | .dK ks xs, _, h => by cases h with | dK h1 h2 h0 h3 => exact .dK (hc _ _ h1 h2) (hw _ (by rw [h1]; intro z; cases z) h2) h0 (RPs.keep k _ _ h3)
  | .dT ks xs, _, h => by cases h with | dT h1 h2 h0 h3 => exact .dT (hc _ _ h1 h2) (hw _ (by rw [h1]; intro z; cases z) h2) h0 (RPs.keep k _ _ h3)
  | .ins c ns xs, _, h => by cases h with | ins h1 h2 h3 h4 h5 => exact .ins (hc _ _ h1 h2) (hw _ (by rw [h1]; intro z; cases z) h2) h3 h4 (RPs.keep k _ _ h5)
  | .lk d, _, h => by cases h with | lk h => exact .lk (RD.keep2 k hc hw h)
theorem RD.own {K : PySem.W.Frag} {cl : String → Option Addr} {w w' : Own} (hf : ∀ a, ω a = .free → ω' a = .free) (hw : ∀ a, ω a = w → ω' a = w') {d : D} {v : V} (h : RD K cl H ω w d v) : RD K cl H ω' w' d v :=
  RD.keep2 (Keeps.own hf) (fun _ _ e _ => e) (fun a _ e => hw a e) h
/-- an owned thing becomes data -/
theorem RD.frz {K : PySem.W.Frag} {cl : String → Option Addr} {w : Own} (hf : ∀ a, ω a = .free → ω' a = .free) (hw : ∀ a, ω a = w → ω' a = .free) : ∀ {d : D} {v : V}, RD K cl H ω w d v → RP K cl H (Fr ω') d.view v
  | .p x, _, h => by cases h with | p h => exact RP.keep (Keeps.own hf) _ _ h
  | .lst xs, _, h => by cases h with | lst h1 h2 h3 => exact .lst h1 (hw _ h2) (RPs.keep (Keeps.own hf) _ _ h3)
  | .dK ks xs, _, h => by cases h with | dK h1 h2 h0 h3 => exact .dK (.inl h1) (hw _ h2) h0 (RPs.keep (Keeps.own hf) _ _ h3)
  | .dT ks xs, _, h => by cases h with | dT h1 h2 h0 h3 => exact .dT (.inl h1) (hw _ h2) h0 (RPs.keep (Keeps.own hf) _ _ h3)
  | .ins c ns xs, _, h => by cases h with | ins h1 h2 h3 h4 h5 => exact .ins h1 (hw _ h2) h3 h4 (RPs.keep (Keeps.own hf) _ _ h5)
  | .lk d, _, h => by cases h with | lk h => exact RD.frz (d := d) hf hw h
/-- what is owned under w goes to w' -/
def ren (ω : Om) (w w' : Own) : Om := fun a => if ω a = w then w' else ω a
theorem ren_free {w w' : Own} (hw : w ≠ .free) {a : Addr} (h : ω a = .free) : ren ω w w' a = .free := by
  unfold ren; rw [h, if_neg (Ne.symm hw)]
theorem ren_at {w w' : Own} {a : Addr} (h : ω a = w) : ren ω w w' a = w' := by unfold ren; rw [if_pos h]
theorem ren_ne {w w' u : Own} {a : Addr} (h : ω a = u) (ne : u ≠ w) : ren ω w w' a = u := by unfold ren; rw [h, if_neg ne]
theorem Step.ren {w w' : Own} (hw : w ≠ .free) (hw2 : w ≠ .out) : Step ω H (ren ω w w') H := ⟨fun _ _ h _ => .inl h, fun _ _ h _ => h, fun a h => ren_ne h (Ne.symm hw2), fun a h _ => ren_free hw h, fun _ h => h⟩
theorem Dom.ren (d : Dom ω H) {w w' : Own} (hw : w ≠ .free) : Dom (ren ω w w') H := ⟨fun a h => by
  refine d.dom a fun e => h (ren_free hw e)⟩

/-! ### the state, a slot stored -/
theorem Sta.setP (st : Sta g ω H σD σ) {i : Nat} {x : P} {v : V} (hi : i ∉ g.io) (r : RP g.K g.cl H (Fr ω) x v) : Sta g ω H (σD.set i (some (.p x))) (σ.set i (some v)) where
  len := by rw [List.length_set, List.length_set]; exact st.len
  rd := fun j d e => by
    rcases set_get e with ⟨e1, e2, e3⟩ | ⟨e1, e2⟩
    · subst e1
      cases e2
      exact ⟨v, set_lt (by rw [← st.len]; exact e3), .p r⟩
    · rw [List.getElem?_set_ne e1]
      exact st.rd j d e2
  par := fun j w hj hw => by
    rw [List.getElem?_set_ne (by rintro rfl; exact hi hj)]
    exact st.par j w hj hw
  dom := st.dom
/-- the thing in slot i becomes data -/
theorem Sta.frz (st : Sta g ω H σD σ) {i : Nat} {d : D} (e : σD[i]? = some (some d)) : Sta g (ren ω (.at i) .free) H (σD.set i (some (.p d.view))) σ where
  len := by rw [List.length_set]; exact st.len
  rd := fun j d' e' => by
    have hf : ∀ a, ω a = .free → ren ω (.at i) .free a = .free := fun a h => ren_free (by intro z; cases z) h
    rcases set_get e' with ⟨e1, e2, e3⟩ | ⟨e1, e2⟩
    · subst e1
      cases e2
      obtain ⟨v, e4, r⟩ := st.rd i d e
      exact ⟨v, e4, .p (r.frz hf fun a h => ren_at h)⟩
    · obtain ⟨v, e4, r⟩ := st.rd j d' e2
      exact ⟨v, e4, r.own hf fun a h => ren_ne h (fun z => e1 (by cases z; rfl))⟩
  par := st.par
  dom := st.dom.ren (by intro z; cases z)
theorem Sta.lt (st : Sta g ω H σD σ) {i : Nat} {o : Option D} (e : σD[i]? = some o) : i < σ.length := by rw [← st.len]; exact get_lt e

/-- an operand as data: an owned thing is frozen for good -/
def frz (o : O) (σ : Env) : R P := match o with
  | .v x => .ok x σ
  | .at i => match σ[i]? with
    | some (some (.lk _)) => .stuck
    | some (some d) => .ok d.view (σ.set i (some (.p d.view)))
    | _ => .stuck
@[simp] theorem frz_v (x : P) (σ : Env) : frz (.v x) σ = .ok x σ := rfl
theorem frz_ok {o : O} {v : V} {k : P → Env → Om → Hp → Prop} (st : Sta g ω H σD σ) (ov : OV g ω H σ o v) (h : Post g ω H σ (frz o σD) k) :
    ∃ x σ1 ω1, Step ω H ω1 H ∧ Sta g ω1 H σ1 σ ∧ RP g.K g.cl H (Fr ω1) x v ∧ frz o σD = .ok x σ1 ∧ k x σ1 ω1 H := by
  cases ov with
  | v r => exact ⟨_, σD, ω, .refl, st, r, rfl, Post.ok h st⟩
  | «at» e1 =>
    rename_i i
    dsimp only [frz] at h ⊢
    cases e : σD[i]? with
    | none => rw [e] at h; exact h.elim
    | some o =>
      cases o with
      | none => rw [e] at h; exact h.elim
      | some d =>
        obtain ⟨v', e4, r⟩ := st.rd i d e
        rw [e1] at e4
        cases e4
        have hs : Step ω H (ren ω (.at i) .free) H := .ren (by intro z; cases z) (by intro z; cases z)
        have go : ∀ (q : Post g ω H σ (.ok d.view (σD.set i (some (.p d.view)))) k), ∃ x σ1 ω1, Step ω H ω1 H ∧ Sta g ω1 H σ1 σ ∧ RP g.K g.cl H (Fr ω1) x v ∧ (R.ok d.view (σD.set i (some (.p d.view))) : R P) = .ok x σ1 ∧ k x σ1 ω1 H := fun q =>
          ⟨_, _, _, hs, st.frz e, r.frz (fun a h => ren_free (by intro z; cases z) h) (fun a h => ren_at h), rfl, q _ _ hs (st.frz e)⟩
        rw [e] at h
        cases d with
        | lk _ => exact h.elim
        | p _ => exact go h
        | lst _ => exact go h
        | dK _ _ => exact go h
        | dT _ _ => exact go h
        | ins _ _ _ => exact go h

/-! ### statements -/
def PostS (g : G) (ω : Om) (H : Hp) (r : RS) (D : Ends) : Prop := match r with
  | .next σD' => ∀ ω' H' σ', Step ω H ω' H' → Sta g ω' H' σD' σ' → D.nx σ' H'
  | .brk σD' => ∀ ω' H' σ', Step ω H ω' H' → Sta g ω' H' σD' σ' → D.bk σ' H'
  | .cont σD' => ∀ ω' H' σ', Step ω H ω' H' → Sta g ω' H' σD' σ' → D.ct σ' H'
  | .ret d σD' => ∀ ω' H' σ' v, Step ω H ω' H' → Sta g ω' H' σD' σ' → RD g.K g.cl H' ω' .res d v → D.rt v H'
  | .exc c ns vs σD' => ∀ ω' H' σ' C d, Step ω H ω' H' → Sta g ω' H' σD' σ' → EX g ω' H' c ns vs C d → g.Ω C d σ' H'
  | .stuck => False
def tS (g : G) (m : MS) : TS := fun D σ H => ∃ ω σD, Sta g ω H σD σ ∧ PostS g ω H (m σD) D
theorem PostS.shift {r : RS} {D : Ends} (s : Step ω H ω' H') (h : PostS g ω H r D) : PostS g ω' H' r D := by
  cases r with
  | next σD' => exact fun ω2 H2 σ2 s2 st => h ω2 H2 σ2 (s.trans s2) st
  | brk σD' => exact fun ω2 H2 σ2 s2 st => h ω2 H2 σ2 (s.trans s2) st
  | cont σD' => exact fun ω2 H2 σ2 s2 st => h ω2 H2 σ2 (s.trans s2) st
  | ret d σD' => exact fun ω2 H2 σ2 v s2 st => h ω2 H2 σ2 v (s.trans s2) st
  | exc c ns vs σD' => exact fun ω2 H2 σ2 C d s2 st => h ω2 H2 σ2 C d (s.trans s2) st
  | stuck => exact h
def R.toS {α : Type} (r : R α) (k : α → Env → RS) : RS := match r with
  | .ok a σ => k a σ
  | .exc c ns vs σ => .exc c ns vs σ
  | .stuck => .stuck
@[simp] theorem R.toS_ok {α : Type} (a : α) (σ : Env) (k : α → Env → RS) : (R.ok a σ).toS k = k a σ := rfl
@[simp] theorem R.toS_exc {α : Type} (c ns vs) (σ : Env) (k : α → Env → RS) : (R.exc c ns vs σ : R α).toS k = .exc c ns vs σ := rfl
@[simp] theorem R.toS_stuck {α : Type} (k : α → Env → RS) : (R.stuck : R α).toS k = .stuck := rfl
theorem PostS.of {α : Type} {r : R α} {k : α → Env → RS} {D : Ends} (h : PostS g ω H (r.toS k) D) : Post g ω H σ r fun a σD' ω' H' => PostS g ω' H' (k a σD') D := by
  cases r with
  | ok b σD' => exact fun ω2 H2 s2 st => PostS.shift s2 h
  | exc c ns vs σD' => exact fun ω2 H2 C d s2 st x => h ω2 H2 σ C d s2 st x
  | stuck => exact h
end

section
variable {X : Cx} {g : G}
def mNil : MS := fun σ => .next σ
def mSeq (a b : MS) : MS := fun σ => match a σ with
  | .next σ1 => b σ1
  | r => r
theorem dss_nil : PSs X [] (tS g mNil) := pss_weak pss_nil fun D σ H h => by
  obtain ⟨ω, σD, st, q⟩ := h
  exact q ω H σ .refl st
theorem dss_cons {st : Stmt} {rest : List Stmt} {a b : MS} (h1 : PS X st (tS g a)) (h2 : PSs X rest (tS g b)) : PSs X (st :: rest) (tS g (mSeq a b)) := pss_weak (pss_cons h1 h2) fun D σ H h => by
  obtain ⟨ω, σD, st, q⟩ := h
  refine ⟨ω, σD, st, ?_⟩
  unfold mSeq at q
  cases e : a σD with
  | next σ1 =>
    rw [e] at q
    exact fun ω' H' σ' s st' => ⟨ω', σ1, st', PostS.shift s q⟩
  | ret d σ1 => rw [e] at q; exact q
  | brk σ1 => rw [e] at q; exact q
  | cont σ1 => rw [e] at q; exact q
  | exc c ns vs σ1 => rw [e] at q; exact q
  | stuck => rw [e] at q; exact q
theorem dss_one {st : Stmt} {a : MS} (h1 : PS X st (tS g a)) : PSs X [st] (tS g a) := pss_one h1
def mNever : MS := fun _ => .stuck
theorem ds_never {st : Stmt} : PS X st (tS g mNever) := ps_weak ps_never fun D σ H h => by
  obtain ⟨ω, σD, st, q⟩ := h
  exact q
theorem ds_pass {pos : Pos} : PS X (.Pass pos) (tS g mNil) := ps_weak ps_pass fun D σ H h => by
  obtain ⟨ω, σD, st, q⟩ := h
  exact q ω H σ .refl st
theorem ds_doc {x j pos pos'} : PS X (.Expr (.Constant (.str x) j pos) pos') (tS g mNil) := ps_weak ps_doc fun D σ H h => by
  obtain ⟨ω, σD, st, q⟩ := h
  exact q ω H σ .refl st
def mBreak : MS := fun σ => .brk σ
def mCont : MS := fun σ => .cont σ
theorem ds_break {pos : Pos} : PS X (.Break pos) (tS g mBreak) := ps_weak ps_break fun D σ H h => by
  obtain ⟨ω, σD, st, q⟩ := h
  exact q ω H σ .refl st
theorem ds_cont {pos : Pos} : PS X (.Continue pos) (tS g mCont) := ps_weak ps_continue fun D σ H h => by
  obtain ⟨ω, σD, st, q⟩ := h
  exact q ω H σ .refl st
def mDrop (m : M) : MS := fun σ => (m σ).toS fun _ σ1 => .next σ1
theorem ds_expr {e : Expr} {m : M} {pos : Pos} (he : PE X e (tM g m)) (hs : swapsWith e none pos.line X.env = pure false := by rfl) : PS X (.Expr e pos) (tS g (mDrop m)) := ps_weak (ps_expr he hs) fun D σ H h => by
  obtain ⟨ω, σD, st, q⟩ := h
  exact ⟨ω, σD, st, (PostS.of q).imp fun o σ1 ω1 H1 s1 st1 q1 v ov => q1 ω1 H1 σ .refl st1⟩
def mRet (m : M) : MS := fun σ => (m σ).toS fun o σ1 => (frz o σ1).toS fun x σ2 => .ret (.p x) σ2
theorem ds_ret {e : Expr} {m : M} {pos : Pos} (he : PE X e (tM g m)) : PS X (.Return (some e) pos) (tS g (mRet m)) := ps_weak (ps_ret he) fun D σ H h => by
  obtain ⟨ω, σD, st, q⟩ := h
  refine ⟨ω, σD, st, (PostS.of q).imp fun o σ1 ω1 H1 s1 st1 q1 v ov => ?_⟩
  obtain ⟨x, σ2, ω2, s2, st2, r, e, q2⟩ := frz_ok st1 ov (PostS.of q1)
  exact q2 ω2 H1 σ v .refl st2 (.p r)
def mRetN : MS := fun σ => .ret (.p .non) σ
theorem ds_retN {pos : Pos} : PS X (.Return none pos) (tS g mRetN) := ps_weak ps_retN fun D σ H h => by
  obtain ⟨ω, σD, st, q⟩ := h
  exact q ω H σ .non .refl st (.p .non)
def mIf (c : MT) (a b : MS) : MS := fun σ => (c σ).toS fun x σ1 => if x = true then a σ1 else b σ1
theorem ds_if {c : Expr} {a b : List Stmt} {mc : MT} {ma mb : MS} {pos : Pos} (hc : PT X c (tT g mc)) (ha : PSs X a (tS g ma)) (hb : PSs X b (tS g mb)) : PS X (.If c a b pos) (tS g (mIf mc ma mb)) := ps_weak (ps_if hc ha hb) fun D σ H h => by
  obtain ⟨ω, σD, st, q⟩ := h
  refine ⟨ω, σD, st, (PostS.of q).imp fun x σ1 ω1 H1 s1 st1 q1 => ?_⟩
  cases x with
  | true => exact ⟨ω1, σ1, st1, q1⟩
  | false => exact ⟨ω1, σ1, st1, q1⟩
/-- x = e, as data -/
def mSet (i : Nat) (m : M) : MS := fun σ => (m σ).toS fun o σ1 => (frz o σ1).toS fun x σ2 => .next (σ2.set i (some (.p x)))
theorem ds_set {i : Nat} {x : Str} {e : Expr} {m : M} {pos pos' : Pos} (hN : X.N.Nodup) (hi : X.N[i]? = some x) (hx : Loc X.env.scope x) (hio : i ∉ g.io) (he : PE X e (tM g m)) (hs : swapsWith e (some (.Name x pos')) pos.line X.env = pure false := by rfl)
    (hf : X.fn x = true ∨ X.env.scope.names.lookup x = some .local := by first | exact .inl rfl | exact .inr rfl | assumption) : PS X (.Assign [.Name x pos'] e pos) (tS g (mSet i m)) := ps_weak (ps_set hN hi hx he hs hf) fun D σ H h => by
  obtain ⟨ω, σD, st, q⟩ := h
  refine ⟨ω, σD, st, (PostS.of q).imp fun o σ1 ω1 H1 s1 st1 q1 v ov => ?_⟩
  obtain ⟨y, σ2, ω2, s2, st2, r, e, q2⟩ := frz_ok st1 ov (PostS.of q1)
  exact q2 ω2 H1 _ .refl (st2.setP hio r)

/-! ### owned things made -/
abbrev MF := Env → R D
def tF (g : G) (m : MF) : TE := fun σ H Q => ∃ ω σD, Sta g ω H σD σ ∧ Post g ω H σ (m σD) fun d _ ω' H' => ∀ v, RD g.K g.cl H' ω' .tmp d v → Q v H'
/-- x = e, owned -/
def mSetF (i : Nat) (m : MF) : MS := fun σ => (m σ).toS fun d σ1 => .next (σ1.set i (some d))
/-- to slot i: what is there is left, the new thing comes -/
def give (ω : Om) (i : Nat) : Om := ren (ren ω (.at i) .free) .tmp (.at i)
theorem Step.give {ω : Om} {H : Hp} (i : Nat) : Step ω H (give ω i) H := (Step.ren (by intro z; cases z) (by intro z; cases z)).trans (.ren (by intro z; cases z) (by intro z; cases z))
theorem Sta.setD {ω : Om} {H : Hp} {σD : Env} {σ : L2.St} (st : Sta g ω H σD σ) {i : Nat} {d : D} {v : V} (hi : i ∉ g.io) (r : RD g.K g.cl H ω .tmp d v) : Sta g (give ω i) H (σD.set i (some d)) (σ.set i (some v)) where
  len := by rw [List.length_set, List.length_set]; exact st.len
  rd := fun j d' e => by
    have hf : ∀ a, ω a = .free → give ω i a = .free := fun a h => ren_free (by intro z; cases z) (ren_free (by intro z; cases z) h)
    rcases set_get e with ⟨e1, e2, e3⟩ | ⟨e1, e2⟩
    · subst e1
      cases e2
      exact ⟨v, set_lt (by rw [← st.len]; exact e3), r.own hf fun a h => ren_at (ren_ne h (by intro z; cases z))⟩
    · rw [List.getElem?_set_ne e1]
      obtain ⟨v', e4, r'⟩ := st.rd j d' e2
      exact ⟨v', e4, r'.own hf fun a h => ren_ne (ren_ne h (fun z => e1 (by cases z; rfl))) (by intro z; cases z)⟩
  par := fun j w hj hw => by
    rw [List.getElem?_set_ne (by rintro rfl; exact hi hj)]
    exact st.par j w hj hw
  dom := (st.dom.ren (by intro z; cases z)).ren (by intro z; cases z)
theorem ds_setF {i : Nat} {x : Str} {e : Expr} {m : MF} {pos pos' : Pos} (hN : X.N.Nodup) (hi : X.N[i]? = some x) (hx : Loc X.env.scope x) (hio : i ∉ g.io) (he : PE X e (tF g m)) (hs : swapsWith e (some (.Name x pos')) pos.line X.env = pure false := by rfl)
    (hf : X.fn x = true ∨ X.env.scope.names.lookup x = some .local := by first | exact .inl rfl | exact .inr rfl | assumption) : PS X (.Assign [.Name x pos'] e pos) (tS g (mSetF i m)) := ps_weak (ps_set hN hi hx he hs hf) fun D σ H h => by
  obtain ⟨ω, σD, st, q⟩ := h
  refine ⟨ω, σD, st, (PostS.of q).imp fun d σ1 ω1 H1 s1 st1 q1 v r => ?_⟩
  exact q1 _ H1 _ (.give i) (st1.setD hio r)
/-- return of an owned thing -/
def mRetF (m : MF) : MS := fun σ => (m σ).toS fun d σ1 => .ret d σ1
theorem ds_retF {e : Expr} {m : MF} {pos : Pos} (he : PE X e (tF g m)) : PS X (.Return (some e) pos) (tS g (mRetF m)) := ps_weak (ps_ret he) fun D σ H h => by
  obtain ⟨ω, σD, st, q⟩ := h
  refine ⟨ω, σD, st, (PostS.of q).imp fun d σ1 ω1 H1 s1 st1 q1 v r => ?_⟩
  refine q1 (ren ω1 .tmp .res) H1 σ v (.ren (by intro z; cases z) (by intro z; cases z)) ⟨st1.len, fun j d' e => ?_, st1.par, st1.dom.ren (by intro z; cases z)⟩ (r.own (fun a h => ren_free (by intro z; cases z) h) fun a h => ren_at h)
  obtain ⟨v', e4, r'⟩ := st1.rd j d' e
  exact ⟨v', e4, r'.own (fun a h => ren_free (by intro z; cases z) h) fun a h => ren_ne h (by intro z; cases z)⟩
/-- a new thing laid at p, under tmp -/
def lay (ω : Om) (p : Addr) : Om := fun a => if a = p then .tmp else ω a
theorem lay_new {ω : Om} {H : Hp} {σD : Env} {σ : L2.St} (st : Sta g ω H σD σ) {p : Addr} {o : HO} (hp : H p = none) (ht : isT o = false) : Step ω H (lay ω p) (upd H p o) ∧ Sta g (lay ω p) (upd H p o) σD σ ∧ ∀ x v, RP g.K g.cl H (Fr ω) x v → RP g.K g.cl (upd H p o) (Fr (lay ω p)) x v := by
  have ne : ∀ a o, H a = some o → a ≠ p := fun a o h => ne_of_none h hp
  have hl : ∀ a, H a ≠ none → lay ω p a = ω a := fun a h => by
    unfold lay
    exact if_neg (by intro e; exact h (by rw [e]; exact hp))
  have nn : ∀ a, ω a ≠ .free → H a ≠ none := fun a h => by
    obtain ⟨o, e, _⟩ := st.dom.dom a h
    rw [e]; intro z; cases z
  have s : Step ω H (lay ω p) (upd H p o) := ⟨fun a u h _ => .inl (by rw [upd_ne (ne a u h)]; exact h), fun a u h _ => by rw [upd_ne (ne a u h)]; exact h, fun a h => by
      rw [hl a (nn a (by rw [h]; intro z; cases z))]; exact h, fun a h t => by rw [hl a t]; exact h, fun a h => by
      cases e : H a with
      | none => exact absurd e h
      | some u => rw [upd_ne (ne a u e), e]; intro z; cases z⟩
  refine ⟨s, ⟨st.len, fun j d e => ?_, st.par, ⟨fun a h => ?_⟩⟩, fun x v r => s.rp st.dom r⟩
  · obtain ⟨v, e1, r⟩ := st.rd j d e
    exact ⟨v, e1, r.keep2 (s.keeps st.dom) (fun a u h _ => Same.new hp a u h) fun a t h => by rw [hl a t]; exact h⟩
  · by_cases e : a = p
    · subst e
      exact ⟨o, upd_same, ht⟩
    · obtain ⟨u, e2, t⟩ := st.dom.dom a (by unfold lay at h; rw [if_neg e] at h; exact h)
      exact ⟨u, by rw [upd_ne e]; exact e2, t⟩
end
end PV

set_option Elab.async false
set_option linter.all false
set_option maxRecDepth 100000
set_option maxHeartbeats 4000000
/-! PvD: a def's meaning as a function on data (FS), its promise (spOf), a body that keeps it (fn_sem), the calls. -/
namespace PV
open PySem L2

inductive FR where
  | ok (d : D) (fin : List D) | exc (c : String) (ns : List String) (vs : List P) (fin : List D) | stuck
abbrev FS := List D → FR

def finOf (io : List Nat) (σ : Env) : Nat → List D → Option (List D)
  | _, [] => some []
  | j, a :: as => match (if j ∈ io then (match σ[j]? with | some (some d) => some d | _ => none) else some a), finOf io σ (j + 1) as with
    | some d, some r => some (d :: r)
    | _, _ => none
def okArgs (io : List Nat) : Nat → List D → Bool
  | _, [] => true
  | j, a :: as => (decide (j ∈ io) || !a.owned) && okArgs io (j + 1) as
def fnEnd (io : List Nat) (args : List D) (r : RS) : FR := match r with
  | .next σ => match finOf io σ 0 args with
    | some f => .ok (.p .non) f
    | none => .stuck
  | .ret d σ => match finOf io σ 0 args with
    | some f => .ok d f
    | none => .stuck
  | .exc c ns vs σ => match finOf io σ 0 args with
    | some f => .exc c ns vs f
    | none => .stuck
  | _ => .stuck
def fnOf (np nl : Nat) (io : List Nat) (body : MS) : FS := fun args =>
  if args.length = np ∧ okArgs io 0 args = true then fnEnd io args (body (args.map some ++ List.replicate nl none)) else .stuck

/-- arguments, or what is left of them -/
def RDs (K : PySem.W.Frag) (cl : String → Option Addr) (H : Hp) (ω : Om) (ds : List D) (vs : List V) : Prop := ∀ (j : Nat) (d : D) (v : V), ds[j]? = some d → vs[j]? = some v → RD K cl H ω (.at j) d v
def EXs (K : PySem.W.Frag) (cl : String → Option Addr) (ω : Om) (H : Hp) (c : String) (ns : List String) (vs : List P) (cls : Value) (d : Option Addr) : Prop :=
  ∃ (C dx : Addr) (fs : List (Str × V)), cls = .ref C ∧ d = some dx ∧ cl c = some C ∧ H dx = some (.xd fs) ∧ fs.map (·.1) = ns.map ofS ∧ RPs K cl H (Fr ω) vs (fs.map (·.2))
def CallPost (K : PySem.W.Frag) (cl : String → Option Addr) (ω : Om) (H : Hp) (vs : List V) (r : FR) (Q : VK) (E : XK) : Prop := match r with
  | .ok d fin => ∀ ω' H' v, Step ω H ω' H' → Dom ω' H' → RDs K cl H' ω' fin vs → RD K cl H' ω' .res d v → Q v H'
  | .exc c ns xs fin => ∀ ω' H' C dx, Step ω H ω' H' → Dom ω' H' → RDs K cl H' ω' fin vs → EXs K cl ω' H' c ns xs C dx → E C dx H'
  | .stuck => False
def spOf (K : PySem.W.Frag) (cl : String → Option Addr) (np : Nat) (f : FS) : Sp := fun vs H Q E => ∃ (ω : Om) (ds : List D), vs.length = np ∧ ds.length = np ∧ RDs K cl H ω ds vs ∧ Dom ω H ∧ CallPost K cl ω H vs (f ds) Q E

theorem finOf_get {io : List Nat} {σ : Env} : ∀ {as : List D} {k : Nat} {fin : List D}, finOf io σ k as = some fin → ∀ (j : Nat) (d : D), fin[j]? = some d → (k + j ∈ io ∧ σ[k + j]? = some (some d)) ∨ (k + j ∉ io ∧ as[j]? = some d)
  | [], k, fin, h, j, d, e => by cases h; simp at e
  | a :: as, k, fin, h, j, d, e => by
    unfold finOf at h
    split at h
    · rename_i d0 r e0 er
      cases h
      cases j with
      | zero =>
        simp at e
        subst e
        by_cases hk : k ∈ io
        · rw [if_pos hk] at e0
          cases q : σ[k]? with
          | none => rw [q] at e0; cases e0
          | some o =>
            cases o with
            | none => rw [q] at e0; cases e0
            | some d1 =>
              rw [q] at e0
              exact .inl ⟨hk, congrArg some e0⟩
        · rw [if_neg hk] at e0
          exact .inr ⟨hk, by simpa using e0⟩
      | succ j =>
        have e' : r[j]? = some d := by simpa using e
        have z := finOf_get er j d e'
        rw [show k + 1 + j = k + (j + 1) by omega] at z
        rcases z with z | ⟨z1, z2⟩
        · exact .inl z
        · exact .inr ⟨z1, by simpa using z2⟩
    · cases h
theorem okArgs_get {io : List Nat} : ∀ {as : List D} {k : Nat}, okArgs io k as = true → ∀ (j : Nat) (d : D), as[j]? = some d → k + j ∉ io → ∃ x, d = .p x
  | [], k, h, j, d, e, _ => by simp at e
  | a :: as, k, h, j, d, e, hn => by
    unfold okArgs at h
    rw [Bool.and_eq_true, Bool.or_eq_true] at h
    cases j with
    | zero =>
      simp at e
      subst e
      rcases h.1 with h1 | h1
      · exact absurd (of_decide_eq_true h1) hn
      · cases a with
        | p x => exact ⟨x, rfl⟩
        | _ => simp [D.owned] at h1
    | succ j => exact okArgs_get h.2 j d (by simpa using e) (by rw [show k + 1 + j = k + (j + 1) by omega]; exact hn)

section
variable {P : Program} {w : World} {K : PySem.W.Frag} {mg : Str → Option Value} {base : Heap} {cl : String → Option Addr}
/-- THE RULE for a def -/
theorem fn_sem {x qual : Str} {st : Stmt} {f : Addr} {fd : FuncData} {N ps : List Str} {k np nl : Nat} {io : List Nat} {body : MS} (F : Fun K x qual st f fd) (S : FnScope N ps (defScope st)) (hnp : ps.length = np) (hnl : N.length = np + nl)
    (h : ∀ (cdv : Value) (A : Around) (outer : List PySem.Env) (s : Shared) (H : Hp) (vs : List V) (E : XK), Room k (A.deeper (PyProof.Rows.envOfC qual (defScope st) s.heap.objs.size f cdv)) →
      PSs (cxOf (L2.CX P w) P w K mg base N qual (defScope st) f cdv A outer s H E) (defBody st) (tS ⟨K, cl, io, vs, fun C d _ H => E C d H⟩ body)) :
    FnOk P w K mg base (L2.CX P w) (k + 1) f fd ps (spOf K cl np (fnOf np nl io body)) := by
  refine F.okX S (fun vs H Q E ⟨_, _, hv, _⟩ => by rw [hnp]; exact hv) fun cdv A outer s H vs Q E hr hsp => ?_
  obtain ⟨ω, ds, hv, hd, rd, dm, q⟩ := hsp
  refine ⟨tS ⟨K, cl, io, vs, fun C d _ H => E C d H⟩ body, h cdv A outer s H vs E hr, ω, ds.map some ++ List.replicate nl none, ?_, ?_⟩
  · have hst : L2.start N vs = vs.map some ++ List.replicate nl none := by
      unfold L2.start
      rw [hnl, hv, Nat.add_sub_cancel_left]
    rw [hst]
    refine ⟨by simp [hv, hd], fun i d e => ?_, fun i v _ e => ?_, dm⟩
    · have hi : i < ds.length := by
        refine Nat.lt_of_not_le fun hle => ?_
        rw [List.getElem?_append_right (by simpa using hle)] at e
        obtain ⟨_, e2⟩ := List.getElem?_eq_some_iff.mp e
        simp at e2
      rw [List.getElem?_append_left (by simpa using hi)] at e
      have e1 : ds[i]? = some d := by simpa using e
      have hi2 : i < vs.length := by omega
      refine ⟨vs[i], ?_, rd i d _ e1 (List.getElem?_eq_getElem hi2)⟩
      rw [List.getElem?_append_left (by simpa using hi2)]
      simp [hi2]
    · have hi2 := get_lt e
      show (vs.map some ++ List.replicate nl none)[i]? = some (some v)
      rw [List.getElem?_append_left (by simpa using hi2)]
      simpa using e
  · unfold fnOf at q
    by_cases hc : ds.length = np ∧ okArgs io 0 ds = true
    · rw [if_pos hc] at q
      have fins : ∀ {σD' : Env} {fin : List D} {ω' : Om} {H' : Hp} {σ' : L2.St}, finOf io σD' 0 ds = some fin → Step ω H ω' H' → Sta ⟨K, cl, io, vs, fun C d _ H => E C d H⟩ ω' H' σD' σ' → RDs K cl H' ω' fin vs := fun {σD' fin ω' H' σ'} hf s st j d v e1 e2 => by
        rcases finOf_get hf j d e1 with ⟨z1, z2⟩ | ⟨z1, z2⟩
        · rw [Nat.zero_add] at z1 z2
          obtain ⟨v', e3, r⟩ := st.rd j d z2
          have e4 : σ'[j]? = some (some v) := st.par j v z1 e2
          rw [e3] at e4; cases e4
          exact r
        · obtain ⟨y, rfl⟩ := okArgs_get hc.2 j d z2 z1
          have r := rd j _ v z2 e2
          cases r with | p r => exact .p (s.rp dm r)
      show PostS _ ω H (body (ds.map some ++ List.replicate nl none)) _
      cases e : body (ds.map some ++ List.replicate nl none) with
      | next σD' =>
        rw [e] at q
        unfold fnEnd at q
        intro ω' H' σ' s st
        cases hf : finOf io σD' 0 ds with
        | none => simp only [hf] at q; exact q.elim
        | some fin =>
          simp only [hf] at q
          exact q ω' H' .non s st.dom (fins hf s st) (.p .non)
      | ret d σD' =>
        rw [e] at q
        unfold fnEnd at q
        intro ω' H' σ' v s st r
        cases hf : finOf io σD' 0 ds with
        | none => simp only [hf] at q; exact q.elim
        | some fin =>
          simp only [hf] at q
          exact q ω' H' v s st.dom (fins hf s st) r
      | exc c ns xs σD' =>
        rw [e] at q
        unfold fnEnd at q
        intro ω' H' σ' C d s st r
        cases hf : finOf io σD' 0 ds with
        | none => simp only [hf] at q; exact q.elim
        | some fin =>
          simp only [hf] at q
          exact q ω' H' C d s st.dom (fins hf s st) r
      | brk σD' => rw [e] at q; exact False.elim q
      | cont σD' => rw [e] at q; exact False.elim q
      | stuck => rw [e] at q; exact q
    · rw [if_neg hc] at q
      exact q.elim
end

/-! ### calls -/
def takeAll (σ : Env) : List O → Option (List D)
  | [] => some []
  | .v x :: os => (takeAll σ os).bind fun ds => some (.p x :: ds)
  | .at i :: os => match σ[i]? with
    | some (some d) => (takeAll σ os).bind fun ds => some (d :: ds)
    | _ => none
def giveBack (σ : Env) : List O → List D → Env
  | .at i :: os, d :: ds => (giveBack σ os ds).set i (some d)
  | .v _ :: os, _ :: ds => giveBack σ os ds
  | _, _ => σ
def atIx (i : Nat) : Nat → List O → Option Nat
  | _, [] => none
  | k, .at j :: os => if i = j then some k else atIx i (k + 1) os
  | k, .v _ :: os => atIx i (k + 1) os
/-- no slot twice -/
def once : List O → Bool
  | [] => true
  | .at i :: os => (match atIx i 0 os with | none => true | some _ => false) && once os
  | .v _ :: os => once os
def callEnd (σ1 : Env) (os : List O) (f : FS) : R D := match takeAll σ1 os with
  | some ds => if once os = true then (match f ds with
    | .ok d fin => .ok d (giveBack σ1 os fin)
    | .exc c ns vs fin => .exc c ns vs (giveBack σ1 os fin)
    | .stuck => .stuck) else .stuck
  | none => .stuck
def mCall (f : FS) (ms : List M) : M := fun σ => (mAs ms σ).bind fun os σ1 => (callEnd σ1 os f).bind fun d σ2 => .ok (.v d.view) σ2
def mCallF (f : FS) (ms : List M) : MF := fun σ => (mAs ms σ).bind fun os σ1 => callEnd σ1 os f

theorem atIx_some {i : Nat} : ∀ {os : List O} {k j : Nat}, atIx i k os = some j → ∃ m, j = k + m ∧ os[m]? = some (.at i)
  | [], k, j, h => by cases h
  | .at i' :: os, k, j, h => by
    unfold atIx at h
    split at h
    · rename_i e
      cases h; subst e
      exact ⟨0, rfl, rfl⟩
    · obtain ⟨m, e1, e2⟩ := atIx_some h
      exact ⟨m + 1, by omega, by simpa using e2⟩
  | .v _ :: os, k, j, h => by
    unfold atIx at h
    obtain ⟨m, e1, e2⟩ := atIx_some h
    exact ⟨m + 1, by omega, by simpa using e2⟩
theorem atIx_none {i : Nat} : ∀ {os : List O} {k : Nat}, atIx i k os = none → ∀ m : Nat, os[m]? ≠ some (.at i)
  | [], k, h, m => by simp
  | .at i' :: os, k, h, m => by
    unfold atIx at h
    split at h
    · cases h
    · rename_i ne
      cases m with
      | zero => simp; exact fun z => ne z.symm
      | succ m => simpa using atIx_none h m
  | .v _ :: os, k, h, m => by
    unfold atIx at h
    cases m with
    | zero => simp
    | succ m => simpa using atIx_none h m
theorem atIx_once : ∀ {os : List O} {k m : Nat} {i : Nat}, once os = true → os[m]? = some (.at i) → atIx i k os = some (k + m)
  | [], k, m, i, _, e => by simp at e
  | .at i' :: os, k, m, i, h, e => by
    unfold once at h
    rw [Bool.and_eq_true] at h
    unfold atIx
    cases m with
    | zero =>
      simp at e
      subst e
      rw [if_pos rfl]; rfl
    | succ m =>
      have e' : os[m]? = some (.at i) := by simpa using e
      split
      · rename_i q
        subst q
        exfalso
        have h1 := h.1
        cases q : atIx i 0 os with
        | none => exact atIx_none q m e'
        | some _ => rw [q] at h1; cases h1
      · rw [atIx_once h.2 e']
        congr 1; omega
  | .v _ :: os, k, m, i, h, e => by
    unfold once at h
    unfold atIx
    cases m with
    | zero => simp at e
    | succ m =>
      have e' : os[m]? = some (.at i) := by simpa using e
      rw [atIx_once h e']
      congr 1; omega
theorem takeAll_get {σ : Env} : ∀ {os : List O} {ds : List D}, takeAll σ os = some ds → ds.length = os.length ∧ ∀ (j : Nat) (d : D), ds[j]? = some d → (∃ x, os[j]? = some (.v x) ∧ d = .p x) ∨ (∃ i, os[j]? = some (.at i) ∧ σ[i]? = some (some d))
  | [], ds, h => by cases h; exact ⟨rfl, fun j d e => by simp at e⟩
  | .v x :: os, ds, h => by
    unfold takeAll at h
    obtain ⟨r, e1, e2⟩ := Option.bind_eq_some_iff.mp h
    cases e2
    obtain ⟨l, g⟩ := takeAll_get e1
    refine ⟨by simp [l], fun j d e => ?_⟩
    cases j with
    | zero => simp at e; exact .inl ⟨x, rfl, e.symm⟩
    | succ j => simpa using g j d (by simpa using e)
  | .at i :: os, ds, h => by
    unfold takeAll at h
    split at h
    · rename_i d0 q
      obtain ⟨r, e1, e2⟩ := Option.bind_eq_some_iff.mp h
      cases e2
      obtain ⟨l, g⟩ := takeAll_get e1
      refine ⟨by simp [l], fun j d e => ?_⟩
      cases j with
      | zero => simp at e; subst e; exact .inr ⟨i, rfl, q⟩
      | succ j => simpa using g j d (by simpa using e)
    · cases h
theorem giveBack_len {σ : Env} : ∀ (os : List O) (ds : List D), (giveBack σ os ds).length = σ.length
  | [], _ => rfl
  | .at _ :: _, [] => rfl
  | .v _ :: _, [] => rfl
  | .at i :: os, d :: ds => by
    unfold giveBack
    rw [List.length_set]; exact giveBack_len os ds
  | .v _ :: os, d :: ds => by
    unfold giveBack
    exact giveBack_len os ds
/-- a slot behind a call: as it was, or what the callee left of its argument -/
theorem giveBack_get {σ : Env} {m : Nat} {d : D} : ∀ {os : List O} {ds : List D}, (giveBack σ os ds)[m]? = some (some d) → ((∀ j : Nat, j < ds.length → os[j]? ≠ some (O.at m)) ∧ σ[m]? = some (some d)) ∨ ∃ j : Nat, os[j]? = some (O.at m) ∧ ds[j]? = some d
  | [], _, e => .inl ⟨by simp, e⟩
  | .at _ :: _, [], e => .inl ⟨by simp, e⟩
  | .v _ :: _, [], e => .inl ⟨by simp, e⟩
  | .at i :: os, d0 :: ds, e => by
    unfold giveBack at e
    rcases set_get e with ⟨e1, e2, e3⟩ | ⟨e1, e2⟩
    · subst e1
      cases e2
      exact .inr ⟨0, rfl, rfl⟩
    · rcases giveBack_get e2 with ⟨z1, z2⟩ | ⟨j, z1, z2⟩
      · refine .inl ⟨fun j hj => ?_, z2⟩
        cases j with
        | zero => simp; exact e1
        | succ j => simpa using z1 j (by simpa using hj)
      · exact .inr ⟨j + 1, by simpa using z1, by simpa using z2⟩
  | .v _ :: os, d0 :: ds, e => by
    unfold giveBack at e
    rcases giveBack_get e with ⟨z1, z2⟩ | ⟨j, z1, z2⟩
    · refine .inl ⟨fun j hj => ?_, z2⟩
      cases j with
      | zero => simp
      | succ j => simpa using z1 j (by simpa using hj)
    · exact .inr ⟨j + 1, by simpa using z1, by simpa using z2⟩

/-- the ownership that the callee sees; the caller's behind the call -/
def inCall (ω : Om) (os : List O) : Om := fun a => match ω a with
  | .free => .free
  | .at i => (match atIx i 0 os with
    | some j => .at j
    | none => .out)
  | _ => .out
def outCall (ω ω' : Om) (os : List O) : Om := fun a => match ω' a with
  | .free => .free
  | .out => ω a
  | .at j => (match os[j]? with
    | some (.at i) => .at i
    | _ => .free)
  | .res => .tmp
  | .tmp => .free
section
variable {g : G} {ω ω' : Om} {H H' : Hp} {σD : Env} {σ : L2.St} {os : List O} {vs : List V}
theorem inCall_free {a : Addr} : inCall ω os a = .free ↔ ω a = .free := by
  unfold inCall
  cases e : ω a with
  | free => simp
  | «at» i =>
    simp only
    constructor
    · intro h
      cases q : atIx i 0 os with
      | none => rw [q] at h; cases h
      | some j => rw [q] at h; cases h
    · intro h; cases h
  | _ => simp
theorem inCall_out {a : Addr} (h : ω a = .out) : inCall ω os a = .out := by
  unfold inCall; rw [h]
theorem Step.call (dm : Dom ω H) (s : Step (inCall ω os) H ω' H') : Step ω H (outCall ω ω' os) H' where
  fr := fun a o h w => s.fr a o h (inCall_free.mpr w)
  ot := fun a o h w => s.ot a o h (inCall_out w)
  out := fun a h => by
    unfold outCall
    rw [s.out a (inCall_out h)]
    exact h
  fz := fun a h t => by
    unfold outCall
    rw [s.fz a (inCall_free.mpr h) t]
  th := s.th
theorem outCall_free {a : Addr} (h : ω' a = .free) : outCall ω ω' os a = .free := by unfold outCall; rw [h]
theorem OVs.get {j : Nat} {o : O} : ∀ {os : List O} {vs : List V} {j : Nat}, OVs g ω H σ os vs → os[j]? = some o → ∃ v, vs[j]? = some v ∧ OV g ω H σ o v
  | _, _, _, .nil, e => by simp at e
  | _, _, 0, .cons h _, e => by simp at e; subst e; exact ⟨_, rfl, h⟩
  | _, _, j + 1, .cons _ t, e => by
    obtain ⟨v, e1, r⟩ := OVs.get (j := j) t (by simpa using e)
    exact ⟨v, by simpa using e1, r⟩
theorem OVs.length (h : OVs g ω H σ os vs) : os.length = vs.length := by
  induction h with
  | nil => rfl
  | cons _ _ ih => simp [ih]
theorem call_in (st : Sta g ω H σD σ) (ov : OVs g ω H σ os vs) {ds : List D} (ht : takeAll σD os = some ds) (ho : once os = true) : RDs g.K g.cl H (inCall ω os) ds vs ∧ Dom (inCall ω os) H := by
  refine ⟨fun j d v e1 e2 => ?_, ⟨fun a h => st.dom.dom a fun e => h (inCall_free.mpr e)⟩⟩
  rcases (takeAll_get ht).2 j d e1 with ⟨x, h1, rfl⟩ | ⟨i, h1, h2⟩
  · obtain ⟨v', e3, r⟩ := ov.get (j := j) h1
    rw [e2] at e3; cases e3
    cases r with | v r => exact .p (RP.keep (Keeps.own fun a h => inCall_free.mpr h) _ _ r)
  · obtain ⟨v', e3, r⟩ := ov.get (j := j) h1
    rw [e2] at e3; cases e3
    cases r with
    | «at» r =>
      obtain ⟨v', e4, r'⟩ := st.rd i d h2
      rw [r] at e4; cases e4
      refine r'.own (fun a h => inCall_free.mpr h) fun a h => ?_
      unfold inCall
      rw [h]
      show (match atIx i 0 os with | some j => Own.at j | none => .out) = _
      rw [atIx_once ho h1, Nat.zero_add]
theorem call_out (st : Sta g ω H σD σ) (ov : OVs g ω H σ os vs) (ho : once os = true) {fin : List D} (hl : fin.length = os.length) (s : Step (inCall ω os) H ω' H') (dm : Dom ω' H') (rd : RDs g.K g.cl H' ω' fin vs) :
    Sta g (outCall ω ω' os) H' (giveBack σD os fin) σ where
  len := by rw [giveBack_len]; exact st.len
  rd := fun m d e => by
    rcases giveBack_get e with ⟨z1, z2⟩ | ⟨j, z1, z2⟩
    · obtain ⟨v, e1, r⟩ := st.rd m d z2
      have hno : ∀ a, ω a = .at m → inCall ω os a = .out := fun a h => by
        unfold inCall
        rw [h]
        show (match atIx m 0 os with | some j => Own.at j | none => .out) = _
        cases q : atIx m 0 os with
        | none => rfl
        | some j =>
          obtain ⟨n, e2, e3⟩ := atIx_some q
          exact absurd e3 (z1 n (by rw [hl]; exact get_lt (x := O.at m) e3))
      refine ⟨v, e1, r.keep2 ((Step.call st.dom s).keeps st.dom) (fun a o h w => s.ot a o h (hno a w)) fun a t w => ?_⟩
      unfold outCall
      rw [s.out a (hno a w)]
      exact w
    · obtain ⟨v, e2, r⟩ := ov.get (j := j) z1
      cases r with
      | «at» r =>
        refine ⟨v, r, (rd j d v z2 e2).own (fun a h => outCall_free h) fun a h => ?_⟩
        unfold outCall
        rw [h]
        show (match os[j]? with | some (.at i) => Own.at i | _ => .free) = _
        rw [z1]
  par := st.par
  dom := ⟨fun a h => dm.dom a fun e => h (outCall_free e)⟩
end

/-- what a call leaves, the callee's promise as premise -/
theorem call_run {g : G} {ω : Om} {H : Hp} {σD : Env} {σ : L2.St} {os : List O} {vs : List V} {np : Nat} {f : FS} {Q : VK} (hf : ∀ ds d fin, f ds = .ok d fin → fin.length = ds.length) (hf' : ∀ ds c ns xs fin, f ds = .exc c ns xs fin → fin.length = ds.length) (hnp : os.length = np) (st : Sta g ω H σD σ) (ov : OVs g ω H σ os vs)
    (h : Post g ω H σ (callEnd σD os f) fun d _ ω' H' => ∀ v, RD g.K g.cl H' ω' .tmp d v → Q v H') : spOf g.K g.cl np f vs H Q (fun C d H' => g.Ω C d σ H') := by
  unfold callEnd at h
  cases e1 : takeAll σD os with
  | none => rw [e1] at h; exact h.elim
  | some ds =>
    rw [e1] at h
    by_cases ho : once os = true
    · simp only [ho, if_true] at h
      obtain ⟨rd, dm⟩ := call_in st ov e1 ho
      have hl := (takeAll_get e1).1
      refine ⟨inCall ω os, ds, by rw [← ov.length]; exact hnp, by rw [hl]; exact hnp, rd, dm, ?_⟩
      cases e2 : f ds with
      | stuck => rw [e2] at h; exact h.elim
      | ok d fin =>
        rw [e2] at h
        intro ω' H' v s dm' rd' r
        refine h _ H' (Step.call st.dom s) (call_out st ov ho (by rw [hf _ _ _ e2, hl]) s dm' rd') v (r.own (fun a h => outCall_free h) fun a h => ?_)
        unfold outCall; rw [h]
      | exc c ns xs fin =>
        rw [e2] at h
        intro ω' H' C dx s dm' rd' x
        refine h _ H' C dx (Step.call st.dom s) (call_out st ov ho (by rw [hf' _ _ _ _ _ e2, hl]) s dm' rd') ?_
        obtain ⟨C', dx', fs, h1, h2, h3, h4, h5, h6⟩ := x
        exact ⟨C', dx', fs, h1, h2, h3, h4, h5, RPs.keep (Keeps.own fun a h => outCall_free h) _ _ h6⟩
    · rw [Bool.not_eq_true] at ho
      simp only [ho] at h
      exact h.elim
end PV

set_option Elab.async false
set_option linter.all false
set_option maxRecDepth 100000
set_option maxHeartbeats 4000000
/-! PvE: calls of defs, instances made, fields, things changed in place. -/
namespace PV
open PySem L2

/-- a def that may be called by its name -/
structure Callee (P : Program) (w : World) (K : PySem.W.Frag) (mg : Str → Option Value) (base : Heap) (cl : String → Option Addr) (x : Str) (k np : Nat) (f : FS) : Prop where
  ex : ∃ (a : Addr) (fd : FuncData) (ps : List Str), FnOk P w K mg base (L2.CX P w) k a fd ps (spOf K cl np f) ∧ mg x = some (.ref a) ∧ PySem.W.keepIn K (.ref a) = true ∧ Binds K fd ps []
  fin : ∀ ds d fin, f ds = .ok d fin → fin.length = ds.length
  fin' : ∀ ds c ns xs fin, f ds = .exc c ns xs fin → fin.length = ds.length
/-- a class that may be made by its name -/
structure Maker (P : Program) (w : World) (K : PySem.W.Frag) (mg : Str → Option Value) (base : Heap) (cl : String → Option Addr) (x : Str) (c : String) (k np : Nat) (f : FS) : Prop where
  ex : ∃ (C a : Addr) (fd : FuncData) (ps : List Str), Mk K C a ∧ FnOk P w K mg base (L2.CX P w) k a fd ps (spOf K cl (np + 1) f) ∧ mg x = some (.ref C) ∧ cl c = some C ∧ Binds K fd ps []
  fin : ∀ ds d fin, f ds = .ok d fin → fin.length = ds.length
  fin' : ∀ ds c ns xs fin, f ds = .exc c ns xs fin → fin.length = ds.length

theorem finOf_len {io : List Nat} {σ : Env} : ∀ {as : List D} {k : Nat} {fin : List D}, finOf io σ k as = some fin → fin.length = as.length
  | [], k, fin, h => by cases h; rfl
  | a :: as, k, fin, h => by
    unfold finOf at h
    split at h
    · rename_i d0 r e0 er
      cases h
      simp [finOf_len er]
    · cases h
theorem fnOf_fin {np nl : Nat} {io : List Nat} {body : MS} {ds : List D} {d : D} {fin : List D} (h : fnOf np nl io body ds = .ok d fin) : fin.length = ds.length := by
  unfold fnOf fnEnd at h
  split at h
  · split at h
    · split at h
      · rename_i e; cases h; exact finOf_len e
      · cases h
    · split at h
      · rename_i e; cases h; exact finOf_len e
      · cases h
    · split at h <;> cases h
    · cases h
  · cases h
theorem fnOf_fin' {np nl : Nat} {io : List Nat} {body : MS} {ds : List D} {c ns xs} {fin : List D} (h : fnOf np nl io body ds = .exc c ns xs fin) : fin.length = ds.length := by
  unfold fnOf fnEnd at h
  split at h
  · split at h
    · split at h <;> cases h
    · split at h <;> cases h
    · split at h
      · rename_i e; cases h; exact finOf_len e
      · cases h
    · cases h
  · cases h

section
variable {X : Cx} {g : G}
theorem mAs_len : ∀ {ms : List M} {σ : Env} {os : List O} {σ' : Env}, mAs ms σ = .ok os σ' → os.length = ms.length
  | [], σ, os, σ', h => by cases h; rfl
  | m :: ms, σ, os, σ', h => by
    unfold mAs at h
    cases e : m σ with
    | ok o σ1 =>
      rw [e, R.bind_ok] at h
      cases e2 : mAs ms σ1 with
      | ok r σ2 =>
        rw [e2, R.bind_ok] at h
        cases h
        simp [mAs_len e2]
      | exc _ _ _ _ => rw [e2] at h; cases h
      | stuck => rw [e2] at h; cases h
    | exc _ _ _ _ => rw [e] at h; cases h
    | stuck => rw [e] at h; cases h
theorem Post.withEq {ω : Om} {H : Hp} {σ : L2.St} {β : Type} {r : R β} {k : β → Env → Om → Hp → Prop} (h : Post g ω H σ r k) : Post g ω H σ r fun b σD' ω' H' => r = .ok b σD' ∧ k b σD' ω' H' := by
  cases r with
  | ok b σD' => exact fun ω2 H2 s2 st => ⟨rfl, h ω2 H2 s2 st⟩
  | exc c ns vs σD' => exact h
  | stuck => exact h
theorem tA_call {f : FS} {ms : List M} {np : Nat} {Q : VK} {σ : L2.St} {H : Hp} (hf : ∀ ds d fin, f ds = .ok d fin → fin.length = ds.length) (hf' : ∀ ds c ns xs fin, f ds = .exc c ns xs fin → fin.length = ds.length) (hn : ms.length = np) (h : tF g (mCallF f ms) σ H Q) :
    tA g (mAs ms) σ H fun vs H1 => spOf g.K g.cl np f vs H1 Q (fun C d H' => g.Ω C d σ H') := by
  obtain ⟨ω, σD, st, q⟩ := h
  refine ⟨ω, σD, st, q.bind.withEq.imp fun os σ1 ω1 H1 s1 st1 q1 vs ov => ?_⟩
  refine call_run hf hf' ((mAs_len q1.1).trans hn) st1 ov ?_
  exact q1.2
theorem call_frz {f : FS} {ms : List M} {Q : VK} (σ : L2.St) (H : Hp) (h : tM g (mCall f ms) σ H Q) : tF g (mCallF f ms) σ H Q := by
  obtain ⟨ω, σD, st, q⟩ := h
  refine ⟨ω, σD, st, ?_⟩
  have q2 : Post g ω H σ ((mCallF f ms σD).bind fun d σ2 => R.ok (O.v d.view) σ2) (fun o _ ω' H' => ∀ v, OV g ω' H' σ o v → Q v H') := by
    have e : mCall f ms σD = (mCallF f ms σD).bind fun d σ2 => R.ok (O.v d.view) σ2 := by
      unfold mCall mCallF
      cases mAs ms σD <;> rfl
    rw [← e]; exact q
  refine q2.bind.imp fun d σ1 ω1 H1 s1 st1 q1 v r => ?_
  have st2 : Sta g (ren ω1 .tmp .free) H1 σ1 σ := ⟨st1.len, fun j d' e => by
    obtain ⟨v', e4, r'⟩ := st1.rd j d' e
    exact ⟨v', e4, r'.own (fun a h => ren_free (by intro z; cases z) h) fun a h => ren_ne h (by intro z; cases z)⟩, st1.par, st1.dom.ren (by intro z; cases z)⟩
  exact q1 _ H1 (.ren (by intro z; cases z) (by intro z; cases z)) st2 v (.v (r.frz (fun a h => ren_free (by intro z; cases z) h) fun a h => ren_at h))
theorem de_callF {x : Str} {k np : Nat} {f : FS} {e : Expr} {es : List Expr} {ms : List M} {p pos : Pos} (F : Callee X.prog X.w X.K X.mg X.base g.cl x k np f) (hK : g.K = X.K) (hr : Room k X.A) (tk : Takes X g.Ω) (hg : Gl X x) (ha : PA X (e :: es) (tA g (mAs ms))) (hn : ms.length = np := by rfl)
    (hdb : (x == ("__debug__" : Str)) = false := by decide) (he : starEach (e :: es) X.env = (false, eval e X.env) :: starEach es X.env := by rfl) (hpl : (backTo pos (starEach es X.env)).any (·.1) = false := by rfl) : PE X (.Call (.Name x p) (e :: es) [] pos) (tF g (mCallF f ms)) := by
  obtain ⟨⟨a, fd, ps, F1, h1, h2, h3⟩, hf, hf'⟩ := F
  refine pe_weak (pe_callS F1 hr hg h1 h2 h3 (passAt tk) ha hdb he hpl) fun σ H Q h => ?_
  have q := tA_call hf hf' hn h
  rw [hK] at q
  exact q
theorem de_call {x : Str} {k np : Nat} {f : FS} {e : Expr} {es : List Expr} {ms : List M} {p pos : Pos} (F : Callee X.prog X.w X.K X.mg X.base g.cl x k np f) (hK : g.K = X.K) (hr : Room k X.A) (tk : Takes X g.Ω) (hg : Gl X x) (ha : PA X (e :: es) (tA g (mAs ms))) (hn : ms.length = np := by rfl)
    (hdb : (x == ("__debug__" : Str)) = false := by decide) (he : starEach (e :: es) X.env = (false, eval e X.env) :: starEach es X.env := by rfl) (hpl : (backTo pos (starEach es X.env)).any (·.1) = false := by rfl) : PE X (.Call (.Name x p) (e :: es) [] pos) (tM g (mCall f ms)) :=
  pe_weak (de_callF F hK hr tk hg ha hn hdb he hpl) fun σ H Q h => call_frz σ H h

/-! ### fields -/
theorem ofS_inj {a b : String} (h : ofS a = ofS b) : a = b := by
  unfold ofS at h
  rw [Str.ofString_eq_toList, Str.ofString_eq_toList] at h
  have h1 : (a.toList.map Char.toNat).toArray = (b.toList.map Char.toNat).toArray := congrArg Str.cps h
  have h2 : a.toList.map Char.toNat = b.toList.map Char.toNat := by simpa using congrArg Array.toList h1
  have inj : ∀ c d : Char, c.toNat = d.toNat → c = d := fun c d e => by
    apply Char.ext
    exact UInt32.toNat_inj.mp e
  have h3 : a.toList = b.toList := List.map_inj_right (fun c d => inj c d) |>.mp h2
  exact String.toList_inj.mp h3
def lookF (f : String) : List String → List P → Option P
  | n :: ns, x :: xs => if n = f then some x else lookF f ns xs
  | _, _ => none
def putFP (f : String) (y : P) : List String → List P → List String × List P
  | n :: ns, x :: xs => if n = f then (n :: ns, y :: xs) else let r := putFP f y ns xs; (n :: r.1, x :: r.2)
  | _, _ => ([f], [y])
theorem lookF_ok {K : PySem.W.Frag} {cl : String → Option Addr} {H : Hp} {N : Addr → Prop} {f : String} : ∀ {ns : List String} {xs : List P} {fs : List (Str × V)} {x : P}, fs.map (·.1) = ns.map ofS → RPs K cl H N xs (fs.map (·.2)) → lookF f ns xs = some x → ∃ v, fs.lookup (ofS f) = some v ∧ RP K cl H N x v
  | [], _, _, _, _, _, h => by cases h
  | n :: ns, [], _, _, _, _, h => by cases h
  | n :: ns, y :: xs, [], _, e, _, _ => by cases e
  | n :: ns, y :: xs, (m, v) :: fs, x, e, r, h => by
    cases r with
    | cons r1 r2 =>
      have e1 : m = ofS n := (List.cons.inj e).1
      have e2 : fs.map (·.1) = ns.map ofS := (List.cons.inj e).2
      unfold lookF at h
      by_cases q : n = f
      · rw [if_pos q] at h
        cases h
        refine ⟨v, ?_, r1⟩
        rw [List.lookup_cons, e1, q]
        simp
      · rw [if_neg q] at h
        obtain ⟨u, h1, h2⟩ := lookF_ok e2 r2 h
        refine ⟨u, ?_, h2⟩
        rw [List.lookup_cons, e1]
        have : (ofS f == ofS n) = false := beq_eq_false_iff_ne.mpr fun z => q (ofS_inj z).symm
        rw [this]
        exact h1
structure FldOk (K : PySem.W.Frag) (cl : String → Option Addr) (c f : String) : Prop where
  ex : ∃ C, cl c = some C ∧ Cls K C ∧ NoAttr K C (ofS f)
def pAttr (cs : List String) (f : String) : P → Option P
  | .ins c ns xs => if c ∈ cs then lookF f ns xs else none
  | _ => none
theorem RO.ins_inv {K : PySem.W.Frag} {cl : String → Option Addr} {H : Hp} {N : Addr → Prop} {c : String} {ns : List String} {xs : List P} {v : V} (h : RO K cl H N (.ins c ns xs) v) : ∃ a C dx fs, v = .ref a ∧ H a = some (.ins C dx fs) ∧ cl c = some C ∧ fs.map (·.1) = ns.map ofS ∧ RPs K cl H N xs (fs.map (·.2)) := by
  cases h with
  | p h => cases h with | ins h1 h2 h3 h4 h5 => exact ⟨_, _, _, _, rfl, h1, h3, h4, h5⟩
  | ins h1 h3 h4 h5 => exact ⟨_, _, _, _, rfl, h1, h3, h4, h5⟩
theorem de_attr {e : Expr} {m : M} {f : String} {cs : List String} {pos : Pos} (he : PE X e (tM g m)) (hK : g.K = X.K) (hc : ∀ c ∈ cs, FldOk g.K g.cl c f) (hb : attributeBase e (ofS f) X.env (eval e X.env) = eval e X.env := by rfl) : PE X (.Attribute e (ofS f) pos) (tM g (mOp1 (pAttr cs f) m)) :=
  pe_weak (pe_fld he hb) fun σ H Q h => by
    obtain ⟨ω, σD, st, q⟩ := h
    refine ⟨ω, σD, st, q.bind.imp fun oa σ1 ω1 H1 s1 st1 q1 v ov => ?_⟩
    obtain ⟨z, e, q1⟩ := lift_post q1
    obtain ⟨x, e1, e2⟩ := Option.bind_eq_some_iff.mp e
    have ro := st1.get ov e1
    cases x with
    | ins c ns xs =>
      dsimp only [pAttr] at e2
      by_cases hcs : c ∈ cs
      · rw [if_pos hcs] at e2
        obtain ⟨a, C, dx, fs, rfl, h1, h2, h3, h4⟩ := ro.ins_inv
        obtain ⟨C', h5, h6, h7⟩ := (hc c hcs).ex
        rw [h2] at h5; cases h5
        obtain ⟨u, h8, h9⟩ := lookF_ok h3 h4 e2
        rw [hK] at h6 h7
        exact ⟨a, C, dx, fs, u, rfl, h1, h6, h7, h8, Post.ok q1 st1 u (.v h9)⟩
      · rw [if_neg hcs] at e2
        cases e2
    | _ => cases e2

theorem RPs.imp {K : PySem.W.Frag} {cl : String → Option Addr} {H H' : Hp} {N N' : Addr → Prop} (f : ∀ x v, RP K cl H N x v → RP K cl H' N' x v) : ∀ {xs : List P} {vs : List V}, RPs K cl H N xs vs → RPs K cl H' N' xs vs
  | [], _, h => by cases h; exact .nil
  | x :: xs, _, h => by
    cases h with
    | cons h1 h2 => exact .cons (f _ _ h1) (RPs.imp f h2)
/-! ### things changed in place -/
/-- the thing at a, owned under i, changed -/
theorem change {ω : Om} {H : Hp} {σD : Env} {σ : L2.St} (st : Sta g ω H σD σ) {i : Nat} {a : Addr} {o : HO} {d : D} (hi : i < σD.length) (hσ : σ[i]? = some (some (.ref a))) (ha : ω a = .at i) (ht : isT o = false) (hd : (∀ x v, RP g.K g.cl H (Fr ω) x v → RP g.K g.cl (upd H a o) (Fr ω) x v) → RD g.K g.cl (upd H a o) ω (.at i) d (.ref a)) :
    Step ω H ω (upd H a o) ∧ Sta g ω (upd H a o) (σD.set i (some d)) σ := by
  have ne : ∀ b, ω b ≠ .at i → b ≠ a := fun b h e => h (by rw [e]; exact ha)
  have s : Step ω H ω (upd H a o) := ⟨fun b u h w => .inl (by
      rw [upd_ne (ne b (by rw [w]; intro z; cases z))]; exact h), fun b u h w => by
      rw [upd_ne (ne b (by rw [w]; intro z; cases z))]; exact h, fun _ h => h, fun _ h _ => h, fun b h => by
      by_cases e : b = a
      · rw [e, upd_same]; intro z; cases z
      · rw [upd_ne e]; exact h⟩
  refine ⟨s, ⟨by rw [List.length_set]; exact st.len, fun j d' e => ?_, st.par, ⟨fun b h => ?_⟩⟩⟩
  · rcases set_get e with ⟨e1, e2, e3⟩ | ⟨e1, e2⟩
    · subst e1
      cases e2
      exact ⟨_, hσ, hd fun x v r => s.rp st.dom r⟩
    · obtain ⟨v, e3, r⟩ := st.rd j d' e2
      exact ⟨v, e3, r.keep2 (s.keeps st.dom) (fun b u h w => by rw [upd_ne (ne b (by rw [w]; intro z; cases z; exact e1 rfl))]; exact h) fun _ _ h => h⟩
  · by_cases e : b = a
    · subst e
      exact ⟨o, upd_same, ht⟩
    · obtain ⟨u, h1, h2⟩ := st.dom.dom b h
      exact ⟨u, by rw [upd_ne e]; exact h1, h2⟩
theorem Sta.tyList {ω : Om} {H : Hp} {σD : Env} {σ : L2.St} (st : Sta g ω H σD σ) {i : Nat} {xs : List P} (e : σD[i]? = some (some (.lst xs))) : ∃ a vs, σ[i]? = some (some (.ref a)) ∧ H a = some (.lst vs) ∧ ω a = .at i ∧ RPs g.K g.cl H (Fr ω) xs vs := by
  obtain ⟨v, e1, r⟩ := st.rd i _ e
  cases r with | lst h1 h2 h3 => exact ⟨_, _, e1, h1, h2, h3⟩
/-- xs.append(e), xs the list in slot i -/
def mApp (i : Nat) (m : M) : M := fun σ => match σ[i]? with
  | some (some (.lst _)) => (m σ).bind fun o σ1 => (frz o σ1).bind fun x σ2 => (match σ2[i]? with
    | some (some (.lst xs)) => if xs.length < sizeLine then .ok (.v .non) (σ2.set i (some (.lst (xs ++ [x])))) else .stuck
    | _ => .stuck)
  | _ => .stuck
theorem de_app {i : Nat} {e : Expr} {m : M} (he : PE X e (tBM X.K "list" rAppend (tVar i) (tCons (tM g m) tNil))) : PE X e (tM g (mApp i m)) :=
  pe_weak he fun σ H Q h => by
    obtain ⟨ω, σD, st, q⟩ := h
    unfold mApp at q
    split at q
    · rename_i xs0 e0
      obtain ⟨a, vs0, h1, h2, h3, h4⟩ := st.tyList e0
      refine ⟨_, h1, .inl ⟨rfl, vs0, SqL.of h2⟩, ω, σD, st, q.bind.imp fun o σ1 ω1 H1 s1 st1 q1 v ov => ?_⟩
      obtain ⟨y, σ2, ω2, s2, st2, r, e2, q2⟩ := frz_ok st1 ov q1.bind
      split at q2
      · rename_i xs e3
        obtain ⟨a', vs, h1', h5, h6, h7⟩ := st2.tyList e3
        rw [h1] at h1'; cases h1'
        split at q2
        · rename_i hl
          refine ⟨a, vs, v, rfl, rfl, h5, by rw [← h7.length]; exact hl, ?_⟩
          obtain ⟨s3, st3⟩ := change (o := .lst (vs ++ [v])) (d := .lst (xs ++ [y])) st2 (get_lt e3) h1 h6 rfl fun k => .lst upd_same h6 (RPs.append (RPs.imp k h7) (.cons (k _ _ r) .nil))
          exact q2 ω2 _ s3 st3 .non (.v .non)
        · exact q2.elim
      · exact q2.elim
    · exact q.elim
/-- xs.pop(e), xs the list in slot i; a place from the front -/
def mPop (i : Nat) (m : M) : M := fun σ => match σ[i]? with
  | some (some (.lst _)) => (m σ).bind fun o σ1 => (match o.get σ1, σ1[i]? with
    | some (.int k), some (some (.lst xs)) => (match ixN xs.length k with
      | some j => (match xs[j]? with
        | some x => if xs.length ≤ sizeLine then .ok (.v x) (σ1.set i (some (.lst (xs.eraseIdx j)))) else .stuck
        | none => .stuck)
      | none => .stuck)
    | _, _ => .stuck)
  | _ => .stuck
theorem de_pop {i : Nat} {e : Expr} {m : M} (he : PE X e (tBM X.K "list" rPopAt (tVar i) (tCons (tM g m) tNil))) : PE X e (tM g (mPop i m)) :=
  pe_weak he fun σ H Q h => by
    obtain ⟨ω, σD, st, q⟩ := h
    unfold mPop at q
    split at q
    · rename_i xs0 e0
      obtain ⟨a, vs0, h1, h2, h3, h4⟩ := st.tyList e0
      refine ⟨_, h1, .inl ⟨rfl, vs0, SqL.of h2⟩, ω, σD, st, q.bind.imp fun o σ1 ω1 H1 s1 st1 q1 v ov => ?_⟩
      split at q1
      · rename_i k xs e2 e3
        split at q1
        · rename_i j e4
          split at q1
          · rename_i y e5
            split at q1
            · rename_i hl
              have ro := st1.get ov e2
              obtain ⟨a', vs, h1', h5, h6, h7⟩ := st1.tyList e3
              rw [h1] at h1'; cases h1'
              have ev : v = .int k := by cases ro with | p ro => cases ro; rfl
              subst ev
              obtain ⟨u, h8, h9⟩ := h7.get e5
              obtain ⟨i1, i2, i3, i4⟩ := ixN_seq e4
              have hsz : (sizeLine : Int) < 2 ^ 63 := by decide
              obtain ⟨s3, st3⟩ := change (o := .lst (vs.eraseIdx j)) (d := .lst (xs.eraseIdx j)) st1 (get_lt e3) h1 h6 rfl fun k => .lst upd_same h6 (RPs.eraseIdx _ (RPs.imp k h7))
              refine ⟨a, vs, k, j, u, rfl, rfl, h5, by omega, by omega, by rw [← h7.length]; exact i1, h8, ?_⟩
              exact q1 ω1 _ s3 st3 u (.v (s3.rp st1.dom h9))
            · exact q1.elim
          · exact q1.elim
        · exact q1.elim
      · exact q1.elim
    · exact q.elim
end
end PV

set_option Elab.async false
set_option linter.all false
set_option maxRecDepth 100000
set_option maxHeartbeats 4000000
/-! PvF: what operators, comparisons, subscripts and built-in functions do to data. -/
namespace PV
open PySem L2

section
variable {K : PySem.W.Frag} {cl : String → Option Addr}
/-! ### numbers -/
def pI (f : Int → Int → Option P) : P → P → Option P
  | .int i, .int j => f i j
  | _, _ => none
theorem prim_I0 {f : Int → Int → Int} : Prim2 K cl (rI0 fun i j => .int (f i j)) (pI fun i j => some (.int (f i j))) := by
  intro ω H x y z vx vy Q dm hx hy e q
  cases x <;> cases y <;> first | cases e | skip
  obtain rfl := hx.int_inv
  obtain rfl := hy.int_inv
  exact ⟨_, _, rfl, rfl, q H _ (.refl H) (.int _)⟩
theorem prim_I {C : Int → Int → Prop} [∀ i j, Decidable (C i j)] {f : Int → Int → Int} : Prim2 K cl (rI C fun i j => .int (f i j)) (pI fun i j => if C i j then some (.int (f i j)) else none) := by
  intro ω H x y z vx vy Q dm hx hy e q
  cases x <;> cases y <;> first | cases e | skip
  obtain rfl := hx.int_inv
  obtain rfl := hy.int_inv
  dsimp only [pI] at e
  split at e
  · rename_i hc
    cases e
    exact ⟨_, _, rfl, rfl, hc, q H _ (.refl H) (.int _)⟩
  · cases e
theorem prim_cmp {f : Int → Int → Bool} : Prim2 K cl (rI0 fun i j => .bl (f i j)) (pI fun i j => some (.bl (f i j))) := by
  intro ω H x y z vx vy Q dm hx hy e q
  cases x <;> cases y <;> first | cases e | skip
  obtain rfl := hx.int_inv
  obtain rfl := hy.int_inv
  exact ⟨_, _, rfl, rfl, q H _ (.refl H) (.bl _)⟩
instance (i j : Int) : Decidable (CMulW i j) := by unfold CMulW; infer_instance
instance (i j : Int) : Decidable (CDivW i j) := by unfold CDivW; infer_instance
instance (i j : Int) : Decidable (CPow i j) := by unfold CPow; infer_instance
def pNeg : P → Option P
  | .int i => some (.int (-i))
  | _ => none
theorem prim_neg : Prim1 K cl (rU fun i => .int (-i)) pNeg := by
  intro ω H x z vx Q dm hx e q
  cases x <;> first | cases e | skip
  obtain rfl := hx.int_inv
  exact ⟨_, rfl, q H _ (.refl H) (.int _)⟩

/-! ### + and * -/
def rAddA (K : PySem.W.Frag) : R2 := fun x y H Q => (rI0 fun i j => V.int (i + j)) x y H Q ∨ (∃ i j, x = .str i ∧ y = .str j ∧ i.length + j.length ≤ sizeLine ∧ Q (.str (i ++ j)) H) ∨ rCat x y H Q ∨ rCatA K x y H Q
theorem op_addA {X : Cx} : OpR X (binaryOp .Add) (rAddA X.K) := .or op_add (.or op_add_str (.or op_cat op_catA))
def pAdd : P → P → Option P
  | .int i, .int j => some (.int (i + j))
  | .str i, .str j => if i.length + j.length ≤ sizeLine then some (.str (i ++ j)) else none
  | .lst xs, .lst ys => if xs.length + ys.length ≤ sizeLine then some (.lst (xs ++ ys)) else none
  | .tup xs, .tup ys => if xs.length + ys.length ≤ sizeLine then some (.tup (xs ++ ys)) else none
  | _, _ => none
theorem RPs.nil_iff {H : Hp} {N : Addr → Prop} {xs : List P} {vs : List V} (h : RPs K cl H N xs vs) : vs = [] ↔ xs = [] := by
  cases h with
  | nil => simp
  | cons _ _ => simp
theorem prim_add : Prim2 K cl (rAddA K) pAdd := by
  intro ω H x y z vx vy Q dm hx hy e q
  cases x <;> cases y <;> first | cases e | skip
  · obtain rfl := hx.int_inv
    obtain rfl := hy.int_inv
    exact .inl ⟨_, _, rfl, rfl, q H _ (.refl H) (.int _)⟩
  · obtain rfl := hx.str_inv
    obtain rfl := hy.str_inv
    dsimp only [pAdd] at e
    split at e
    · rename_i hc
      cases e
      exact .inr (.inl ⟨_, _, rfl, rfl, hc, q H _ (.refl H) (.str _)⟩)
    · cases e
  · obtain ⟨a, vs, rfl, h1, h2⟩ := hx.tup_inv
    obtain ⟨b, us, rfl, h3, h4⟩ := hy.tup_inv
    dsimp only [pAdd] at e
    split at e
    · rename_i hc
      cases e
      refine .inr (.inr (.inr ⟨a, b, vs, us, rfl, rfl, SqT.of h1, SqT.of h3, by rw [← h2.length, ← h4.length]; exact hc, fun e => ?_, fun e1 e2 => ?_, fun e1 e2 p hp => ?_⟩))
      · have := h2.nil_iff.mp e
        subst this
        exact q H _ (.refl H) (.tup h3 h4)
      · have := h4.nil_iff.mp e2
        subst this
        rw [List.append_nil] at q
        exact q H _ (.refl H) (.tup h1 h2)
      · exact q _ _ (Same.new hp) (.tup upd_same (RPs.keep (same_keeps (Same.new hp)) _ _ (h2.append h4)))
    · cases e
  · obtain ⟨a, vs, rfl, h1, h2⟩ := hx.lst_inv
    obtain ⟨b, us, rfl, h3, h4⟩ := hy.lst_inv
    dsimp only [pAdd] at e
    split at e
    · rename_i hc
      cases e
      refine .inr (.inr (.inl ⟨a, b, vs, us, rfl, rfl, h1, h3, by rw [← h2.length, ← h4.length]; exact hc, fun p hp => ?_⟩))
      exact q _ _ (Same.new hp) (.lst upd_same (dm.fresh hp) (RPs.keep (same_keeps (Same.new hp)) _ _ (h2.append h4)))
    · cases e
def rMulA (K : PySem.W.Frag) : R2 := fun x y H Q => (rI CMulW fun i j => V.int (i * j)) x y H Q ∨ rRep x y H Q ∨ rRepT K x y H Q
theorem op_mulA {X : Cx} : OpR X (binaryOp .Mult) (rMulA X.K) := .or op_mulW (.or op_rep op_repT)
def pMul : P → P → Option P
  | .int i, .int j => if CMulW i j then some (.int (i * j)) else none
  | .lst xs, .int k => if -(2 ^ 63) ≤ k ∧ k < 2 ^ 63 ∧ xs.length * k.toNat ≤ sizeLine then some (.lst (List.replicate k.toNat xs).flatten) else none
  | .tup xs, .int k => if xs ≠ [] ∧ 2 ≤ k ∧ k ≤ 1000 ∧ xs.length ≤ 1000 then some (.tup (List.replicate k.toNat xs).flatten) else none
  | _, _ => none
theorem prim_mul : Prim2 K cl (rMulA K) pMul := by
  intro ω H x y z vx vy Q dm hx hy e q
  cases x <;> cases y <;> first | cases e | skip
  · obtain rfl := hx.int_inv
    obtain rfl := hy.int_inv
    dsimp only [pMul] at e
    split at e
    · rename_i hc
      cases e
      exact .inl ⟨_, _, rfl, rfl, hc, q H _ (.refl H) (.int _)⟩
    · cases e
  · obtain rfl := hy.int_inv
    obtain ⟨a, vs, rfl, h1, h2⟩ := hx.tup_inv
    dsimp only [pMul] at e
    split at e
    · rename_i hc
      cases e
      refine .inr (.inr ⟨a, _, vs, rfl, rfl, SqT.of h1, fun z => hc.1 (h2.nil_iff.mp z), hc.2.1, hc.2.2.1, by rw [← h2.length]; exact hc.2.2.2, fun p hp => ?_⟩)
      exact q _ _ (Same.new hp) (.tup upd_same (RPs.keep (same_keeps (Same.new hp)) _ _ (h2.flat _)))
    · cases e
  · obtain rfl := hy.int_inv
    obtain ⟨a, vs, rfl, h1, h2⟩ := hx.lst_inv
    dsimp only [pMul] at e
    split at e
    · rename_i hc
      cases e
      refine .inr (.inl ⟨a, _, vs, rfl, rfl, h1, hc.1, hc.2.1, by rw [← h2.length]; exact hc.2.2, fun p hp => ?_⟩)
      exact q _ _ (Same.new hp) (.lst upd_same (dm.fresh hp) (RPs.keep (same_keeps (Same.new hp)) _ _ (h2.flat _)))
    · cases e

/-! ### == and in, of data -/
mutual
def P.py : P → Option PyData
  | .non => some .none
  | .bl b => some (.bool b)
  | .int i => some (.int i)
  | .str s => some (.str s)
  | .tup xs => (pyL xs).map .tuple
  | .lst xs => (pyL xs).map .list
  | .dK _ _ => none
  | .dT _ _ => none
  | .ins _ _ _ => none
  | .fz _ => none
def pyL : List P → Option (List PyData)
  | [] => some []
  | x :: xs => (P.py x).bind fun d => (pyL xs).map fun ds => d :: ds
end
mutual
theorem RP.dp {H : Hp} {N : Addr → Prop} : ∀ {x : P} {v : V} {d : PyData}, RP K cl H N x v → x.py = some d → Dp K H v d
  | .non, _, _, h, e => by cases h; cases e; exact .non
  | .bl b, _, _, h, e => by cases h; cases e; exact .bl _
  | .int b, _, _, h, e => by cases h; cases e; exact .int _
  | .str b, _, _, h, e => by cases h; cases e; exact .str _
  | .tup xs, _, _, h, e => by
    cases h with
    | tup h1 h2 =>
      simp only [P.py, Option.map_eq_some_iff] at e
      obtain ⟨ds, e1, rfl⟩ := e
      exact .tup (SqT.of h1) (RPs.dp h2 e1)
  | .lst xs, _, _, h, e => by
    cases h with
    | lst h1 _ h2 =>
      simp only [P.py, Option.map_eq_some_iff] at e
      obtain ⟨ds, e1, rfl⟩ := e
      exact .lst (SqL.of h1) (RPs.dp h2 e1)
  | .dK _ _, _, _, _, e => by cases e
  | .dT _ _, _, _, _, e => by cases e
  | .ins _ _ _, _, _, _, e => by cases e
  | .fz _, _, _, _, e => by cases e
theorem RPs.dp {H : Hp} {N : Addr → Prop} : ∀ {xs : List P} {vs : List V} {ds : List PyData}, RPs K cl H N xs vs → pyL xs = some ds → DpAll K H vs ds
  | [], _, _, h, e => by cases h; cases e; exact .nil
  | x :: xs, _, _, h, e => by
    cases h with
    | cons h1 h2 =>
      simp only [pyL] at e
      obtain ⟨d, e1, e2⟩ := Option.bind_eq_some_iff.mp e
      obtain ⟨ds, e3, rfl⟩ := Option.map_eq_some_iff.mp e2
      exact .cons (RP.dp h1 e1) (RPs.dp h2 e3)
end
theorem RO.dp {H : Hp} {N : Addr → Prop} {x : P} {v : V} {d : PyData} (h : RO K cl H N x v) (e : x.py = some d) : Dp K H v d := by
  cases h with
  | p h => exact h.dp e
  | lst h1 h2 =>
    simp only [P.py, Option.map_eq_some_iff] at e
    obtain ⟨ds, e1, rfl⟩ := e
    exact .lst (SqL.of h1) (RPs.dp h2 e1)
  | dK _ _ _ => cases e
  | dT _ _ _ => cases e
  | ins _ _ _ _ => cases e
/-- whether two data are equal; for data whose depth is below 64 -/
def pEqB (x y : P) : Option Bool := match x.py, y.py with
  | some d, some e => if SeqAt.shaped d = true ∧ SeqAt.shaped e = true then some (PyData.eqv d e) else none
  | _, _ => none
theorem pEqB_inv {x y : P} {b : Bool} (h : pEqB x y = some b) : ∃ d e, x.py = some d ∧ y.py = some e ∧ SeqAt.shaped d = true ∧ SeqAt.shaped e = true ∧ b = PyData.eqv d e := by
  unfold pEqB at h
  split at h
  · rename_i d e h1 h2
    split at h
    · rename_i hc
      cases h
      exact ⟨d, e, h1, h2, hc.1, hc.2, rfl⟩
    · cases h
  · cases h
def pEq (x y : P) : Option P := (pEqB x y).map P.bl
def pNe (x y : P) : Option P := (pEqB x y).map fun b => P.bl (!b)
theorem prim_eq : Prim2 K cl (rEqD K) pEq := by
  intro ω H x y z vx vy Q dm hx hy e q
  obtain ⟨b, e1, rfl⟩ := Option.map_eq_some_iff.mp e
  obtain ⟨d, d2, h1, h2, h3, h4, rfl⟩ := pEqB_inv e1
  exact ⟨d, d2, hx.dp h1, hy.dp h2, h3, h4, q H _ (.refl H) (.bl _)⟩
theorem prim_ne : Prim2 K cl (rNeD K) pNe := by
  intro ω H x y z vx vy Q dm hx hy e q
  obtain ⟨b, e1, rfl⟩ := Option.map_eq_some_iff.mp e
  obtain ⟨d, d2, h1, h2, h3, h4, rfl⟩ := pEqB_inv e1
  exact ⟨d, d2, hx.dp h1, hy.dp h2, h3, h4, q H _ (.refl H) (.bl _)⟩
def P.isNon : P → Bool
  | .non => true
  | _ => false
def pIsN (x : P) : P → Option P
  | .non => some (.bl x.isNon)
  | _ => none
def pNotN (x : P) : P → Option P
  | .non => some (.bl (!x.isNon))
  | _ => none
theorem RO.non_iff {H : Hp} {N : Addr → Prop} {x : P} {v : V} (h : RO K cl H N x v) : decide (v = .non) = x.isNon := by
  cases h with
  | p h => cases h <;> rfl
  | _ => rfl
theorem prim_isN : Prim2 K cl (fun x y H Q => y = .non ∧ Q (.bl (decide (x = .non))) H) pIsN := by
  intro ω H x y z vx vy Q dm hx hy e q
  cases y <;> cases e
  obtain rfl := hy.non_inv
  refine ⟨rfl, ?_⟩
  rw [hx.non_iff]
  exact q H _ (.refl H) (.bl _)
theorem prim_notN : Prim2 K cl (fun x y H Q => y = .non ∧ Q (.bl (!decide (x = .non))) H) pNotN := by
  intro ω H x y z vx vy Q dm hx hy e q
  cases y <;> cases e
  obtain rfl := hy.non_inv
  refine ⟨rfl, ?_⟩
  rw [hx.non_iff]
  exact q H _ (.refl H) (.bl _)

/-! ### x in ys -/
/-- in, not in over a tuple, data at any depth -/
def rInT (K : PySem.W.Frag) (neg : Bool) : R2 := fun x y H Q => ∃ d ds, Dp K H x d ∧ Dp K H y (.tuple ds) ∧ SeqAt.shaped d = true ∧ SeqAt.shaped (.tuple ds) = true ∧ Q (.bl (neg ^^ (ds.any fun z => PyData.eqv z d))) H
theorem room_inT {A : Around} {d : PyData} {ds : List PyData} (h : SeqAt.shaped d = true) (hu : A.units + 65 < cLine) : A.units + 1 + min (PyData.depthAll ds) d.depth < cLine := by
  have h1 := SeqAt.depth_of_shaped h
  have h2 : min (PyData.depthAll ds) d.depth ≤ d.depth := Nat.min_le_right _ _
  omega
theorem op_inT {X : Cx} (hu : X.A.units + 65 < cLine) : OpR X (compareOp .In) (rInT X.K false) := by
  intro pins s σ H x y v u Q I rx ry ⟨d, ds, hd, he, sd, se, q⟩
  obtain ⟨as, r1⟩ := Dp.reads I d x v hd rx
  obtain ⟨bs, r2⟩ := Dp.reads I _ y u he ry
  rw [Bool.false_xor] at q
  exact SeqAt.in_tuple_reads r2 r1 (SeqAt.canLay_of_shaped se) (SeqAt.canLay_of_shaped sd) (room_inT sd hu) ⟨.bl _, H, I, rfl, q⟩
theorem op_notInT {X : Cx} (hu : X.A.units + 65 < cLine) : OpR X (compareOp .NotIn) (rInT X.K true) := by
  intro pins s σ H x y v u Q I rx ry ⟨d, ds, hd, he, sd, se, q⟩
  obtain ⟨as, r1⟩ := Dp.reads I d x v hd rx
  obtain ⟨bs, r2⟩ := Dp.reads I _ y u he ry
  rw [Bool.true_xor] at q
  exact SeqAt.notIn_tuple_reads r2 r1 (SeqAt.canLay_of_shaped se) (SeqAt.canLay_of_shaped sd) (room_inT sd hu) ⟨.bl _, H, I, rfl, q⟩
/-- one of the equal ones -/
def anyEq (d : PyData) (ds : List PyData) : Bool := ds.any fun z => PyData.eqv z d
def rInA (K : PySem.W.Frag) (neg : Bool) : R2 := fun x y H Q => rInT K neg x y H Q ∨ (∃ d ds, Dp K H x d ∧ Dp K H y (.list ds) ∧ SeqAt.shaped d = true ∧ SeqAt.shaped (.list ds) = true ∧ Q (.bl (neg ^^ anyEq d ds)) H) ∨
  ∃ i j, x = .str i ∧ y = .str j ∧ Q (.bl (neg ^^ !(Builtin.Str.occurrences j i 0 j.length 1).isEmpty)) H
theorem op_inA {X : Cx} (hu : X.A.units + 65 < cLine) : OpR X (compareOp .In) (rInA X.K false) := by
  refine .or (op_inT hu) (.or ?_ ?_)
  · intro pins s σ H x y v u Q I rx ry ⟨d, ds, h1, h2, h3, h4, q⟩
    rw [Bool.false_xor] at q
    exact op_inD hu pins s σ H x y v u Q I rx ry ⟨d, ds, h1, h2, h3, h4, q⟩
  · intro pins s σ H x y v u Q I rx ry ⟨i, j, h1, h2, q⟩
    rw [Bool.false_xor] at q
    exact op_in_str pins s σ H x y v u Q I rx ry ⟨i, j, h1, h2, q⟩
theorem op_notInA {X : Cx} (hu : X.A.units + 65 < cLine) : OpR X (compareOp .NotIn) (rInA X.K true) := by
  refine .or (op_notInT hu) (.or ?_ ?_)
  · intro pins s σ H x y v u Q I rx ry ⟨d, ds, h1, h2, h3, h4, q⟩
    rw [Bool.true_xor] at q
    exact op_notInD hu pins s σ H x y v u Q I rx ry ⟨d, ds, h1, h2, h3, h4, q⟩
  · intro pins s σ H x y v u Q I rx ry ⟨i, j, h1, h2, q⟩
    rw [Bool.true_xor] at q
    exact op_notin_str pins s σ H x y v u Q I rx ry ⟨i, j, h1, h2, q⟩
def pInB (x y : P) : Option Bool := match x, y with
  | x, .tup ys => (match x.py, (P.tup ys).py with
    | some d, some (.tuple ds) => if SeqAt.shaped d = true ∧ SeqAt.shaped (.tuple ds) = true then some (anyEq d ds) else none
    | _, _ => none)
  | x, .lst ys => (match x.py, (P.lst ys).py with
    | some d, some (.list ds) => if SeqAt.shaped d = true ∧ SeqAt.shaped (.list ds) = true then some (anyEq d ds) else none
    | _, _ => none)
  | .str i, .str j => some (!(Builtin.Str.occurrences j i 0 j.length 1).isEmpty)
  | _, _ => none
def pIn (neg : Bool) (x y : P) : Option P := (pInB x y).map fun b => .bl (neg ^^ b)
theorem prim_in (neg : Bool) : Prim2 K cl (rInA K neg) (pIn neg) := by
  intro ω H x y z vx vy Q dm hx hy e q
  obtain ⟨b, e1, rfl⟩ := Option.map_eq_some_iff.mp e
  cases y with
  | tup ys =>
    have e2 : (match x.py, (P.tup ys).py with
    | some d, some (.tuple ds) => if SeqAt.shaped d = true ∧ SeqAt.shaped (.tuple ds) = true then some (anyEq d ds) else none
    | _, _ => none) = some b := by rw [← e1]; cases x <;> rfl
    split at e2
    · rename_i d ds h1 h2
      split at e2
      · rename_i hc
        cases e2
        exact .inl ⟨d, ds, hx.dp h1, hy.dp h2, hc.1, hc.2, q H _ (.refl H) (.bl _)⟩
      · cases e2
    · cases e2
  | lst ys =>
    have e2 : (match x.py, (P.lst ys).py with
    | some d, some (.list ds) => if SeqAt.shaped d = true ∧ SeqAt.shaped (.list ds) = true then some (anyEq d ds) else none
    | _, _ => none) = some b := by rw [← e1]; cases x <;> rfl
    split at e2
    · rename_i d ds h1 h2
      split at e2
      · rename_i hc
        cases e2
        exact .inr (.inl ⟨d, ds, hx.dp h1, hy.dp h2, hc.1, hc.2, q H _ (.refl H) (.bl _)⟩)
      · cases e2
    · cases e2
  | str j =>
    cases x <;> cases e1
    obtain rfl := hx.str_inv
    obtain rfl := hy.str_inv
    exact .inr (.inr ⟨_, _, rfl, rfl, q H _ (.refl H) (.bl _)⟩)
  | _ => cases x <;> cases e1

/-! ### subscripts -/
def pIx : P → P → Option P
  | .tup xs, .int i => atI xs i
  | .lst xs, .int i => atI xs i
  | .str z, .int i => if z.length ≤ sizeLine then (atI z.cps.toList i).map fun c => .str ⟨#[c]⟩ else none
  | _, _ => none
theorem RPs.atI {H : Hp} {N : Addr → Prop} {xs : List P} {vs : List V} {i : Int} {x : P} (h : RPs K cl H N xs vs) (e : L2.atI xs i = some x) : ∃ v, L2.atI vs i = some v ∧ RP K cl H N x v := by
  unfold L2.atI at e ⊢
  obtain ⟨j, e1, e2⟩ := Option.bind_eq_some_iff.mp e
  obtain ⟨v, e3, r⟩ := h.get e2
  refine ⟨v, ?_, r⟩
  rw [← h.length, e1]
  exact e3
theorem prim_ix : Prim2 K cl (rIx K) pIx := by
  intro ω H x y z vx vy Q dm hx hy e q
  cases x <;> cases y <;> first | (cases e; done) | skip
  · obtain rfl := hx.str_inv
    obtain rfl := hy.int_inv
    dsimp only [pIx] at e
    split at e
    · rename_i hl
      obtain ⟨c, e1, rfl⟩ := Option.map_eq_some_iff.mp e
      exact .inr (.inr ⟨_, _, c, rfl, rfl, hl, e1, q H _ (.refl H) (.str _)⟩)
    · cases e
  · obtain rfl := hy.int_inv
    obtain ⟨a, vs, rfl, h1, h2⟩ := hx.tup_inv
    obtain ⟨v, e1, r⟩ := h2.atI e
    exact .inr (.inl ⟨a, vs, _, v, rfl, rfl, SqT.of h1, e1, q H _ (.refl H) r⟩)
  · obtain rfl := hy.int_inv
    obtain ⟨a, vs, rfl, h1, h2⟩ := hx.lst_inv
    obtain ⟨v, e1, r⟩ := h2.atI e
    exact .inl ⟨a, vs, _, v, rfl, rfl, SqL.of h1, e1, q H _ (.refl H) r⟩
end
end PV

set_option Elab.async false
set_option linter.all false
set_option maxRecDepth 100000
set_option maxHeartbeats 4000000
/-! PvG: dicts, slices, len, list, tuple, isinstance, all, any. -/
namespace PV
open PySem L2

/-! ### dicts as data -/
def lookP {κ : Type} [DecidableEq κ] (k : κ) : List κ → List P → Option P
  | k' :: ks, x :: xs => if k' = k then some x else lookP k ks xs
  | _, _ => none
def setP {κ : Type} [DecidableEq κ] (k : κ) (y : P) : List κ → List P → List P
  | k' :: ks, x :: xs => (if k' = k then y else x) :: setP k y ks xs
  | _, xs => xs
def putP {κ : Type} [DecidableEq κ] (k : κ) (y : P) (ks : List κ) (xs : List P) : List κ × List P :=
  if k ∈ ks then (ks, setP k y ks xs) else (ks ++ [k], xs ++ [y])
def keyOf : P → Option Key
  | .int i => some (.inl i)
  | .str s => some (.inr s)
  | _ => none
def keysOf : List P → Option (List Key)
  | [] => some []
  | x :: xs => (keyOf x).bind fun k => (keysOf xs).map fun ks => k :: ks
section
variable {K : PySem.W.Frag} {cl : String → Option Addr} {H : Hp} {N : Addr → Prop}
theorem lookP_val {κ : Type} [DecidableEq κ] {k : κ} : ∀ {kvs : List (κ × V)} {xs : List P}, RPs K cl H N xs (kvs.map (·.2)) → (∀ x, lookP k (kvs.map (·.1)) xs = some x → ∃ v, valV kvs k = some v ∧ RP K cl H N x v) ∧ (lookP k (kvs.map (·.1)) xs = none → valV kvs k = none)
  | [], xs, h => by
    cases h
    exact ⟨fun x e => (by cases e), fun _ => rfl⟩
  | (k', v) :: kvs, xs, h => by
    cases h with
    | cons h1 h2 =>
      have ih := lookP_val (k := k) h2
      by_cases e : k' = k
      · refine ⟨fun x q => ?_, fun q => ?_⟩
        · simp only [List.map_cons, lookP, if_pos e] at q
          cases q
          exact ⟨v, by rw [valV_pos e], h1⟩
        · simp only [List.map_cons, lookP, if_pos e] at q
          cases q
      · refine ⟨fun x q => ?_, fun q => ?_⟩
        · simp only [List.map_cons, lookP, if_neg e] at q
          obtain ⟨u, z1, z2⟩ := ih.1 x q
          exact ⟨u, by rw [valV_neg e]; exact z1, z2⟩
        · simp only [List.map_cons, lookP, if_neg e] at q
          rw [valV_neg e]
          exact ih.2 q
theorem keyOf_ok {x : P} {v : V} {k : Key} (h : RO K cl H N x v) (e : keyOf x = some k) : v = kV k := by
  cases x <;> cases e
  · obtain rfl := h.int_inv; rfl
  · obtain rfl := h.str_inv; rfl
theorem keysOf_ok : ∀ {xs : List P} {vs : List V} {ks : List Key}, RPs K cl H N xs vs → keysOf xs = some ks → vs = ks.map kV
  | [], _, _, h, e => by cases h; cases e; rfl
  | x :: xs, _, _, h, e => by
    cases h with
    | cons h1 h2 =>
      simp only [keysOf] at e
      obtain ⟨k, e1, e2⟩ := Option.bind_eq_some_iff.mp e
      obtain ⟨ks, e3, rfl⟩ := Option.map_eq_some_iff.mp e2
      rw [keyOf_ok (.p h1) e1, keysOf_ok h2 e3]
      rfl
/-- what stands under a key: none where it can't be asked -/
def pGet? : P → P → Option (Option P)
  | .dK ks xs, k => (keyOf k).map fun k => lookP k ks xs
  | .dT ks xs, .tup ys => (keysOf ys).map fun k => lookP k ks xs
  | _, _ => none
theorem pGet_ok {d k : P} {r : Option P} {vd vk : V} (hd : RO K cl H N d vd) (hk : RO K cl H N k vk) (e : pGet? d k = some r) : ∃ a o, vd = .ref a ∧ DGet H a vk o ∧ (∀ x, r = some x → ∃ v, o = some v ∧ RP K cl H N x v) ∧ (r = none → o = none) := by
  cases d with
  | dK ks xs =>
    have e' : (keyOf k).map (fun k => lookP k ks xs) = some r := by rw [← e]; cases k <;> rfl
    obtain ⟨kk, e1, rfl⟩ := Option.map_eq_some_iff.mp e'
    obtain ⟨a, kvs, rfl, h1, h2, h3⟩ := hd.dK_inv
    have z := lookP_val (k := kk) h3
    rw [h2] at z
    exact ⟨a, valV kvs kk, rfl, .inl ⟨kvs, kk, h1, keyOf_ok hk e1, rfl⟩, z.1, z.2⟩
  | dT ks xs =>
    cases k <;> first | (cases e; done) | skip
    obtain ⟨kk, e1, rfl⟩ := Option.map_eq_some_iff.mp e
    obtain ⟨a, kvs, rfl, h1, h2, h3⟩ := hd.dT_inv
    obtain ⟨b, vs, rfl, h4, h5⟩ := hk.tup_inv
    have z := lookP_val (k := kk) h3
    rw [h2] at z
    rw [keysOf_ok h5 e1] at h4
    exact ⟨a, valV kvs kk, rfl, .inr ⟨kvs, kk, b, h1, rfl, h4, rfl⟩, z.1, z.2⟩
  | _ => cases k <;> cases e
end
def rDGet : R2 := fun x y H Q => ∃ a v, x = .ref a ∧ DGet H a y (some v) ∧ Q v H
def pDGet (d k : P) : Option P := (pGet? d k).bind id
section
variable {K : PySem.W.Frag} {cl : String → Option Addr}
theorem prim_dget : Prim2 K cl rDGet pDGet := by
  intro ω H x y z vx vy Q dm hx hy e q
  obtain ⟨r, e1, e2⟩ := Option.bind_eq_some_iff.mp e
  obtain ⟨a, o, rfl, g, h1, h2⟩ := pGet_ok hx hy e1
  obtain ⟨v, rfl, rp⟩ := h1 z e2
  exact ⟨a, v, rfl, g, q H v (.refl H) rp⟩
/-- x[i] of a list, tuple, text, dict -/
def pSub (x y : P) : Option P := match x with
  | .dK _ _ => pDGet x y
  | .dT _ _ => pDGet x y
  | _ => pIx x y
theorem prim_sub : Prim2 K cl (fun x y H Q => rIx K x y H Q ∨ rDGet x y H Q) pSub := by
  intro ω H x y z vx vy Q dm hx hy e q
  cases x with
  | dK _ _ => exact .inr (prim_dget ω H _ y z vx vy Q dm hx hy e q)
  | dT _ _ => exact .inr (prim_dget ω H _ y z vx vy Q dm hx hy e q)
  | _ => exact .inl (prim_ix ω H _ y z vx vy Q dm hx hy e q)
end
theorem ix_dict {X : Cx} (hu : X.A.units + 1 < cLine) : IxR X rDGet := by
  intro value slice pins s σ H x y v u Q I rx ry ⟨a, w, e, g, q⟩ hs
  subst e
  cases rx
  exact PyProof.Rows.tail_any (dict_typeIs I g) PySem.F.slot_dict_getitem.lookup (d_getItem hu I g ry fun w' s' I' r' => ⟨w, H, I', r', q⟩) hs
theorem ix_sub {X : Cx} (hu : X.A.units + 1 < cLine) : IxR X (fun x y H Q => rIx X.K x y H Q ∨ rDGet x y H Q) := by
  intro value slice pins s σ H x y v u Q I rx ry h hs
  rcases h with h | h
  · exact ix_seq value slice pins s σ H x y v u Q I rx ry h hs
  · exact ix_dict hu value slice pins s σ H x y v u Q I rx ry h hs
theorem de_sub {X : Cx} {g : G} {a b : Expr} {ma mb : M} {pos : Pos} (hu : X.A.units + 1 < cLine) (ha : PE X a (tM g ma)) (hb : PE X b (tM g mb)) (hK : g.K = X.K := by rfl) (hs : PlainIx b := by exact fun _ _ => rfl) : PE X (.Subscript a b pos) (tM g (mOp2 pSub ma mb)) :=
  de_ix (ix_sub hu) (by rw [← hK]; exact prim_sub) ha hb hs
end PV

set_option Elab.async false
set_option linter.all false
set_option maxRecDepth 100000
set_option maxHeartbeats 4000000
/-! PvH: in over anything, slices, len, list, tuple, isinstance, all, any, int. -/
namespace PV
open PySem L2

/-! ### in -/
def rInD2 (neg : Bool) : R2 := fun y x H Q => ∃ a o, x = .ref a ∧ DGet H a y o ∧ Q (.bl (neg ^^ o.isSome)) H
theorem op_inDict {X : Cx} (hu : X.A.units + 1 < cLine) : OpR X (compareOp .In) (rInD2 false) := by
  intro pins s σ H y x u v Q I ry rx ⟨a, o, e, g, q⟩
  subst e
  cases rx
  rw [Bool.false_xor] at q
  exact d_in hu I g ry fun s' I' => ⟨.bl _, H, I', rfl, q⟩
theorem op_notInDict {X : Cx} (hu : X.A.units + 1 < cLine) : OpR X (compareOp .NotIn) (rInD2 true) := by
  intro pins s σ H y x u v Q I ry rx ⟨a, o, e, g, q⟩
  subst e
  cases rx
  rw [Bool.true_xor] at q
  exact d_notIn hu I g ry fun s' I' => ⟨.bl _, H, I', rfl, q⟩
def rInAll (K : PySem.W.Frag) (neg : Bool) : R2 := fun x y H Q => rInA K neg x y H Q ∨ rInD2 neg x y H Q
theorem op_inAll {X : Cx} (hu : X.A.units + 65 < cLine) : OpR X (compareOp .In) (rInAll X.K false) := .or (op_inA hu) (op_inDict (by omega))
theorem op_notInAll {X : Cx} (hu : X.A.units + 65 < cLine) : OpR X (compareOp .NotIn) (rInAll X.K true) := .or (op_notInA hu) (op_notInDict (by omega))
def pHas (x y : P) : Option Bool := match y with
  | .dK _ _ => (pGet? y x).map Option.isSome
  | .dT _ _ => (pGet? y x).map Option.isSome
  | _ => pInB x y
def pInAll (neg : Bool) (x y : P) : Option P := (pHas x y).map fun b => .bl (neg ^^ b)
section
variable {K : PySem.W.Frag} {cl : String → Option Addr}
theorem prim_inD (neg : Bool) : Prim2 K cl (rInD2 neg) (fun x y => ((pGet? y x).map Option.isSome).map fun b => .bl (neg ^^ b)) := by
  intro ω H x y z vx vy Q dm hx hy e q
  obtain ⟨b, e1, rfl⟩ := Option.map_eq_some_iff.mp e
  obtain ⟨r, e2, rfl⟩ := Option.map_eq_some_iff.mp e1
  obtain ⟨a, o, rfl, g, h1, h2⟩ := pGet_ok hy hx e2
  refine ⟨a, o, rfl, g, ?_⟩
  have : o.isSome = r.isSome := by
    cases r with
    | none => rw [h2 rfl]; rfl
    | some x => obtain ⟨v, rfl, _⟩ := h1 x rfl; rfl
  rw [this]
  exact q H _ (.refl H) (.bl _)
theorem prim_inAll (neg : Bool) : Prim2 K cl (rInAll K neg) (pInAll neg) := by
  intro ω H x y z vx vy Q dm hx hy e q
  cases y with
  | dK _ _ => exact .inr (prim_inD neg ω H x _ z vx vy Q dm hx hy e q)
  | dT _ _ => exact .inr (prim_inD neg ω H x _ z vx vy Q dm hx hy e q)
  | _ => exact .inl (prim_in neg ω H x _ z vx vy Q dm hx hy e q)

/-! ### slices -/
def partOf : Option P → Option (Option Int)
  | none => some none
  | some (.int i) => some (some i)
  | _ => none
def rSlAll (K : PySem.W.Frag) : V → Option Int → Option Int → Hp → VK → Prop := fun x lo hi H Q => rSlL K x lo hi H Q ∨ rSlA K x lo hi H Q ∨ rSlS x lo hi H Q
theorem sl_all {X : Cx} : SlR X (rSlAll X.K) := by
  intro pins s σ H x v vl vu lo hi sl Q I rx hs pl pu h
  rcases h with h | h | h
  · exact sl_list pins s σ H x v vl vu lo hi sl Q I rx hs pl pu h
  · exact sl_tupA pins s σ H x v vl vu lo hi sl Q I rx hs pl pu h
  · exact sl_str pins s σ H x v vl vu lo hi sl Q I rx hs pl pu h
def cutP (xs : List P) (lo hi : Option Int) : List P := (xs.drop (HT.sIx xs.length 0 lo)).take (HT.sIx xs.length xs.length hi - HT.sIx xs.length 0 lo)
def pSlice (x : P) (lo hi : Option Int) : Option P := match x with
  | .lst xs => some (.lst (cutP xs lo hi))
  | .tup xs => some (.tup (cutP xs lo hi))
  | .str z => if z.length ≤ sizeLine then some (.str (cutS z lo hi)) else none
  | _ => none
theorem RPs.cut {H : Hp} {N : Addr → Prop} {xs : List P} {vs : List V} (h : RPs K cl H N xs vs) (lo hi : Option Int) : RPs K cl H N (cutP xs lo hi) (cutV vs lo hi) := by
  unfold cutP cutV
  rw [h.length]
  exact (h.drop _).take _
theorem prim_slice {ω : Om} {H : Hp} {x z : P} {vx : V} {lo hi : Option Int} {Q : VK} (dm : Dom ω H) (hx : RO K cl H (Fr ω) x vx) (e : pSlice x lo hi = some z) (q : ∀ H' v, Same H H' → RP K cl H' (Fr ω) z v → Q v H') : rSlAll K vx lo hi H Q := by
  cases x <;> first | (cases e; done) | skip
  · obtain rfl := hx.str_inv
    dsimp only [pSlice] at e
    split at e
    · rename_i hl
      cases e
      exact .inr (.inr ⟨_, rfl, hl, q H _ (.refl H) (.str _)⟩)
    · cases e
  · obtain ⟨a, vs, rfl, h1, h2⟩ := hx.tup_inv
    cases e
    refine .inr (.inl ⟨a, vs, rfl, SqT.of h1, fun h => ?_, fun _ p hp => ?_⟩)
    · refine q H _ (.refl H) (.tup h1 ?_)
      have := h2.cut lo hi
      unfold cutV at this
      rw [h.1, h.2] at this
      simpa using this
    · exact q _ _ (Same.new hp) (.tup upd_same (RPs.keep (same_keeps (Same.new hp)) _ _ (h2.cut lo hi)))
  · obtain ⟨a, vs, rfl, h1, h2⟩ := hx.lst_inv
    cases e
    refine .inl ⟨a, vs, rfl, SqL.of h1, fun p hp => ?_⟩
    exact q _ _ (Same.new hp) (.lst upd_same (dm.fresh hp) (RPs.keep (same_keeps (Same.new hp)) _ _ (h2.cut lo hi)))
end
/-- an optional part of a slice -/
abbrev MO := Env → R (Option Int)
def tO (g : G) (m : MO) : TO := fun σ H Q => ∃ ω σD, Sta g ω H σD σ ∧ Post g ω H σ (m σD) fun i _ _ H' => Q i H'
def mNoP : MO := fun σ => .ok none σ
def mPart (m : M) : MO := fun σ => (m σ).bind fun o σ1 => match o.get σ1 with
  | some (.int i) => .ok (some i) σ1
  | _ => .stuck
theorem po_weak {X : Cx} {e : Option Expr} {t t' : TO} (h : PO X e t) (f : ∀ σ H Q, t' σ H Q → t σ H Q) : PO X e t' := ⟨fun pins s σ H Q I q => h.run pins s σ H Q I (f _ _ _ q)⟩
section
variable {X : Cx} {g : G}
theorem do_none : PO X none (tO g mNoP) := po_weak po_none fun σ H Q h => by
  obtain ⟨ω, σD, st, q⟩ := h
  exact Post.ok q st
theorem do_some {e : Expr} {m : M} (he : PE X e (tM g m)) : PO X (some e) (tO g (mPart m)) := po_weak (po_some he) fun σ H Q h => by
  obtain ⟨ω, σD, st, q⟩ := h
  refine ⟨ω, σD, st, q.bind.imp fun o σ1 ω1 H1 s1 st1 q1 v ov => ?_⟩
  cases e : o.get σ1 with
  | none => rw [e] at q1; exact q1.elim
  | some x =>
    rw [e] at q1
    cases x with
    | int i => exact ⟨i, (st1.get ov e).int_inv, Post.ok q1 st1⟩
    | _ => exact q1.elim
def mSlice (m : M) (lo hi : MO) : M := fun σ => (m σ).bind fun o σ1 => (lo σ1).bind fun l σ2 => (hi σ2).bind fun u σ3 => R.lift σ3 ((o.get σ3).bind fun x => pSlice x l u)
theorem de_slice {e : Expr} {lo hi : Option Expr} {m : M} {ml mh : MO} {p2 pos : Pos} (he : PE X e (tM g m)) (hl : PO X lo (tO g ml)) (hu : PO X hi (tO g mh)) (hK : g.K = X.K := by rfl) : PE X (.Subscript e (.Slice lo hi none p2) pos) (tM g (mSlice m ml mh)) :=
  pe_weak (pe_slice sl_all he hl hu) fun σ H Q h => by
    obtain ⟨ω, σD, st, q⟩ := h
    refine ⟨ω, σD, st, q.bind.imp fun o σ1 ω1 H1 s1 st1 q1 v ov => ⟨ω1, σ1, st1, q1.bind.imp fun l σ2 ω2 H2 s2 st2 q2 => ⟨ω2, σ2, st2, q2.bind.imp fun u σ3 ω3 H3 s3 st3 q3 => ?_⟩⟩⟩
    obtain ⟨z, e, q3⟩ := lift_post q3
    obtain ⟨x, e1, e2⟩ := Option.bind_eq_some_iff.mp e
    rw [← hK]
    refine prim_slice st3.dom (st3.get ((ov.step s2 st1.dom).step s3 st2.dom) e1) e2 fun H' w sm r => ?_
    exact q3 ω3 H' (.same sm) (st3.same sm) w (.v r)
end

/-! ### built-in functions -/
section
variable {K : PySem.W.Frag} {cl : String → Option Addr}
def pF1 (f : P → Option P) : List P → Option P
  | [x] => f x
  | _ => none
def pF2 (f : P → P → Option P) : List P → Option P
  | [x, y] => f x y
  | _ => none
theorem ROs.one {H : Hp} {N : Addr → Prop} {x : P} {vs : List V} (h : ROs K cl H N [x] vs) : ∃ v, vs = [v] ∧ RO K cl H N x v := by
  cases h with | cons h1 h2 => cases h2; exact ⟨_, rfl, h1⟩
theorem ROs.two {H : Hp} {N : Addr → Prop} {x y : P} {vs : List V} (h : ROs K cl H N [x, y] vs) : ∃ v w, vs = [v, w] ∧ RO K cl H N x v ∧ RO K cl H N y w := by
  cases h with | cons h1 h2 => cases h2 with | cons h3 h4 => cases h4; exact ⟨_, _, rfl, h1, h3⟩
theorem primN1 {r : List V → Hp → VK → Prop} {f : P → Option P} (h : ∀ (ω : Om) (H : Hp) (x z : P) (v : V) (Q : VK), Dom ω H → RO K cl H (Fr ω) x v → f x = some z → (∀ H' v, Same H H' → RP K cl H' (Fr ω) z v → Q v H') → r [v] H Q) : PrimN K cl r (pF1 f) := by
  intro ω H xs z vs Q dm hx e q
  match xs, e with
  | [x], e =>
    obtain ⟨v, rfl, hv⟩ := hx.one
    exact h ω H x z v Q dm hv e q
theorem primN2 {r : List V → Hp → VK → Prop} {f : P → P → Option P} (h : ∀ (ω : Om) (H : Hp) (x y z : P) (v w : V) (Q : VK), Dom ω H → RO K cl H (Fr ω) x v → RO K cl H (Fr ω) y w → f x y = some z → (∀ H' v, Same H H' → RP K cl H' (Fr ω) z v → Q v H') → r [v, w] H Q) : PrimN K cl r (pF2 f) := by
  intro ω H xs z vs Q dm hx e q
  match xs, e with
  | [x, y], e =>
    obtain ⟨v, w, rfl, hv, hw⟩ := hx.two
    exact h ω H x y z v w Q dm hv hw e q
theorem CallR.or {X : Cx} {f : Value} {r r' : List V → Hp → VK → Prop} (h : CallR X f r) (h' : CallR X f r') : CallR X f fun xs H Q => r xs H Q ∨ r' xs H Q := by
  intro pins s σ H xs us Q I rv hh
  rcases hh with hh | hh
  · exact h pins s σ H xs us Q I rv hh
  · exact h' pins s σ H xs us Q I rv hh
/-- len -/
def rLenD : List V → Hp → VK → Prop := fun xs H Q => (∃ (a : Addr) (kvs : List (Key × V)), xs = [V.ref a] ∧ Rd H a (.dK kvs) ∧ Q (V.int ↑kvs.length) H) ∨ (∃ (a : Addr) (kvs : List (List Key × V)), xs = [V.ref a] ∧ Rd H a (.dT kvs) ∧ Q (V.int ↑kvs.length) H)
theorem call_lenD2 {X : Cx} : CallR X (.builtin "len") rLenD := by
  intro pins s σ H xs us Q I r h
  rcases h with ⟨a, kvs, e, hd, q⟩ | ⟨a, kvs, e, hd, q⟩
  · subst e
    obtain ⟨u, rfl, rx⟩ := vals1 r
    cases rx
    exact d_len I hd fun t s' I' => ⟨.int _, H, I', ⟨_, rfl⟩, q⟩
  · subst e
    obtain ⟨u, rfl, rx⟩ := vals1 r
    cases rx
    obtain ⟨z, hd', ys, rel, dd⟩ := dt_rd I.hok hd
    have hl : kvs.length = ys.length := Paired.length rel
    have hz : (sizeLine : Int) < 2 ^ 63 := by decide
    refine call_len_dictH hd' dd (by omega) ?_
    rw [← hl]
    exact ⟨.int _, H, I.tok _, ⟨_, rfl⟩, q⟩
def rLen (K : PySem.W.Frag) : List V → Hp → VK → Prop := fun xs H Q => (∃ x n, xs = [x] ∧ LenV K x H n ∧ Q (V.int ↑n) H) ∨ rLenD xs H Q
theorem call_lenA {X : Cx} : CallR X (.builtin "len") (rLen X.K) := CallR.or call_len call_lenD2
def pLen : P → Option P
  | .str z => if z.length ≤ sizeLine then some (.int z.length) else none
  | .tup xs => some (.int xs.length)
  | .lst xs => some (.int xs.length)
  | .fz xs => some (.int xs.length)
  | .dK ks _ => some (.int ks.length)
  | .dT ks _ => some (.int ks.length)
  | _ => none
theorem prim_len : PrimN K cl (rLen K) (pF1 pLen) := primN1 fun ω H x z v Q dm hx e q => by
  cases x <;> first | (cases e; done) | skip
  · obtain rfl := hx.str_inv
    dsimp only [pLen] at e
    split at e
    · rename_i hl
      cases e
      exact .inl ⟨_, _, rfl, ⟨hl, rfl⟩, q H _ (.refl H) (.int _)⟩
    · cases e
  · obtain ⟨a, vs, rfl, h1, h2⟩ := hx.tup_inv
    cases e
    exact .inl ⟨_, _, rfl, .inr ⟨vs, SqT.of h1, rfl⟩, by rw [← h2.length]; exact q H _ (.refl H) (.int _)⟩
  · obtain ⟨a, vs, rfl, h1, h2⟩ := hx.lst_inv
    cases e
    exact .inl ⟨_, _, rfl, .inl ⟨vs, SqL.of h1, rfl⟩, by rw [← h2.length]; exact q H _ (.refl H) (.int _)⟩
  · obtain ⟨a, kvs, rfl, h1, h2, h3⟩ := hx.dK_inv
    cases e
    refine .inr (.inl ⟨a, kvs, rfl, h1, ?_⟩)
    rw [← h2, List.length_map] at q
    exact q H _ (.refl H) (.int _)
  · obtain ⟨a, kvs, rfl, h1, h2, h3⟩ := hx.dT_inv
    cases e
    refine .inr (.inr ⟨a, kvs, rfl, h1, ?_⟩)
    rw [← h2, List.length_map] at q
    exact q H _ (.refl H) (.int _)
  · obtain ⟨a, vs, rfl, h1, h2⟩ := hx.fz_inv
    cases e
    exact .inl ⟨_, _, rfl, .inl ⟨vs, h1, rfl⟩, by rw [← h2.length]; exact q H _ (.refl H) (.int _)⟩
/-- int(x) of a number, a truth -/
def pInt : P → Option P
  | .int i => some (.int i)
  | .bl k => some (.int (if k = true then 1 else 0))
  | _ => none
theorem prim_int : PrimN K cl (fun xs H Q => (∃ i, xs = [V.int i] ∧ Q (V.int i) H) ∨ ∃ k, xs = [V.bl k] ∧ Q (V.int (if k = true then 1 else 0)) H) (pF1 pInt) := primN1 fun ω H x z v Q dm hx e q => by
  cases x <;> cases e
  · obtain rfl := hx.bl_inv
    exact .inr ⟨_, rfl, q H _ (.refl H) (.int _)⟩
  · obtain rfl := hx.int_inv
    exact .inl ⟨_, rfl, q H _ (.refl H) (.int _)⟩
/-- tuple(x) -/
def pTuple : P → Option P
  | .tup xs => some (.tup xs)
  | .lst xs => some (.tup xs)
  | .fz xs => some (.tup xs)
  | _ => none
def rTupleOf (K : PySem.W.Frag) : List V → Hp → VK → Prop := fun xs H Q => ∃ p ys, xs = [V.ref p] ∧ ((SqL K H p ys ∧ ∀ (l : Addr), H l = none → Q (V.ref l) (upd H l (HO.tup ys))) ∨ SqT K H p ys ∧ Q (V.ref p) H)
theorem prim_tuple : PrimN K cl (rTupleOf K) (pF1 pTuple) := primN1 fun ω H x z v Q dm hx e q => by
  cases x <;> cases e
  · obtain ⟨a, vs, rfl, h1, h2⟩ := hx.tup_inv
    exact ⟨a, vs, rfl, .inr ⟨SqT.of h1, q H _ (.refl H) (.tup h1 h2)⟩⟩
  · obtain ⟨a, vs, rfl, h1, h2⟩ := hx.lst_inv
    exact ⟨a, vs, rfl, .inl ⟨SqL.of h1, fun p hp => q _ _ (Same.new hp) (.tup upd_same (RPs.keep (same_keeps (Same.new hp)) _ _ h2))⟩⟩
  · obtain ⟨a, vs, rfl, h1, h2⟩ := hx.fz_inv
    exact ⟨a, vs, rfl, .inl ⟨h1, fun p hp => q _ _ (Same.new hp) (.tup upd_same (RPs.keep (same_keeps (Same.new hp)) _ _ h2))⟩⟩
/-- all, any of a list of truths -/
def blsOf : List P → Option (List Bool)
  | [] => some []
  | .bl b :: xs => (blsOf xs).map fun bs => b :: bs
  | _ :: _ => none
theorem blsOf_ok {H : Hp} {N : Addr → Prop} : ∀ {xs : List P} {vs : List V} {bs : List Bool}, RPs K cl H N xs vs → blsOf xs = some bs → vs = bs.map V.bl
  | [], _, _, h, e => by cases h; cases e; rfl
  | x :: xs, _, _, h, e => by
    cases h with
    | cons h1 h2 =>
      cases x <;> first | (cases e; done) | skip
      simp only [blsOf] at e
      obtain ⟨bs, e3, rfl⟩ := Option.map_eq_some_iff.mp e
      cases h1
      rw [blsOf_ok h2 e3]
      rfl
def pAll : P → Option P
  | .lst xs => (blsOf xs).map fun bs => .bl (bs.all id)
  | _ => none
def pAny : P → Option P
  | .lst xs => (blsOf xs).map fun bs => .bl (bs.any id)
  | _ => none
theorem prim_all : PrimN K cl (rAll K) (pF1 pAll) := primN1 fun ω H x z v Q dm hx e q => by
  cases x <;> first | (cases e; done) | skip
  obtain ⟨bs, e1, rfl⟩ := Option.map_eq_some_iff.mp e
  obtain ⟨a, vs, rfl, h1, h2⟩ := hx.lst_inv
  obtain rfl := blsOf_ok h2 e1
  exact ⟨a, bs, rfl, SqL.of h1, q H _ (.refl H) (.bl _)⟩
theorem prim_any : PrimN K cl (rAny K) (pF1 pAny) := primN1 fun ω H x z v Q dm hx e q => by
  cases x <;> first | (cases e; done) | skip
  obtain ⟨bs, e1, rfl⟩ := Option.map_eq_some_iff.mp e
  obtain ⟨a, vs, rfl, h1, h2⟩ := hx.lst_inv
  obtain rfl := blsOf_ok h2 e1
  exact ⟨a, bs, rfl, SqL.of h1, q H _ (.refl H) (.bl _)⟩
/-- isinstance(x, T), T a built-in type -/
def P.tyName : P → Option String
  | .non => some "NoneType"
  | .bl _ => some "bool"
  | .int _ => some "int"
  | .str _ => some "str"
  | .tup _ => some "tuple"
  | .lst _ => some "list"
  | .fz _ => none
  | .dK _ _ => some "dict"
  | .dT _ _ => none
  | .ins _ _ _ => none
theorem RO.ty {H : Hp} {N : Addr → Prop} {x : P} {v : V} {t : String} (h : RO K cl H N x v) (e : x.tyName = some t) : TyX K H v (.type t) := by
  cases x <;> cases e
  · obtain rfl := h.non_inv; exact .base .non
  · obtain rfl := h.bl_inv; exact .base (.bl _)
  · obtain rfl := h.int_inv; exact .base (.int _)
  · obtain rfl := h.str_inv; exact .base (.str _)
  · obtain ⟨a, vs, rfl, h1, h2⟩ := h.tup_inv; exact .base (.tup h1)
  · obtain ⟨a, vs, rfl, h1, h2⟩ := h.lst_inv; exact .base (.lst h1)
  · obtain ⟨a, kvs, rfl, h1, h2, h3⟩ := h.dK_inv
    rcases h1 with h1 | ⟨o, h1⟩
    · exact .base (.dK h1)
    · exact .fDict h1
def isTyB (t T : String) : Bool := decide (t = T) || (decide (t = "bool") && decide (T = "int"))
abbrev tyAsked : List String := ["int", "bool", "str", "tuple", "list", "dict"]
theorem kit_tab : ∀ t ∈ ["NoneType", "bool", "int", "str", "tuple", "list", "dict"], ∀ T ∈ tyAsked, PySem.W.kitOne K (.type t) (.type T) = some (isTyB t T) := by
  intro t ht T hT
  refine kit_ty ?_
  revert t T
  decide +kernel
theorem P.tyName_mem {x : P} {t : String} (e : x.tyName = some t) : t ∈ ["NoneType", "bool", "int", "str", "tuple", "list", "dict"] := by
  cases x <;> cases e <;> decide
/-- a class that is asked for, and what is answered -/
def IsOk (K : PySem.W.Frag) (cl : String → Option Addr) (u : Value) (tab : P → Option Bool) : Prop := ∀ (H : Hp) (N : Addr → Prop) (x : P) (v : V) (b : Bool), RO K cl H N x v → tab x = some b → ∃ t, TyX K H v t ∧ PySem.W.kitOne K t u = some b
def isTy (T : String) (x : P) : Option Bool := x.tyName.map fun t => isTyB t T
theorem isTy_ok {T : String} (hT : T ∈ tyAsked) : IsOk K cl (.type T) (isTy T) := fun H N x v b h e => by
  obtain ⟨t, e1, rfl⟩ := Option.map_eq_some_iff.mp e
  exact ⟨_, h.ty e1, kit_tab t (P.tyName_mem e1) T hT⟩
end
def pIs (tab : P → Option Bool) (x : P) : Option P := (tab x).map P.bl
theorem de_isi {X : Cx} {g : G} {e : Expr} {m : M} {c : V} {u : Value} {tab : P → Option Bool} (hk : IsOk g.K g.cl u tab) (hc : ClsV c u) (he : PE X e (tCB (rIsi X.K) (tCons (tM g m) (tCons (tC c) tNil)))) (hK : g.K = X.K := by rfl) : PE X e (tM g (mOp1 (pIs tab) m)) :=
  pe_weak he fun σ H Q h => by
    obtain ⟨ω, σD, st, q⟩ := h
    refine ⟨ω, σD, st, q.bind.imp fun o σ1 ω1 H1 s1 st1 q1 v ov => ?_⟩
    obtain ⟨z, e, q1⟩ := lift_post q1
    obtain ⟨x, e1, e2⟩ := Option.bind_eq_some_iff.mp e
    obtain ⟨b, e3, rfl⟩ := Option.map_eq_some_iff.mp e2
    obtain ⟨t, h1, h2⟩ := hk H1 _ x v b (st1.get ov e1) e3
    rw [hK] at h1 h2
    exact ⟨v, c, t, u, b, rfl, hc, h1, h2, Post.ok q1 st1 _ (.v (.bl b))⟩
/-- isinstance(x, (T, U)) -/
def pIs2 (tab tab' : P → Option Bool) (x : P) : Option P := match tab x, tab' x with
  | some b, some c => some (.bl (b || c))
  | _, _ => none
theorem de_isi2 {X : Cx} {g : G} {e : Expr} {m : M} {T U : String} (hT : T ∈ tyAsked) (hU : U ∈ tyAsked) (he : PE X e (tCB (rIsiT X.K) (tCons (tM g m) (tCons (tTup (tCons (tC (.ty T)) (tCons (tC (.ty U)) tNil))) tNil)))) (hK : g.K = X.K := by rfl) : PE X e (tM g (mOp1 (pIs2 (isTy T) (isTy U)) m)) :=
  pe_weak he fun σ H Q h => by
    obtain ⟨ω, σD, st, q⟩ := h
    refine ⟨ω, σD, st, q.bind.imp fun o σ1 ω1 H1 s1 st1 q1 v ov => ⟨by show 2 ≤ sizeLine; decide, fun p hp => ?_⟩⟩
    obtain ⟨z, e, q1⟩ := lift_post q1
    obtain ⟨x, e1, e2⟩ := Option.bind_eq_some_iff.mp e
    unfold pIs2 isTy at e2
    cases e3 : x.tyName with
    | none => rw [e3] at e2; cases e2
    | some t =>
      rw [e3] at e2
      cases e2
      have sm : Same H1 (upd H1 p (.tup [.ty T, .ty U])) := Same.new hp
      have h1 := (RO.ty (st1.get ov e1) e3)
      have st2 := st1.same sm
      have h2 := RO.ty (st2.get (ov.step (.same sm) st1.dom) e1) e3
      rw [hK] at h2
      refine ⟨v, p, [.ty T, .ty U], _, [.type T, .type U], _, rfl, upd_same, .cons (.ty T) (.cons (.ty U) .nil), h2, ?_, q1 ω1 _ (.same sm) st2 _ (.v (.bl _))⟩
      refine kitAny_cons (kit_tab t (P.tyName_mem e3) T hT) (fun hb => kitAny_cons (kit_tab t (P.tyName_mem e3) U hU) (fun hc => ?_) fun hc => ?_) fun hb => ?_
      · show PySem.W.kitAny X.K _ [] = some (isTyB t T || isTyB t U)
        rw [hb, hc]; exact kitAny_nil
      · show (isTyB t T || isTyB t U) = true
        rw [hc, Bool.or_true]
      · show (isTyB t T || isTyB t U) = true
        rw [hb, Bool.true_or]
end PV

set_option Elab.async false
set_option linter.all false
set_option maxRecDepth 100000
set_option maxHeartbeats 4000000
/-! PvI: owned things made; items, entries, fields stored; instances made. -/
namespace PV
open PySem L2
section
variable {X : Cx} {g : G}
/-! ### new owned things -/
theorem Post.laid {ω : Om} {H : Hp} {σD : Env} {σ : L2.St} {p : Addr} {o : HO} {d : D} {Q : VK} (st : Sta g ω H σD σ) (hp : H p = none) (ht : isT o = false)
    (h : Post g ω H σ (.ok d σD) fun d _ ω' H' => ∀ v, RD g.K g.cl H' ω' .tmp d v → Q v H') (r : (∀ x v, RP g.K g.cl H (Fr ω) x v → RP g.K g.cl (upd H p o) (Fr (lay ω p)) x v) → RD g.K g.cl (upd H p o) (lay ω p) .tmp d (.ref p)) : Q (.ref p) (upd H p o) := by
  obtain ⟨s, st', k⟩ := lay_new st hp ht
  exact h _ _ s st' _ (r k)
theorem lay_at {ω : Om} {p : Addr} : lay ω p p = .tmp := by unfold lay; rw [if_pos rfl]
def mLstF (ms : List M) : MF := fun σ => (mAs ms σ).bind fun os σ1 => match pureAll os with
  | some xs => if xs.length ≤ sizeLine then .ok (.lst xs) σ1 else .stuck
  | none => .stuck
theorem df_lst {es : List Expr} {ms : List M} {pos : Pos} (ha : PA X es (tA g (mAs ms))) : PE X (.List es pos) (tF g (mLstF ms)) :=
  pe_weak (pe_lst ha) fun σ H Q h => by
    obtain ⟨ω, σD, st, q⟩ := h
    refine ⟨ω, σD, st, q.bind.imp fun os σ1 ω1 H1 s1 st1 q1 vs ov => ?_⟩
    cases e : pureAll os with
    | none => rw [e] at q1; exact q1.elim
    | some xs =>
      rw [e] at q1
      have rp := pureAll_ok ov e
      dsimp only at q1
      split at q1
      · rename_i hl
        exact ⟨by rw [← rp.length]; exact hl, fun p hp => Post.laid st1 hp rfl q1 fun k => .lst upd_same lay_at (RPs.imp k rp)⟩
      · exact q1.elim
def mDK : MF := fun σ => .ok (.dK [] []) σ
def mDT : MF := fun σ => .ok (.dT [] []) σ
theorem df_dK {pos : Pos} : PE X (.Dict [] [] pos) (tF g mDK) := pe_weak pe_dnewK fun σ H Q h => by
  obtain ⟨ω, σD, st, q⟩ := h
  exact fun p hp => Post.laid st hp rfl q fun k => .dK upd_same lay_at rfl .nil
theorem df_dT {pos : Pos} : PE X (.Dict [] [] pos) (tF g mDT) := pe_weak pe_dnewT fun σ H Q h => by
  obtain ⟨ω, σD, st, q⟩ := h
  exact fun p hp => Post.laid st hp rfl q fun k => .dT upd_same lay_at rfl .nil
/-- built-ins and operators that make a new list -/
def PrimL (K : PySem.W.Frag) (cl : String → Option Addr) (r : List V → Hp → VK → Prop) (f : List P → Option (List P)) : Prop :=
  ∀ (ω : Om) (H : Hp) (xs zs : List P) (vs : List V) (Q : VK), Dom ω H → ROs K cl H (Fr ω) xs vs → f xs = some zs → (∀ l us, H l = none → RPs K cl H (Fr ω) zs us → Q (.ref l) (upd H l (.lst us))) → r vs H Q
def mPrimF (f : List P → Option (List P)) (ms : List M) : MF := fun σ => (mAs ms σ).bind fun os σ1 => match (getAll σ1 os).bind f with
  | some zs => .ok (.lst zs) σ1
  | none => .stuck
theorem tF_primL {r : List V → Hp → VK → Prop} {f : List P → Option (List P)} {ms : List M} (hp : PrimL g.K g.cl r f) (σ : L2.St) (H : Hp) (Q : VK) (h : tF g (mPrimF f ms) σ H Q) : tA g (mAs ms) σ H fun vs H1 => r vs H1 Q := by
  obtain ⟨ω, σD, st, q⟩ := h
  refine ⟨ω, σD, st, q.bind.imp fun os σ1 ω1 H1 s1 st1 q1 vs ov => ?_⟩
  cases e : (getAll σ1 os).bind f with
  | none => rw [e] at q1; exact q1.elim
  | some zs =>
    rw [e] at q1
    obtain ⟨xs, e1, e2⟩ := Option.bind_eq_some_iff.mp e
    exact hp ω1 H1 xs zs vs Q st1.dom (st1.getAll ov e1) e2 fun l us hl r => Post.laid st1 hl rfl q1 fun k => .lst upd_same lay_at (RPs.imp k r)
theorem primL_N {K : PySem.W.Frag} {cl : String → Option Addr} {r : List V → Hp → VK → Prop} {f : List P → Option (List P)} (h : PrimL K cl r f) : PrimN K cl r (fun xs => (f xs).map P.lst) := by
  intro ω H xs z vs Q dm hx e q
  obtain ⟨zs, e1, rfl⟩ := Option.map_eq_some_iff.mp e
  exact h ω H xs zs vs Q dm hx e1 fun l us hl r => q _ _ (Same.new hl) (.lst upd_same (dm.fresh hl) (RPs.keep (same_keeps (Same.new hl)) _ _ r))
/-- list(x) of a list or tuple -/
def pItems : List P → Option (List P)
  | [.lst xs] => some xs
  | [.tup xs] => some xs
  | [.fz xs] => some xs
  | _ => none
def rListOf (K : PySem.W.Frag) : List V → Hp → VK → Prop := fun xs H Q => ∃ p ys, xs = [V.ref p] ∧ (SqL K H p ys ∨ SqT K H p ys) ∧ ∀ (l : Addr), H l = none → Q (V.ref l) (upd H l (HO.lst ys))
theorem primL_list {K : PySem.W.Frag} {cl : String → Option Addr} : PrimL K cl (rListOf K) pItems := by
  intro ω H xs zs vs Q dm hx e q
  match xs, e with
  | [.lst ys], e =>
    cases e
    obtain ⟨v, rfl, hv⟩ := hx.one
    obtain ⟨a, us, rfl, h1, h2⟩ := hv.lst_inv
    exact ⟨a, us, rfl, .inl (SqL.of h1), fun l hl => q l us hl h2⟩
  | [.tup ys], e =>
    cases e
    obtain ⟨v, rfl, hv⟩ := hx.one
    obtain ⟨a, us, rfl, h1, h2⟩ := hv.tup_inv
    exact ⟨a, us, rfl, .inr (SqT.of h1), fun l hl => q l us hl h2⟩
  | [.fz ys], e =>
    cases e
    obtain ⟨v, rfl, hv⟩ := hx.one
    obtain ⟨a, us, rfl, h1, h2⟩ := hv.fz_inv
    exact ⟨a, us, rfl, .inl h1, fun l hl => q l us hl h2⟩
theorem df_lift {e : Expr} {r : List V → Hp → VK → Prop} {f : List P → Option (List P)} {ms : List M} (hp : PrimL g.K g.cl r f) (he : PE X e (tCB r (tA g (mAs ms)))) : PE X e (tF g (mPrimF f ms)) := pe_weak he fun σ H Q h => tF_primL hp σ H Q h
theorem de_lift {e : Expr} {r : List V → Hp → VK → Prop} {f : List P → Option P} {ms : List M} (hp : PrimN g.K g.cl r f) (he : PE X e (tCB r (tA g (mAs ms)))) : PE X e (tM g (mPrim f ms)) := pe_weak he fun σ H Q h => tM_prim hp σ H Q h
/-- list(range(n)) -/
def mRangeL (f : Int → Int → Option (List P)) (a b : M) : MF := fun σ => (a σ).bind fun oa σ1 => (b σ1).bind fun ob σ2 => match oa.get σ2, ob.get σ2 with
  | some (.int i), some (.int j) => (match f i j with
    | some zs => .ok (.lst zs) σ2
    | none => .stuck)
  | _, _ => .stuck
/-- operators that make a new list: [x] * n -/
def mOpF (f : P → P → Option P) (a b : M) : MF := fun σ => (a σ).bind fun oa σ1 => (b σ1).bind fun ob σ2 => match (oa.get σ2).bind fun x => (ob.get σ2).bind fun y => f x y with
  | some (.lst zs) => .ok (.lst zs) σ2
  | _ => .stuck
theorem df_mul {a b : Expr} {ma mb : M} {pos : Pos} (ha : PE X a (tM g ma)) (hb : PE X b (tM g mb)) (hK : g.K = X.K := by rfl) : PE X (.BinOp a .Mult b pos) (tF g (mOpF pMul ma mb)) :=
  pe_weak (pe_op op_mulA ha hb) fun σ H Q h => by
    obtain ⟨ω, σD, st, q⟩ := h
    refine ⟨ω, σD, st, q.bind.imp fun oa σ1 ω1 H1 s1 st1 q1 va ova => ⟨ω1, σ1, st1, q1.bind.imp fun ob σ2 ω2 H2 s2 st2 q2 vb ovb => ?_⟩⟩
    split at q2
    · rename_i zs e
      obtain ⟨x, e1, e⟩ := Option.bind_eq_some_iff.mp e
      obtain ⟨y, e2, e⟩ := Option.bind_eq_some_iff.mp e
      have hx := st2.get (ova.step s2 st1.dom) e1
      have hy := st2.get ovb e2
      cases x <;> cases y <;> first | (cases e; done) | (dsimp only [pMul] at e; split at e <;> cases e; done) | skip
      obtain rfl := hy.int_inv
      obtain ⟨l, vs, rfl, h1, h2⟩ := hx.lst_inv
      dsimp only [pMul] at e
      split at e
      · rename_i hc
        cases e
        refine .inr (.inl ⟨l, _, vs, rfl, rfl, h1, hc.1, hc.2.1, by rw [← h2.length]; exact hc.2.2, fun p hp => ?_⟩)
        exact Post.laid st2 hp rfl q2 fun k => .lst upd_same lay_at (RPs.imp k (h2.flat _))
      · cases e
    · exact q2.elim

/-! ### x[k] = e -/
def mSetIx (i : Nat) (mk me : M) : MS := fun σ => (me σ).toS fun o σ1 => (frz o σ1).toS fun x σ2 => match σ2[i]? with
  | some (some (.lst _)) => (mk σ2).toS fun ok σ3 => (match ok.get σ3, σ3[i]? with
    | some (.int k), some (some (.lst xs)) => (match ixN xs.length k with
      | some j => .next (σ3.set i (some (.lst (xs.set j x))))
      | none => .stuck)
    | _, _ => .stuck)
  | _ => .stuck
theorem ds_setIx {i : Nat} {mk me : M} {st : Stmt} (hs : PS X st (tAsg (tM g me) (gSub (tVar i) (tM g mk) rSetL))) : PS X st (tS g (mSetIx i mk me)) := ps_weak hs fun D σ H h => by
  obtain ⟨ω, σD, st, q⟩ := h
  refine ⟨ω, σD, st, (PostS.of q).imp fun o σ1 ω1 H1 s1 st1 q1 v ov => ?_⟩
  obtain ⟨x, σ2, ω2, s2, st2, r, e2, q2⟩ := frz_ok st1 ov (PostS.of q1)
  split at q2
  · rename_i xs0 e0
    obtain ⟨a, vs0, ha, _, _, _⟩ := st2.tyList e0
    have q3 := PostS.of (σ := σ) q2
    refine ⟨_, ha, ω2, σ2, st2, q3.imp fun ok σ3 ω3 H3 s3 st3 q4 vk ovk => ?_⟩
    split at q4
    · rename_i k xs e3 e4
      split at q4
      · rename_i j e5
        obtain ⟨a', vs, h1, h2, h3, h4⟩ := st3.tyList e4
        rw [ha] at h1; cases h1
        obtain ⟨s5, st5⟩ := change (o := .lst (vs.set j v)) (d := .lst (xs.set j x)) st3 (get_lt e4) ha h3 rfl fun kk => .lst upd_same h3 (RPs.set _ (RPs.imp kk h4) (kk _ _ (s3.rp st2.dom r)))
        refine ⟨a, vs, k, j, rfl, (st3.get ovk e3).int_inv, h2, by rw [← h4.length]; exact e5, ?_⟩
        exact q4 ω3 _ _ s5 st5
      · exact q4.elim
    · exact q4.elim
  · exact q2.elim
/-! ### d[k] = e -/
theorem setP_ok {κ : Type} [DecidableEq κ] {K : PySem.W.Frag} {cl : String → Option Addr} {H : Hp} {N : Addr → Prop} {k : κ} {y : P} {u : V} (r : RP K cl H N y u) : ∀ {kvs : List (κ × V)} {xs : List P}, RPs K cl H N xs (kvs.map (·.2)) →
    RPs K cl H N (setP k y (kvs.map (·.1)) xs) ((kvs.map fun kv => if kv.1 = k then (kv.1, u) else kv).map (·.2)) ∧ (kvs.map fun kv => if kv.1 = k then (kv.1, u) else kv).map (·.1) = kvs.map (·.1)
  | [], xs, h => by cases h; exact ⟨.nil, rfl⟩
  | (k', v) :: kvs, xs, h => by
    cases h with
    | cons h1 h2 =>
      obtain ⟨z1, z2⟩ := setP_ok (k := k) r h2
      by_cases e : k' = k
      · refine ⟨?_, ?_⟩
        · simp only [List.map_cons, setP, if_pos e]
          exact .cons r z1
        · simp only [List.map_cons, if_pos e]
          rw [z2]
      · refine ⟨?_, ?_⟩
        · simp only [List.map_cons, setP, if_neg e]
          exact .cons h1 z1
        · simp only [List.map_cons, if_neg e]
          rw [z2]
theorem putP_ok {κ : Type} [DecidableEq κ] {K : PySem.W.Frag} {cl : String → Option Addr} {H : Hp} {N : Addr → Prop} {k : κ} {y : P} {u : V} {kvs : List (κ × V)} {xs : List P} (r : RP K cl H N y u) (h : RPs K cl H N xs (kvs.map (·.2))) :
    (putK kvs k u).map (·.1) = (putP k y (kvs.map (·.1)) xs).1 ∧ RPs K cl H N (putP k y (kvs.map (·.1)) xs).2 ((putK kvs k u).map (·.2)) := by
  unfold putK putP
  by_cases e : k ∈ kvs.map (·.1)
  · have ha : (kvs.any fun kv => decide (kv.1 = k)) = true := by
      rw [List.any_eq_true]
      obtain ⟨p, hp, rfl⟩ := List.mem_map.mp e
      exact ⟨p, hp, by simp⟩
    rw [if_pos ha, if_pos e]
    obtain ⟨z1, z2⟩ := setP_ok (k := k) r h
    exact ⟨z2, z1⟩
  · have ha : ¬ (kvs.any fun kv => decide (kv.1 = k)) = true := by
      rw [List.any_eq_true]
      rintro ⟨p, hp, q⟩
      exact e (List.mem_map.mpr ⟨p, hp, of_decide_eq_true q⟩)
    rw [if_neg ha, if_neg e, List.map_append, List.map_append]
    exact ⟨rfl, h.append (.cons r .nil)⟩
def dPut : D → P → P → Option D
  | .dK ks xs, k, y => (keyOf k).bind fun k => if ks.length < sizeLine then some (.dK (putP k y ks xs).1 (putP k y ks xs).2) else none
  | .dT ks xs, .tup ys, y => (keysOf ys).bind fun k => if ks.length < sizeLine then some (.dT (putP k y ks xs).1 (putP k y ks xs).2) else none
  | _, _, _ => none
def mDPut (i : Nat) (mk me : M) : MS := fun σ => (me σ).toS fun o σ1 => (frz o σ1).toS fun x σ2 => match σ2[i]? with
  | some (some _) => (mk σ2).toS fun ok σ3 => (match ok.get σ3, σ3[i]? with
    | some k, some (some d) => (match dPut d k x with
      | some d' => .next (σ3.set i (some d'))
      | none => .stuck)
    | _, _ => .stuck)
  | _ => .stuck
theorem ds_dput {i : Nat} {mk me : M} {st : Stmt} (hs : PS X st (sDPut (tVar i) (tM g mk) (tM g me))) : PS X st (tS g (mDPut i mk me)) := ps_weak hs fun D σ H h => by
  obtain ⟨ω, σD, st, q⟩ := h
  refine ⟨ω, σD, st, (PostS.of q).imp fun o σ1 ω1 H1 s1 st1 q1 v ov => ?_⟩
  obtain ⟨x, σ2, ω2, s2, st2, r, e2, q2⟩ := frz_ok st1 ov (PostS.of q1)
  split at q2
  · rename_i d0 e0
    obtain ⟨v0, ha, _⟩ := st2.rd i _ e0
    have q3 := PostS.of (σ := σ) q2
    refine ⟨_, ha, ω2, σ2, st2, q3.imp fun ok σ3 ω3 H3 s3 st3 q4 vk ovk => ?_⟩
    split at q4
    · rename_i k d e3 e4
      split at q4
      · rename_i d' e5
        have rk := st3.get ovk e3
        have rx := s3.rp st2.dom r
        obtain ⟨v1, h1, rd⟩ := st3.rd i _ e4
        rw [ha] at h1; cases h1
        cases d with
        | dK ks xs =>
          have e6 : ((keyOf k).bind fun k => if ks.length < sizeLine then some (PV.D.dK (putP k x ks xs).1 (putP k x ks xs).2) else none) = some d' := by rw [← e5]; cases k <;> rfl
          obtain ⟨kk, e7, e8⟩ := Option.bind_eq_some_iff.mp e6
          split at e8
          · rename_i hl
            cases e8
            cases rd with
            | @dK a kvs _ _ h2 h3 h4 h5 =>
              subst h4
              obtain ⟨z1, z2⟩ := putP_ok (k := kk) rx h5
              obtain ⟨s5, st5⟩ := change (o := .dK (putK kvs kk v)) (d := .dK (putP kk x (kvs.map (·.1)) xs).1 (putP kk x (kvs.map (·.1)) xs).2) st3 (get_lt e4) ha h3 rfl fun kk => .dK upd_same h3 z1 (RPs.imp kk z2)
              exact ⟨a, _, rfl, .inl ⟨kvs, kk, h2, keyOf_ok rk e7, by simpa using hl, rfl⟩, q4 ω3 _ _ s5 st5⟩
          · cases e8
        | dT ks xs =>
          cases k <;> first | (cases e5; done) | skip
          rename_i ys
          obtain ⟨kk, e7, e8⟩ := Option.bind_eq_some_iff.mp e5
          split at e8
          · rename_i hl
            cases e8
            cases rd with
            | @dT a kvs _ _ h2 h3 h4 h5 =>
              subst h4
              obtain ⟨z1, z2⟩ := putP_ok (k := kk) rx h5
              obtain ⟨s5, st5⟩ := change (o := .dT (putK kvs kk v)) (d := .dT (putP kk x (kvs.map (·.1)) xs).1 (putP kk x (kvs.map (·.1)) xs).2) st3 (get_lt e4) ha h3 rfl fun kk => .dT upd_same h3 z1 (RPs.imp kk z2)
              obtain ⟨b, us, rfl, h6, h7⟩ := rk.tup_inv
              rw [keysOf_ok h7 e7] at h6
              exact ⟨a, _, rfl, .inr ⟨kvs, kk, b, h2, rfl, h6, by simpa using hl, rfl⟩, q4 ω3 _ _ s5 st5⟩
          · cases e8
        | _ => cases k <;> cases e5
      · exact q4.elim
    · exact q4.elim
  · exact q2.elim
/-! ### self.f = e -/
theorem putFP_ok {K : PySem.W.Frag} {cl : String → Option Addr} {H : Hp} {N : Addr → Prop} {f : String} {y : P} {u : V} (r : RP K cl H N y u) : ∀ {fs : List (Str × V)} {ns : List String} {xs : List P}, fs.map (·.1) = ns.map ofS → RPs K cl H N xs (fs.map (·.2)) →
    (putF (ofS f) u fs).map (·.1) = (putFP f y ns xs).1.map ofS ∧ RPs K cl H N (putFP f y ns xs).2 ((putF (ofS f) u fs).map (·.2))
  | [], ns, xs, e, h => by
    cases h
    cases ns with
    | nil => exact ⟨rfl, .cons r .nil⟩
    | cons n ns => cases e
  | (m, v) :: fs, ns, xs, e, h => by
    cases h with
    | @cons x _ xs _ h1 h2 =>
      cases ns with
      | nil => cases e
      | cons n ns =>
        have e1 : m = ofS n := (List.cons.inj e).1
        have e2 : fs.map (·.1) = ns.map ofS := (List.cons.inj e).2
        by_cases q : n = f
        · subst q
          have : putF (ofS n) u ((m, v) :: fs) = (m, u) :: fs := by
            show (if m = ofS n then (m, u) :: fs else _) = _
            rw [if_pos e1]
          rw [this]
          simp only [putFP, if_true]
          exact ⟨e, .cons r h2⟩
        · have : putF (ofS f) u ((m, v) :: fs) = (m, v) :: putF (ofS f) u fs := by
            show (if m = ofS f then _ else (m, v) :: putF (ofS f) u fs) = _
            rw [if_neg (by rw [e1]; exact fun z => q (ofS_inj z))]
          rw [this]
          simp only [putFP, if_neg q]
          obtain ⟨z1, z2⟩ := putFP_ok r e2 h2
          refine ⟨?_, .cons h1 z2⟩
          rw [List.map_cons, List.map_cons, e1]
          exact congrArg _ z1
def mFld (i : Nat) (cs : List String) (f : String) (me : M) : MS := fun σ => (me σ).toS fun o σ1 => (frz o σ1).toS fun x σ2 => match σ2[i]? with
  | some (some (.ins c ns xs)) => if c ∈ cs ∧ ns.length < 1000 then .next (σ2.set i (some (.ins c (putFP f x ns xs).1 (putFP f x ns xs).2))) else .stuck
  | _ => .stuck
theorem ds_fld {i : Nat} {cs : List String} {f : String} {me : M} {st : Stmt} (hc : ∀ c ∈ cs, FldOk g.K g.cl c f) (hs : PS X st (sFld X.K (tVar i) (tM g me) (ofS f))) (hK : g.K = X.K := by rfl) : PS X st (tS g (mFld i cs f me)) := ps_weak hs fun D σ H h => by
  obtain ⟨ω, σD, st, q⟩ := h
  refine ⟨ω, σD, st, (PostS.of q).imp fun o σ1 ω1 H1 s1 st1 q1 v ov => ?_⟩
  obtain ⟨x, σ2, ω2, s2, st2, r, e2, q2⟩ := frz_ok st1 ov (PostS.of q1)
  split at q2
  · rename_i c ns xs e0
    split at q2
    · rename_i hc2
      obtain ⟨v0, ha, rd⟩ := st2.rd i _ e0
      cases rd with
      | @ins a C dx fs _ _ _ h2 h3 h4 h5 h6 =>
        obtain ⟨C', h7, h8, h9⟩ := (hc c hc2.1).ex
        rw [h4] at h7; cases h7
        rw [hK] at h8 h9
        obtain ⟨z1, z2⟩ := putFP_ok (f := f) r h5 h6
        obtain ⟨s5, st5⟩ := change (o := .ins C dx (putF (ofS f) v fs)) (d := .ins c (putFP f x ns xs).1 (putFP f x ns xs).2) st2 (get_lt e0) ha h3 rfl fun kk => .ins upd_same h3 h4 z1 (RPs.imp kk z2)
        have hl : fs.length = ns.length := by
          have := congrArg List.length h5
          simpa using this
        exact ⟨_, ha, a, C, dx, fs, rfl, h2, h8, h9, by rw [hl]; exact hc2.2, q2 ω2 _ _ s5 st5⟩
    · exact q2.elim
  · exact q2.elim
end
end PV

set_option Elab.async false
set_option linter.all false
set_option maxRecDepth 100000
set_option maxHeartbeats 4000000
/-! PvJ: instances made by a class; targets; for; while. -/
namespace PV
open PySem L2
section
variable {X : Cx} {g : G}
/-! ### C(..) -/
theorem run_makeS {CX : CXT} {k : Nat} {C f : Addr} {fd : FuncData} {ps : List Str} {sp : Sp} {E : XK} {pins : List (Addr × Obj)} {σ : L2.St} {H : Hp} {s : Shared} {Q : VK} {us : List Value} {vs : List V} (M : Mk X.K C f) (F : FnOk X.prog X.w X.K X.mg X.base CX k f fd ps sp) (hr : Room (k + 1) X.A) (hb : Binds X.K fd ps [])
    (hx : PassesAt CX X σ E) (I : Inv X pins σ H s) (r : Vals vs us)
    (h : ∀ x dx, H x = none → H dx = none → dx ≠ x → sp (.ref x :: vs) (upd (upd H dx (.own x)) x (.ins C dx [])) (fun v H2 => v = .non ∧ Q (.ref x) H2) E) :
    wpAny (model X.prog X.w) X.A (call (.ref C) us) (EP X pins σ Q) X.xe s := by
  let n := s.heap.objs.size
  have fr : ∀ m, n ≤ m → H m = none := fun m hm => I.hok.fresh hm
  have hq := h (n + 1) n (fr _ (Nat.le_succ _)) (fr _ (Nat.le_refl _)) (Nat.ne_of_lt (Nat.lt_succ_self _))
  have J := Inv.made (C := C) I
  have rr : Vals (V.ref (n + 1) :: vs) (Value.ref (n + 1) :: us) := .cons rfl r
  have hl : (Value.ref (n + 1) :: us).length = ps.length := by
    rw [← rr.length]; exact F.len _ _ _ _ hq
  have bb := hb _ (Value.ref (n + 1) :: us) J.kIn (by rw [List.append_nil]; exact hl)
  rw [List.append_nil] at bb
  refine wpAny_call (make_map (f := f) I.kIn M.makes M.init (beq_iff_eq.mp M.fn) (codeAny_mono (F.run _ X.stack _ _ ⟨Value.ref (n + 1) :: us, []⟩ _ _ _ E (hr.make C us []) (J.env0.make C us []) bb rr hq) fun r s' z => ?_))
  cases r with
  | error e => exact hx pins _ _ e s' J z
  | ok fl =>
    cases fl with
    | ret u =>
      obtain ⟨v, H', K3, rv, ev, q3⟩ := J.after z
      subst ev
      exact ⟨rv, V.ref (n + 1), H', K3, rfl, q3⟩
    | next => exact False.elim z
    | brk => exact False.elim z
    | cont => exact False.elim z
def tMakeS (C : Addr) (sp : Sp) (E : L2.St → XK) (t : TA) : TE := fun σ H Q => t σ H fun vs H1 => ∀ x dx, H1 x = none → H1 dx = none → dx ≠ x →
  sp (.ref x :: vs) (upd (upd H1 dx (.own x)) x (.ins C dx [])) (fun v H2 => v = .non ∧ Q (.ref x) H2) (E σ)
theorem pe_makeS {CX : CXT} {k : Nat} {C f : Addr} {fd : FuncData} {ps : List Str} {sp : Sp} {E : L2.St → XK} {x : Str} {e : Expr} {es : List Expr} {t : TA} {p pos : Pos} (M : Mk X.K C f) (F : FnOk X.prog X.w X.K X.mg X.base CX k f fd ps sp) (hr : Room (k + 1) X.A) (hg : Gl X x) (hm : X.mg x = some (.ref C)) (hb : Binds X.K fd ps []) (hx : ∀ σ, PassesAt CX X σ (E σ))
    (ha : PA X (e :: es) t) (hdb : (x == ("__debug__" : Str)) = false := by decide) (he : starEach (e :: es) X.env = (false, eval e X.env) :: starEach es X.env := by rfl) (hpl : (backTo pos (starEach es X.env)).any (·.1) = false := by rfl) :
    PE X (.Call (.Name x p) (e :: es) [] pos) (tMakeS C sp E t) := ⟨fun pins s σ H Q I h =>
  wpAny_Call_Name_kw (ld_glob I hg hm (PySem.W.callWith_K (h₀ := X.base) I.ok.mod.kin M.kp (thn (ha.run pos pins s σ H _ I h) fun us s1 ⟨vs, H1, I1, r, q⟩ => ⟨I1.kIn, run_makeS M F hr hb (hx σ) I1 r q⟩) he hpl) hdb)⟩
/-- a new instance, made: what its __init__ leaves -/
def makeEnd (c : String) (f : FS) (σ1 : Env) (os : List O) : R D := match callEnd (σ1 ++ [some (.ins c [] [])]) (.at σ1.length :: os) f with
  | .ok (.p .non) σ2 => (match σ2[σ1.length]? with
    | some (some d) => .ok d (σ2.take σ1.length)
    | _ => .stuck)
  | .ok _ _ => .stuck
  | .exc c ns vs σ2 => .exc c ns vs (σ2.take σ1.length)
  | .stuck => .stuck
def mMakeF (c : String) (f : FS) (ms : List M) : MF := fun σ => (mAs ms σ).bind fun os σ1 => makeEnd c f σ1 os
def mMake (c : String) (f : FS) (ms : List M) : M := fun σ => (mMakeF c f ms σ).bind fun d σ2 => .ok (.v d.view) σ2
theorem Sta.more {ω : Om} {H : Hp} {σD : Env} {σ : L2.St} (st : Sta g ω H σD σ) (hio : ∀ i ∈ g.io, i < σD.length) {d : D} {v : V} (r : RD g.K g.cl H ω (.at σD.length) d v) {Ω : WX} : Sta { g with Ω := Ω } ω H (σD ++ [some d]) (σ ++ [some v]) where
  len := by simp [st.len]
  rd := fun i d' e => by
    by_cases hi : i < σD.length
    · rw [List.getElem?_append_left hi] at e
      obtain ⟨w, e1, r'⟩ := st.rd i d' e
      exact ⟨w, by rw [List.getElem?_append_left (by rw [← st.len]; exact hi)]; exact e1, r'⟩
    · have hi2 : i = σD.length := by
        have := get_lt e
        simp at this
        omega
      subst hi2
      rw [List.getElem?_append_right (Nat.le_refl _)] at e
      simp at e
      subst e
      exact ⟨v, by rw [List.getElem?_append_right (by rw [st.len]; exact Nat.le_refl _)]; simp [st.len], r⟩
  par := fun i w hi hw => by
    rw [List.getElem?_append_left (by rw [← st.len]; exact hio i hi)]
    exact st.par i w hi hw
  dom := st.dom
theorem Sta.less {ω : Om} {H : Hp} {σD : Env} {σ : L2.St} {v : V} {n : Nat} {Ω : WX} (hn : n = σ.length) (hl : σD.length = n + 1) (hio : ∀ i ∈ g.io, i < n) (st : Sta { g with Ω := Ω } ω H σD (σ ++ [some v])) : Sta g ω H (σD.take n) σ where
  len := by simp [hl]; omega
  rd := fun i d' e => by
    have hi : i < n := by
      have := get_lt e
      simp at this
      omega
    rw [List.getElem?_take_of_lt hi] at e
    obtain ⟨w, e1, r⟩ := st.rd i d' e
    rw [List.getElem?_append_left (by omega)] at e1
    exact ⟨w, e1, r⟩
  par := fun i w hi hw => by
    have e1 := st.par i w hi hw
    rw [List.getElem?_append_left (by have := hio i hi; omega)] at e1
    exact e1
  dom := st.dom
theorem callEnd_len {σ : Env} {os : List O} {f : FS} {d : D} {σ' : Env} (h : callEnd σ os f = .ok d σ') : σ'.length = σ.length := by
  unfold callEnd at h
  split at h
  · split at h
    · split at h
      · cases h; exact giveBack_len _ _
      · cases h
      · cases h
    · cases h
  · cases h
theorem callEnd_len' {σ : Env} {os : List O} {f : FS} {c ns vs} {σ' : Env} (h : callEnd σ os f = .exc c ns vs σ') : σ'.length = σ.length := by
  unfold callEnd at h
  split at h
  · split at h
    · split at h
      · cases h
      · cases h; exact giveBack_len _ _
      · cases h
    · cases h
  · cases h
theorem OVs.more {ω : Om} {H : Hp} {σ : L2.St} {os : List O} {vs : List V} {o : Option V} {Ω : WX} (h : OVs g ω H σ os vs) : OVs { g with Ω := Ω } ω H (σ ++ [o]) os vs := by
  induction h with
  | nil => exact .nil
  | cons h1 _ ih =>
    refine .cons ?_ ih
    cases h1 with
    | v r => exact .v r
    | «at» e => exact .at (by rw [List.getElem?_append_left (get_lt e)]; exact e)
theorem df_make {x : Str} {c : String} {k np : Nat} {f : FS} {e : Expr} {es : List Expr} {ms : List M} {p pos : Pos} (F : Maker X.prog X.w X.K X.mg X.base g.cl x c k np f) (hio : ∀ i ∈ g.io, i < X.N.length) (hr : Room (k + 1) X.A) (tk : Takes X g.Ω) (hg : Gl X x) (ha : PA X (e :: es) (tA g (mAs ms))) (hK : g.K = X.K := by rfl) (hn : ms.length = np := by rfl)
    (hN : ∀ (pins : List (Addr × Obj)) (σ : L2.St) (H : Hp) (s : Shared), Inv X pins σ H s → σ.length = X.N.length := by exact fun _ _ _ _ I => I.len)
    (hdb : (x == ("__debug__" : Str)) = false := by decide) (he : starEach (e :: es) X.env = (false, eval e X.env) :: starEach es X.env := by rfl) (hpl : (backTo pos (starEach es X.env)).any (·.1) = false := by rfl) : PE X (.Call (.Name x p) (e :: es) [] pos) (tF g (mMakeF c f ms)) := by
  obtain ⟨⟨C, a, fd, ps, M, F1, h1, hcl, h3⟩, hf, hf'⟩ := F
  have base : PE X (.Call (.Name x p) (e :: es) [] pos) (tMakeS C (spOf X.K g.cl (np + 1) f) (WE g.Ω) (tA g (mAs ms))) := pe_makeS M F1 hr hg h1 h3 (passAt tk) ha hdb he hpl
  refine ⟨fun pins s σ H Q I h => base.run pins s σ H Q I ?_⟩
  have hlen := hN pins σ H s I
  obtain ⟨ω, σD, st, q⟩ := h
  refine ⟨ω, σD, st, q.bind.withEq.imp fun os σ1 ω1 H1 s1 st1 q1 vs ov x dx hx hdx hne => ?_⟩
  obtain ⟨hos, q1⟩ := q1
  have n1 : σ1.length = σ.length := st1.len
  -- the new instance under its own place
  let n := σ1.length
  let H2 := upd (upd H1 dx (.own x)) x (.ins C dx [])
  let ω2 : Om := fun b => if b = x then .at n else if b = dx then .free else ω1 b
  have hx2 : H1 x = none := hx
  have sm : Same H1 H2 := fun b u e1 => by
    show upd (upd H1 dx (.own x)) x (.ins C dx []) b = some u
    rw [upd_ne (ne_of_none e1 hx), upd_ne (ne_of_none e1 hdx)]
    exact e1
  have hω : ∀ b, H1 b ≠ none → ω2 b = ω1 b := fun b hb => by
    show (if b = x then Own.at n else if b = dx then .free else ω1 b) = ω1 b
    rw [if_neg (by rintro rfl; exact hb hx), if_neg (by rintro rfl; exact hb hdx)]
  have nn : ∀ b, ω1 b ≠ .free → H1 b ≠ none := fun b hb => by
    obtain ⟨u, e1, _⟩ := st1.dom.dom b hb
    rw [e1]; intro z; cases z
  have s2 : Step ω1 H1 ω2 H2 := ⟨fun b u e1 _ => .inl (sm b u e1), fun b u e1 _ => sm b u e1, fun b e1 => by rw [hω b (nn b (by rw [e1]; intro z; cases z))]; exact e1, fun b e1 t => by rw [hω b t]; exact e1, fun b t => by
    cases e1 : H1 b with
    | none => exact absurd e1 t
    | some u => rw [sm b u e1]; intro z; cases z⟩
  have dm2 : Dom ω2 H2 := ⟨fun b hb => by
    by_cases e1 : b = x
    · subst e1
      exact ⟨_, upd_same, rfl⟩
    · by_cases e2 : b = dx
      · exact absurd (show ω2 b = .free by show (if b = x then _ else if b = dx then Own.free else _) = _; rw [if_neg e1, if_pos e2]) hb
      · have : ω2 b = ω1 b := by show (if b = x then _ else if b = dx then Own.free else ω1 b) = _; rw [if_neg e1, if_neg e2]
        obtain ⟨u, e3, t⟩ := st1.dom.dom b (by rw [← this]; exact hb)
        exact ⟨u, sm b u e3, t⟩⟩
  have st2 : Sta g ω2 H2 σ1 σ := ⟨st1.len, fun j d' e1 => by
    obtain ⟨v, e2, r⟩ := st1.rd j d' e1
    exact ⟨v, e2, r.keep2 (s2.keeps st1.dom) (fun b u e3 _ => sm b u e3) fun b t w => by rw [hω b t]; exact w⟩, st1.par, dm2⟩
  have hxn : ω2 x = .at n := by show (if x = x then _ else _) = _; rw [if_pos rfl]
  have hio1 : ∀ i ∈ g.io, i < σ1.length := fun i hi => by rw [n1, hlen]; exact hio i hi
  have st3 : Sta { g with Ω := fun C d _ H => g.Ω C d σ H } ω2 H2 (σ1 ++ [some (.ins c [] [])]) (σ ++ [some (.ref x)]) := st2.more hio1 (.ins upd_same hxn hcl rfl .nil)
  have ov3 : OVs { g with Ω := fun C d _ H => g.Ω C d σ H } ω2 H2 (σ ++ [some (.ref x)]) (.at σ1.length :: os) (.ref x :: vs) := .cons (.at (by rw [List.getElem?_append_right (by rw [n1]; exact Nat.le_refl _)]; simp [n1])) ((ov.step s2 st1.dom).more)
  have fin := call_run (np := np + 1) (Q := fun v H3 => v = .non ∧ Q (.ref x) H3) hf hf' (by simp [mAs_len hos, hn]) st3 ov3 (by
    have q2 : Post g ω2 H2 σ (makeEnd c f σ1 os) fun d _ ω' H' => ∀ v, RD g.K g.cl H' ω' .tmp d v → Q v H' := q1.shift s2
    unfold makeEnd at q2
    cases ec : callEnd (σ1 ++ [some (.ins c [] [])]) (.at σ1.length :: os) f with
    | stuck => rw [ec] at q2; exact q2.elim
    | exc c' ns' vs' σ4 =>
      rw [ec] at q2
      intro ω4 H4 C4 d4 s4 st4 x4
      have hl4 := callEnd_len' ec
      exact q2 ω4 H4 C4 d4 s4 (Sta.less n1 (by simpa using hl4) hio1 st4) x4
    | ok d0 σ4 =>
      rw [ec] at q2
      have hl4 := callEnd_len ec
      intro ω4 H4 s4 st4 v0 r0
      cases d0 with
      | p y =>
        cases y with
        | non =>
          have hv0 : v0 = .non := by cases r0 with | p r => cases r; rfl
          refine ⟨hv0, ?_⟩
          dsimp only at q2
          cases e5 : σ4[σ1.length]? with
          | none => rw [e5] at q2; exact q2.elim
          | some o =>
            cases o with
            | none => rw [e5] at q2; exact q2.elim
            | some d =>
              rw [e5] at q2
              obtain ⟨w, e6, r6⟩ := st4.rd _ _ e5
              have ew : w = .ref x := by
                rw [List.getElem?_append_right (by rw [n1]; exact Nat.le_refl _)] at e6
                simp [n1] at e6
                exact e6.symm
              subst ew
              have st5 := Sta.less (g := g) n1 (by simpa using hl4) hio1 st4
              refine q2 (ren ω4 (.at σ1.length) .tmp) H4 (s4.trans (.ren (by intro z; cases z) (by intro z; cases z))) ⟨st5.len, fun j d' e7 => ?_, st5.par, st5.dom.ren (by intro z; cases z)⟩ _ (r6.own (fun b hb => ren_free (by intro z; cases z) hb) fun b hb => ren_at hb)
              obtain ⟨v', e8, r8⟩ := st5.rd j d' e7
              have hj : j < σ1.length := by
                have := get_lt e7
                simp at this
                omega
              exact ⟨v', e8, r8.own (fun b hb => ren_free (by intro z; cases z) hb) fun b hb => ren_ne hb (by intro z; cases z; omega)⟩
        | _ => exact q2.elim
      | _ => exact q2.elim)
  rw [← hK]
  exact fin
end
end PV

set_option Elab.async false
set_option linter.all false
set_option maxRecDepth 100000
set_option maxHeartbeats 4000000
/-! PvK: instances as data; targets; what is walked; for, while. -/
namespace PV
open PySem L2
section
variable {X : Cx} {g : G}
theorem de_frz {e : Expr} {m : MF} (he : PE X e (tF g m)) : PE X e (tM g fun σ => (m σ).bind fun d σ2 => .ok (.v d.view) σ2) := pe_weak he fun σ H Q h => by
  obtain ⟨ω, σD, st, q⟩ := h
  refine ⟨ω, σD, st, q.bind.imp fun d σ1 ω1 H1 s1 st1 q1 v r => ?_⟩
  have st2 : Sta g (ren ω1 .tmp .free) H1 σ1 σ := ⟨st1.len, fun j d' e => by
    obtain ⟨v', e4, r'⟩ := st1.rd j d' e
    exact ⟨v', e4, r'.own (fun a h => ren_free (by intro z; cases z) h) fun a h => ren_ne h (by intro z; cases z)⟩, st1.par, st1.dom.ren (by intro z; cases z)⟩
  exact q1 _ H1 (.ren (by intro z; cases z) (by intro z; cases z)) st2 v (.v (r.frz (fun a h => ren_free (by intro z; cases z) h) fun a h => ren_at h))
theorem de_make {e : Expr} {c : String} {f : FS} {ms : List M} (he : PE X e (tF g (mMakeF c f ms))) : PE X e (tM g (mMake c f ms)) := de_frz he

/-! ### targets -/
abbrev MG := P → Env → Option Env
def PostN (g : G) (ω : Om) (H : Hp) (S : List Nat) (σ : L2.St) (r : Option Env) (Q : L2.St → Hp → Prop) : Prop := match r with
  | some σD' => ∀ ω' H' σ', Step ω H ω' H' → Sta g ω' H' σD' σ' → σ'.length = σ.length → (∀ j, j ∉ S → σ'[j]? = σ[j]?) → Q σ' H'
  | none => False
/-- a target that stores into the slots S alone -/
def tG (g : G) (S : List Nat) (m : MG) : TG := fun v σ H Q => ∃ ω σD p, Sta g ω H σD σ ∧ RP g.K g.cl H (Fr ω) p v ∧ PostN g ω H S σ (m p σD) Q
theorem pg_weak {e : Expr} {t t' : TG} (h : PG X e t) (f : ∀ v σ H Q, t' v σ H Q → t v σ H Q) : PG X e t' := ⟨fun pins s σ H v u Q I r q => h.run pins s σ H v u Q I r (f _ _ _ _ q)⟩
def mgN (i : Nat) : MG := fun x σ => some (σ.set i (some (.p x)))
theorem dg_name {i : Nat} {x : Str} {pos : Pos} (hN : X.N.Nodup) (hi : X.N[i]? = some x) (hx : Loc X.env.scope x) (hio : i ∉ g.io) (hf : X.fn x = true ∨ X.env.scope.names.lookup x = some .local := by first | exact .inl rfl | exact .inr rfl | assumption) : PG X (.Name x pos) (tG g [i] (mgN i)) :=
  pg_weak (pg_name hN hi hx hf) fun v σ H Q h => by
    obtain ⟨ω, σD, p, st, r, q⟩ := h
    exact q ω H _ .refl (st.setP hio r) (by simp) fun j hj => by rw [List.getElem?_set_ne (by rintro rfl; simp at hj)]
/-- several targets of one tuple -/
def mgAll : List MG → List P → Env → Option Env
  | [], [], σ => some σ
  | m :: ms, x :: xs, σ => (m x σ).bind fun σ1 => mgAll ms xs σ1
  | _, _, _ => none
def tGs (g : G) (S : List Nat) (ms : List MG) : TGs := fun vs σ H Q => ∃ ω σD ps, Sta g ω H σD σ ∧ RPs g.K g.cl H (Fr ω) ps vs ∧ PostN g ω H S σ (mgAll ms ps σD) Q
theorem pgs_weak {e : List Expr} {t t' : TGs} (h : PGs X e t) (f : ∀ v σ H Q, t' v σ H Q → t v σ H Q) : PGs X e t' := ⟨fun pins s σ H v u Q I r q => h.run pins s σ H v u Q I r (f _ _ _ _ q)⟩
theorem dgs_nil : PGs X [] (tGs g [] []) := pgs_weak pgs_nil fun vs σ H Q h => by
  obtain ⟨ω, σD, ps, st, r, q⟩ := h
  cases r with
  | nil => exact ⟨rfl, q ω H σ .refl st rfl fun _ _ => rfl⟩
  | cons _ _ => exact q.elim
theorem PostN.shift {ω ω' : Om} {H H' : Hp} {S : List Nat} {σ : L2.St} {r : Option Env} {Q : L2.St → Hp → Prop} (s : Step ω H ω' H') (h : PostN g ω H S σ r Q) : PostN g ω' H' S σ r Q := by
  cases r with
  | some σD' => exact fun ω2 H2 σ2 s2 st => h ω2 H2 σ2 (s.trans s2) st
  | none => exact h
theorem dgs_cons {e : Expr} {es : List Expr} {m : MG} {ms : List MG} {S S' : List Nat} (h1 : PG X e (tG g S m)) (h2 : PGs X es (tGs g S' ms)) (hs : (assignEach (e :: es) X.env).map (·.2) = assign e X.env :: (assignEach es X.env).map (·.2) := by rfl) : PGs X (e :: es) (tGs g (S ++ S') (m :: ms)) :=
  pgs_weak (pgs_cons h1 h2 hs) fun vs σ H Q h => by
    obtain ⟨ω, σD, ps, st, r, q⟩ := h
    cases r with
    | nil => exact q.elim
    | @cons x v xs vs r1 r2 =>
      refine ⟨v, vs, rfl, ω, σD, x, st, r1, ?_⟩
      unfold mgAll at q
      cases e1 : m x σD with
      | none => rw [e1] at q; exact q.elim
      | some σ1 =>
        rw [e1, Option.bind_some] at q
        intro ω1 H1 σ' s1 st1 hl hj
        refine ⟨ω1, σ1, xs, st1, s1.rps st.dom r2, ?_⟩
        have q2 := q.shift s1
        cases e2 : mgAll ms xs σ1 with
        | none => rw [e2] at q2; exact q2.elim
        | some σ2 =>
          rw [e2] at q2
          intro ω2 H2 σ'' s2 st2 hl2 hj2
          refine q2 ω2 H2 σ'' s2 st2 (hl2.trans hl) fun j hjn => ?_
          rw [List.mem_append, not_or] at hjn
          rw [hj2 j hjn.2, hj j hjn.1]
def mgTup (ms : List MG) : MG := fun x σ => match x with
  | .tup xs => if xs.length = ms.length then mgAll ms xs σ else none
  | _ => none
theorem dg_tup {es : List Expr} {k : Nat} {pos : Pos} {ms : List MG} {S : List Nat} (hc : X.calm = true) (h : PGs X es (tGs g S ms)) (hn : (assignEach es X.env).length = ms.length := by rfl) (hst : (assignEach es X.env).findIdx? (·.1) = none := by rfl) : PG X (.Tuple es k pos) (tG g S (mgTup ms)) :=
  pg_weak (pg_tup hc h hn hst) fun v σ H Q h => by
    obtain ⟨ω, σD, p, st, r, q⟩ := h
    unfold mgTup at q
    cases p with
    | tup xs =>
      dsimp only at q
      split at q
      · rename_i hl
        cases r with
        | tup h1 h2 => exact ⟨_, _, rfl, SqT.of h1, by rw [← h2.length]; exact hl, ω, σD, xs, st, h2, q⟩
      · exact q.elim
    | _ => exact q.elim
/-- x[k] as a target -/
def mgIx (i : Nat) (mk : M) : MG := fun x σ => match σ[i]? with
  | some (some (.lst _)) => (match mk σ with
    | .ok ok σ3 => (match ok.get σ3, σ3[i]? with
      | some (.int k), some (some (.lst xs)) => (match ixN xs.length k with
        | some j => some (σ3.set i (some (.lst (xs.set j x))))
        | none => none)
      | _, _ => none)
    | _ => none)
  | _ => none
theorem dg_ix {i : Nat} {mk : M} {e : Expr} (he : PG X e (gSub (tVar i) (tM g mk) rSetL)) : PG X e (tG g [] (mgIx i mk)) := pg_weak he fun v σ H Q h => by
  obtain ⟨ω, σ2, p, st2, r, q2⟩ := h
  unfold mgIx at q2
  split at q2
  · rename_i xs0 e0
    obtain ⟨a, vs0, ha, _, _, _⟩ := st2.tyList e0
    refine ⟨_, ha, ω, σ2, st2, ?_⟩
    cases em : mk σ2 with
    | stuck => rw [em] at q2; exact q2.elim
    | exc _ _ _ _ => rw [em] at q2; exact q2.elim
    | ok ok σ3 =>
      rw [em] at q2
      intro ω3 H3 s3 st3 vk ovk
      dsimp only at q2
      split at q2
      · rename_i k xs e3 e4
        split at q2
        · rename_i j e5
          obtain ⟨a', vs, h1, h2, h3, h4⟩ := st3.tyList e4
          rw [ha] at h1; cases h1
          obtain ⟨s5, st5⟩ := change (o := .lst (vs.set j v)) (d := .lst (xs.set j p)) st3 (get_lt e4) ha h3 rfl fun kk => .lst upd_same h3 (RPs.set _ (RPs.imp kk h4) (kk _ _ (s3.rp st2.dom r)))
          refine ⟨a, vs, k, j, rfl, (st3.get ovk e3).int_inv, h2, by rw [← h4.length]; exact e5, ?_⟩
          exact q2 ω3 _ σ (s3.trans s5) st5 rfl fun _ _ => rfl
        · exact q2.elim
      · exact q2.elim
  · exact q2.elim
def toN (r : Option Env) (k : Env → RS) : RS := match r with
  | some σ => k σ
  | none => .stuck
@[simp] theorem toN_some (σ : Env) (k : Env → RS) : toN (some σ) k = k σ := rfl
@[simp] theorem toN_none (k : Env → RS) : toN none k = .stuck := rfl
theorem PostN.of {ω : Om} {H : Hp} {S : List Nat} {σ : L2.St} {r : Option Env} {k : Env → RS} {D : Ends} (h : PostS g ω H (toN r k) D) : PostN g ω H S σ r fun σ' H' => ∃ ω' σD', Step ω H ω' H' ∧ Sta g ω' H' σD' σ' ∧ r = some σD' ∧ PostS g ω' H' (k σD') D := by
  cases r with
  | none => exact h
  | some σD' => exact fun ω' H' σ' s st _ _ => ⟨ω', σD', s, st, rfl, PostS.shift s h⟩
/-- target = e -/
def mAsg (mg : MG) (me : M) : MS := fun σ => (me σ).toS fun o σ1 => (frz o σ1).toS fun x σ2 => toN (mg x σ2) .next
theorem ds_asg {tg e : Expr} {S : List Nat} {mg : MG} {me : M} {pos : Pos} (he : PE X e (tM g me)) (hg : PG X tg (tG g S mg)) (hs : swapsWithSole [tg] e pos.line X.env = pure false := by rfl) (hw : swappedStores [tg] e X.env = pure none := by rfl)
    (h1 : (assignEach [tg] X.env).map (·.2) = [assign tg X.env] := by rfl) : PS X (.Assign [tg] e pos) (tS g (mAsg mg me)) := ps_weak (ps_asg he hg hs hw h1) fun D σ H h => by
  obtain ⟨ω, σD, st, q⟩ := h
  refine ⟨ω, σD, st, (PostS.of q).imp fun o σ1 ω1 H1 s1 st1 q1 v ov => ?_⟩
  obtain ⟨x, σ2, ω2, s2, st2, r, e2, q2⟩ := frz_ok st1 ov (PostS.of q1)
  refine ⟨ω2, σ2, x, st2, r, ?_⟩
  cases em : mg x σ2 with
  | none => rw [em] at q2; exact q2.elim
  | some σ3 =>
    rw [em] at q2
    exact fun ω3 H3 σ' s3 st3 _ _ => q2 ω3 H3 σ' s3 st3

/-! ### what is walked -/
/-- at every later state the walk yields the items, one after the other, then it stops -/
def Yld (K : PySem.W.Frag) (cl : String → Option Addr) (ω : Om) (H : Hp) (J : It) (items : List P) : Prop := ∀ ω' H', Wk ω H ω' H' → Dom ω' H' →
  (∀ i, i < items.length → J.go i H' ∧ ∀ x H3, J.yld i H' x H3 → Same H' H3 ∧ ∃ p, items[i]? = some p ∧ RP K cl H3 (Fr ω') p x) ∧ J.stop items.length H'
abbrev MI := Env → R (List P)
def tI (g : G) (m : MI) : TI := fun σ H R => ∃ ω σD, Sta g ω H σD σ ∧ Post g ω H σ (m σD) fun items σ1 ω1 H1 => ∀ J ω2 H2, Step ω1 H1 ω2 H2 → Sta g ω2 H2 σ1 σ → Yld g.K g.cl ω2 H2 J items → R J H2
theorem pi_weak {tg e : Expr} {t t' : TI} (h : PI X tg e t) (f : ∀ σ H R, t' σ H R → t σ H R) : PI X tg e t' := ⟨fun pins s σ H R I q => h.run pins s σ H R I (f _ _ _ q)⟩
theorem pi_or {tg e : Expr} {t t' : TI} (h : PI X tg e t) (h' : PI X tg e t') : PI X tg e fun σ H R => t σ H R ∨ t' σ H R := ⟨fun pins s σ H R I q => q.elim (h.run pins s σ H R I) (h'.run pins s σ H R I)⟩
theorem yld_list {K : PySem.W.Frag} {cl : String → Option Addr} {ω : Om} {H : Hp} {a : Addr} {vs : List V} {xs : List P} {u : HO} (hu : H a = some u) (hd : isD u = false) (hl : ∀ H' : Hp, H' a = some u → SqL K H' a vs) (ha : ω a = .free) (dm : Dom ω H) (r : RPs K cl H (Fr ω) xs vs) : Yld K cl ω H (Itl K a) xs := fun ω' H' s dm' => by
  have h1 := (s.fr a u hu ha).of hd
  have r' := s.rps dm r
  refine ⟨fun i hi => ⟨⟨vs, vs[i]'(by rw [← r.length]; exact hi), hl H' h1, by simp [← r.length, hi]⟩, fun x H3 y => ?_⟩, ⟨vs, hl H' h1, by rw [r.length]; exact Nat.le_refl _⟩⟩
  obtain ⟨rfl, y⟩ := y
  obtain ⟨p, e1, r1⟩ := r'.get' (y vs (hl _ h1))
  exact ⟨.refl _, p, e1, r1⟩
theorem SqZ.later {K : PySem.W.Frag} {ω ω' : Om} {H H' : Hp} {a : Addr} {vs : List V} (h : SqZ K H (Fr ω) a vs) (s : Wk ω H ω' H') : SqL K H' a vs := by
  rcases h with ⟨o, h, n⟩ | h
  · exact .inl (.inr ⟨o, (s.fr a _ h n).of rfl⟩)
  · exact .inr h
theorem yld_fz {K : PySem.W.Frag} {cl : String → Option Addr} {ω : Om} {H : Hp} {a : Addr} {vs : List V} {xs : List P} (h : SqZ K H (Fr ω) a vs) (dm : Dom ω H) (r : RPs K cl H (Fr ω) xs vs) : Yld K cl ω H (Itl K a) xs := fun ω' H' s dm' => by
  have h1 := h.later s
  have r' := s.rps dm r
  refine ⟨fun i hi => ⟨⟨vs, vs[i]'(by rw [← r.length]; exact hi), h1, by simp [← r.length, hi]⟩, fun x H3 y => ?_⟩, ⟨vs, h1, by rw [r.length]; exact Nat.le_refl _⟩⟩
  obtain ⟨rfl, y⟩ := y
  obtain ⟨p, e1, r1⟩ := r'.get' (y vs h1)
  exact ⟨.refl _, p, e1, r1⟩
theorem yld_tup {K : PySem.W.Frag} {cl : String → Option Addr} {ω : Om} {H : Hp} {a : Addr} {vs : List V} {xs : List P} (hu : H a = some (.tup vs)) (dm : Dom ω H) (r : RPs K cl H (Fr ω) xs vs) : Yld K cl ω H (Itt K a) xs := fun ω' H' s dm' => by
  have h1 := (s.fr a _ hu (dm.tup hu rfl)).of rfl
  have r' := s.rps dm r
  refine ⟨fun i hi => ⟨⟨vs, vs[i]'(by rw [← r.length]; exact hi), SqT.of h1, by simp [← r.length, hi]⟩, fun x H3 y => ?_⟩, ⟨vs, SqT.of h1, by rw [r.length]; exact Nat.le_refl _⟩⟩
  obtain ⟨rfl, y⟩ := y
  obtain ⟨p, e1, r1⟩ := r'.get' (y vs (SqT.of h1))
  exact ⟨.refl _, p, e1, r1⟩
end
end PV

set_option Elab.async false
set_option linter.all false
set_option maxRecDepth 100000
set_option maxHeartbeats 4000000
/-! PvL: for, while; lists, tuples, ranges walked. -/
namespace PV
open PySem L2
section
variable {X : Cx} {g : G}
/-! ### for -/
def loop (mg : MG) (mb : MS) : List P → Env → RS
  | [], σ => .next σ
  | x :: xs, σ => toN (mg x σ) fun σ1 => match mb σ1 with
    | .next σ2 => loop mg mb xs σ2
    | .cont σ2 => loop mg mb xs σ2
    | .brk σ2 => .next σ2
    | r => r
def mFor (mi : MI) (mg : MG) (mb : MS) : MS := fun σ => (mi σ).toS fun xs σ1 => loop mg mb xs σ1
theorem ds_for {iter tg : Expr} {body : List Stmt} {S : List Nat} {mi : MI} {mg : MG} {mb : MS} {pos : Pos} (hp : PassesOwn (model X.prog X.w) X.A X.env X.xe) (hc : X.calm = true) (hi : PI X tg iter (tI g mi)) (hg : PG X tg (tG g S mg)) (hb : PSs X body (tS g mb))
    (hs : ∀ x, foldedSetIterable iter X.env x = pure x := by intro _; rfl) : PS X (.For tg iter body [] pos) (tS g (mFor mi mg mb)) := ps_weak (ps_for hp hc hi hg hb hs) fun D σ H h => by
  obtain ⟨ω, σD, st, q⟩ := h
  refine ⟨ω, σD, st, (PostS.of q).imp fun xs σ1 ω1 H1 s1 st1 q1 J ω2 H2 s2 st2 yl => ?_⟩
  refine ⟨fun i m σ' H' => m = xs.length - i ∧ i ≤ xs.length ∧ ∃ ω' σD', Step ω2 H2 ω' H' ∧ Sta g ω' H' σD' σ' ∧ PostS g ω' H' (loop mg mb (xs.drop i) σD') D, ⟨_, rfl, Nat.zero_le _, ω2, σ1, .refl, st2, by rw [List.drop_zero]; exact q1.shift s2⟩, ?_⟩
  rintro i m σ' H' ⟨rfl, hi, ω', σD', s, st', q'⟩
  obtain ⟨y1, y2⟩ := yl ω' H' s.wk st'.dom
  by_cases hlt : i < xs.length
  · refine .inr ⟨(y1 i hlt).1, fun σ'' H'' => i + 1 ≤ xs.length ∧ ∃ ω' σD', Step ω2 H2 ω' H'' ∧ Sta g ω' H'' σD' σ'' ∧ PostS g ω' H'' (loop mg mb (xs.drop (i + 1)) σD') D, fun σ'' H'' ⟨h1, h2⟩ => ⟨_, by omega, rfl, h1, h2⟩, fun x H3 hy => ?_⟩
    obtain ⟨sm, p, e1, rp⟩ := (y1 i hlt).2 x H3 hy
    have ed : xs.drop i = p :: xs.drop (i + 1) := by
      rw [List.drop_eq_getElem_cons hlt]
      congr 1
      exact (List.getElem?_eq_some_iff.mp e1).2
    rw [ed] at q'
    unfold loop at q'
    have sm' : Step ω' H' ω' H3 := .same sm
    have q2 := PostN.of (S := S) (σ := σ') (q'.shift sm')
    refine ⟨ω', σD', p, st'.same sm, rp, ?_⟩
    cases em : mg p σD' with
    | none => rw [em] at q2; exact q2.elim
    | some σ4 =>
      rw [em] at q2
      intro ω5 H5 σ5 s5 st5 hl5 hj5
      obtain ⟨ω6, σ6, s6, st6, e6, q6⟩ := q2 ω5 H5 σ5 s5 st5 hl5 hj5
      cases e6
      refine ⟨ω6, σ4, st6, ?_⟩
      have hn : ∀ σ7, (∀ r, mb σ4 = r → (r = .next σ7 ∨ r = .cont σ7) → ∀ ω8 H8 σ8, Step ω6 H5 ω8 H8 → Sta g ω8 H8 σ7 σ8 → i + 1 ≤ xs.length ∧ ∃ ω' σD', Step ω2 H2 ω' H8 ∧ Sta g ω' H8 σD' σ8 ∧ PostS g ω' H8 (loop mg mb (xs.drop (i + 1)) σD') D) := fun σ7 r er hr ω8 H8 σ8 s8 st8 => by
        refine ⟨hlt, ω8, σ7, ((s.trans sm').trans s6).trans s8, st8, ?_⟩
        have q7 := q6.shift s8
        rw [er] at q7
        rcases hr with rfl | rfl <;> exact q7
      cases er : mb σ4 with
      | next σ7 => exact hn σ7 _ er (.inl rfl)
      | cont σ7 => exact hn σ7 _ er (.inr rfl)
      | brk σ7 => rw [er] at q6; exact q6
      | ret d σ7 => rw [er] at q6; exact q6
      | exc c ns vs σ7 => rw [er] at q6; exact q6
      | stuck => rw [er] at q6; exact q6
  · have e : i = xs.length := by omega
    subst e
    rw [List.drop_length] at q'
    exact .inl ⟨y2, q' ω' H' σ' .refl st'⟩
/-- a list or tuple, walked -/
def mSeqI (m : M) : MI := fun σ => (m σ).bind fun o σ1 => (frz o σ1).bind fun x σ2 => match x with
  | .lst xs => .ok xs σ2
  | .tup xs => .ok xs σ2
  | .fz xs => .ok xs σ2
  | _ => .stuck
def iSeq (K : PySem.W.Frag) (tl : TE) : TI := fun σ H R => tl σ H fun x H1 => (∃ a xs, x = .ref a ∧ SqL K H1 a xs ∧ R (Itl K a) H1) ∨ (∃ a xs, x = .ref a ∧ SqT K H1 a xs ∧ R (Itt K a) H1)
theorem pi_seq {tg l : Expr} {tl : TE} (hl : PE X l tl) : PI X tg l (iSeq X.K tl) := ⟨fun pins s σ H R I h => thn (hl.run pins s σ H _ I h) fun v s1 ⟨x, H1, I1, r1, q1⟩ => by
  have fp : ∀ (h' : Heap), (∀ b ∈ [s1.heap.objs.size], FpOk X pins H1 b) := fun _ b hb => by
    obtain rfl : b = s1.heap.objs.size := by simpa using hb
    exact I1.fpOk (Nat.le_refl _) (I1.hok.fresh (Nat.le_refl _))
  rcases q1 with ⟨a, xs, e, hq, q⟩ | ⟨a, xs, e, hq, q⟩
  · subst e
    cases r1
    obtain ⟨its, rv, p, hz⟩ := I1.list hq
    exact wpAny_pyIter_list p.isList ⟨s1.heap.objs.size, [s1.heap.objs.size], _, _, H1, rfl, I1.kept (t' := s1.toks) fun b o e => Heap.get?_push_of_some _ e, turn_list a _, ⟨_, Heap.get?_push_size _ rfl, rfl, rfl⟩, fp s1.heap, q⟩
  · subst e
    cases r1
    obtain ⟨its, rv, p, hz⟩ := I1.tuple hq
    exact wpAny_pyIter_tuple (show s1.heap.IsTuple a its.toArray from p) ⟨s1.heap.objs.size, [s1.heap.objs.size], _, _, H1, rfl, I1.kept (t' := s1.toks) fun b o e => Heap.get?_push_of_some _ e, turn_tuple a _, ⟨_, Heap.get?_push_size _ rfl, rfl, rfl⟩, fp s1.heap, q⟩⟩
theorem di_seq {tg l : Expr} {m : M} (hl : PE X l (tM g m)) (hK : g.K = X.K := by rfl) : PI X tg l (tI g (mSeqI m)) := pi_weak (pi_seq hl) fun σ H R h => by
  obtain ⟨ω, σD, st, q⟩ := h
  refine ⟨ω, σD, st, q.bind.imp fun o σ1 ω1 H1 s1 st1 q1 v ov => ?_⟩
  obtain ⟨x, σ2, ω2, s2, st2, r, e2, q2⟩ := frz_ok st1 ov q1.bind
  rw [← hK]
  cases x with
  | lst xs =>
    cases r with
    | lst h1 h2 h3 => exact .inl ⟨_, _, rfl, SqL.of h1, (Post.ok q2 st2) _ ω2 H1 .refl st2 (yld_list h1 rfl (fun H' e => SqL.of e) h2 st2.dom h3)⟩
  | tup xs =>
    cases r with
    | tup h1 h3 => exact .inr ⟨_, _, rfl, SqT.of h1, (Post.ok q2 st2) _ ω2 H1 .refl st2 (yld_tup h1 st2.dom h3)⟩
  | fz xs =>
    cases r with
    | fz h1 h3 => exact .inl ⟨_, _, rfl, h1.sq, (Post.ok q2 st2) _ ω2 H1 .refl st2 (yld_fz h1 st2.dom h3)⟩
  | _ => exact q2.elim
/-- range(n), range(a, b) -/
def rangeP (lo : Int) (n : Nat) : List P := (List.range n).map fun i => .int (lo + (i : Nat))
def mRg1 (m : M) : MI := fun σ => (mAs [m] σ).bind fun os σ1 => match getAll σ1 os with
  | some [.int j] => if -(2 ^ 62) ≤ j ∧ j < 2 ^ 62 then .ok (rangeP 0 j.toNat) σ1 else .stuck
  | _ => .stuck
def mRg2 (a b : M) : MI := fun σ => (mAs [a, b] σ).bind fun os σ1 => match getAll σ1 os with
  | some [.int i, .int j] => if -(2 ^ 62) ≤ i ∧ i < 2 ^ 62 ∧ -(2 ^ 62) ≤ j ∧ j < 2 ^ 62 then .ok (rangeP i (j - i).toNat) σ1 else .stuck
  | _ => .stuck
theorem yld_range {K : PySem.W.Frag} {cl : String → Option Addr} {ω : Om} {H : Hp} {lo : Int} {n : Nat} : Yld K cl ω H (Itr lo n) (rangeP lo n) := fun ω' H' s dm' => by
  refine ⟨fun i hi => ⟨show i < n by simpa [rangeP] using hi, fun x H3 y => ?_⟩, show n ≤ (rangeP lo n).length by simp [rangeP]⟩
  obtain ⟨rfl, rfl⟩ := y
  have hi' : i < n := by simpa [rangeP] using hi
  exact ⟨.refl _, .int (lo + (i : Nat)), by simp [rangeP, hi'], .int _⟩
theorem di_rg1 {tg e : Expr} {m : M} (he : PI X tg e (iRng1 (tA g (mAs [m])))) : PI X tg e (tI g (mRg1 m)) := pi_weak he fun σ H R h => by
  obtain ⟨ω, σD, st, q⟩ := h
  refine ⟨ω, σD, st, q.bind.imp fun os σ1 ω1 H1 s1 st1 q1 vs ov => ?_⟩
  split at q1
  · rename_i j e
    split at q1
    · rename_i hc
      obtain ⟨v, rfl, hv⟩ := (st1.getAll ov e).one
      exact ⟨j, by rw [hv.int_inv], hc.1, hc.2, (Post.ok q1 st1) _ ω1 H1 .refl st1 yld_range⟩
    · exact q1.elim
  · exact q1.elim
theorem di_rg2 {tg e : Expr} {a b : M} (he : PI X tg e (iRng2 (tA g (mAs [a, b])))) : PI X tg e (tI g (mRg2 a b)) := pi_weak he fun σ H R h => by
  obtain ⟨ω, σD, st, q⟩ := h
  refine ⟨ω, σD, st, q.bind.imp fun os σ1 ω1 H1 s1 st1 q1 vs ov => ?_⟩
  split at q1
  · rename_i i j e
    split at q1
    · rename_i hc
      obtain ⟨v, w, rfl, hv, hw⟩ := (st1.getAll ov e).two
      exact ⟨i, j, by rw [hv.int_inv, hw.int_inv], hc, (Post.ok q1 st1) _ ω1 H1 .refl st1 yld_range⟩
    · exact q1.elim
  · exact q1.elim
/-! ### while -/
def whileN (c : MT) (b : MS) : Nat → Env → RS
  | 0, _ => .stuck
  | n + 1, σ => (c σ).toS fun x σ1 => if x = true then (match b σ1 with
    | .next σ2 => whileN c b n σ2
    | .cont σ2 => whileN c b n σ2
    | .brk σ2 => .next σ2
    | r => r) else .next σ1
/-- enough turns for everybody -/
def turns : Nat := 10 ^ 30
def mWhile (c : MT) (b : MS) : MS := fun σ => whileN c b turns σ
theorem ds_while {c : Expr} {body : List Stmt} {mc : MT} {mb : MS} {pos : Pos} (hp : PassesOwn (model X.prog X.w) X.A X.env X.xe) (hc : PT X c (tT g mc)) (hb : PSs X body (tS g mb)) : PS X (.While c body [] pos) (tS g (mWhile mc mb)) := ps_weak (ps_while hp hc hb) fun D σ H h => by
  obtain ⟨ω, σD, st, q⟩ := h
  unfold mWhile at q
  refine ⟨fun m σ' H' => ∃ ω' σD', Step ω H ω' H' ∧ Sta g ω' H' σD' σ' ∧ PostS g ω' H' (whileN mc mb m σD') D, ⟨turns, ω, σD, .refl, st, q⟩, ?_⟩
  rintro m σ' H' ⟨ω', σD', s, st', q'⟩
  cases m with
  | zero => exact q'.elim
  | succ m =>
    unfold whileN at q'
    refine ⟨ω', σD', st', (PostS.of q').imp fun x σ1 ω1 H1 s1 st1 q1 => ?_⟩
    cases x with
    | false => exact q1 ω1 H1 σ' .refl st1
    | true =>
      refine ⟨fun σ'' H'' => ∃ ω' σD', Step ω H ω' H'' ∧ Sta g ω' H'' σD' σ'' ∧ PostS g ω' H'' (whileN mc mb m σD') D, fun σ'' H'' z => ⟨m, Nat.lt_succ_self _, z⟩, ω1, σ1, st1, ?_⟩
      simp only [if_true] at q1
      cases er : mb σ1 with
      | next σ7 => rw [er] at q1; exact fun ω8 H8 σ8 s8 st8 => ⟨ω8, σ7, (s.trans s1).trans s8, st8, q1.shift s8⟩
      | cont σ7 => rw [er] at q1; exact fun ω8 H8 σ8 s8 st8 => ⟨ω8, σ7, (s.trans s1).trans s8, st8, q1.shift s8⟩
      | brk σ7 => rw [er] at q1; exact q1
      | ret d σ7 => rw [er] at q1; exact q1
      | exc c ns vs σ7 => rw [er] at q1; exact q1
      | stuck => rw [er] at q1; exact q1
end
end PV

set_option Elab.async false
set_option linter.all false
set_option maxRecDepth 100000
set_option maxHeartbeats 4000000
/-! PvM: list comprehensions. -/
namespace PV
open PySem L2
def wipeE (σ : Env) : List Nat → Env
  | [] => σ
  | v :: vs => (wipeE σ vs).set v none
theorem wipeE_len (σ : Env) : ∀ vs : List Nat, (wipeE σ vs).length = σ.length
  | [] => rfl
  | v :: vs => by
    show ((wipeE σ vs).set v none).length = _
    rw [List.length_set, wipeE_len σ vs]
theorem wipeE_get {σ : Env} {i : Nat} {d : D} : ∀ {vs : List Nat}, (wipeE σ vs)[i]? = some (some d) → σ[i]? = some (some d) ∧ i ∉ vs
  | [], h => ⟨h, by simp⟩
  | v :: vs, h => by
    rcases set_get (show ((wipeE σ vs).set v none)[i]? = _ from h) with ⟨e1, e2, _⟩ | ⟨e1, e2⟩
    · cases e2
    · obtain ⟨z1, z2⟩ := wipeE_get e2
      exact ⟨z1, by simp only [List.mem_cons, not_or]; exact ⟨fun z => e1 z.symm, z2⟩⟩
theorem wipe_in {σ : L2.St} {i : Nat} : ∀ {vs : List Nat}, i ∈ vs → i < σ.length → (wipe σ vs)[i]? = some none
  | v :: vs, h, hl => by
    show ((wipe σ vs).set v none)[i]? = _
    by_cases e : v = i
    · subst e
      rw [List.getElem?_set_self (by rw [wipe_length]; exact hl)]
    · rw [List.getElem?_set_ne e]
      exact wipe_in ((List.mem_cons.mp h).resolve_left fun z => e z.symm) hl
theorem wipe_again {σ σ2 : L2.St} {vs S : List Nat} (hl : σ2.length = (wipe σ vs).length) (hj : ∀ j, j ∉ S → σ2[j]? = (wipe σ vs)[j]?) (hS : ∀ j ∈ S, j ∈ vs) : wipe σ2 vs = wipe σ vs := by
  rw [wipe_length] at hl
  apply List.ext_getElem?
  intro j
  by_cases h : j ∈ vs
  · by_cases hj2 : j < σ.length
    · rw [wipe_in h (by rw [hl]; exact hj2), wipe_in h hj2]
    · rw [List.getElem?_eq_none (by rw [wipe_length]; omega), List.getElem?_eq_none (by rw [wipe_length]; omega)]
  · rw [wipe_out h]
    exact hj j fun z => h (hS j z)
section
variable {X : Cx} {g : G}
theorem Sta.wipe {ω : Om} {H : Hp} {σD : Env} {σ : L2.St} (st : Sta g ω H σD σ) {vs : List Nat} (hv : ∀ v ∈ vs, v ∉ g.io) : Sta g ω H (wipeE σD vs) (wipe σ vs) where
  len := by rw [wipeE_len, wipe_length]; exact st.len
  rd := fun i d e => by
    obtain ⟨e1, e2⟩ := wipeE_get e
    rw [wipe_out e2]
    exact st.rd i d e1
  par := fun i v hi e => by
    rw [wipe_out fun z => hv i z hi]
    exact st.par i v hi e
  dom := st.dom
def cLoop (mg : MG) (mt : MT) (me : M) (vs : List Nat) : List P → List P → Env → R (List P)
  | [], acc, σ => .ok acc σ
  | x :: xs, acc, σ => match mg x σ with
    | some σ1 => (match mt σ1 with
      | .ok b σ2 => if b = true then (match me σ2 with
        | .ok o σ3 => (match frz o σ3 with
          | .ok y σ4 => if acc.length < sizeLine then cLoop mg mt me vs xs (acc ++ [y]) (wipeE σ4 vs) else .stuck
          | _ => .stuck)
        | _ => .stuck) else cLoop mg mt me vs xs acc (wipeE σ2 vs)
      | _ => .stuck)
    | none => .stuck
def pureAt (σ : Env) (v : Nat) : Bool := match σ[v]? with
  | some (some d) => !d.owned
  | _ => true
def backE (σ1 : Env) : List Nat → Env → Env
  | [], σ2 => σ2
  | v :: vs, σ2 => (backE σ1 vs σ2).set v (match σ1[v]? with | some o => o | none => none)
def mCompR (vs : List Nat) (mi : MI) (mg : MG) (mt : MT) (me : M) : Env → R (List P) := fun σ => (mi σ).bind fun xs σ1 => if (vs.all (pureAt σ1)) = true then (match cLoop mg mt me vs xs [] (wipeE σ1 vs) with
  | .ok zs σ2 => .ok zs (backE σ1 vs σ2)
  | _ => .stuck) else .stuck
abbrev G.nox (g : G) : G := { g with Ω := fun _ _ _ _ => False }
theorem Sta.nox {ω : Om} {H : Hp} {σD : Env} {σ : L2.St} (st : Sta g ω H σD σ) : Sta g.nox ω H σD σ := ⟨st.len, st.rd, st.par, st.dom⟩
theorem Sta.unnox {ω : Om} {H : Hp} {σD : Env} {σ : L2.St} (st : Sta g.nox ω H σD σ) : Sta g ω H σD σ := ⟨st.len, st.rd, st.par, st.dom⟩
theorem backE_len (σ1 : Env) : ∀ (vs : List Nat) (σ2 : Env), (backE σ1 vs σ2).length = σ2.length
  | [], _ => rfl
  | v :: vs, σ2 => by
    show ((backE σ1 vs σ2).set v _).length = _
    rw [List.length_set, backE_len]
theorem backE_get {σ1 : Env} {i : Nat} {d : D} : ∀ {vs : List Nat} {σ2 : Env}, (backE σ1 vs σ2)[i]? = some (some d) → (i ∈ vs ∧ σ1[i]? = some (some d)) ∨ (i ∉ vs ∧ σ2[i]? = some (some d))
  | [], σ2, h => .inr ⟨by simp, h⟩
  | v :: vs, σ2, h => by
    rcases set_get (show ((backE σ1 vs σ2).set v _)[i]? = _ from h) with ⟨e1, e2, _⟩ | ⟨e1, e2⟩
    · subst e1
      refine .inl ⟨by simp, ?_⟩
      split at e2
      · rename_i o e3
        rw [e3, e2]
      · cases e2
    · rcases backE_get e2 with ⟨z1, z2⟩ | ⟨z1, z2⟩
      · exact .inl ⟨by simp [z1], z2⟩
      · exact .inr ⟨by simp only [List.mem_cons, not_or]; exact ⟨fun z => e1 z.symm, z1⟩, z2⟩
/-- a parked list changes: nobody's business -/
theorem poke {ω : Om} {H : Hp} {σD : Env} {σ : L2.St} (st : Sta g ω H σD σ) {p : Addr} {o : HO} (hp : ω p = .out) (ht : isT o = false) : Sta g ω (upd H p o) σD σ ∧ ∀ x v, RP g.K g.cl H (Fr ω) x v → RP g.K g.cl (upd H p o) (Fr ω) x v := by
  have ne : ∀ a, ω a ≠ .out → a ≠ p := fun a h e => h (by rw [e]; exact hp)
  have k : Keeps H (upd H p o) (Fr ω) (Fr ω) := ⟨fun a u h w => .inl (by rw [upd_ne (ne a (by rw [show ω a = .free from w]; intro z; cases z))]; exact h), fun a u h t => by
    rw [upd_ne (ne a (by rw [st.dom.tup h t]; intro z; cases z))]; exact h, fun _ h _ => h⟩
  refine ⟨⟨st.len, fun i d e => ?_, st.par, ⟨fun a h => ?_⟩⟩, fun x v r => RP.keep k _ _ r⟩
  · obtain ⟨v, e1, r⟩ := st.rd i d e
    exact ⟨v, e1, r.keep2 k (fun a u h w => by rw [upd_ne (ne a (by rw [w]; intro z; cases z))]; exact h) fun _ _ h => h⟩
  · by_cases e : a = p
    · subst e
      exact ⟨o, upd_same, ht⟩
    · obtain ⟨u, h1, h2⟩ := st.dom.dom a h
      exact ⟨u, by rw [upd_ne e]; exact h1, h2⟩
/-- from before the list was there -/
theorem Step.poke {ω ω' : Om} {H H' : Hp} (s : Step ω H ω' H') {p : Addr} {o : HO} (hp : H p = none) : Step ω H ω' (upd H' p o) where
  fr := fun a u h w => by
    have ne := ne_of_none h hp
    rcases s.fr a u h w with z | ⟨z1, od, z2⟩
    · exact .inl (by rw [upd_ne ne]; exact z)
    · exact .inr ⟨z1, od, by rw [upd_ne ne]; exact z2⟩
  ot := fun a u h w => by rw [upd_ne (ne_of_none h hp)]; exact s.ot a u h w
  out := s.out
  fz := s.fz
  th := fun a h => by
    by_cases e : a = p
    · rw [e, upd_same]; intro z; cases z
    · rw [upd_ne e]; exact s.th a h
/-- a comprehension's reading: what is wanted of the list at its place -/
theorem comp_core {wi : TI} {S vs : List Nat} {mi : MI} {mg : MG} {mt : MT} {me : M} {σ : L2.St} {H : Hp} {Q : VK} (hS : ∀ j ∈ S, j ∈ vs) (hv : ∀ v ∈ vs, v ∉ g.io) (ω : Om) (σD : Env) (st : Sta g ω H σD σ)
    (h : Post g ω H σ (mCompR vs mi mg mt me σD) fun zs σ2 ω2 H2 => ∀ p us, ω2 p = .tmp → H2 p = some (.lst us) → RPs g.K g.cl H2 (Fr ω2) zs us → Q (.ref p) H2) :
    tLc (tI g mi) (tG g.nox S mg) (tT g.nox mt) (tM g.nox me) vs σ H Q := by
  refine ⟨ω, σD, st, h.bind.imp fun xs σ1 ω1 H1 s1 st1 q1 J ω2 H2 s2 st2 yl D hD => ?_⟩
  have q2 := q1.shift s2
  clear q1
  by_cases hpure : (vs.all (pureAt σ1)) = true
  · simp only [if_pos hpure] at q2
    obtain ⟨sl, stl, kl⟩ := lay_new (o := .lst []) st2 hD rfl
    have sr : Step (lay ω2 D) (upd H2 D (.lst [])) (ren (lay ω2 D) .tmp .out) (upd H2 D (.lst [])) := .ren (by intro z; cases z) (by intro z; cases z)
    have str : Sta g (ren (lay ω2 D) .tmp .out) (upd H2 D (.lst [])) σ1 σ := ⟨stl.len, fun j d' e => by
      obtain ⟨v', e4, r'⟩ := stl.rd j d' e
      exact ⟨v', e4, r'.own (fun a h => ren_free (by intro z; cases z) h) fun a h => ren_ne h (by intro z; cases z)⟩, stl.par, stl.dom.ren (by intro z; cases z)⟩
    have hDo : ren (lay ω2 D) .tmp .out D = .out := ren_at lay_at
    have s0 : Step ω2 H2 (ren (lay ω2 D) .tmp .out) (upd H2 D (.lst [])) := sl.trans sr
    -- what comes at the end
    have fin : ∀ zs σ2 ω3 H3 us, Step ω2 H2 ω3 H3 → Sta g ω3 H3 (wipeE σ2 vs) (wipe σ vs) → ω3 D = .out → H3 D = some (.lst us) → RPs g.K g.cl H3 (Fr ω3) zs us → (∃ Qr, Post g ω2 H2 σ (.ok zs (backE σ1 vs σ2) : R (List P)) Qr ∧ Qr = fun zs σ2 ω2 H2 => ∀ p us, ω2 p = .tmp → H2 p = some (.lst us) → RPs g.K g.cl H2 (Fr ω2) zs us → Q (.ref p) H2) → (wipeE σ2 vs).length = σ2.length → Q (.ref D) H3 := fun zs σ2 ω3 H3 us s3 st3 o3 h3 r3 ⟨Qr, hq, eq⟩ hlen => by
      subst eq
      let ω4 : Om := fun a => if a = D then .tmp else ω3 a
      have hf : ∀ a, ω3 a = .free → ω4 a = .free := fun a h => by
        show (if a = D then Own.tmp else ω3 a) = _
        rw [if_neg (by rintro rfl; rw [o3] at h; cases h)]; exact h
      have h4 : ∀ a, H2 a ≠ none → ω4 a = ω3 a := fun a h => by
        show (if a = D then Own.tmp else ω3 a) = _
        rw [if_neg (by rintro rfl; exact h hD)]
      have nn : ∀ b, ω2 b ≠ .free → H2 b ≠ none := fun b hb => by
        obtain ⟨u, e1, _⟩ := st2.dom.dom b hb
        rw [e1]; intro z; cases z
      have s4 : Step ω2 H2 ω4 H3 := ⟨s3.fr, s3.ot, fun a h => by rw [h4 a (nn a (by rw [h]; intro z; cases z))]; exact s3.out a h, fun a h t => by rw [h4 a t]; exact s3.fz a h t, s3.th⟩
      refine hq ω4 H3 s4 ⟨?_, fun j d e => ?_, fun i v hi e => st2.par i v hi e, ⟨fun a h => ?_⟩⟩ D us (by show (if D = D then _ else _) = _; rw [if_pos rfl]) h3 (RPs.keep (Keeps.own hf) _ _ r3)
      · rw [backE_len, ← st2.len, ← hlen]
        have e1 := st3.len
        rw [wipe_length] at e1
        rw [e1, st2.len]
      · rcases backE_get e with ⟨z1, z2⟩ | ⟨z1, z2⟩
        · have hpv := (List.all_eq_true.mp hpure) j z1
          unfold pureAt at hpv
          rw [z2] at hpv
          obtain ⟨v, e1, r⟩ := st2.rd j d z2
          cases d with
          | p x => cases r with | p r => exact ⟨v, e1, .p (s4.rp st2.dom r)⟩
          | _ => cases hpv
        · have e2 : (wipeE σ2 vs)[j]? = some (some d) := by
            have : ∀ (vs : List Nat), j ∉ vs → (wipeE σ2 vs)[j]? = σ2[j]? := fun vs => by
              induction vs with
              | nil => intro _; rfl
              | cons v vs ih =>
                intro hn
                simp only [List.mem_cons, not_or] at hn
                show ((wipeE σ2 vs).set v none)[j]? = _
                rw [List.getElem?_set_ne (fun z => hn.1 z.symm)]
                exact ih hn.2
            rw [this vs z1]; exact z2
          obtain ⟨v, e1, r⟩ := st3.rd j d e2
          rw [wipe_out z1] at e1
          exact ⟨v, e1, r.own hf fun a h => by
            show (if a = D then Own.tmp else ω3 a) = _
            rw [if_neg (by rintro rfl; rw [o3] at h; cases h)]; exact h⟩
      · by_cases ea : a = D
        · subst ea; exact ⟨_, h3, rfl⟩
        · exact st3.dom.dom a (by
            have : ω4 a = ω3 a := by show (if a = D then Own.tmp else ω3 a) = _; rw [if_neg ea]
            rw [← this]; exact h)
    let Inv' : List P → List P → L2.Hp → Prop := fun rest acc H' => ∃ ω' σD' us, Step ω2 H2 ω' H' ∧ Sta g ω' H' (wipeE σD' vs) (wipe σ vs) ∧ ω' D = .out ∧ H' D = some (.lst us) ∧ RPs g.K g.cl H' (Fr ω') acc us ∧ ∃ Qr, Post g ω2 H2 σ (match cLoop mg mt me vs rest acc (wipeE σD' vs) with | .ok zs σ2 => R.ok zs (backE σ1 vs σ2) | _ => R.stuck) Qr ∧ Qr = fun zs σ2 ω2 H2 => ∀ p us, ω2 p = .tmp → H2 p = some (.lst us) → RPs g.K g.cl H2 (Fr ω2) zs us → Q (.ref p) H2
    refine ⟨fun i m H' => m = xs.length - i ∧ i ≤ xs.length ∧ ∃ acc, Inv' (xs.drop i) acc H', ⟨_, rfl, Nat.zero_le _, [], _, σ1, [], s0, str.wipe hv, hDo, upd_same, .nil, _, by rw [List.drop_zero]; exact q2, rfl⟩, ?_⟩
    rintro i m H' ⟨rfl, hi, acc, ω', σD', us, s', st', oD, hD', racc, Qr, hq, eQ⟩
    obtain ⟨y1, y2⟩ := yl ω' H' s'.wk st'.dom
    by_cases hlt : i < xs.length
    · refine .inr ⟨(y1 i hlt).1, fun H'' => i + 1 ≤ xs.length ∧ ∃ acc, Inv' (xs.drop (i + 1)) acc H'', fun H'' ⟨z1, z2⟩ => ⟨_, by omega, rfl, z1, z2⟩, fun x H3 hy => ?_⟩
      obtain ⟨sm, p, e1, rp⟩ := (y1 i hlt).2 x H3 hy
      have ed : xs.drop i = p :: xs.drop (i + 1) := by
        rw [List.drop_eq_getElem_cons hlt]
        congr 1
        exact (List.getElem?_eq_some_iff.mp e1).2
      rw [ed] at hq
      unfold cLoop at hq
      have st3 := (st'.same sm).nox
      have s3 := s'.trans (.same sm)
      have hD3 := sm _ _ hD'
      have racc3 := RPs.keep (same_keeps sm) _ _ racc
      refine ⟨ω', wipeE σD' vs, p, st3, rp, ?_⟩
      cases em : mg p (wipeE σD' vs) with
      | none => simp only [em] at hq; exact hq.elim
      | some σ4 =>
        simp only [em] at hq
        intro ω5 H5 σ5 s5 st5 hl5 hj5
        refine ⟨wipe_again hl5 hj5 hS, ω5, σ4, st5, ?_⟩
        cases et : mt σ4 with
        | stuck => simp only [et] at hq; exact hq.elim
        | exc _ _ _ _ => simp only [et] at hq; exact hq.elim
        | ok b σ6 =>
          simp only [et] at hq
          intro ω6 H6 s6 st6
          have sw : wipe σ5 vs = wipe σ vs := wipe_again hl5 hj5 hS
          have s56 := s5.trans s6
          have hD6 : H6 D = some (.lst us) := s56.ot D _ hD3 oD
          have oD6 : ω6 D = .out := s56.out D oD
          have racc6 := s56.rps st3.dom racc3
          have s6' := s3.trans s56
          cases b with
          | false =>
            simp only [Bool.false_eq_true, if_false] at hq ⊢
            refine ⟨hlt, acc, ω6, σ6, us, s6', ?_, oD6, hD6, racc6, Qr, hq, eQ⟩
            rw [← sw]
            exact st6.unnox.wipe hv
          | true =>
            simp only [if_true] at hq ⊢
            refine ⟨ω6, σ6, st6, ?_⟩
            cases ee : me σ6 with
            | stuck => simp only [ee] at hq; exact hq.elim
            | exc _ _ _ _ => simp only [ee] at hq; exact hq.elim
            | ok o σ7 =>
              simp only [ee] at hq
              intro ω7 H7 s7 st7 vy ovy
              cases ef : frz o σ7 with
              | stuck => simp only [ef] at hq; exact hq.elim
              | exc _ _ _ _ => simp only [ef] at hq; exact hq.elim
              | ok y σ8 =>
                simp only [ef] at hq
                obtain ⟨y', σ8', ω8, s8, st8, r8, e8, _⟩ := frz_ok (k := fun _ _ _ _ => True) st7 ovy (by rw [ef]; exact fun _ _ _ _ => trivial)
                rw [ef] at e8
                cases e8
                have s78 := s7.trans s8
                have hD8 : H7 D = some (.lst us) := s78.ot D _ hD6 oD6
                have oD8 : ω8 D = .out := s78.out D oD6
                have racc8 := s78.rps st6.dom racc6
                by_cases hsz : acc.length < sizeLine
                · rw [if_pos hsz] at hq
                  obtain ⟨st9, k9⟩ := poke (o := .lst (us ++ [vy])) st8 oD8 rfl
                  refine ⟨us, hD8, by rw [← racc8.length]; exact hsz, hlt, acc ++ [y], ω8, σ8, us ++ [vy], (s6'.trans s78).poke hD, ?_, oD8, upd_same, (RPs.imp k9 racc8).append (.cons (k9 _ _ r8) .nil), Qr, hq, eQ⟩
                  rw [← sw]
                  exact st9.unnox.wipe hv
                · rw [if_neg hsz] at hq
                  exact hq.elim
    · have e : i = xs.length := by omega
      subst e
      rw [List.drop_length] at hq
      unfold cLoop at hq
      refine .inl ⟨y2, fin acc (wipeE σD' vs) ω' H' us s' ?_ oD hD' racc ⟨Qr, hq, eQ⟩ (wipeE_len _ _)⟩
      have ww : ∀ (vs' : List Nat) (τ : Env), (∀ v ∈ vs', v ∈ vs') → wipeE (wipeE τ vs') vs' = wipeE τ vs' := fun vs' τ _ => by
        apply List.ext_getElem?
        intro j
        by_cases hj : j ∈ vs'
        · have inn : ∀ (l : List Nat) (τ : Env), j ∈ l → j < τ.length → (wipeE τ l)[j]? = some none := fun l => by
            induction l with
            | nil => intro τ h; simp at h
            | cons v l ih =>
              intro τ h hl
              show ((wipeE τ l).set v none)[j]? = _
              by_cases e : v = j
              · subst e
                rw [List.getElem?_set_self (by rw [wipeE_len]; exact hl)]
              · rw [List.getElem?_set_ne e]
                exact ih τ ((List.mem_cons.mp h).resolve_left fun z => e z.symm) hl
          by_cases hl : j < τ.length
          · rw [inn _ _ hj (by rw [wipeE_len]; exact hl), inn _ _ hj hl]
          · rw [List.getElem?_eq_none (by simp only [wipeE_len]; omega), List.getElem?_eq_none (by simp only [wipeE_len]; omega)]
        · have out : ∀ (l : List Nat) (τ : Env), j ∉ l → (wipeE τ l)[j]? = τ[j]? := fun l => by
            induction l with
            | nil => intro τ _; rfl
            | cons v l ih =>
              intro τ hn
              simp only [List.mem_cons, not_or] at hn
              show ((wipeE τ l).set v none)[j]? = _
              rw [List.getElem?_set_ne (fun z => hn.1 z.symm)]
              exact ih τ hn.2
          rw [out _ _ hj]
      rw [ww vs _ fun _ h => h]
      exact st'
  · rw [Bool.not_eq_true] at hpure
    simp only [hpure] at q2
    exact q2.elim
end
end PV

set_option Elab.async false
set_option linter.all false
set_option maxRecDepth 100000
set_option maxHeartbeats 4000000
/-! PvN: comprehensions as data and as owned lists; a, b = x, y; dicts written out. -/
namespace PV
open PySem L2
section
variable {X : Cx} {g : G}
theorem Sta.tmpFree {ω : Om} {H : Hp} {σD : Env} {σ : L2.St} (st : Sta g ω H σD σ) : Sta g (ren ω .tmp .free) H σD σ := ⟨st.len, fun j d' e => by
    obtain ⟨v', e4, r'⟩ := st.rd j d' e
    exact ⟨v', e4, r'.own (fun a h => ren_free (by intro z; cases z) h) fun a h => ren_ne h (by intro z; cases z)⟩, st.par, st.dom.ren (by intro z; cases z)⟩
def mComp (vs : List Nat) (mi : MI) (mg : MG) (mt : MT) (me : M) : M := fun σ => (mCompR vs mi mg mt me σ).bind fun zs σ2 => .ok (.v (.lst zs)) σ2
def mCompF (vs : List Nat) (mi : MI) (mg : MG) (mt : MT) (me : M) : MF := fun σ => (mCompR vs mi mg mt me σ).bind fun zs σ2 => .ok (.lst zs) σ2
theorem tM_comp {S vs : List Nat} {mi : MI} {mg : MG} {mt : MT} {me : M} (hS : ∀ j ∈ S, j ∈ vs) (hv : ∀ v ∈ vs, v ∉ g.io) (σ : L2.St) (H : Hp) (Q : VK) (h : tM g (mComp vs mi mg mt me) σ H Q) : tLc (tI g mi) (tG g.nox S mg) (tT g.nox mt) (tM g.nox me) vs σ H Q := by
  obtain ⟨ω, σD, st, q⟩ := h
  refine comp_core (wi := tI g mi) hS hv ω σD st (q.bind.imp fun zs σ2 ω2 H2 s2 st2 q2 p us hp hH r => ?_)
  have s3 : Step ω2 H2 (ren ω2 .tmp .free) H2 := .ren (by intro z; cases z) (by intro z; cases z)
  exact q2 _ H2 s3 st2.tmpFree _ (.v (.lst hH (ren_at hp) (s3.rps st2.dom r)))
theorem tF_comp {S vs : List Nat} {mi : MI} {mg : MG} {mt : MT} {me : M} (hS : ∀ j ∈ S, j ∈ vs) (hv : ∀ v ∈ vs, v ∉ g.io) (σ : L2.St) (H : Hp) (Q : VK) (h : tF g (mCompF vs mi mg mt me) σ H Q) : tLc (tI g mi) (tG g.nox S mg) (tT g.nox mt) (tM g.nox me) vs σ H Q := by
  obtain ⟨ω, σD, st, q⟩ := h
  refine comp_core (wi := tI g mi) hS hv ω σD st (q.bind.imp fun zs σ2 ω2 H2 s2 st2 q2 p us hp hH r => ?_)
  exact (Post.ok q2 st2) _ (.lst hH hp r)
theorem de_comp {e : Expr} {S vs : List Nat} {mi : MI} {mg : MG} {mt : MT} {me : M} (he : PE X e (tLc (tI g mi) (tG g.nox S mg) (tT g.nox mt) (tM g.nox me) vs)) (hS : ∀ j ∈ S, j ∈ vs) (hv : ∀ v ∈ vs, v ∉ g.io) : PE X e (tM g (mComp vs mi mg mt me)) := pe_weak he (tM_comp hS hv)
theorem df_comp {e : Expr} {S vs : List Nat} {mi : MI} {mg : MG} {mt : MT} {me : M} (he : PE X e (tLc (tI g mi) (tG g.nox S mg) (tT g.nox mt) (tM g.nox me) vs)) (hS : ∀ j ∈ S, j ∈ vs) (hv : ∀ v ∈ vs, v ∉ g.io) : PE X e (tF g (mCompF vs mi mg mt me)) := pe_weak he (tF_comp hS hv)
/-- y = [..]: the target in the same line, stored by the comprehension's own road -/
theorem ds_setLc {i : Nat} {st : Stmt} {S vs : List Nat} {mi : MI} {mg : MG} {mt : MT} {me : M} (hs : PS X st (tAsg (tLc (tI g mi) (tG g.nox S mg) (tT g.nox mt) (tM g.nox me) vs) (gName i))) (hio : i ∉ g.io) (hS : ∀ j ∈ S, j ∈ vs) (hv : ∀ v ∈ vs, v ∉ g.io) : PS X st (tS g (mSet i (mComp vs mi mg mt me))) := ps_weak hs fun D σ H h => by
  obtain ⟨ω, σD, st, q⟩ := h
  refine tM_comp hS hv σ H _ ⟨ω, σD, st, (PostS.of q).imp fun o σ1 ω1 H1 s1 st1 q1 v ov => ?_⟩
  obtain ⟨y, σ2, ω2, s2, st2, r, e, q2⟩ := frz_ok st1 ov (PostS.of q1)
  exact q2 ω2 H1 _ .refl (st2.setP hio r)
theorem ds_setLcF {i : Nat} {st : Stmt} {S vs : List Nat} {mi : MI} {mg : MG} {mt : MT} {me : M} (hs : PS X st (tAsg (tLc (tI g mi) (tG g.nox S mg) (tT g.nox mt) (tM g.nox me) vs) (gName i))) (hio : i ∉ g.io) (hS : ∀ j ∈ S, j ∈ vs) (hv : ∀ v ∈ vs, v ∉ g.io) : PS X st (tS g (mSetF i (mCompF vs mi mg mt me))) := ps_weak hs fun D σ H h => by
  obtain ⟨ω, σD, st, q⟩ := h
  refine tF_comp hS hv σ H _ ⟨ω, σD, st, (PostS.of q).imp fun d σ1 ω1 H1 s1 st1 q1 v r => ?_⟩
  exact q1 _ H1 _ (.give i) (st1.setD hio r)
def mTrue : MT := fun σ => .ok true σ
theorem tT_true (σ : L2.St) (H : Hp) (Q : Bool → Hp → Prop) (h : tT g mTrue σ H Q) : tYes σ H Q := by
  obtain ⟨ω, σD, st, q⟩ := h
  exact Post.ok q st
theorem pts_weak {e : List Expr} {t t' : TT} (h : PTs X e t) (f : ∀ σ H Q, t' σ H Q → t σ H Q) : PTs X e t' := ⟨fun pins s σ H Q I q => h.run pins s σ H Q I (f _ _ _ q)⟩
theorem dts_nil : PTs X [] (tT g mTrue) := pts_weak pts_nil tT_true
theorem dts_one {c : Expr} {m : MT} (h : PT X c (tT g m)) : PTs X [c] (tT g m) := pts_one h

/-! ### a, b = x, y with both sides written -/
inductive ME where
  | m (m : M) | f (m : MF)
/-- a root of its own: no lock -/
def D.root : D → Bool
  | .p _ => false
  | .lk _ => false
  | _ => true
/-- evaluated from the left: data, or owned things (each one parked until all are there) -/
def mEach : List ME → Env → R (List D)
  | [], σ => .ok [] σ
  | .m m :: ms, σ => (m σ).bind fun o σ1 => (frz o σ1).bind fun x σ2 => (mEach ms σ2).bind fun ds σ3 => .ok (.p x :: ds) σ3
  | .f m :: ms, σ => (m σ).bind fun d σ1 => if d.root = true then (mEach ms σ1).bind fun ds σ3 => .ok (d :: ds) σ3 else .stuck
theorem RD.reroot {K : PySem.W.Frag} {cl : String → Option Addr} {H : Hp} {ω ω' : Om} {w w' : Own} {a : Addr} (hf : ∀ b, ω b = .free → ω' b = .free) (ha : ω' a = w') : ∀ {d : D}, RD K cl H ω w d (.ref a) → d.owned = true → (∀ d', d = .lk d' → False) → RD K cl H ω' w' d (.ref a)
  | .p x, h, e, _ => by cases e
  | .lst xs, h, _, _ => by cases h with | lst h1 h2 h3 => exact .lst h1 ha (RPs.keep (Keeps.own hf) _ _ h3)
  | .dK ks xs, h, _, _ => by cases h with | dK h1 h2 h0 h3 => exact .dK h1 ha h0 (RPs.keep (Keeps.own hf) _ _ h3)
  | .dT ks xs, h, _, _ => by cases h with | dT h1 h2 h0 h3 => exact .dT h1 ha h0 (RPs.keep (Keeps.own hf) _ _ h3)
  | .ins c ns xs, h, _, _ => by cases h with | ins h1 h2 h3 h4 h5 => exact .ins h1 ha h3 h4 (RPs.keep (Keeps.own hf) _ _ h5)
  | .lk d, h, _, n => (n d rfl).elim
theorem RD.root_ref {K : PySem.W.Frag} {cl : String → Option Addr} {H : Hp} {ω : Om} {w : Own} : ∀ {d : D} {v : V}, RD K cl H ω w d v → d.root = true → ∃ a, v = .ref a ∧ ω a = w
  | .p x, _, h, e => by cases e
  | .lst xs, _, h, _ => by cases h with | lst h1 h2 h3 => exact ⟨_, rfl, h2⟩
  | .dK ks xs, _, h, _ => by cases h with | dK h1 h2 h0 h3 => exact ⟨_, rfl, h2⟩
  | .dT ks xs, _, h, _ => by cases h with | dT h1 h2 h0 h3 => exact ⟨_, rfl, h2⟩
  | .ins c ns xs, _, h, _ => by cases h with | ins h1 h2 h3 h4 h5 => exact ⟨_, rfl, h2⟩
  | .lk d, _, h, e => by cases e
theorem root_owned {d : D} (h : d.root = true) : d.owned = true ∧ ∀ d', d = .lk d' → False := by
  cases d <;> first | (cases h; done) | exact ⟨rfl, fun _ z => nomatch z⟩
/-- what has been evaluated and waits: data, or parked things, none of which was anybody's ahead -/
structure Pk (K : PySem.W.Frag) (cl : String → Option Addr) (ω0 : Om) (H0 : Hp) (ω : Om) (H : Hp) (ds : List D) (vs : List V) : Prop where
  len : ds.length = vs.length
  el : ∀ (k : Nat) (d : D) (v : V), ds[k]? = some d → vs[k]? = some v → (∃ x, d = .p x ∧ RP K cl H (Fr ω) x v) ∨ (d.root = true ∧ ∃ a, v = .ref a ∧ RD K cl H ω .out d v ∧ ω a = .out ∧ ω0 a ≠ .out ∧ (ω0 a = .free → H0 a = none))
  ne : ∀ (k l : Nat) (d e : D) (v : V), k ≠ l → ds[k]? = some d → ds[l]? = some e → d.root = true → e.root = true → vs[k]? = some v → vs[l]? ≠ some v
theorem Pk.step {K : PySem.W.Frag} {cl : String → Option Addr} {ω0 ω ω' : Om} {H0 H H' : Hp} {ds : List D} {vs : List V} (p : Pk K cl ω0 H0 ω H ds vs) (s : Step ω H ω' H') (dm : Dom ω H) : Pk K cl ω0 H0 ω' H' ds vs where
  len := p.len
  el := fun k d v e1 e2 => by
    rcases p.el k d v e1 e2 with ⟨x, z1, z2⟩ | ⟨z0, a, z1, z2, z3, z4, z5⟩
    · exact .inl ⟨x, z1, s.rp dm z2⟩
    · exact .inr ⟨z0, a, z1, z2.keep2 (s.keeps dm) (fun b o h w => s.ot b o h w) fun b _ w => s.out b w, s.out a z3, z4, z5⟩
  ne := p.ne
theorem Pk.snoc {K : PySem.W.Frag} {cl : String → Option Addr} {ω0 ω : Om} {H0 H : Hp} {ds : List D} {vs : List V} {d : D} {v : V} (p : Pk K cl ω0 H0 ω H ds vs) (h : (∃ x, d = .p x ∧ RP K cl H (Fr ω) x v) ∨ (d.root = true ∧ ∃ a, v = .ref a ∧ RD K cl H ω .out d v ∧ ω a = .out ∧ ω0 a ≠ .out ∧ (ω0 a = .free → H0 a = none)))
    (hn : d.root = true → ∀ (k : Nat) (e : D), ds[k]? = some e → e.root = true → vs[k]? ≠ some v) : Pk K cl ω0 H0 ω H (ds ++ [d]) (vs ++ [v]) where
  len := by simp [p.len]
  el := fun k e u e1 e2 => by
    by_cases hk : k < ds.length
    · rw [List.getElem?_append_left hk] at e1
      rw [List.getElem?_append_left (by rw [← p.len]; exact hk)] at e2
      exact p.el k e u e1 e2
    · have hk2 : k = ds.length := by
        have := get_lt e1
        simp at this
        omega
      subst hk2
      rw [List.getElem?_append_right (Nat.le_refl _)] at e1
      rw [List.getElem?_append_right (by rw [p.len]; exact Nat.le_refl _)] at e2
      simp at e1
      simp [p.len] at e2
      subst e1; subst e2
      exact h
  ne := fun k l d1 d2 u hkl e1 e2 r1 r2 e3 e4 => by
    have hlast : ∀ {m : Nat} {x : D}, (ds ++ [d])[m]? = some x → m = ds.length ∨ m < ds.length := fun {m x} e => by
      have := get_lt e
      simp at this
      omega
    have ed : ∀ {x : D}, (ds ++ [d])[ds.length]? = some x → x = d := fun {x} e => by
      rw [List.getElem?_append_right (Nat.le_refl _)] at e
      simp at e; exact e.symm
    have ev : ∀ {x : V}, (vs ++ [v])[ds.length]? = some x → x = v := fun {x} e => by
      rw [List.getElem?_append_right (by rw [p.len]; exact Nat.le_refl _)] at e
      simp [p.len] at e; exact e.symm
    rcases hlast e1 with q1 | q1 <;> rcases hlast e2 with q2 | q2
    · omega
    · subst q1
      cases ed e1; cases ev e3
      rw [List.getElem?_append_left q2] at e2
      rw [List.getElem?_append_left (by rw [← p.len]; exact q2)] at e4
      exact hn r1 l d2 e2 r2 e4
    · subst q2
      cases ed e2; cases ev e4
      rw [List.getElem?_append_left q1] at e1
      rw [List.getElem?_append_left (by rw [← p.len]; exact q1)] at e3
      exact hn r2 k d1 e1 r1 e3
    · rw [List.getElem?_append_left q1] at e1
      rw [List.getElem?_append_left q2] at e2
      rw [List.getElem?_append_left (by rw [← p.len]; exact q1)] at e3
      rw [List.getElem?_append_left (by rw [← p.len]; exact q2)] at e4
      exact p.ne k l d1 d2 u hkl e1 e2 r1 r2 e3 e4
def tMEs (g : G) : List ME → TA
  | [] => tNil
  | .m m :: ms => tCons (tM g m) (tMEs g ms)
  | .f m :: ms => tCons (tF g m) (tMEs g ms)
theorem each_run {ω0 : Om} {H0 : Hp} {σ : L2.St} : ∀ {ms : List ME} {ω : Om} {H : Hp} {σD : Env} {ds0 : List D} {vs0 : List V} {Q : List V → Hp → Prop}, Sta g ω H σD σ → Step ω0 H0 ω H → Pk g.K g.cl ω0 H0 ω H ds0 vs0 →
    Post g ω H σ (mEach ms σD) (fun ds σ1 ω1 H1 => ∀ vs, Step ω0 H0 ω1 H1 → Pk g.K g.cl ω0 H0 ω1 H1 (ds0 ++ ds) (vs0 ++ vs) → Q vs H1) → tMEs g ms σ H Q
  | [], ω, H, σD, ds0, vs0, Q, st, s, pk, h => (Post.ok h st) [] s (by simpa using pk)
  | .m m :: ms, ω, H, σD, ds0, vs0, Q, st, s, pk, h => by
    refine ⟨ω, σD, st, h.bind.imp fun o σ1 ω1 H1 s1 st1 q1 v ov => ?_⟩
    obtain ⟨x, σ2, ω2, s2, st2, r, e2, q2⟩ := frz_ok st1 ov q1.bind
    have s12 := s1.trans s2
    refine each_run (ds0 := ds0 ++ [.p x]) (vs0 := vs0 ++ [v]) st2 (s.trans s12) ((pk.step s12 st.dom).snoc (.inl ⟨x, rfl, r⟩) (fun z => nomatch z)) (q2.bind.imp fun ds σ3 ω3 H3 s3 st3 q3 vs sA pA => ?_)
    exact (Post.ok q3 st3) (v :: vs) sA (by simpa using pA)
  | .f m :: ms, ω, H, σD, ds0, vs0, Q, st, s, pk, h => by
    refine ⟨ω, σD, st, h.bind.imp fun d σ1 ω1 H1 s1 st1 q1 v rd => ?_⟩
    by_cases hr : d.root = true
    · simp only [if_pos hr] at q1
      obtain ⟨a, rfl, ha⟩ := rd.root_ref hr
      have sr : Step ω1 H1 (ren ω1 .tmp .out) H1 := .ren (by intro z; cases z) (by intro z; cases z)
      have st2 : Sta g (ren ω1 .tmp .out) H1 σ1 σ := ⟨st1.len, fun j d' e => by
        obtain ⟨v', e4, r'⟩ := st1.rd j d' e
        exact ⟨v', e4, r'.own (fun a h => ren_free (by intro z; cases z) h) fun a h => ren_ne h (by intro z; cases z)⟩, st1.par, st1.dom.ren (by intro z; cases z)⟩
      have s01 := s.trans s1
      have pk1 := pk.step s1 st.dom
      have h1 : ω0 a ≠ .out := fun z => by
        have := s01.out a z
        rw [ha] at this; cases this
      have h2 : ω0 a = .free → H0 a = none := fun z => by
        cases e : H0 a with
        | none => rfl
        | some u =>
          have := s01.fz a z (by rw [e]; intro z; cases z)
          rw [ha] at this; cases this
      refine each_run (ds0 := ds0 ++ [d]) (vs0 := vs0 ++ [.ref a]) st2 (s01.trans sr) ((pk1.step sr st1.dom).snoc (.inr ⟨hr, a, rfl, rd.own (fun a h => ren_free (by intro z; cases z) h) fun a h => ren_at h, ren_at ha, h1, h2⟩) fun _ k e e1 e2 e3 => ?_) ((q1.shift sr).bind.imp fun ds σ3 ω3 H3 s3 st3 q3 vs sA pA => ?_)
      · rcases pk1.el k e _ e1 e3 with ⟨x, z1, _⟩ | ⟨_, b, z1, _, z2, _⟩
        · subst z1; cases e2
        · cases z1
          rw [ha] at z2; cases z2
      · exact (Post.ok q3 st3) (.ref a :: vs) sA (by simpa using pA)
    · simp only [if_neg hr] at q1
      exact q1.elim
/-- to the slots, one after the other -/
def setAll : List Nat → List D → Env → Env
  | i :: is, d :: ds, σ => setAll is ds (σ.set i (some d))
  | _, _, σ => σ
def setAllV : List Nat → List V → L2.St → L2.St
  | i :: is, v :: vs, σ => setAllV is vs (σ.set i (some v))
  | _, _, σ => σ
theorem set_all {ω0 : Om} {H0 : Hp} : ∀ {is : List Nat} {ds : List D} {vs : List V} {ω : Om} {H : Hp} {σD : Env} {σ : L2.St}, (∀ i ∈ is, i ∉ g.io) → is.length = ds.length → Step ω0 H0 ω H → Sta g ω H σD σ → Pk g.K g.cl ω0 H0 ω H ds vs →
    ∃ ω', Step ω0 H0 ω' H ∧ Sta g ω' H (setAll is ds σD) (setAllV is vs σ)
  | [], ds, vs, ω, H, σD, σ, hio, hl, s, st, pk => by
    have : ds = [] := List.length_eq_zero_iff.mp hl.symm
    subst this
    exact ⟨ω, s, by cases vs <;> exact st⟩
  | i :: is, [], vs, ω, H, σD, σ, hio, hl, s, st, pk => by simp at hl
  | i :: is, d :: ds, [], ω, H, σD, σ, hio, hl, s, st, pk => by have := pk.len; simp at this
  | i :: is, d :: ds, v :: vs, ω, H, σD, σ, hio, hl, s, st, pk => by
    have hi : i ∉ g.io := hio i (by simp)
    have tail : ∀ (ω' : Om), (∀ b, ω b = .free → ω' b = .free) → (∀ b, ω b = .out → (d.root = true → v ≠ .ref b) → ω' b = .out) → Pk g.K g.cl ω0 H0 ω' H ds vs := fun ω' hf ho => ⟨by simpa using pk.len, fun k e u e1 e2 => by
      rcases pk.el (k + 1) e u (by simpa using e1) (by simpa using e2) with ⟨x, z1, z2⟩ | ⟨z0, b, z1, z2, z3, z4, z5⟩
      · exact .inl ⟨x, z1, RP.keep (Keeps.own hf) _ _ z2⟩
      · subst z1
        have hb := ho b z3 fun hr hv => pk.ne 0 (k + 1) d e _ (by omega) rfl (by simpa using e1) hr z0 rfl (by rw [hv]; simpa using e2)
        exact .inr ⟨z0, b, rfl, z2.reroot hf hb (root_owned z0).1 (root_owned z0).2, hb, z4, z5⟩, fun k l e1 e2 u hkl h1 h2 r1 r2 h3 => by
      have := pk.ne (k + 1) (l + 1) e1 e2 u (by omega) (by simpa using h1) (by simpa using h2) r1 r2 (by simpa using h3)
      simpa using this⟩
    rcases pk.el 0 d v rfl rfl with ⟨x, z1, z2⟩ | ⟨z0, a, z1, z2, z3, z4, z5⟩
    · subst z1
      obtain ⟨ω', h1, h2⟩ := set_all (is := is) (fun j hj => hio j (List.mem_cons_of_mem _ hj)) (by simpa using hl) s (st.setP hi z2) (tail ω (fun _ h => h) fun _ h _ => h)
      exact ⟨ω', h1, h2⟩
    · subst z1
      let ω1 : Om := fun b => if b = a then .at i else if ω b = .at i then .free else ω b
      have hf : ∀ b, ω b = .free → ω1 b = .free := fun b h => by
        show (if b = a then Own.at i else if ω b = .at i then .free else ω b) = _
        rw [if_neg (by rintro rfl; rw [z3] at h; cases h), if_neg (by rw [h]; intro z; cases z)]; exact h
      have hoth : ∀ b w, ω b = w → w ≠ .at i → b ≠ a → ω1 b = w := fun b w h hw hb => by
        show (if b = a then Own.at i else if ω b = .at i then .free else ω b) = _
        rw [if_neg hb, if_neg (by rw [h]; exact hw)]; exact h
      have ha : ω1 a = .at i := by show (if a = a then _ else _) = _; rw [if_pos rfl]
      have s1 : Step ω0 H0 ω1 H := ⟨s.fr, s.ot, fun b h => hoth b .out (s.out b h) (by intro z; cases z) (by rintro rfl; exact z4 h), fun b h t => hf b (s.fz b h t), s.th⟩
      have st1 : Sta g ω1 H (σD.set i (some d)) (σ.set i (some (.ref a))) := ⟨by rw [List.length_set, List.length_set]; exact st.len, fun j d' e => by
        rcases set_get e with ⟨e1, e2, e3⟩ | ⟨e1, e2⟩
        · subst e1
          cases e2
          exact ⟨_, set_lt (by rw [← st.len]; exact e3), z2.reroot hf ha (root_owned z0).1 (root_owned z0).2⟩
        · rw [List.getElem?_set_ne e1]
          obtain ⟨v', e4, r'⟩ := st.rd j d' e2
          exact ⟨v', e4, r'.own hf fun b h => hoth b _ h (by intro z; cases z; exact e1 rfl) (by rintro rfl; rw [z3] at h; cases h)⟩, fun j w hj hw => by
        rw [List.getElem?_set_ne (by rintro rfl; exact hi hj)]
        exact st.par j w hj hw, ⟨fun b h => st.dom.dom b fun e => h (hf b e)⟩⟩
      obtain ⟨ω', h1, h2⟩ := set_all (is := is) (fun j hj => hio j (List.mem_cons_of_mem _ hj)) (by simpa using hl) s1 st1 (tail ω1 hf fun b h hb => hoth b .out h (by intro z; cases z) (by rintro rfl; exact hb z0 rfl))
      exact ⟨ω', h1, h2⟩
theorem tM2 {m : M} {σ : L2.St} {H : Hp} {Q Q' : VK} (f : ∀ v H1, Q v H1 → Q' v H1) (h : tM g m σ H Q) : tM g m σ H Q' := by
  obtain ⟨ω, σD, st, q⟩ := h
  exact ⟨ω, σD, st, q.imp fun o σ1 ω1 H1 _ _ q1 v ov => f _ _ (q1 v ov)⟩
theorem tF2 {m : MF} {σ : L2.St} {H : Hp} {Q Q' : VK} (f : ∀ v H1, Q v H1 → Q' v H1) (h : tF g m σ H Q) : tF g m σ H Q' := by
  obtain ⟨ω, σD, st, q⟩ := h
  exact ⟨ω, σD, st, q.imp fun o σ1 ω1 H1 _ _ q1 v ov => f _ _ (q1 v ov)⟩
def mPar (is : List Nat) (ms : List ME) : MS := fun σ => (mEach ms σ).toS fun ds σ1 => if is.length = ds.length then .next (setAll is ds σ1) else .stuck
theorem par_core {is : List Nat} {ms : List ME} {σ : L2.St} {H : Hp} {D : Ends} (hio : ∀ i ∈ is, i ∉ g.io) (h : tS g (mPar is ms) D σ H) : tMEs g ms σ H fun vs H1 => D.nx (setAllV is vs σ) H1 := by
  obtain ⟨ω, σD, st, q⟩ := h
  refine each_run (ds0 := []) (vs0 := []) st .refl ⟨rfl, fun k d v e => (by simp at e), fun k l d e v _ e1 => (by simp at e1)⟩ ?_
  unfold mPar at q
  cases em : mEach ms σD with
  | stuck => rw [em] at q; exact q.elim
  | exc c ns vs σ1 => rw [em] at q; exact fun ω1 H1 C d s1 st1 x => q ω1 H1 σ C d s1 st1 x
  | ok ds σ1 =>
    rw [em, R.toS_ok] at q
    intro ω1 H1 s1 st1 vs sA pA
    by_cases hl : is.length = ds.length
    · rw [if_pos hl] at q
      obtain ⟨ω', h1, h2⟩ := set_all (ω0 := ω) (H0 := H) hio hl sA st1 pA
      exact q ω' H1 _ h1 h2
    · rw [if_neg hl] at q
      exact q.elim
theorem ds_par {i j : Nat} {a b : ME} {st : Stmt} (hs : PS X st (tPar i j (tMEs g [a, b]))) (hi : i ∉ g.io) (hj : j ∉ g.io) : PS X st (tS g (mPar [i, j] [a, b])) := ps_weak hs fun D σ H h => by
  have q := par_core (by intro k hk; simp at hk; rcases hk with rfl | rfl <;> assumption) h
  have fin : ∀ (vs : List V) (H1 : Hp), D.nx (setAllV [i, j] vs σ) H1 → vs.length = 2 → ∃ v w, vs = [v, w] ∧ D.nx ((σ.set i (some v)).set j (some w)) H1 := fun vs H1 z hl => by
    match vs, hl with
    | [v, w], _ => exact ⟨v, w, rfl, z⟩
  cases a with
  | m ma =>
    cases b with
    | m mb => exact tM2 (fun x H1 => tM2 (fun y H2 z => fin _ _ z rfl) ) q
    | f mb => exact tM2 (fun x H1 => tF2 (fun y H2 z => fin _ _ z rfl)) q
  | f ma =>
    cases b with
    | m mb => exact tF2 (fun x H1 => tM2 (fun y H2 z => fin _ _ z rfl)) q
    | f mb => exact tF2 (fun x H1 => tF2 (fun y H2 z => fin _ _ z rfl)) q
end
end PV

set_option Elab.async false
set_option linter.all false
set_option maxRecDepth 100000
set_option maxHeartbeats 4000000
/-! PvO: sorted, of numbers, texts, tuples of numbers; of lists, tuples, dicts. -/

namespace PV
open PySem PySem.Spec PyProof.Rows L2

/-! ### rows of numbers, in order -/
def leL (a b : List Int) : Bool := decide (¬ b < a)
theorem leL_total (a b : List Int) : (leL a b || leL b a) = true := by
  unfold leL
  by_cases h : b < a
  · have := List.lt_asymm h
    simp [this]
  · simp [h]
theorem leL_trans (a b c : List Int) (h1 : leL a b = true) (h2 : leL b c = true) : leL a c = true := by
  unfold leL at *
  simp only [decide_eq_true_eq] at *
  exact List.not_lt.mpr (List.le_trans (List.not_lt.mp h1) (List.not_lt.mp h2))
theorem leL_anti {a b : List Int} (h1 : leL a b = true) (h2 : leL b a = true) : a = b := by
  unfold leL at *
  simp only [decide_eq_true_eq] at *
  exact List.le_antisymm (List.not_lt.mp h1) (List.not_lt.mp h2)
theorem swo_leL {α : Type} (k : α → List Int) : SrtO.Swo fun v u => decide (k v < k u) := by
  refine ⟨fun x y h => ?_, fun x y z h1 h2 => ?_⟩
  · have a := of_decide_eq_true h
    exact decide_eq_false (List.lt_asymm a)
  · have a := of_decide_eq_false h1
    have b := of_decide_eq_false h2
    refine decide_eq_false ?_
    exact List.not_lt.mpr (List.le_trans (List.not_lt.mp a) (List.not_lt.mp b))

/-! ### what is sorted -/
def Str.nums (x : Str) : List Int := x.cps.toList.map Int.ofNat
theorem nums_lt (a b : List Nat) : a.map Int.ofNat < b.map Int.ofNat ↔ a < b := by
  induction a generalizing b with
  | nil =>
    cases b with
    | nil => simp
    | cons y b => simp
  | cons x a ih =>
    cases b with
    | nil => simp
    | cons y b =>
      rw [List.map_cons, List.map_cons, List.cons_lt_cons_iff, List.cons_lt_cons_iff, ih]
      have h1 : (Int.ofNat x < Int.ofNat y) ↔ x < y := by simp
      have h2 : (Int.ofNat x = Int.ofNat y) ↔ x = y := ⟨Int.ofNat.inj, congrArg _⟩
      rw [h1, h2]
def intP : P → Option Int
  | .int i => some i
  | _ => none
def allI : List P → Option (List Int)
  | [] => some []
  | x :: xs => (intP x).bind fun i => (allI xs).map fun is => i :: is
theorem allI_map (ns : List Int) : allI (ns.map P.int) = some ns := by
  induction ns with
  | nil => rfl
  | cons n ns ih => simp [allI, intP, ih]
theorem allI_some : ∀ {xs : List P} {ns : List Int}, allI xs = some ns → xs = ns.map P.int
  | [], ns, h => by cases h; rfl
  | x :: xs, ns, h => by
    simp only [allI] at h
    obtain ⟨i, e1, e2⟩ := Option.bind_eq_some_iff.mp h
    obtain ⟨is, e3, rfl⟩ := Option.map_eq_some_iff.mp e2
    cases x <;> first | (cases e1; done) | skip
    cases e1
    rw [allI_some e3]; rfl
def keyL : P → List Int
  | .int i => [i]
  | .str x => Str.nums x
  | .tup xs => (allI xs).getD []
  | _ => []
inductive Kd where
  | i | s | t
  deriving DecidableEq
def kdOf : P → Option Kd
  | .int _ => some .i
  | .str _ => some .s
  | .tup xs => match allI xs with
    | some (_ :: _) => some .t
    | _ => none
  | _ => none
/-- all of one kind, or not more than one -/
def kinded (xs : List P) : Bool := decide (xs.length < 2) || [Kd.i, Kd.s, Kd.t].any fun k => xs.all fun x => decide (kdOf x = some k)
def leP (x y : P) : Bool := leL (keyL x) (keyL y)
def sortP (xs : List P) : List P := xs.mergeSort leP
theorem sortP_perm (xs : List P) : (sortP xs).Perm xs := List.mergeSort_perm _ _
theorem sortP_sorted (xs : List P) : (sortP xs).Pairwise fun x y => leP x y = true :=
  List.pairwise_mergeSort (le := leP) (fun a b c h1 h2 => leL_trans _ _ _ h1 h2) (fun a b => leL_total _ _) xs
/-- same kind, same numbers: the same thing -/
theorem kd_inj {k : Kd} {x y : P} (hx : kdOf x = some k) (hy : kdOf y = some k) (h : keyL x = keyL y) : x = y := by
  cases k with
  | i =>
    cases x <;> first | (cases hx; done) | skip
    · cases y <;> first | (cases hy; done) | skip
      · simp only [keyL, List.cons.injEq, and_true] at h; rw [h]
      · simp only [kdOf] at hy; split at hy <;> cases hy
    · simp only [kdOf] at hx; split at hx <;> cases hx
  | s =>
    cases x <;> first | (cases hx; done) | skip
    · cases y <;> first | (cases hy; done) | skip
      · simp only [keyL, Str.nums] at h
        have h2 := List.map_inj_right (fun a b e => Int.ofNat.inj e) |>.mp h
        rename_i a b
        cases a; cases b
        congr 2
        simpa using congrArg List.toArray h2
      · simp only [kdOf] at hy; split at hy <;> cases hy
    · simp only [kdOf] at hx; split at hx <;> cases hx
  | t =>
    cases x <;> first | (cases hx; done) | skip
    cases y <;> first | (cases hy; done) | skip
    rename_i xs ys
    simp only [kdOf] at hx hy
    cases e1 : allI xs with
    | none => rw [e1] at hx; cases hx
    | some ns =>
      cases e2 : allI ys with
      | none => rw [e2] at hy; cases hy
      | some ms =>
        simp only [keyL, e1, e2, Option.getD_some] at h
        rw [allI_some e1, allI_some e2, h]
theorem sortP_uniq {k : Kd} {xs ys : List P} (hx : ∀ x ∈ xs, kdOf x = some k) (hp : ys.Perm xs) (hs : ys.Pairwise fun x y => leP x y = true) : ys = sortP xs := by
  refine List.Perm.eq_of_pairwise (le := fun x y => leP x y = true) (fun a b ha hb h1 h2 => ?_) hs (sortP_sorted xs) (hp.trans (sortP_perm xs).symm)
  exact kd_inj (hx a (hp.mem_iff.mp ha)) (hx b ((sortP_perm xs).mem_iff.mp hb)) (leL_anti h1 h2)
theorem sortP_short {xs : List P} (h : xs.length < 2) : sortP xs = xs := by
  match xs, h with
  | [], _ => exact List.mergeSort_nil
  | [x], _ => exact List.mergeSort_singleton x
  | _ :: _ :: _, h => simp at h; omega

/-! ### at values -/
def ivI : Value → Int
  | .int i _ => i
  | _ => 0
def intsAt (h : Heap) (a : Addr) : List Int := match h.get? a with
  | some o => (match o.data with
    | .seq xs _ => xs.toList.map ivI
    | _ => [])
  | none => []
def keyV (h : Heap) : Value → List Int
  | .int i _ => [i]
  | .str x _ => Str.nums x
  | .ref a => intsAt h a
  | _ => []
/-- at v stands a value of this kind -/
def KdV (h : Heap) (k : Kd) (v : Value) : Prop := match k with
  | .i => ∃ i t, v = .int i t
  | .s => ∃ x t, v = .str x t
  | .t => ∃ a o xs n ns, v = .ref a ∧ h.get? a = some o ∧ o.cls = .type "tuple" ∧ o.data = .seq xs n ∧ IntsAre xs.toList ns ∧ ns ≠ []
theorem intsAre_iv : ∀ {vs : List Value} {ns : List Int}, IntsAre vs ns → vs.map ivI = ns
  | _, _, .nil => rfl
  | _, _, .cons n t r => congrArg (n :: ·) (intsAre_iv r)
theorem KdV.keep {h h' : Heap} {k : Kd} {v : Value} (d : KdV h k v) (kp : ∀ b o, h.get? b = some o → o.cls = .type "tuple" → h'.get? b = some o) : KdV h' k v ∧ keyV h' v = keyV h v := by
  cases k with
  | i => obtain ⟨i, t, rfl⟩ := d; exact ⟨⟨i, t, rfl⟩, rfl⟩
  | s => obtain ⟨i, t, rfl⟩ := d; exact ⟨⟨i, t, rfl⟩, rfl⟩
  | t =>
    obtain ⟨a, o, xs, n, ns, rfl, ho, hc, hd, hi, hn⟩ := d
    have ho' := kp a o ho hc
    refine ⟨⟨a, o, xs, n, ns, rfl, ho', hc, hd, hi, hn⟩, ?_⟩
    simp only [keyV, intsAt, ho, ho']
section
variable {prog : Program} {w : World} {A : Around} {E : Value → Shared → Prop} {s : Shared}
theorem kat_intsL {b fin : Bool} {Q : Bool → Shared → Prop} : ∀ {xs ys : List Value} {ns ms : List Int} (i : Nat), IntsAre xs ns → IntsAre ys ms → fin = decide (ns.length < ms.length) → Q (decide (ns < ms)) s → PySem.W.KatLex prog w A b fin Q (xs.zip ys) i s
  | _, _, _, _, i, .nil, .nil, e, q => by
    subst e
    exact PySem.W.kat_nil (by simpa using q)
  | _, _, _, _, i, .nil, .cons m u r, e, q => by
    subst e
    exact PySem.W.kat_nil (by simpa using q)
  | _, _, _, _, i, .cons n t l, .nil, e, q => by
    subst e
    exact PySem.W.kat_nil (by simpa using q)
  | _, _, _, _, i, .cons n t l, .cons m u r, e, q => by
    refine PySem.W.kat_cons (SeqAt.EqAt.int_int n t m u prog w _ _ ?_)
    refine PySem.W.kat_go (fun e1 => ?_) (fun e1 => ?_)
    · have ex : n = m := by simpa using e1
      subst ex
      refine PySem.W.kat_yes (kat_intsL (i + 1) l r (by rw [e]; simp) ?_)
      simpa [List.cons_lt_cons_iff] using q
    · have ex : ¬ n = m := by simpa using e1
      refine PySem.W.kat_no (TS.oneLt_ints _ ?_)
      simpa [List.cons_lt_cons_iff, ex] using q
theorem kd_cmp {h0 : Heap} {k : Kd} {vs : List Value} (hk : ∀ v ∈ vs, KdV s.heap k v ∧ keyV s.heap v = keyV h0 v) : SrtO.Cmp prog w A s (match k with | .t => tuples' true | _ => oneType') (fun p => p.1 ∈ vs) (SrtO.lt2 fun v u => decide (keyV h0 v < keyV h0 u)) := by
  intro p q hm hm'
  obtain ⟨h1, z1⟩ := hk _ hm
  obtain ⟨h2, z2⟩ := hk _ hm'
  show wpAny (model prog w) A (keyLt' _ p.1 q.1) (fun r s' => s' = s ∧ r = decide (keyV h0 p.1 < keyV h0 q.1)) (fun _ _ => False) s
  rw [← z1, ← z2]
  cases k with
  | i =>
    obtain ⟨i, t, e⟩ := h1
    obtain ⟨j, u, e'⟩ := h2
    rw [e, e', keyLt'_oneType]
    refine oneLt_int ⟨rfl, ?_⟩
    simp [keyV, List.cons_lt_cons_iff]
  | s =>
    obtain ⟨i, t, e⟩ := h1
    obtain ⟨j, u, e'⟩ := h2
    rw [e, e', keyLt'_oneType]
    refine oneLt_str ⟨rfl, ?_⟩
    simp only [keyV, Str.nums, nums_lt]
  | t =>
    obtain ⟨a, o, xs, n, ns, e, ho, hc, hd, hi, hn⟩ := h1
    obtain ⟨a', o', xs', n', ns', e', ho', hc', hd', hi', hn'⟩ := h2
    rw [e, e']
    refine PySem.W.kat_lt ho hd ho' hd' (kat_intsL 0 hi hi' ?_ ⟨rfl, ?_⟩)
    · have l1 : xs.size = ns.length := by rw [← intsAre_iv hi]; simp
      have l2 : xs'.size = ns'.length := by rw [← intsAre_iv hi']; simp
      rw [l1, l2]
    · simp only [keyV, intsAt, ho, ho', hd, hd', intsAre_iv hi, intsAre_iv hi']
theorem kd_firsts {h : Heap} : ∀ {vs : List Value}, (∀ v ∈ vs, KdV h .t v) → ∃ fs, PySem.W.KatTups h vs fs ∧ fs.length = vs.length ∧ ∀ f ∈ fs, ∃ i t, f = Value.int i t
  | [], _ => ⟨[], PySem.W.KatTups.nil, rfl, fun f hf => absurd hf (by simp)⟩
  | v :: vs, hk => by
    obtain ⟨fs, h1, h2, h3⟩ := kd_firsts fun u hu => hk u (List.mem_cons_of_mem _ hu)
    obtain ⟨a, o, xs, n, ns, rfl, ho, hc, hd, hi, hn⟩ := hk v List.mem_cons_self
    cases hxs : xs.toList with
    | nil => rw [hxs] at hi; cases hi; exact absurd rfl hn
    | cons f r =>
      rw [hxs] at hi
      cases hi with
      | cons i t hr =>
        refine ⟨.int i t :: fs, PySem.W.KatTups.cons ho hc hd (by rw [← Array.getElem?_toList, hxs]; rfl) h1, by simp [h2], fun f hf => ?_⟩
        rcases List.mem_cons.mp hf with rfl | hf
        · exact ⟨i, t, rfl⟩
        · exact h3 f hf
theorem intsAre_of : ∀ {vs : List Value}, (∀ v ∈ vs, ∃ i t, v = Value.int i t) → ∃ ns, IntsAre vs ns
  | [], _ => ⟨[], .nil⟩
  | v :: vs, h => by
    obtain ⟨i, t, rfl⟩ := h v List.mem_cons_self
    obtain ⟨ns, r⟩ := intsAre_of fun u hu => h u (List.mem_cons_of_mem _ hu)
    exact ⟨_, .cons i t r⟩
theorem strsAre_of' : ∀ {vs : List Value}, (∀ v ∈ vs, ∃ i t, v = Value.str i t) → ∃ ns, StrsAre vs ns
  | [], _ => ⟨[], .nil⟩
  | v :: vs, h => by
    obtain ⟨i, t, rfl⟩ := h v List.mem_cons_self
    obtain ⟨ns, r⟩ := strsAre_of' fun u hu => h u (List.mem_cons_of_mem _ hu)
    exact ⟨_, .cons i t r⟩
theorem kd_sortable {a : Addr} {k : Kd} {vs : List Value} (h2 : 2 ≤ vs.length) (hk : ∀ v ∈ vs, KdV s.heap k v) (ha : ∀ o, s.heap.get? a = some o → o.cls ≠ .type "tuple") : SrtO.SortableO prog w A s a vs fun v u => decide (keyV s.heap v < keyV s.heap u) := by
  intro h' keep
  have hk' : ∀ v ∈ vs, KdV h' k v ∧ keyV h' v = keyV s.heap v := fun v hm => (hk v hm).keep fun b o e c => keep b o (fun z => by subst z; exact ha o e c) e
  refine ⟨_, fun Q E hq => ?_, kd_cmp hk'⟩
  match vs, h2 with
  | [], h => exact absurd h (by decide)
  | [v], h => exact absurd h (by simp)
  | v1 :: v2 :: rest, _ =>
    cases k with
    | i =>
      obtain ⟨ns, hI⟩ := intsAre_of fun v hv => (hk' v hv).1
      rw [keyKind_ints hI]
      exact wpAny_pure hq
    | s =>
      obtain ⟨ns, hI⟩ := strsAre_of' fun v hv => (hk' v hv).1
      rw [keyKind_strs hI]
      exact wpAny_pure hq
    | t =>
      obtain ⟨fs, h1, h2, h3⟩ := kd_firsts fun v hv => (hk' v hv).1
      refine PySem.W.kat_kind (T := .type "int") h1 (by rw [h2]; simp) (fun f hm => ?_) (by rfl) ?_
      · obtain ⟨x, t, rfl⟩ := h3 f hm
        exact PySem.W.Looks.now
      · have e : (Value.type "int" != Value.type "tuple") = true := by first | decide +kernel | rfl | decide
        rw [e]
        exact hq
/-- sorted(v): what v yields, sorted -/
theorem sorted_coll {v : Value} {C : List Value → Prop} {Q : Value → Shared → Prop}
    (hc : ∀ (R : List Value → Shared → Prop), (∀ its h' tk, C its → its.length ≤ sizeLine → (∀ b o, s.heap.get? b = some o → h'.get? b = some o) → R its { s with heap := h', toks := tk }) → wpAny (model prog w) A.in1 (collect v) R E s)
    (hk : ∀ its, C its → 2 ≤ its.length → ∃ k, ∀ u ∈ its, KdV s.heap k u)
    (h : ∀ (its : List Value) (h1 h' : Heap) (tk : Nat) (out : List Value) (n : Nat), C its → (∀ b o, s.heap.get? b = some o → h1.get? b = some o) → (∀ b o, h1.get? b = some o → h'.get? b = some o) → h'.get? h1.objs.size = some (seqObj "list" out.toArray n) → out.length ≤ sizeLine → out.Perm its → out.Pairwise (fun x y => ¬ keyV s.heap y < keyV s.heap x) → Q (.ref h1.objs.size) { s with heap := h', toks := tk }) :
    wpAny (model prog w) A (call (.builtin "sorted") [v]) Q E s := by
  refine Calls.call_function_entry kind_sorted plain_sorted entry_sorted (args_sorted1 _) ?_
  unfold Builtin.«sorted»
  refine wpAny_bind (m := checkCount "sorted" 1 1 _) (wpAny_pure ?_)
  refine wpAny_bind (hc _ fun its h' tk hC hz kp => ?_)
  refine wpAny_bind (wpAny_newList ?_ hz)
  have hoL : (h'.push (seqObj "list" its.toArray 0)).get? h'.objs.size = some (seqObj "list" its.toArray 0) := Heap.get?_push_size _ rfl
  have kp2 : ∀ b o, s.heap.get? b = some o → (h'.push (seqObj "list" its.toArray 0)).get? b = some o := fun b o e => Heap.get?_push_of_some _ (kp b o e)
  show wpAny _ _ _ _ _ { s with heap := h'.push (seqObj "list" its.toArray 0), toks := tk }
  have main : ∀ (out : List Value), out.Perm its → out.Pairwise (fun x y => ¬ keyV s.heap y < keyV s.heap x) → Q (.ref h'.objs.size) { s with heap := sortedHeap (h'.push (seqObj "list" its.toArray 0)) h'.objs.size its out.toArray, toks := tk } := fun out hp hs => by
    obtain ⟨e', he'⟩ := sortedHeap_at (out := out.toArray) hoL
    refine h its h' _ tk out e' hC kp (fun b o e => ?_) he' (by rw [hp.length_eq]; exact hz) hp hs
    have hb : b < h'.objs.size := Heap.lt_size e
    rw [sortedHeap_old (Nat.ne_of_lt hb) (by rw [size_push']; exact Nat.lt_succ_of_lt hb)]
    exact Heap.get?_push_of_some _ e
  have hkk : ∀ k, (∀ u ∈ its, KdV s.heap k u) → ∀ u ∈ its, KdV (h'.push (seqObj "list" its.toArray 0)) k u ∧ keyV (h'.push (seqObj "list" its.toArray 0)) u = keyV s.heap u := fun k q u hu => (q u hu).keep fun b o e _ => kp2 b o e
  refine wpAny_bind (wpAny_holding (wpAny_call_entry slot_list_sort ⟨_, hoL, rfl⟩ entry_list_sort
    (SrtO.list_sort_ord (s := { s with heap := h'.push (seqObj "list" its.toArray 0), toks := tk }) (swo_leL (keyV (h'.push (seqObj "list" its.toArray 0)))) hoL hz (fun h2 => ?_) fun out hs hb => ⟨_, rfl, wpAny_pure ⟨_, rfl, main out hb.perm ?_⟩⟩) (args_list_sort _)))
  · obtain ⟨k, q⟩ := hk its hC h2
    exact kd_sortable (s := { s with heap := h'.push (seqObj "list" its.toArray 0), toks := tk }) h2 (fun v hv => (hkk k q v hv).1) fun o e => by
      have e' : some o = some (seqObj "list" its.toArray 0) := e.symm.trans hoL
      cases e'
      intro c
      exact absurd (Value.type.inj c) (by decide)
  · by_cases h2 : 2 ≤ its.length
    · obtain ⟨k, q⟩ := hk its hC h2
      refine hs.imp_of_mem fun {x y} hx hy hlt => ?_
      rw [← (hkk k q x (hb.perm.mem_iff.mp hx)).2, ← (hkk k q y (hb.perm.mem_iff.mp hy)).2]
      exact of_decide_eq_false hlt
    · have hl := hb.perm.length_eq
      match out, hl with
      | [], _ => exact List.Pairwise.nil
      | [x], _ => exact List.pairwise_singleton _ _
      | _ :: _ :: _, hl => simp at hl; omega
end

/-! ### what is walked to the end at once: a list, a tuple, a dict's keys -/
/-- at a stand some V's that P says, to be read from the left -/
def Src (K : PySem.W.Frag) (H : Hp) (a : Addr) (P : List V → Prop) : Prop := (∃ xs, (SqL K H a xs ∨ SqT K H a xs) ∧ P xs) ∨ (∃ kvs, Rd H a (.dK kvs) ∧ P (kvs.map fun kv => kV kv.1)) ∨ ∃ kvs, Rd H a (.dT kvs) ∧ ∀ bs, IsKeys H kvs bs → P (bs.map V.ref)
theorem src_collect {X : Cx} {pins : List (Addr × Obj)} {σ : L2.St} {H : Hp} {s : Shared} {a : Addr} {P : List V → Prop} (hcalm : X.calm = true) (I : L2.Inv X pins σ H s) (h : Src X.K H a P) {E : Value → Shared → Prop} (R : List Value → Shared → Prop)
    (q : ∀ its h' tk, (∃ xs, P xs ∧ Vals xs its) → its.length ≤ sizeLine → (∀ b o, s.heap.get? b = some o → h'.get? b = some o) → R its { s with heap := h', toks := tk }) : wpAny (model X.prog X.w) X.A.in1 (collect (.ref a)) R E s := by
  rcases h with ⟨xs, h | h, hP⟩ | ⟨kvs, h, hP⟩ | ⟨kvs, h, hP⟩
  · obtain ⟨its, rv, p, hz⟩ := I.list h
    obtain ⟨o, ho, hc, n, hd⟩ := p.isList
    have hz' : its.length ≤ sizeLine := by rw [← rv.length]; exact hz
    exact wpAny_collect_seq a (.inl rfl) ho hc hd (fun h' kp => q its h' s.toks ⟨xs, hP, rv⟩ hz' kp) (by simpa using hz')
  · obtain ⟨its, rv, p, hz⟩ := I.tuple h
    obtain ⟨o, ho, hc, n, hd⟩ := p
    have hz' : its.length ≤ sizeLine := by rw [← rv.length]; exact hz
    exact wpAny_collect_seq a (.inr rfl) ho hc hd (fun h' kp => q its h' s.toks ⟨xs, hP, rv⟩ hz' kp) (by simpa using hz')
  · obtain ⟨z, lo, vs, rk, dd⟩ := dk_rd I.hok h
    obtain ⟨ep, hat⟩ := dd.dictAt
    have hl : kvs.length = vs.length := Paired.length rk
    refine PySem.W.kdu_collect (A := X.A.in1) (PySem.W.kdl_dict (knd := mixKind X.prog X.w) (kvs := vs) (ep := ep) lo) (I.ok.hd hcalm) hat (by omega) fun h' tk acc kp hacc => ?_
    have el : acc.toList.length = acc.size := by simp
    refine q _ h' tk ⟨_, hP, vals_of_at (by rw [List.length_map, el, hacc.1, hl]) fun j x w h1 h2 => ?_⟩ (by rw [el, hacc.1]; omega) kp
    obtain ⟨k, y, hky, hi⟩ := hacc.2 j w (by rw [← Array.getElem?_toList]; exact h2)
    have e1 : (kvs.map (·.1))[j]? = some k := by
      rw [KV.keys rk, List.getElem?_map, hky] <;> rfl
    have e2 : (kvs.map fun kv => kV kv.1)[j]? = some (kV k) := by
      have e3 : (kvs.map fun kv => kV kv.1) = (kvs.map (·.1)).map kV := by rw [List.map_map] <;> rfl
      rw [e3, List.getElem?_map, e1] <;> rfl
    rw [e2] at h1
    cases h1
    exact keyIs_rel hi
  · obtain ⟨z, hs, ks, pr, o, es, ep, ho, hx, hdt, he, hn⟩ := (show ObjOk X.prog X.w H s.heap a (.dT kvs) from h.ok I.hok)
    have l1 : es.size = ks.length := size_of_entries he
    have l2 : kvs.length = ks.length := Paired.length pr
    refine PySem.W.kdu_collect (A := X.A.in1) (kdl_raw hs hx hdt) (I.ok.hd hcalm) ho (by omega) fun h' tk acc kp it => ?_
    have ea : acc.toList = (ks.map fun x => x.2.1).map Value.ref := by
      apply List.ext_getElem?
      intro j
      rw [List.map_map, List.getElem?_map]
      have hl : acc.toList.length = ks.length := by rw [Array.length_toList, it.1]; exact l1
      cases hj : acc.toList[j]? with
      | none =>
        have h1 := List.getElem?_eq_none_iff.mp hj
        rw [List.getElem?_eq_none (by omega)]
        all_goals rfl
      | some v =>
        obtain ⟨en, hen, hv⟩ := it.2 j v (by rw [← Array.getElem?_toList]; exact hj)
        have qe := entry_at he j
        rw [hen] at qe
        cases hb : ks[j]? with
        | none =>
          rw [hb] at qe
          exact nomatch (show some en = none from qe)
        | some b =>
          rw [hb] at qe
          have e2 : en = entryOfKey (tupleKind (mixKind X.prog X.w)) b := Option.some.inj qe
          rw [hv, e2]
          all_goals rfl
    refine q _ h' tk ⟨_, hP _ (isKeys_of pr), by rw [ea]; exact vals_refs _⟩ (by rw [Array.length_toList, it.1]; omega) kp

/-! ### sorted as a rule -/
/-- a V of this kind, and its numbers -/
inductive KdH (H : Hp) : Kd → V → List Int → Prop
  | i (i : Int) : KdH H .i (.int i) [i]
  | s (x : Str) : KdH H .s (.str x) (Str.nums x)
  | t {a : Addr} {ns : List Int} : H a = some (.tup (ns.map V.int)) → ns ≠ [] → KdH H .t (.ref a) ns
theorem KdH.fn {H : Hp} {k : Kd} {v : V} {l m : List Int} (a : KdH H k v l) (b : KdH H k v m) : l = m := by
  cases a with
  | i => cases b; rfl
  | s => cases b; rfl
  | t h1 _ =>
    cases b with
    | t h2 _ =>
      rw [h1] at h2
      have h3 := HO.tup.inj (Option.some.inj h2)
      exact List.map_inj_right (fun a b e => by cases e; rfl) |>.mp h3
theorem KdH.raw {X : Cx} {pins : List (Addr × Obj)} {σ : L2.St} {H : Hp} {s : Shared} (I : L2.Inv X pins σ H s) {k : Kd} {v : V} {l : List Int} {u : Value} (h : KdH H k v l) (r : RelV v u) : KdV s.heap k u ∧ keyV s.heap u = l := by
  cases h with
  | i i => obtain ⟨t, rfl⟩ := r; exact ⟨⟨i, t, rfl⟩, rfl⟩
  | s i => obtain ⟨t, rfl⟩ := r; exact ⟨⟨i, t, rfl⟩, rfl⟩
  | @t a ns h1 h2 =>
    obtain rfl : u = .ref a := r
    obtain ⟨_, its, rv, o, ho, hc, n, hd⟩ := I.hok _ _ h1
    have hi : IntsAre its l := rv.ints
    refine ⟨⟨a, o, its.toArray, n, l, rfl, ho, hc, hd, by simpa using hi, h2⟩, ?_⟩
    simp only [keyV, intsAt, ho, hd]
    simpa using intsAre_iv hi
def bkA : Value → V
  | .int i _ => .int i
  | .str x _ => .str x
  | .ref a => .ref a
  | _ => .non
theorem bkA_ok {H : Hp} {k : Kd} {v : V} {l : List Int} {u : Value} (h : KdH H k v l) (r : RelV v u) : bkA u = v := by
  cases h with
  | i i => obtain ⟨t, rfl⟩ := r; rfl
  | s i => obtain ⟨t, rfl⟩ := r; rfl
  | t h1 h2 => cases r; rfl
theorem bkA_map {H : Hp} {k : Kd} : ∀ {xs : List V} {us : List Value}, (∀ x ∈ xs, ∃ l, KdH H k x l) → Vals xs us → us.map bkA = xs ∧ ∀ u ∈ us, RelV (bkA u) u ∧ bkA u ∈ xs
  | _, _, _, .nil => ⟨rfl, fun u hu => absurd hu (by simp)⟩
  | x :: xs, u :: us, h, .cons r t => by
    obtain ⟨l, hl⟩ := h x List.mem_cons_self
    obtain ⟨h1, h2⟩ := bkA_map (fun y hy => h y (List.mem_cons_of_mem _ hy)) t
    have e := bkA_ok hl r
    refine ⟨by rw [List.map_cons, e, h1], fun w hw => ?_⟩
    rcases List.mem_cons.mp hw with rfl | hw
    · rw [e]; exact ⟨r, List.mem_cons_self⟩
    · exact ⟨(h2 w hw).1, List.mem_cons_of_mem _ (h2 w hw).2⟩
theorem vals_bk : ∀ {us : List Value}, (∀ u ∈ us, RelV (bkA u) u) → Vals (us.map bkA) us
  | [], _ => .nil
  | u :: us, h => .cons (h u List.mem_cons_self) (vals_bk fun w hw => h w (List.mem_cons_of_mem _ hw))
def rSorted (K : PySem.W.Frag) : List V → Hp → VK → Prop := fun vs H Q => ∃ a, vs = [V.ref a] ∧ Src K H a fun xs => (2 ≤ xs.length → ∃ k, ∀ x ∈ xs, ∃ l, KdH H k x l) ∧
  ∀ ys p, ys.Perm xs → ys.Pairwise (fun x y => ∀ k l m, KdH H k x l → KdH H k y m → ¬ m < l) → H p = none → Q (.ref p) (upd H p (.lst ys))
theorem call_sortedA {X : Cx} (hcalm : X.calm = true) : CallR X (.builtin "sorted") (rSorted X.K) := by
  intro pins s σ H vs us Q I r h
  obtain ⟨a, rfl, hs⟩ := h
  obtain ⟨u, rfl, rx⟩ := vals1 r
  cases rx
  refine sorted_coll (fun R hq => src_collect hcalm I hs R hq) (fun its ⟨xs, ⟨hk, _⟩, rv⟩ h2 => ?_) fun its h1 h' tk out n ⟨xs, ⟨hk, q⟩, rv⟩ kp1 kp2 ho hz hp hw => ?_
  · obtain ⟨k, hk⟩ := hk (by rw [rv.length]; exact h2)
    refine ⟨k, fun u hu => ?_⟩
    obtain ⟨j, hj⟩ := List.mem_iff_getElem?.mp hu
    have hjl : j < xs.length := by rw [rv.length]; exact (List.getElem?_eq_some_iff.mp hj).1
    obtain ⟨l, hl⟩ := hk xs[j] (List.getElem_mem hjl)
    obtain ⟨u', e1, r1⟩ := rv.get (List.getElem?_eq_getElem hjl)
    rw [hj] at e1; cases e1
    exact (hl.raw I r1).1
  · have I1 : L2.Inv X pins σ H { s with heap := h1, toks := tk } := I.kept kp1
    have fin : ∀ ys : List V, ys.Perm xs → Vals ys out → ys.Pairwise (fun x y => ∀ k l m, KdH H k x l → KdH H k y m → ¬ m < l) → EP X pins σ Q (.ref h1.objs.size) { s with heap := h', toks := tk } := fun ys hperm rys hsorted => by
      refine ⟨.ref h1.objs.size, upd H h1.objs.size (.lst ys), I1.laid (t' := tk) kp2 (Nat.le_refl _) ⟨by rw [rys.length]; exact hz, out, n, rys, ho⟩, rfl, q ys _ hperm hsorted (I1.hok.fresh (Nat.le_refl _))⟩
    by_cases h2 : 2 ≤ xs.length
    · obtain ⟨k, hk⟩ := hk h2
      obtain ⟨e1, e2⟩ := bkA_map hk rv
      have e3 : ∀ u ∈ out, u ∈ its := fun u hu => hp.mem_iff.mp hu
      refine fin (out.map bkA) (by rw [← e1]; exact hp.map _) (vals_bk fun u hu => (e2 u (e3 u hu)).1) ?_
      rw [List.pairwise_map]
      refine hw.imp_of_mem fun {x y} hx hy hlt k l m hl hm => ?_
      rw [← (hl.raw I (e2 x (e3 x hx)).1).2, ← (hm.raw I (e2 y (e3 y hy)).1).2]
      exact hlt
    · have hl := rv.length
      have ho2 := hp.length_eq
      match xs, its, out, h2, hl, ho2 with
      | [], [], [], _, _, _ => exact fin [] (.refl _) .nil .nil
      | [x], [u], [w], _, _, _ =>
        have : w = u := by simpa using hp.mem_iff.mp (List.mem_singleton_self w)
        subst this
        exact fin [x] (.refl _) rv (List.pairwise_singleton _ _)
      | _ :: _ :: _, _, _, h2, _, _ => exact absurd (by simp) h2

/-! ### .. over data -/
def keyP : L2.Key → P
  | .inl i => .int i
  | .inr s => .str s
def tupP (k : List L2.Key) : P := .tup (k.map keyP)
section
variable {K : PySem.W.Frag} {cl : String → Option Addr} {H : Hp} {N : Addr → Prop}
theorem keyP_rp (k : L2.Key) : RP K cl H N (keyP k) (kV k) := by
  cases k with
  | inl i => exact .int i
  | inr s => exact .str s
theorem keysP_rp : ∀ ks : List L2.Key, RPs K cl H N (ks.map keyP) (ks.map kV)
  | [] => .nil
  | k :: ks => .cons (keyP_rp k) (keysP_rp ks)
theorem tupP_rps : ∀ {kvs : List (List L2.Key × V)} {bs : List Addr}, IsKeys H kvs bs → RPs K cl H N ((kvs.map (·.1)).map tupP) (bs.map V.ref)
  | _, _, .nil => .nil
  | _, _, .cons h t => .cons (.tup h (keysP_rp _)) (tupP_rps t)
theorem kdOf_H {k : Kd} {x : P} {v : V} (h : RP K cl H N x v) (e : kdOf x = some k) : KdH H k v (keyL x) := by
  cases x <;> first | (cases e; done) | skip
  · cases e; cases h; exact .i _
  · cases e; cases h; exact .s _
  · rename_i xs
    simp only [kdOf] at e
    cases h with
    | tup h1 h2 =>
      cases e1 : allI xs with
      | none => rw [e1] at e; cases e
      | some ns =>
        rw [e1] at e
        cases ns with
        | nil => cases e
        | cons n ns =>
          cases e
          obtain rfl := allI_some e1
          obtain rfl := RPs.ints h2
          have : keyL (.tup ((n :: ns).map P.int)) = n :: ns := by simp only [keyL, allI_map, Option.getD_some]
          rw [this]
          exact .t h1 (by simp)
def toPV (H : Hp) : V → P
  | .int i => .int i
  | .str s => .str s
  | .ref a => match H a with
    | some (.tup vs) => .tup (vs.map fun v => match v with | .int i => .int i | _ => .non)
    | _ => .non
  | _ => .non
theorem toPV_eq {k : Kd} {x : P} {v : V} (h : RP K cl H N x v) (e : kdOf x = some k) : toPV H v = x := by
  cases x <;> first | (cases e; done) | skip
  · cases h; rfl
  · cases h; rfl
  · rename_i xs
    simp only [kdOf] at e
    cases h with
    | tup h1 h2 =>
      cases e1 : allI xs with
      | none => rw [e1] at e; cases e
      | some ns =>
        obtain rfl := allI_some e1
        obtain rfl := RPs.ints h2
        simp only [toPV, h1, List.map_map]
        congr 1
theorem RPs.mem : ∀ {xs : List P} {vs : List V}, RPs K cl H N xs vs → ∀ v ∈ vs, ∃ x ∈ xs, RP K cl H N x v
  | _, _, .nil, v, h => absurd h (by simp)
  | _, _, .cons h t, v, hv => by
    rcases List.mem_cons.mp hv with rfl | hv
    · exact ⟨_, List.mem_cons_self, h⟩
    · obtain ⟨x, h1, h2⟩ := RPs.mem t v hv
      exact ⟨x, List.mem_cons_of_mem _ h1, h2⟩
theorem RPs.of_map {f : V → P} : ∀ {vs : List V}, (∀ v ∈ vs, RP K cl H N (f v) v) → RPs K cl H N (vs.map f) vs
  | [], _ => .nil
  | v :: vs, h => .cons (h v List.mem_cons_self) (RPs.of_map fun u hu => h u (List.mem_cons_of_mem _ hu))
theorem toPV_map {k : Kd} : ∀ {xs : List P} {vs : List V}, RPs K cl H N xs vs → (∀ x ∈ xs, kdOf x = some k) → vs.map (toPV H) = xs
  | _, _, .nil, _ => rfl
  | _, _, .cons h t, hk => by
    rw [List.map_cons, toPV_eq h (hk _ List.mem_cons_self), toPV_map t fun x hx => hk x (List.mem_cons_of_mem _ hx)]
theorem kinded_inv {xs : List P} (h : kinded xs = true) : xs.length < 2 ∨ ∃ k, ∀ x ∈ xs, kdOf x = some k := by
  unfold kinded at h
  rw [Bool.or_eq_true, decide_eq_true_eq, List.any_eq_true] at h
  rcases h with h | ⟨k, _, h⟩
  · exact .inl h
  · exact .inr ⟨k, fun x hx => by simpa using (List.all_eq_true.mp h) x hx⟩
theorem sorted_rps {xs : List P} {vs ys : List V} (r : RPs K cl H N xs vs) (hk : kinded xs = true) (hp : ys.Perm vs) (hs : ys.Pairwise (fun x y => ∀ k l m, KdH H k x l → KdH H k y m → ¬ m < l)) : RPs K cl H N (sortP xs) ys := by
  rcases kinded_inv hk with hk | ⟨k, hk⟩
  · rw [sortP_short hk]
    have hl := r.length
    have hl2 := hp.length_eq
    match xs, vs, ys, hk, hl, hl2 with
    | [], [], [], _, _, _ => exact .nil
    | [x], [v], [y], _, _, _ =>
      have : y = v := by simpa using hp.mem_iff.mp (List.mem_singleton_self y)
      subst this
      exact r
    | _ :: _ :: _, _, _, hk, _, _ => simp at hk; omega
  · have hy : ∀ y ∈ ys, ∃ x ∈ xs, RP K cl H N x y := fun y hy => r.mem y (hp.mem_iff.mp hy)
    have e : ys.map (toPV H) = sortP xs := by
      refine sortP_uniq hk (by rw [← toPV_map r hk]; exact hp.map _) ?_
      rw [List.pairwise_map]
      refine hs.imp_of_mem fun {a b} ha hb hlt => ?_
      obtain ⟨x, hx, rx⟩ := hy a ha
      obtain ⟨z, hz, rz⟩ := hy b hb
      rw [toPV_eq rx (hk x hx), toPV_eq rz (hk z hz)]
      exact decide_eq_true (hlt k _ _ (kdOf_H rx (hk x hx)) (kdOf_H rz (hk z hz)))
    rw [← e]
    refine RPs.of_map fun v hv => ?_
    obtain ⟨x, hx, rx⟩ := hy v hv
    rw [toPV_eq rx (hk x hx)]
    exact rx
/-- what a thing yields when it is read to its end -/
def itemsP : P → Option (List P)
  | .lst xs => some xs
  | .tup xs => some xs
  | .fz xs => some xs
  | .dK ks _ => some (ks.map keyP)
  | .dT ks _ => some (ks.map tupP)
  | _ => none
theorem itemsP_src {x : P} {v : V} {xs : List P} (h : RO K cl H N x v) (e : itemsP x = some xs) {Q : List V → Prop} (q : ∀ vs, RPs K cl H N xs vs → Q vs) : ∃ a, v = .ref a ∧ Src K H a Q := by
  cases x <;> first | (cases e; done) | skip
  · cases e
    obtain ⟨a, vs, rfl, h1, h2⟩ := h.tup_inv
    exact ⟨a, rfl, .inl ⟨vs, .inr (SqT.of h1), q vs h2⟩⟩
  · cases e
    obtain ⟨a, vs, rfl, h1, h2⟩ := h.lst_inv
    exact ⟨a, rfl, .inl ⟨vs, .inl (SqL.of h1), q vs h2⟩⟩
  · cases e
    obtain ⟨a, kvs, rfl, h1, h2, h3⟩ := h.dK_inv
    subst h2
    refine ⟨a, rfl, .inr (.inl ⟨kvs, h1, q _ ?_⟩)⟩
    rw [show (kvs.map fun kv => kV kv.1) = (kvs.map (·.1)).map kV by rw [List.map_map]; rfl]
    exact keysP_rp _
  · cases e
    obtain ⟨a, kvs, rfl, h1, h2, h3⟩ := h.dT_inv
    subst h2
    exact ⟨a, rfl, .inr (.inr ⟨kvs, h1, fun bs hb => q _ (tupP_rps hb)⟩)⟩
  · cases e
    obtain ⟨a, vs, rfl, h1, h2⟩ := h.fz_inv
    exact ⟨a, rfl, .inl ⟨vs, .inl h1, q vs h2⟩⟩
def pSorted : List P → Option (List P)
  | [x] => (itemsP x).bind fun xs => if kinded xs = true then some (sortP xs) else none
  | _ => none
end
theorem primL_sorted {K : PySem.W.Frag} {cl : String → Option Addr} : PrimL K cl (rSorted K) pSorted := by
  intro ω H xs zs vs Q dm hx e q
  match xs, e with
  | [x], e =>
    obtain ⟨ys, e1, e2⟩ := Option.bind_eq_some_iff.mp e
    split at e2
    · rename_i hk
      cases e2
      obtain ⟨v, rfl, hv⟩ := hx.one
      obtain ⟨a, rfl, hs⟩ := itemsP_src hv e1 (Q := fun us => (2 ≤ us.length → ∃ k, ∀ x ∈ us, ∃ l, KdH H k x l) ∧ ∀ ys p, ys.Perm us → ys.Pairwise (fun x y => ∀ k l m, KdH H k x l → KdH H k y m → ¬ m < l) → H p = none → Q (.ref p) (upd H p (.lst ys))) fun us r => by
        refine ⟨fun h2 => ?_, fun ws p h1 h2 h3 => q p ws h3 (sorted_rps r hk h1 h2)⟩
        rcases kinded_inv hk with hk | ⟨k, hk⟩
        · rw [r.length] at hk; omega
        · exact ⟨k, fun u hu => let ⟨x, hx, rx⟩ := r.mem u hu; ⟨_, kdOf_H rx (hk x hx)⟩⟩
      exact ⟨a, rfl, hs⟩
    · cases e2
end PV

set_option Elab.async false
set_option linter.all false
set_option maxRecDepth 100000
set_option maxHeartbeats 4000000
/-! PvP: dicts walked (locked for good), texts walked, enumerate, zip. -/

namespace PV
open PySem PySem.Spec PyProof.Rows L2

/-! ### a dict locked for good -/
def Lk (H : Hp) (d : Addr) (o : Obj) (u : HO) (H2 : Hp) : Prop := (H d = some (.frz o u) ∧ H2 = H) ∨ (H d = some u ∧ H2 = upd H d (.frz o u))
theorem Lk.at {H H2 : Hp} {d : Addr} {o : Obj} {u : HO} (h : Lk H d o u H2) : H2 d = some (.frz o u) := by
  rcases h with ⟨h, rfl⟩ | ⟨_, rfl⟩
  · exact h
  · exact upd_same
theorem inv_lk {X : Cx} {pins : List (Addr × Obj)} {σ : L2.St} {H : Hp} {s : Shared} {d : Addr} {u : HO} (I : L2.Inv X pins σ H s) (h : L2.Rd H d u) (mu : Mut (some u)) : ∃ o H2, Lk H d o u H2 ∧ L2.Inv X pins σ H2 s := by
  rcases h with h | ⟨o, h⟩
  · obtain ⟨o, I2⟩ := I.lock h mu
    exact ⟨o, _, .inr ⟨h, rfl⟩, I2⟩
  · exact ⟨o, H, .inl ⟨h, rfl⟩, I⟩
section
variable {g : G} {ω : Om} {H H2 : Hp} {σD : Env} {σ : L2.St}
theorem Lk.step {d : Addr} {o : Obj} {u : HO} (h : Lk H d o u H2) (hd : isD u = true) (hf : ω d = .free) (st : Sta g ω H σD σ) : Step ω H ω H2 ∧ Sta g ω H2 σD σ := by
  rcases h with ⟨h, rfl⟩ | ⟨h, rfl⟩
  · exact ⟨.refl, st⟩
  · have s : Step ω H ω (upd H d (.frz o u)) := ⟨fun a v e w => by
      by_cases ea : a = d
      · subst ea
        rw [h] at e; cases e
        exact .inr ⟨hd, o, upd_same⟩
      · exact .inl (by rw [upd_ne ea]; exact e), fun a v e w => by
      rw [upd_ne (by rintro rfl; rw [hf] at w; cases w)]; exact e, fun _ h => h, fun _ h _ => h, fun a e => by
      by_cases ea : a = d
      · subst ea; rw [upd_same]; intro z; cases z
      · rw [upd_ne ea]; exact e⟩
    have ne : ∀ a, ω a ≠ .free → a ≠ d := fun a h e => h (by rw [e]; exact hf)
    refine ⟨s, ⟨st.len, fun i d' e => ?_, st.par, ⟨fun a e => ?_⟩⟩⟩
    · obtain ⟨v, e1, r⟩ := st.rd i d' e
      exact ⟨v, e1, r.keep2 (s.keeps st.dom) (fun b u' hb w => by rw [upd_ne (ne b (by rw [w]; intro z; cases z))]; exact hb) fun _ _ h => h⟩
    · obtain ⟨v, e1, t⟩ := st.dom.dom a e
      exact ⟨v, by rw [upd_ne (ne a e)]; exact e1, t⟩
end

/-! ### what a thing yields, walked -/
def iKeysL (td : TE) : TI := fun σ H R => td σ H fun x H1 => ∃ d, x = .ref d ∧ ((∃ kvs, L2.Rd H1 d (.dK kvs) ∧ ∀ o H2, Lk H1 d o (.dK kvs) H2 → R (Itk d o kvs) H2) ∨ ∃ kvs, L2.Rd H1 d (.dT kvs) ∧ ∀ o H2, Lk H1 d o (.dT kvs) H2 → R (Itkt d o kvs) H2)
def iVals' (td : TE) : TI := fun σ H R => td σ H fun x H1 => ∃ d kvs, x = .ref d ∧ L2.Rd H1 d (.dK kvs) ∧ ∀ o H2, Lk H1 d o (.dK kvs) H2 → R (Itd d o kvs) H2
def iItems' (td : TE) : TI := fun σ H R => td σ H fun x H1 => ∃ d kvs, x = .ref d ∧ L2.Rd H1 d (.dK kvs) ∧ ∀ o H2, Lk H1 d o (.dK kvs) H2 → R (Iti d o kvs) H2
section
variable {X : Cx} {tg e : Expr} {td : TE} {apos cpos : Pos}
theorem pi_keysL (he : PE X e td) : PI X tg e (iKeysL td) := ⟨fun pins s σ H R I h => thn (he.run pins s σ H _ I h) fun u s1 ⟨x, H1, I1, rx, d, ex, q⟩ => by
  subst ex
  cases rx
  rcases q with ⟨kvs, hd, q⟩ | ⟨kvs, hd, q⟩
  · obtain ⟨o, H2, lk, I2⟩ := inv_lk I1 hd trivial
    obtain ⟨hs, hgd, hx, es, ep, vs, hdt, hsz, kv, hm⟩ := I2.frzK lk.at
    refine iter_keys hs hgd hx hdt (pi_one (tk := s1.toks) I2 _ (turn_keys _ hdt) ⟨_, Heap.get?_push_size _ rfl, rfl, ?_⟩ (q o H2 lk))
    rw [hsz]; rfl
  · obtain ⟨o, H2, lk, I2⟩ := inv_lk I1 hd trivial
    obtain ⟨hs, hgd, hx, es, ep, hdt, hsz, ent⟩ := I2.frzT lk.at
    refine iter_keys hs hgd hx hdt (pi_one (tk := s1.toks) I2 _ (turn_keysT _ hdt) ⟨_, Heap.get?_push_size _ rfl, rfl, ?_⟩ (q o H2 lk))
    rw [hsz]; rfl⟩
end
def mKeysI (m : M) : MI := fun σ => (m σ).bind fun o σ1 => (frz o σ1).bind fun x σ2 => match x with
  | .dK ks _ => .ok (ks.map keyP) σ2
  | .dT ks _ => .ok (ks.map tupP) σ2
  | _ => .stuck
theorem yld_keys {K : PySem.W.Frag} {cl : String → Option Addr} {ω : Om} {H : Hp} {d : Addr} {o : Obj} {kvs : List (L2.Key × V)} (h : H d = some (.frz o (.dK kvs))) (hf : ω d = .free) : Yld K cl ω H (Itk d o kvs) ((kvs.map (·.1)).map keyP) := fun ω' H' s dm' => by
  have h1 := (s.fr d _ h hf).of rfl
  refine ⟨fun i hi => ⟨⟨h1, by simpa using hi⟩, fun x H3 y => ?_⟩, ⟨h1, by simp⟩⟩
  obtain ⟨rfl, k, v, e1, rfl⟩ := y
  exact ⟨.refl _, keyP k, by simp [e1], keyP_rp k⟩
theorem yld_keysT {K : PySem.W.Frag} {cl : String → Option Addr} {ω : Om} {H : Hp} {d : Addr} {o : Obj} {kvs : List (List L2.Key × V)} (h : H d = some (.frz o (.dT kvs))) (hf : ω d = .free) : Yld K cl ω H (Itkt d o kvs) ((kvs.map (·.1)).map tupP) := fun ω' H' s dm' => by
  have h1 := (s.fr d _ h hf).of rfl
  refine ⟨fun i hi => ⟨⟨h1, by simpa using hi⟩, fun x H3 y => ?_⟩, ⟨h1, by simp⟩⟩
  obtain ⟨rfl, k, v, q, e1, rfl, e2⟩ := y
  exact ⟨.refl _, tupP k, by simp [e1], .tup e2 (keysP_rp k)⟩
theorem di_keys {X : Cx} {g : G} {tg l : Expr} {m : M} (hl : PE X l (tM g m)) : PI X tg l (tI g (mKeysI m)) := pi_weak (pi_keysL hl) fun σ H R h => by
  obtain ⟨ω, σD, st, q⟩ := h
  refine ⟨ω, σD, st, q.bind.imp fun o σ1 ω1 H1 s1 st1 q1 v ov => ?_⟩
  obtain ⟨x, σ2, ω2, s2, st2, r, e2, q2⟩ := frz_ok st1 ov q1.bind
  cases x with
  | dK ks xs =>
    cases r with
    | @dK a kvs _ _ h1 h2 h0 h3 =>
      subst h0
      refine ⟨a, rfl, .inl ⟨kvs, h1, fun o H2 lk => ?_⟩⟩
      obtain ⟨s3, st3⟩ := lk.step rfl h2 st2
      exact (q2 ω2 H2 s3 st3) _ ω2 H2 .refl st3 (yld_keys lk.at h2)
  | dT ks xs =>
    cases r with
    | @dT a kvs _ _ h1 h2 h0 h3 =>
      subst h0
      refine ⟨a, rfl, .inr ⟨kvs, h1, fun o H2 lk => ?_⟩⟩
      obtain ⟨s3, st3⟩ := lk.step rfl h2 st2
      exact (q2 ω2 H2 s3 st3) _ ω2 H2 .refl st3 (yld_keysT lk.at h2)
  | _ => exact q2.elim

/-! ### enumerate -/
set_option maxHeartbeats 4000000 in
theorem meets_enum1 {v : Value} {o : Obj} {Hh : Heap → Prop} (B : Begins v o Hh) :
    Meets (Builtin.«enumerate.__new__» ⟨[.type "enumerate", v], []⟩) (fun _ R s => Hh s.heap ∧
      R (.ok (.ret (.ref (s.heap.push o).objs.size))) { s with heap := (s.heap.push o).push { cls := .type "enumerate", data := .fields #[.none, .bool false, .ref s.heap.objs.size, rawInt 0, .none, .none] } }) :=
  .of_wp fun prog w A R s h => by
    obtain ⟨hp, gg, d, tk, os⟩ := s; obtain ⟨h1, h⟩ := h
    have hsub := sub_enumerate
    have q1 : ∀ {A' : Around} {E : Value → Shared → Prop} {Q : Value → Shared → Prop}, Q (.ref hp.objs.size) ⟨hp.push o, gg, d, tk, os⟩ → wpAny (model prog w) A' (pyIter v) Q E ⟨hp, gg, d, tk, os⟩ :=
      fun q => B.iter prog w _ _ ⟨hp, gg, d, tk, os⟩ _ h1 q
    wp_walk using q1
    refine wpAny_stack_any fun st => wpAny_pure ?_
    split
    · rename_i c _ _ _ _ _
      cases (c == Value.type "enumerate")
      · wp_walk using q1
        exact ⟨_, rfl, h⟩
      · wp_walk using q1
        exact ⟨_, rfl, h⟩
    · wp_walk using q1
      exact ⟨_, rfl, h⟩
theorem call_enum1 {prog : Program} {w : World} {A : Around} {E : Value → Shared → Prop} {s : Shared} {v : Value} {o : Obj} {Hh : Heap → Prop} {Q : Value → Shared → Prop} (B : Begins v o Hh) (h1 : Hh s.heap)
    (h : ∀ h', IsEnum h' (s.heap.objs.size + 1) s.heap.objs.size 0 .none → h'.get? s.heap.objs.size = some o → (∀ b o, s.heap.get? b = some o → h'.get? b = some o) → Q (.ref (s.heap.objs.size + 1)) { s with heap := h' }) :
    wpAny (model prog w) A (call (.type "enumerate") [v]) Q E s := by
  refine callType_new F.called_enumerate (by decide) (F.typeCall_enumerate_1 _) (F.newCall_enumerate_1 _) (fun obj => F.args_object_init_2 obj _) F.entry_enumerate_new (meets_enum1 B) ⟨h1, ?_⟩
  have hz : (s.heap.push o).objs.size = s.heap.objs.size + 1 := Heap.size_push ..
  show _ ∧ _
  rw [hz]
  have he : IsEnum ((s.heap.push o).push { cls := .type "enumerate", data := .fields #[.none, .bool false, .ref s.heap.objs.size, rawInt 0, .none, .none] }) (s.heap.objs.size + 1) s.heap.objs.size 0 .none := by
    have := Heap.get?_push_size (s.heap.push o) (o := { cls := .type "enumerate", data := .fields #[.none, .bool false, .ref s.heap.objs.size, rawInt 0, .none, .none] }) rfl
    rw [hz] at this; exact this
  exact ⟨⟨_, he, rfl⟩, h _ he (Heap.get?_push_of_some _ (Heap.get?_push_size _ B.free)) fun b o' x => Heap.get?_push_of_some _ (Heap.get?_push_of_some _ x)⟩

/-- the tuple at a, each item in a new pair -/
def IteT (K : PySem.W.Frag) (a : Addr) : It :=
  ⟨fun i H => ∃ (xs : List V) (x : V), SqT K H a xs ∧ xs[i]? = some x, fun i H v H' => ∃ T x, v = .ref T ∧ H T = none ∧ H' = upd H T (.tup [.int (i : Nat), x]) ∧ ∀ xs, SqT K H a xs → xs[i]? = some x, fun i H => ∃ xs : List V, SqT K H a xs ∧ xs.length = i⟩
theorem turn_enumT {P : Program} {w : World} {K : PySem.W.Frag} {elts : List Expr} {kk : Nat} {tpos : Pos} (a e it : Addr) :
    Turn P w K (.Tuple elts kk tpos) (IteT K a) [e, it] e (fun i h => (∃ old, IsEnum h e it ((i : Nat) : Int) old) ∧ h.IsTupleIter it a i ∧ e ≠ it) where
  mem := by simp
  obj := fun i h st b hb => by
    obtain ⟨⟨old, he⟩, ⟨o, ho, hc, hd⟩, _⟩ := st
    rcases (by simpa using hb : b = e ∨ b = it) with z | z
    · subst z; exact ⟨_, he, fun v q => nomatch q⟩
    · subst z; exact ⟨o, ho, fun v q => by rw [hd] at q; cases q⟩
  keep := fun i h h' st k => by
    obtain ⟨⟨old, he⟩, hi, hne⟩ := st
    exact ⟨⟨old, k e (by simp) _ he⟩, hi.at fun o q => k it (by simp) o q, hne⟩
  item := by
    intro X hP hw hK hc i pins s σ H E I hf st hg
    subst hP hw hK
    obtain ⟨⟨old, he⟩, hit, hne⟩ := st
    obtain ⟨xs, x, hq, hx⟩ := hg
    obtain ⟨its, rv, p, hz⟩ := I.tuple hq
    obtain ⟨u, hu, ru⟩ := rv.get hx
    have hel : e < s.heap.objs.size := Heap.lt_size he
    obtain ⟨oi, hoi, hci, hdi⟩ := id hit
    have hil : it < s.heap.objs.size := Heap.lt_size hoi
    have pt : s.heap.IsTuple a its.toArray := p
    obtain ⟨oa, hoa, hca, _⟩ := id pt
    have hai : a ≠ it := by
      rintro rfl
      rw [hoi] at hoa; cases hoa
      rw [hci] at hca
      exact absurd (Value.type.inj hca) (by decide)
    have hae : e ≠ a := by
      rintro rfl
      have z : some _ = some oa := (show s.heap.get? e = _ from he).symm.trans hoa
      cases z
      exact absurd (Value.type.inj hca) (by decide)
    have hlt : i < its.toArray.size := by
      have := (List.getElem?_eq_some_iff.mp hu).1
      simpa using this
    refine wpAny_pyNext_enum_itemD (Draws.tuple (A := X.A.in1) (I.ok.hd hc) it a hai its.toArray) he ⟨hit, pt⟩ hlt hne (by simp [hne, hae]) fun y h' tk hy ho hit' hT hsz hk => ?_
    have ey : y = u := by
      have : its.toArray[i]? = some u := by simpa using hu
      rw [this] at hy; cases hy; rfl
    subst ey
    refine ⟨_, rfl, wpAny_letOwnedTupleGo_enum (s := { s with heap := h', toks := tk + 1 }) ho fun h'' he' sb => ?_⟩
    have hT2 : h''.get? s.heap.objs.size = some { cls := .type "tuple", data := .seq #[.int i tk, y] } := (sb.2 _ (Nat.ne_of_gt hel)).trans hT
    have new : ObjOk X.prog X.w (upd H s.heap.objs.size (.tup [.int (i : Nat), x])) h'' s.heap.objs.size (.tup [.int (i : Nat), x]) :=
      ⟨by show 2 ≤ sizeLine; decide, [.int i tk, y], .cons ⟨_, rfl⟩ (.cons ru .nil), ⟨_, hT2, rfl, _, rfl⟩⟩
    have I1 : L2.Inv X pins σ (upd H s.heap.objs.size (.tup [.int (i : Nat), x])) { s with heap := h'', toks := tk + 1 } :=
      I.turnedNew (ch := [e, it]) (fun b ob hb q => (sb.2 b (fun z => hb (by simp [z]))).trans (hk b ob (fun z => hb (by simp [z])) (fun z => hb (by simp [z])) q)) hf (Nat.le_refl _) new
    refine ⟨.ref s.heap.objs.size, _, I1, rfl, ⟨_, x, rfl, I.hok.fresh (Nat.le_refl _), rfl, fun ys hy => by rw [I.tuple_inj hy hq]; exact hx⟩, ⟨⟨y, ?_⟩, hit'.1.at fun o q => (sb.2 it (Ne.symm hne)).trans q, hne⟩, fun b hb => ?_⟩
    · have e1 : ((i + 1 : Nat) : Int) = (i : Int) + 1 := by omega
      rw [e1]; exact he'
    · have hb' : b < s.heap.objs.size := by
        rcases (by simpa using hb : b = e ∨ b = it) with z | z
        · rw [z]; exact hel
        · rw [z]; exact hil
      rw [upd_ne (Nat.ne_of_lt hb')]
      exact (hf b hb).1
  done := by
    intro X hP hw hK hc i pins s σ H E I hf st hg
    subst hP hw hK
    obtain ⟨⟨old, he⟩, hit, hne⟩ := st
    obtain ⟨xs, hq, hx⟩ := hg
    obtain ⟨its, rv, p, hz⟩ := I.tuple hq
    obtain ⟨f0, f1, f2, f3, f4, f5⟩ := hf it (by simp)
    have hl := rv.length
    obtain ⟨oi, hoi, hci, hdi⟩ := id hit
    have pt : s.heap.IsTuple a its.toArray := p
    obtain ⟨oa, hoa, hca, _⟩ := id pt
    have hai : a ≠ it := by
      rintro rfl
      rw [hoi] at hoa; cases hoa
      rw [hci] at hca
      exact absurd (Value.type.inj hca) (by decide)
    have ei : its.toArray.size = i := by simp; omega
    rw [← ei] at hit
    exact wpAny_pyNext_enum_endD (Draws.tuple (A := X.A.in1) (I.ok.hd hc) it a hai its.toArray) he ⟨hit, pt⟩ fun h' eb => ⟨rfl, I.turned (t' := s.toks) (fun b o hb q => eb b o hb q) f0 f1 f3 f4 f5⟩
  self := fun A i s Q E st h => by
    obtain ⟨⟨_, he⟩, _⟩ := st
    exact wpAny_pyIter_enum he h

def iEnum' (K : PySem.W.Frag) (ta : TA) : TI := fun σ H R => ta σ H fun vs H1 => ∃ a, vs = [.ref a] ∧ ((∃ xs, SqL K H1 a xs ∧ R (Ite K a) H1) ∨ (∃ xs, SqT K H1 a xs ∧ R (IteT K a) H1))
theorem pi_enumA {X : Cx} {e : Expr} {ta : TA} {p pos tpos : Pos} {elts : List Expr} {kk : Nat} (hg : Gl X "enumerate") (hm : X.mg "enumerate" = none) (ha : PA X [e] ta) (hs : starEach [e] X.env = [(false, eval e X.env)] := by rfl) :
    PI X (.Tuple elts kk tpos) (.Call (.Name "enumerate" p) [e] [] pos) (iEnum' X.K ta) := ⟨fun pins s σ H R I h => by
  refine Call_ (ld_blt I hg hm boot_enumerate (PyProof.Rows.callWith_type1 (thn (ha.run pos pins s σ H _ I h) fun us s1 ⟨vs, H1, I1, r1, a, ex, q1⟩ => ?_) hs rfl))
  subst ex
  obtain ⟨u, rfl, rx⟩ := vals1 r1
  cases rx
  have fp : ∀ b, (b = s1.heap.objs.size + 1 ∨ b = s1.heap.objs.size) → FpOk X pins H1 b := fun b e' => by
    have hle : s1.heap.objs.size ≤ b := by omega
    exact I1.fpOk hle (I1.hok.fresh hle)
  rcases q1 with ⟨xs, hq, q⟩ | ⟨xs, hq, q⟩
  · obtain ⟨its, rv, p', hz⟩ := I1.list hq
    refine call_enum1 (begins_list a its.toArray) p'.isList fun h' he hit hk => wpAny_pyIter_enum he ?_
    exact ⟨s1.heap.objs.size + 1, [s1.heap.objs.size + 1, s1.heap.objs.size], _, _, H1, rfl, I1.kept (t' := s1.toks) hk, turn_enum a (s1.heap.objs.size + 1) s1.heap.objs.size, ⟨⟨.none, he⟩, ⟨_, hit, rfl, rfl⟩, Nat.succ_ne_self _⟩, fun b hb => fp b (by simpa using hb), q⟩
  · obtain ⟨its, rv, p', hz⟩ := I1.tuple hq
    refine call_enum1 (begins_tuple a its.toArray) (show s1.heap.IsTuple a its.toArray from p') fun h' he hit hk => wpAny_pyIter_enum he ?_
    exact ⟨s1.heap.objs.size + 1, [s1.heap.objs.size + 1, s1.heap.objs.size], _, _, H1, rfl, I1.kept (t' := s1.toks) hk, turn_enumT a (s1.heap.objs.size + 1) s1.heap.objs.size, ⟨⟨.none, he⟩, ⟨_, hit, rfl, rfl⟩, Nat.succ_ne_self _⟩, fun b hb => fp b (by simpa using hb), q⟩⟩
def enumP : Nat → List P → List P
  | _, [] => []
  | n, x :: xs => .tup [.int n, x] :: enumP (n + 1) xs
theorem enumP_get : ∀ (n i : Nat) (xs : List P), (enumP n xs)[i]? = xs[i]?.map fun x => .tup [.int ((n + i : Nat) : Int), x]
  | _, _, [] => by simp [enumP]
  | n, 0, x :: xs => by simp [enumP]
  | n, i + 1, x :: xs => by
    simp only [enumP, List.getElem?_cons_succ]
    rw [enumP_get (n + 1) i xs]
    rw [show n + 1 + i = n + (i + 1) by omega]
theorem enumP_len : ∀ (n : Nat) (xs : List P), (enumP n xs).length = xs.length
  | _, [] => rfl
  | n, x :: xs => by simp [enumP, enumP_len (n + 1) xs]
theorem yld_enum {K : PySem.W.Frag} {cl : String → Option Addr} {ω : Om} {H : Hp} {a : Addr} {vs : List V} {xs : List P} {u : HO} (hu : H a = some u) (hd : isD u = false) (hl : ∀ H' : Hp, H' a = some u → SqL K H' a vs) (ha : ω a = .free) (dm : Dom ω H) (r : RPs K cl H (Fr ω) xs vs) : Yld K cl ω H (Ite K a) (enumP 0 xs) := fun ω' H' s dm' => by
  have h1 := (s.fr a u hu ha).of hd
  have r' := s.rps dm r
  refine ⟨fun i hi => ?_, ⟨vs, hl H' h1, by rw [enumP_len, r.length]; exact Nat.le_refl _⟩⟩
  rw [enumP_len] at hi
  refine ⟨⟨vs, vs[i]'(by rw [← r.length]; exact hi), hl H' h1, by simp [← r.length, hi]⟩, fun x H3 y => ?_⟩
  obtain ⟨T, y, rfl, hT, rfl, e⟩ := y
  obtain ⟨p, e1, r1⟩ := r'.get' (e vs (hl _ h1))
  have sm : Same H' (upd H' T (.tup [.int (i : Nat), y])) := Same.new hT
  exact ⟨sm, .tup [.int (i : Nat), p], by rw [enumP_get, e1, Nat.zero_add]; rfl, .tup upd_same (.cons (.int _) (.cons (RP.keep (same_keeps sm) _ _ r1) .nil))⟩
theorem yld_enumZ {K : PySem.W.Frag} {cl : String → Option Addr} {ω : Om} {H : Hp} {a : Addr} {vs : List V} {xs : List P} (h : SqZ K H (Fr ω) a vs) (dm : Dom ω H) (r : RPs K cl H (Fr ω) xs vs) : Yld K cl ω H (Ite K a) (enumP 0 xs) := fun ω' H' s dm' => by
  have h1 := h.later s
  have r' := s.rps dm r
  refine ⟨fun i hi => ?_, ⟨vs, h1, by rw [enumP_len, r.length]; exact Nat.le_refl _⟩⟩
  rw [enumP_len] at hi
  refine ⟨⟨vs, vs[i]'(by rw [← r.length]; exact hi), h1, by simp [← r.length, hi]⟩, fun x H3 y => ?_⟩
  obtain ⟨T, y, rfl, hT, rfl, e⟩ := y
  obtain ⟨p, e1, r1⟩ := r'.get' (e vs h1)
  have sm : Same H' (upd H' T (.tup [.int (i : Nat), y])) := Same.new hT
  exact ⟨sm, .tup [.int (i : Nat), p], by rw [enumP_get, e1, Nat.zero_add]; rfl, .tup upd_same (.cons (.int _) (.cons (RP.keep (same_keeps sm) _ _ r1) .nil))⟩
theorem yld_enumT {K : PySem.W.Frag} {cl : String → Option Addr} {ω : Om} {H : Hp} {a : Addr} {vs : List V} {xs : List P} (hu : H a = some (.tup vs)) (dm : Dom ω H) (r : RPs K cl H (Fr ω) xs vs) : Yld K cl ω H (IteT K a) (enumP 0 xs) := fun ω' H' s dm' => by
  have h1 := (s.fr a _ hu (dm.tup hu rfl)).of rfl
  have r' := s.rps dm r
  refine ⟨fun i hi => ?_, ⟨vs, SqT.of h1, by rw [enumP_len, r.length]⟩⟩
  rw [enumP_len] at hi
  refine ⟨⟨vs, vs[i]'(by rw [← r.length]; exact hi), SqT.of h1, by simp [← r.length, hi]⟩, fun x H3 y => ?_⟩
  obtain ⟨T, y, rfl, hT, rfl, e⟩ := y
  obtain ⟨p, e1, r1⟩ := r'.get' (e vs (SqT.of h1))
  have sm : Same H' (upd H' T (.tup [.int (i : Nat), y])) := Same.new hT
  exact ⟨sm, .tup [.int (i : Nat), p], by rw [enumP_get, e1, Nat.zero_add]; rfl, .tup upd_same (.cons (.int _) (.cons (RP.keep (same_keeps sm) _ _ r1) .nil))⟩
/-- the operands of a row as data -/
def frzAll : List O → Env → R (List P)
  | [], σ => .ok [] σ
  | o :: os, σ => (frz o σ).bind fun x σ1 => (frzAll os σ1).bind fun xs σ2 => .ok (x :: xs) σ2
theorem frzAll_ok {g : G} {σ : L2.St} {H : Hp} : ∀ {os : List O} {vs : List V} {ω : Om} {σD : Env} {k : List P → Env → Om → Hp → Prop}, Sta g ω H σD σ → OVs g ω H σ os vs → Post g ω H σ (frzAll os σD) k →
    ∃ xs σ1 ω1, Step ω H ω1 H ∧ Sta g ω1 H σ1 σ ∧ RPs g.K g.cl H (Fr ω1) xs vs ∧ frzAll os σD = .ok xs σ1 ∧ k xs σ1 ω1 H
  | _, _, ω, σD, k, st, .nil, h => ⟨[], σD, ω, .refl, st, .nil, rfl, Post.ok h st⟩
  | _, _, ω, σD, k, st, .cons h1 h2, h => by
    obtain ⟨x, σ1, ω1, s1, st1, r1, e1, q1⟩ := frz_ok st h1 (Post.bind (f := fun x σ1 => (frzAll _ σ1).bind fun xs σ2 => .ok (x :: xs) σ2) h)
    have h2' : OVs g ω1 H σ _ _ := h2.step s1 st.dom
    obtain ⟨xs, σ2, ω2, s2, st2, r2, e2, q2⟩ := frzAll_ok st1 h2' (Post.bind (f := fun xs σ2 => .ok (x :: xs) σ2) q1)
    refine ⟨x :: xs, σ2, ω2, s1.trans s2, st2, .cons (s2.rp st1.dom r1) r2, ?_, Post.ok q2 st2⟩
    show (frz _ σD).bind _ = _
    rw [e1, R.bind_ok, e2, R.bind_ok]
def mEnum (m : M) : MI := fun σ => (mAs [m] σ).bind fun os σ1 => (frzAll os σ1).bind fun xs σ2 => match xs with
  | [.lst ys] => .ok (enumP 0 ys) σ2
  | [.tup ys] => .ok (enumP 0 ys) σ2
  | [.fz ys] => .ok (enumP 0 ys) σ2
  | _ => .stuck
theorem di_enum {X : Cx} {g : G} {tg e : Expr} {m : M} (he : PI X tg e (iEnum' X.K (tA g (mAs [m])))) (hK : g.K = X.K := by rfl) : PI X tg e (tI g (mEnum m)) := pi_weak he fun σ H R h => by
  obtain ⟨ω, σD, st, q⟩ := h
  refine ⟨ω, σD, st, q.bind.imp fun os σ1 ω1 H1 s1 st1 q1 vs ov => ?_⟩
  obtain ⟨xs, σ2, ω2, s2, st2, r, e2, q2⟩ := frzAll_ok st1 ov q1.bind
  rw [← hK]
  match xs, r, q2 with
  | [.lst ys], .cons r .nil, q2 =>
    cases r with
    | lst h1 h2 h3 => exact ⟨_, rfl, .inl ⟨_, SqL.of h1, (Post.ok q2 st2) _ ω2 H1 .refl st2 (yld_enum h1 rfl (fun H' e => SqL.of e) h2 st2.dom h3)⟩⟩
  | [.tup ys], .cons r .nil, q2 =>
    cases r with
    | tup h1 h3 => exact ⟨_, rfl, .inr ⟨_, SqT.of h1, (Post.ok q2 st2) _ ω2 H1 .refl st2 (yld_enumT h1 st2.dom h3)⟩⟩
  | [.fz ys], .cons r .nil, q2 =>
    cases r with
    | fz h1 h3 => exact ⟨_, rfl, .inl ⟨_, h1.sq, (Post.ok q2 st2) _ ω2 H1 .refl st2 (yld_enumZ h1 st2.dom h3)⟩⟩
  | [], _, q2 => exact q2.elim
  | [.non], _, q2 => exact q2.elim
  | [.bl _], _, q2 => exact q2.elim
  | [.int _], _, q2 => exact q2.elim
  | [.str _], _, q2 => exact q2.elim
  | [.dK _ _], _, q2 => exact q2.elim
  | [.dT _ _], _, q2 => exact q2.elim
  | [.ins _ _ _], _, q2 => exact q2.elim
  | x :: _ :: _, _, q2 => cases x <;> exact q2.elim
end PV

set_option Elab.async false
set_option linter.all false
set_option maxRecDepth 100000
set_option maxHeartbeats 4000000
/-! PvQ: zip over lists and tuples in any mix, as what dict() is made from. -/

namespace PV
open PySem PySem.Spec PyProof.Rows L2

section
variable {prog : Program} {w : World} {A : Around} {E : Value → Shared → Prop} {s : Shared} {z TI TO i1 i2 T : Addr} {fp1 fp2 : List Addr} {n1 n2 i : Nat} {P1 P2 : Nat → Value → Prop} {St1 St2 : Nat → Heap → Prop} {f : Bool} {oT : Obj}
/-- a turn of a zip whose pair is still held -/
theorem zh_item {Q : Option Value → Shared → Prop} (S : ZipSep2 z TI TO i1 i2 fp1 fp2) (D1 : Draws prog w A.in1 i1 fp1 n1 P1 St1) (D2 : Draws prog w A.in1 i2 fp2 n2 P2 St2)
    (hz : IsZipHeld s.heap z TI TO T f) (hT : s.heap.get? T = some oT) (hTI : IsTupOf2 s.heap TI (.ref i1) (.ref i2)) (st1 : St1 i s.heap) (st2 : St2 i s.heap) (hlt1 : i < n1) (hlt2 : i < n2)
    (hQ : ∀ x1 x2 h' tk, P1 i x1 → P2 i x2 → IsZipHeld h' z TI TO T true → St1 (i + 1) h' → St2 (i + 1) h' → IsTupOf2 h' s.heap.objs.size x1 x2 →
      (∀ c o, c ≠ z → c ≠ i1 → c ≠ i2 → s.heap.get? c = some o → h'.get? c = some o) → Q (some (.ref s.heap.objs.size)) { s with heap := h', toks := tk }) : wpAny (model prog w) A (pyNext (.ref z)) Q E s := by
  have hTy : s.TypeIs (.ref z) "zip" := ⟨_, hz, rfl⟩
  unfold pyNext
  refine wpAny_bind (wpAny_attempt (wpAny_callSpecial?_slot (name := Str.ofString "__next__") hTy F.slot_zip_next (wpAny_call_entry F.slot_zip_next hTy F.entry_zip_next ?_ (F.args_zip_next_1 _))))
  obtain ⟨hp, gg, d, tk0, os⟩ := s
  show wpAny _ _ (field (.ref z) 2 >>= _) _ _ _
  refine wpAny_bind (wpAny_field hz rfl (x := .bool false) rfl ?_)
  show wpAny _ _ (field (.ref z) 3 >>= _) _ _ _
  refine wpAny_bind (wpAny_field hz rfl (x := .ref TI) rfl (wpAny_bind (wpAny_seqItems hTI rfl ?_)))
  show wpAny _ _ (Builtin.SmallTypes.ownedTupleIsFree (.ref z) >>= _) _ _ _
  refine wpAny_bind (wpAny_tupleHeld_zip hz hT fun g0 hz0 hs0 => ?_)
  replace hs0 : Heap.SameBut z hp g0 := hs0
  simp only [Bool.false_eq_true, if_false]
  refine wpAny_bind ?_
  rw [← Array.forIn_toList]
  simp only [List.forIn_cons, List.forIn_nil]
  refine wpAny_bind (wpAny_bind (wpAny_holding ?_))
  show wpAny _ _ (Builtin.SmallTypes.nextOf (.ref i1) >>= _) _ _ ⟨g0, gg, d, tk0, os⟩
  refine wpAny_bind (D1.item i _ _ _ hlt1 (D1.over st1 hs0 S.zf1) fun x1 p1 tk1 hx1 sn1 hp1 => wpAny_pure (wpAny_pure ?_))
  replace hp1 : Heap.SameBut i1 g0 p1 := hp1
  refine wpAny_bind (wpAny_bind (wpAny_holding ?_))
  show wpAny _ _ (Builtin.SmallTypes.nextOf (.ref i2) >>= _) _ _ ⟨p1, gg, d, tk1, os⟩
  refine wpAny_bind (D2.item i _ _ _ hlt2 (D2.over (D2.over st2 hs0 S.zf2) hp1 S.sep1_2) fun x2 p2 tk2 hx2 sn2 hp2 => wpAny_pure (wpAny_pure (wpAny_pure ?_)))
  replace hp2 : Heap.SameBut i2 p1 p2 := hp2
  show wpAny _ _ (newTuple [x1, x2] >>= _) _ _ _
  refine wpAny_bind (wpAny_newTuple (wpAny_pure ⟨_, rfl, ?_⟩))
  have hsz : p2.objs.size = hp.objs.size := by rw [hp2.1, hp1.1, hs0.1]
  have up : ∀ c o, p2.get? c = some o → (p2.push { cls := .type "tuple", data := .seq #[x1, x2] }).get? c = some o := fun c o e => Heap.get?_push_of_some _ e
  have hz2 : IsZipHeld p2 z TI TO T true := hp2.extBut _ _ S.zi2 (hp1.extBut _ _ S.zi1 hz0)
  have hnew : IsTupOf2 (p2.push { cls := .type "tuple", data := .seq #[x1, x2] }) p2.objs.size x1 x2 := Heap.get?_push_size _ rfl
  have q := hQ x1 x2 (p2.push { cls := .type "tuple", data := .seq #[x1, x2] }) tk2 hx1 hx2 (up _ _ hz2) (D1.frame _ _ _ (D1.over sn1 hp2 S.sep2_1) fun b _ o e => up b o e) (D2.frame _ _ _ sn2 fun b _ o e => up b o e) (by rw [hsz] at hnew; exact hnew)
    fun c o c1 c2 c3 e => up _ _ (hp2.extBut _ _ c3 (hp1.extBut _ _ c2 (hs0.extBut _ _ c1 e)))
  show wpAny _ _ (pure (some (Value.ref p2.objs.size))) _ _ _
  rw [hsz]
  exact wpAny_pure q
/-- its end -/
theorem zh_end {Q : Option Value → Shared → Prop} (S : ZipSep2 z TI TO i1 i2 fp1 fp2) (D1 : Draws prog w A.in1 i1 fp1 n1 P1 St1) (D2 : Draws prog w A.in1 i2 fp2 n2 P2 St2)
    (hz : IsZipHeld s.heap z TI TO T f) (hT : s.heap.get? T = some oT) (hTI : IsTupOf2 s.heap TI (.ref i1) (.ref i2)) (st1 : St1 i s.heap) (st2 : St2 i s.heap) (hle1 : i ≤ n1) (hle2 : i ≤ n2) (hend : i = n1 ∨ i = n2)
    (hQ : ∀ h' tk, (∀ c o, c ≠ z → c ≠ i1 → c ≠ i2 → s.heap.get? c = some o → h'.get? c = some o) → Q none { s with heap := h', toks := tk }) : wpAny (model prog w) A (pyNext (.ref z)) Q E s := by
  have hTy : s.TypeIs (.ref z) "zip" := ⟨_, hz, rfl⟩
  unfold pyNext
  refine wpAny_bind (wpAny_attempt (wpAny_callSpecial?_slot (name := Str.ofString "__next__") hTy F.slot_zip_next (wpAny_call_entry F.slot_zip_next hTy F.entry_zip_next ?_ (F.args_zip_next_1 _))))
  obtain ⟨hp, gg, d, tk0, os⟩ := s
  show wpAny _ _ (field (.ref z) 2 >>= _) _ _ _
  refine wpAny_bind (wpAny_field hz rfl (x := .bool false) rfl ?_)
  show wpAny _ _ (field (.ref z) 3 >>= _) _ _ _
  refine wpAny_bind (wpAny_field hz rfl (x := .ref TI) rfl (wpAny_bind (wpAny_seqItems hTI rfl ?_)))
  show wpAny _ _ (Builtin.SmallTypes.ownedTupleIsFree (.ref z) >>= _) _ _ _
  refine wpAny_bind (wpAny_tupleHeld_zip hz hT fun g0 hz0 hs0 => ?_)
  replace hs0 : Heap.SameBut z hp g0 := hs0
  simp only [Bool.false_eq_true, if_false]
  refine wpAny_bind ?_
  rw [← Array.forIn_toList]
  simp only [List.forIn_cons, List.forIn_nil]
  refine wpAny_bind (wpAny_bind (wpAny_holding ?_))
  show wpAny _ _ (Builtin.SmallTypes.nextOf (.ref i1) >>= _) _ _ ⟨g0, gg, d, tk0, os⟩
  by_cases hlt1 : i < n1
  · refine wpAny_bind (D1.item i _ _ _ hlt1 (D1.over st1 hs0 S.zf1) fun x1 p1 tk1 hx1 sn1 hp1 => wpAny_pure (wpAny_pure ?_))
    replace hp1 : Heap.SameBut i1 g0 p1 := hp1
    refine wpAny_bind (wpAny_bind (wpAny_holding ?_))
    show wpAny _ _ (Builtin.SmallTypes.nextOf (.ref i2) >>= _) _ _ ⟨p1, gg, d, tk1, os⟩
    have e2 : i = n2 := by omega
    have st2' := D2.over (D2.over st2 hs0 S.zf2) hp1 S.sep1_2
    rw [e2] at st2'
    refine wpAny_bind (D2.done _ _ _ st2' fun h' e he hs => ?_)
    obtain ⟨o, ho, hc⟩ := hs
    refine wpAny_bind (wpAny_isInstance (T := "StopIteration") (b := true) ⟨o, ho, hc⟩ isSubtype_stop ?_)
    exact wpAny_pure (hQ h' tk1 fun c o c1 c2 c3 x => he _ _ c3 (hp1.extBut _ _ c2 (hs0.extBut _ _ c1 x)))
  · have e1 : i = n1 := by omega
    have st1' := D1.over st1 hs0 S.zf1
    rw [e1] at st1'
    refine wpAny_bind (D1.done _ _ _ st1' fun h' e he hs => ?_)
    obtain ⟨o, ho, hc⟩ := hs
    refine wpAny_bind (wpAny_isInstance (T := "StopIteration") (b := true) ⟨o, ho, hc⟩ isSubtype_stop ?_)
    exact wpAny_pure (hQ h' tk0 fun c o c1 c2 c3 x => he _ _ c2 (hs0.extBut _ _ c1 x))
end
section
variable {prog : Program} {w : World}
/-- a zip as what dict() is made from -/
theorem zipArg {z TI TO i1 i2 : Addr} {fp1 fp2 : List Addr} {n1 n2 : Nat} {P1 P2 : Nat → Value → Prop} {St1 St2 : Nat → Heap → Prop} (S : ZipSep2 z TI TO i1 i2 fp1 fp2) (D1 : ∀ A : Around, A.handled = none → Draws prog w A i1 fp1 n1 P1 St1) (D2 : ∀ A : Around, A.handled = none → Draws prog w A i2 fp2 n2 P2 St2)
    (L1 : ∀ i h, St1 i h → ∀ b ∈ fp1, ∃ o, h.get? b = some o) (L2 : ∀ i h, St2 i h → ∀ b ∈ fp2, ∃ o, h.get? b = some o)
    (K1 : ∀ i h h', St1 i h → (∀ b o, h.get? b = some o → h'.get? b = some o) → St1 i h') (K2 : ∀ i h h', St2 i h → (∀ b o, h.get? b = some o → h'.get? b = some o) → St2 i h') :
    PairArg prog w "zip" z (z :: TI :: TO :: (fp1 ++ fp2)) [z, TO, i1, i2] (min n1 n2) (fun i k v => P1 i k ∧ P2 i v)
      (fun h => IsZip h z TI TO .none ∧ IsTupOf2 h TI (.ref i1) (.ref i2) ∧ (∃ a b, IsTupOf2 h TO a b) ∧ St1 0 h ∧ St2 0 h) where
  type := fun s ok => ⟨_, ok.1, rfl⟩
  notDict := by decide
  keep := fun h h' ok hk => by
    obtain ⟨hz, hTI, ⟨a, b, hTO⟩, h1, h2⟩ := ok
    exact ⟨hk _ _ hz, hk _ _ hTI, ⟨a, b, hk _ _ hTO⟩, K1 _ _ _ h1 hk, K2 _ _ _ h2 hk⟩
  there := fun h ok b hb => by
    obtain ⟨hz, hTI, ⟨a, c, hTO⟩, h1, h2⟩ := ok
    simp only [List.mem_cons, List.mem_append] at hb
    rcases hb with rfl | rfl | rfl | hb | hb
    · exact ⟨_, hz⟩
    · exact ⟨_, hTI⟩
    · exact ⟨_, hTO⟩
    · exact L1 _ _ h1 b hb
    · exact L2 _ _ h2 b hb
  sub := fun b hb => by
    simp only [List.mem_cons, List.not_mem_nil, or_false] at hb
    rcases hb with rfl | rfl | rfl | rfl
    · simp
    · simp
    · simp [S.mem1]
    · simp [S.mem2]
  noKeys := fun A s Q E hA ok h => getAttrOr_miss_zip ok.1 rfl rfl rfl zip_no_keys (by decide +kernel) hA h
  iter := fun A s d Q E hA ok hd hdf h => by
    obtain ⟨hz, hTI, ⟨a, b, hTO⟩, h1, h2⟩ := ok
    simp only [List.mem_cons, List.mem_append, not_or] at hdf
    obtain ⟨dz, dTI, dTO, df1, df2⟩ := hdf
    have di1 : d ≠ i1 := fun e => df1 (by rw [e]; exact S.mem1)
    have di2 : d ≠ i2 := fun e => df2 (by rw [e]; exact S.mem2)
    have E1 := D1 A.in1 hA
    have E2 := D2 A.in1 hA
    refine wpAny_pyIter_zip hz (h z [z, TO, i1, i2] (fun i h => IsTupOf2 h TI (.ref i1) (.ref i2) ∧ St1 i h ∧ St2 i h ∧
      ((IsZip h z TI TO .none ∧ ∃ a b, IsTupOf2 h TO a b) ∨ ∃ T f oT, IsZipHeld h z TI TO T f ∧ h.get? T = some oT ∧ T ≠ z ∧ T ≠ i1 ∧ T ≠ i2 ∧ T ≠ d)) s.heap s.toks ?_ ⟨hTI, h1, h2, .inl ⟨hz, a, b, hTO⟩⟩ (fun _ _ e => e) fun b hb => .inl hb)
    exact {
      off := fun hm => by
        simp only [List.mem_cons, List.not_mem_nil, or_false] at hm
        rcases hm with e | e | e | e
        · exact dz e
        · exact dTO e
        · exact di1 e
        · exact di2 e
      frame := fun i h₁ h₂ st hk => by
        obtain ⟨hTI, h1, h2, hz⟩ := st
        refine ⟨hk _ _ (Ne.symm dTI) hTI, E1.frame _ _ _ h1 fun b hb o e => hk b o (fun q => df1 (q ▸ hb)) e, E2.frame _ _ _ h2 fun b hb o e => hk b o (fun q => df2 (q ▸ hb)) e, ?_⟩
        rcases hz with ⟨hz, a, b, hTO⟩ | ⟨T, f, oT, hz, hT, r1, r2, r3, r4⟩
        · exact .inl ⟨hk _ _ (Ne.symm dz) hz, a, b, hk _ _ (Ne.symm dTO) hTO⟩
        · exact .inr ⟨T, f, oT, hk _ _ (Ne.symm dz) hz, hk _ _ r4 hT, r1, r2, r3, r4⟩
      item := fun i s₁ Q₁ E₁ hi st hds hQ => by
        obtain ⟨hTI, h1, h2, hz⟩ := st
        have hi1 : i < n1 := by omega
        have hi2 : i < n2 := by omega
        have lt : ∀ {c o}, s₁.heap.get? c = some o → s₁.heap.objs.size ≠ c := fun e => Nat.ne_of_gt (Heap.lt_size e)
        have k1 : s₁.heap.objs.size ≠ i1 := by obtain ⟨_, e⟩ := E1.live _ _ h1; exact lt e
        have k2 : s₁.heap.objs.size ≠ i2 := by obtain ⟨_, e⟩ := E2.live _ _ h2; exact lt e
        rcases hz with ⟨hz, a, b, hTO⟩ | ⟨T, f, oT, hz, hT, r1, r2, r3, r4⟩
        · refine wpAny_pyNext_zipD2_item S E1 E2 hz hTI hTO h1 h2 hi1 hi2 fun x1 x2 h' tk y1 y2 a1 a2 a3 a4 a5 a6 hk => ?_
          exact hQ s₁.heap.objs.size _ _ h' tk ⟨y1, y2⟩ (.inl ⟨_, a5, rfl, _, rfl⟩) ⟨hk _ _ S.TIz S.TITO S.TIi1 S.TIi2 hTI, a3, a4, .inr ⟨s₁.heap.objs.size, false, _, a1, a5, lt hz, k1, k2, Nat.ne_of_gt hds⟩⟩
            fun c o hc e => hk c o (fun x => hc (by simp [x])) (fun x => hc (by simp [x])) (fun x => hc (by simp [x])) (fun x => hc (by simp [x])) e
        · refine zh_item S E1 E2 hz hT hTI h1 h2 hi1 hi2 fun x1 x2 h' tk y1 y2 a1 a3 a4 a5 hk => ?_
          exact hQ s₁.heap.objs.size _ _ h' tk ⟨y1, y2⟩ (.inl ⟨_, a5, rfl, _, rfl⟩) ⟨hk _ _ S.TIz S.TIi1 S.TIi2 hTI, a3, a4, .inr ⟨T, true, oT, a1, hk _ _ r1 r2 r3 hT, r1, r2, r3, r4⟩⟩
            fun c o hc e => hk c o (fun x => hc (by simp [x])) (fun x => hc (by simp [x])) (fun x => hc (by simp [x])) e
      done := fun s₁ Q₁ E₁ st hQ => by
        obtain ⟨hTI, h1, h2, hz⟩ := st
        rcases hz with ⟨hz, a, b, hTO⟩ | ⟨T, f, oT, hz, hT, r1, r2, r3, r4⟩
        · exact wpAny_pyNext_zipD2_end S E1 E2 hz hTI hTO h1 h2 (by omega) (by omega) (by omega) fun h' tk hk => hQ h' tk fun c o hc e => hk c o (fun x => hc (by simp [x])) (fun x => hc (by simp [x])) (fun x => hc (by simp [x])) (fun x => hc (by simp [x])) e
        · exact zh_end S E1 E2 hz hT hTI h1 h2 (by omega) (by omega) (by omega) fun h' tk hk => hQ h' tk fun c o hc e => hk c o (fun x => hc (by simp [x])) (fun x => hc (by simp [x])) (fun x => hc (by simp [x])) e }
end

/-- a list or tuple, raw -/
def RawSeq (T : String) (h : Heap) (a : Addr) (its : Array Value) : Prop := ∃ o n, h.get? a = some o ∧ o.cls = .type T ∧ o.data = .seq its n
/-- an iterator over one of these, and what it draws -/
structure SeqIt (a : Addr) (its : Array Value) (h0 : Heap) (o : Obj) (Hh : Heap → Prop) (St : Addr → Nat → Heap → Prop) : Prop where
  beg : Begins (.ref a) o Hh
  now : Hh h0
  st0 : ∀ it h', a ≠ it → (∀ b ob, h0.get? b = some ob → h'.get? b = some ob) → h'.get? it = some o → St it 0 h'
  drw : ∀ (prog : Program) (w : World) (A : Around) (it : Addr), A.handled = none → a ≠ it → Draws prog w A it [it, a] its.size (fun i v => its[i]? = some v) (St it)
  live : ∀ it i h, St it i h → ∀ b ∈ [it, a], ∃ ob, h.get? b = some ob
  fr : ∀ it i h h', St it i h → (∀ b ob, h.get? b = some ob → h'.get? b = some ob) → St it i h'
  lt : a < h0.objs.size
theorem seqIt_list {a : Addr} {its : Array Value} {h0 : Heap} (p : h0.IsList a its) : SeqIt a its h0 { cls := .type "list_iterator", data := .fields #[.ref a, .int 0 0] } (fun h => h.IsList a its) (fun it i h => h.IsListIter it a i ∧ h.IsList a its) where
  beg := begins_list a its
  now := p
  st0 := fun it h' ne k e => ⟨⟨_, e, rfl, rfl⟩, p.at fun o q => k a o q⟩
  drw := fun prog w A it hA ne => Draws.list hA it a ne its
  live := fun it i h st b hb => by
    obtain ⟨⟨o, e, _⟩, ⟨o2, e2, _⟩⟩ := st
    rcases (by simpa using hb : b = it ∨ b = a) with z | z
    · exact ⟨o, by rw [z]; exact e⟩
    · exact ⟨o2, by rw [z]; exact e2⟩
  fr := fun it i h h' st k => ⟨st.1.at fun o e => k it o e, st.2.at fun o e => k a o e⟩
  lt := by obtain ⟨o, e, _⟩ := p; exact Heap.lt_size e
theorem seqIt_tuple {a : Addr} {its : Array Value} {h0 : Heap} (p : h0.IsTuple a its) : SeqIt a its h0 { cls := .type "tuple_iterator", data := .fields #[.ref a, .int 0 0] } (fun h => h.IsTuple a its) (fun it i h => h.IsTupleIter it a i ∧ h.IsTuple a its) where
  beg := begins_tuple a its
  now := p
  st0 := fun it h' ne k e => ⟨⟨_, e, rfl, rfl⟩, p.at fun o q => k a o q⟩
  drw := fun prog w A it hA ne => Draws.tuple hA it a ne its
  live := fun it i h st b hb => by
    obtain ⟨⟨o, e, _⟩, ⟨o2, e2, _⟩⟩ := st
    rcases (by simpa using hb : b = it ∨ b = a) with z | z
    · exact ⟨o, by rw [z]; exact e⟩
    · exact ⟨o2, by rw [z]; exact e2⟩
  fr := fun it i h h' st k => ⟨st.1.at fun o e => k it o e, st.2.at fun o e => k a o e⟩
  lt := by obtain ⟨o, e, _⟩ := p; exact Heap.lt_size e
theorem seq_raw {X : Cx} {pins : List (Addr × Obj)} {σ : L2.St} {H : Hp} {s : Shared} {a : Addr} {xs : List V} (I : L2.Inv X pins σ H s) (h : SqL X.K H a xs ∨ SqT X.K H a xs) : ∃ its o Hh St, Vals xs its ∧ SeqIt a its.toArray s.heap o Hh St ∧ its.length ≤ sizeLine := by
  rcases h with h | h
  · obtain ⟨its, rv, p, hz⟩ := I.list h
    exact ⟨its, _, _, _, rv, seqIt_list p.isList, by rw [← rv.length]; exact hz⟩
  · obtain ⟨its, rv, p, hz⟩ := I.tuple h
    exact ⟨its, _, _, _, rv, seqIt_tuple (show s.heap.IsTuple a its.toArray from p), by rw [← rv.length]; exact hz⟩
def zipK : List L2.Key → List V → List (L2.Key × V)
  | k :: ks, v :: vs => (k, v) :: zipK ks vs
  | _, _ => []
theorem zipK_len : ∀ (ks : List L2.Key) (vs : List V), (zipK ks vs).length = min ks.length vs.length
  | [], _ => by simp [zipK]
  | _ :: _, [] => by simp [zipK]
  | k :: ks, v :: vs => by simp only [zipK, List.length_cons, zipK_len ks vs]; omega
/-- dict(zip(a, b)) -/
def tDictZip (K : PySem.W.Frag) (ta : TA) : TE := fun σ H Q => ta σ H fun vs H1 => ∃ a b ks ys, vs = [.ref a, .ref b] ∧ (SqL K H1 a (ks.map kV) ∨ SqT K H1 a (ks.map kV)) ∧ (SqL K H1 b ys ∨ SqT K H1 b ys) ∧ ∀ p, H1 p = none → Q (.ref p) (upd H1 p (.dK (mergeK [] (zipK ks ys))))
theorem zipKV : ∀ {ks : List L2.Key} {ys : List V} {us ws : List Value}, Vals (ks.map kV) us → Vals ys ws → ∃ rs : List (L2.Key × Value), KV (zipK ks ys) rs ∧ rs.length = min us.length ws.length ∧ ∀ (P : Program) (w : World) (i : Nat) (key v : Value), us[i]? = some key → ws[i]? = some v → ∃ k, rs[i]? = some (k, v) ∧ (mixKind P w).is k key = true
  | [], ys, us, ws, r1, r2 => by
    cases r1
    exact ⟨[], .nil, by simp, fun P w i key v e => by simp at e⟩
  | k :: ks, ys, us, ws, r1, r2 => by
    cases r1 with
    | @cons _ u _ us h1 t1 =>
      cases r2 with
      | nil => exact ⟨[], .nil, by simp, fun P w i key v _ e => by simp at e⟩
      | @cons y u2 ys ws h2 t2 =>
        obtain ⟨rs, r, hl, hp⟩ := zipKV t1 t2
        refine ⟨(k, u2) :: rs, .cons ⟨rfl, h2⟩ r, by simp only [List.length_cons, hl]; omega, fun P w i key v e1 e2 => ?_⟩
        cases i with
        | zero =>
          simp at e1 e2
          subst e1 e2
          exact ⟨k, rfl, kV_is (P := P) (w := w) h1⟩
        | succ i =>
          obtain ⟨k', z1, z2⟩ := hp P w i key v (by simpa using e1) (by simpa using e2)
          exact ⟨k', by simpa using z1, z2⟩
theorem nin2 {c x y : Nat} (h1 : c ≠ x) (h2 : c ≠ y) : c ∉ ([x, y] : List Nat) := by
  simp only [List.mem_cons, List.not_mem_nil, or_false, not_or]
  exact ⟨h1, h2⟩
theorem sep5 (n a b : Nat) (ha : a < n) (hb : b < n) : ZipSep2 (n + 4) (n + 2) (n + 3) n (n + 1) [n, a] [n + 1, b] where
  TIz := by show @Ne Nat _ _; omega
  TOz := by show @Ne Nat _ _; omega
  TITO := by show @Ne Nat _ _; omega
  TIi1 := by show @Ne Nat _ _; omega
  mem1 := List.mem_cons_self
  zf1 := nin2 (by omega) (by omega)
  Tf1 := nin2 (by omega) (by omega)
  TIi2 := by show @Ne Nat _ _; omega
  mem2 := List.mem_cons_self
  zf2 := nin2 (by omega) (by omega)
  Tf2 := nin2 (by omega) (by omega)
  sep1_2 := nin2 (by omega) (by omega)
  sep2_1 := nin2 (by omega) (by omega)
theorem nin4 {n c : Nat} (h : c < n) : c ∉ ([n + 4, n + 3, n, n + 1] : List Nat) := by
  simp only [List.mem_cons, List.not_mem_nil, or_false, not_or]
  omega
theorem pe_dictZip {X : Cx} {e e2 : Expr} {ta : TA} {p p2 pos pos2 : Pos} (hc : X.calm = true) (hg : Gl X "dict") (hm : X.mg "dict" = none) (hg2 : Gl X "zip") (hm2 : X.mg "zip" = none) (ha : PA X [e, e2] ta)
    (hs : starEach [.Call (.Name "zip" p2) [e, e2] [] pos2] X.env = (false, eval (.Call (.Name "zip" p2) [e, e2] [] pos2) X.env) :: starEach [] X.env := by rfl)
    (hs2 : starEach [e, e2] X.env = (false, eval e X.env) :: starEach [e2] X.env := by rfl) (hpl : (backTo pos2 (starEach [e2] X.env)).any (·.1) = false := by rfl) :
    PE X (.Call (.Name "dict" p) [.Call (.Name "zip" p2) [e, e2] [] pos2] [] pos) (tDictZip X.K ta) := by
  refine ⟨fun pins s σ H Q I h => ?_⟩
  refine Call_ (ld_blt I hg hm boot_dict (PyProof.Rows.callWith_type1 (args_cons (Call_ (ld_blt I hg2 hm2 PyProof.Rows.boot_zip (PyProof.Rows.callWith_type1 (thn (ha.run pos2 pins s σ H _ I h) fun us s1 ⟨vs, H1, I1, r1, q1⟩ => ?_) hs2 hpl))) hs) hs rfl))
  obtain ⟨a, b, ks, ys, ex, hqa, hqb, q⟩ := q1
  subst ex
  obtain ⟨u1, u2, rfl, ra, rb⟩ := vals2 r1
  cases ra
  cases rb
  obtain ⟨its, o1, Hh1, St1, rv1, S1, hz1⟩ := seq_raw I1 hqa
  obtain ⟨its2, o2, Hh2, St2, rv2, S2, hz2⟩ := seq_raw I1 hqb
  refine zip_begins2 S1.beg S2.beg S1.now S2.now fun h' hzip hTI hTO hi1 hi2 hsz hk => args_nil ?_
  have la := S1.lt
  have lb := S2.lt
  have S := sep5 s1.heap.objs.size a b la lb
  have n1 : a ≠ s1.heap.objs.size := Nat.ne_of_lt la
  have n2 : b ≠ s1.heap.objs.size + 1 := Nat.ne_of_lt (Nat.lt_succ_of_lt lb)
  have PA := zipArg (prog := X.prog) (w := X.w) S (fun A hA => S1.drw _ _ A _ hA n1) (fun A hA => S2.drw _ _ A _ hA n2) (S1.live _) (S2.live _) (S1.fr _) (S2.fr _)
  obtain ⟨rs, rk, hl, hp⟩ := zipKV rv1 rv2
  have h0 := I1.ok.hd hc
  have keep1 : ∀ b o, s1.heap.get? b = some o → h'.get? b = some o := hk
  have hn : min its.toArray.size its2.toArray.size ≤ sizeLine := by
    have : its.toArray.size = its.length := by simp
    omega
  refine PySem.call_dict_pairs (s := { s1 with heap := h' }) (knd := mixKind X.prog X.w) (kvs := rs) PA h0 ⟨hzip, hTI, ⟨_, _, hTO⟩, S1.st0 _ _ n1 hk hi1, S2.st0 _ _ n2 hk hi2⟩ ⟨by rw [hl]; simp, fun i key v hr => ?_⟩ hn fun h'' tk hd hkk => ?_
  · obtain ⟨hr1, hr2⟩ := hr
    exact hp X.prog X.w i key v (by simpa using hr1) (by simpa using hr2)
  · have hle : s1.heap.objs.size ≤ h'.objs.size := by omega
    have hzk : (mergeK [] (zipK ks ys)).length ≤ sizeLine := by
      have e1 := length_mergeK (zipK ks ys) []
      have e2 : (zipK ks ys).length = rs.length := Paired.length rk
      have e3 : its.toArray.size = its.length := by simp
      have e4 : its2.toArray.size = its2.length := by simp
      rw [List.length_nil] at e1
      rw [e2, hl] at e1
      omega
    have hb : sysModules < s1.heap.objs.size := I1.big
    have hm : (h'.objs.size == sysModules) = false := beq_eq_false_iff_ne.mpr (Nat.ne_of_gt (Nat.lt_of_lt_of_le hb hle))
    refine ⟨.ref h'.objs.size, upd H1 h'.objs.size (.dK (mergeK [] (zipK ks ys))), I1.laid (t' := tk) (fun c o e => hkk c o (nin4 (Heap.lt_size e)) (hk c o e)) hle ⟨hzk, hm, merged [] rs, rk.merge .nil, hd⟩, rfl, q _ (I1.hok.fresh hle)⟩
def mergeP {κ : Type} [DecidableEq κ] (acc : List κ × List P) : List (κ × P) → List κ × List P
  | [] => acc
  | kv :: r => mergeP (putP kv.1 kv.2 acc.1 acc.2) r
theorem mergeP_ok {K : PySem.W.Frag} {cl : String → Option Addr} {H : Hp} {N : Addr → Prop} : ∀ {more : List (L2.Key × V)} {ps : List (L2.Key × P)} {kvs : List (L2.Key × V)} {acc : List L2.Key × List P}, more.map (·.1) = ps.map (·.1) → RPs K cl H N (ps.map (·.2)) (more.map (·.2)) → kvs.map (·.1) = acc.1 → RPs K cl H N acc.2 (kvs.map (·.2)) →
    (mergeK kvs more).map (·.1) = (mergeP acc ps).1 ∧ RPs K cl H N (mergeP acc ps).2 ((mergeK kvs more).map (·.2))
  | [], [], _, _, _, _, h1, h2 => ⟨h1, h2⟩
  | [], _ :: _, _, _, e, _, _, _ => by cases e
  | _ :: _, [], _, _, e, _, _, _ => by cases e
  | (k, v) :: more, (k', x) :: ps, kvs, acc, e, r, h1, h2 => by
    have e1 : k = k' := (List.cons.inj e).1
    have e2 : more.map (·.1) = ps.map (·.1) := (List.cons.inj e).2
    subst e1
    cases r with
    | cons r1 r2 =>
      have z := putP_ok (k := k) r1 h2
      rw [h1] at z
      exact mergeP_ok (kvs := putK kvs k v) (acc := putP k x acc.1 acc.2) e2 r2 z.1 z.2
/-- a list, a tuple -/
def seqP : P → Option (List P)
  | .lst xs => some xs
  | .tup xs => some xs
  | .fz xs => some xs
  | _ => none
theorem seqP_ok {K : PySem.W.Frag} {cl : String → Option Addr} {H : Hp} {N : Addr → Prop} {x : P} {v : V} {xs : List P} (h : RO K cl H N x v) (e : seqP x = some xs) : ∃ a vs, v = .ref a ∧ (SqL K H a vs ∨ SqT K H a vs) ∧ RPs K cl H N xs vs := by
  cases x <;> first | (cases e; done) | skip
  · cases e
    obtain ⟨a, vs, rfl, h1, h2⟩ := h.tup_inv
    exact ⟨a, vs, rfl, .inr (SqT.of h1), h2⟩
  · cases e
    obtain ⟨a, vs, rfl, h1, h2⟩ := h.lst_inv
    exact ⟨a, vs, rfl, .inl (SqL.of h1), h2⟩
  · cases e
    obtain ⟨a, vs, rfl, h1, h2⟩ := h.fz_inv
    exact ⟨a, vs, rfl, .inl h1, h2⟩
/-- what makes a new dict -/
def PrimK (K : PySem.W.Frag) (cl : String → Option Addr) (r : List V → Hp → VK → Prop) (f : List P → Option (List L2.Key × List P)) : Prop :=
  ∀ (ω : Om) (H : Hp) (xs : List P) (zs : List L2.Key × List P) (vs : List V) (Q : VK), Dom ω H → ROs K cl H (Fr ω) xs vs → f xs = some zs → (∀ l kvs, H l = none → kvs.map (·.1) = zs.1 → RPs K cl H (Fr ω) zs.2 (kvs.map (·.2)) → Q (.ref l) (upd H l (.dK kvs))) → r vs H Q
def mPrimK (f : List P → Option (List L2.Key × List P)) (ms : List M) : MF := fun σ => (mAs ms σ).bind fun os σ1 => match (getAll σ1 os).bind f with
  | some zs => .ok (.dK zs.1 zs.2) σ1
  | none => .stuck
theorem tF_primK {g : G} {r : List V → Hp → VK → Prop} {f : List P → Option (List L2.Key × List P)} {ms : List M} (hp : PrimK g.K g.cl r f) (σ : L2.St) (H : Hp) (Q : VK) (h : tF g (mPrimK f ms) σ H Q) : tA g (mAs ms) σ H fun vs H1 => r vs H1 Q := by
  obtain ⟨ω, σD, st, q⟩ := h
  refine ⟨ω, σD, st, q.bind.imp fun os σ1 ω1 H1 s1 st1 q1 vs ov => ?_⟩
  cases e : (getAll σ1 os).bind f with
  | none => rw [e] at q1; exact q1.elim
  | some zs =>
    rw [e] at q1
    obtain ⟨xs, e1, e2⟩ := Option.bind_eq_some_iff.mp e
    exact hp ω1 H1 xs zs vs Q st1.dom (st1.getAll ov e1) e2 fun l kvs hl e r => Post.laid st1 hl rfl q1 fun k => .dK upd_same lay_at e (RPs.imp k r)
/-- dict(zip(a, b)) -/
def zipPs : List L2.Key → List P → List (L2.Key × P)
  | k :: ks, v :: vs => (k, v) :: zipPs ks vs
  | _, _ => []
theorem zipPs_ok {K : PySem.W.Frag} {cl : String → Option Addr} {H : Hp} {N : Addr → Prop} : ∀ {ks : List L2.Key} {ys : List P} {vs : List V}, RPs K cl H N ys vs → (zipK ks vs).map (·.1) = (zipPs ks ys).map (·.1) ∧ RPs K cl H N ((zipPs ks ys).map (·.2)) ((zipK ks vs).map (·.2))
  | [], _, _, _ => ⟨rfl, .nil⟩
  | k :: ks, _, _, .nil => ⟨rfl, .nil⟩
  | k :: ks, _, _, .cons h t => by
    obtain ⟨z1, z2⟩ := zipPs_ok (ks := ks) t
    exact ⟨by simp only [zipK, zipPs, List.map_cons, z1], .cons h z2⟩
def rDictZip (K : PySem.W.Frag) : List V → Hp → VK → Prop := fun vs H1 Q => ∃ a b ks ys, vs = [.ref a, .ref b] ∧ (SqL K H1 a (ks.map kV) ∨ SqT K H1 a (ks.map kV)) ∧ (SqL K H1 b ys ∨ SqT K H1 b ys) ∧ ∀ p, H1 p = none → Q (.ref p) (upd H1 p (.dK (mergeK [] (zipK ks ys))))
def pDictZip : List P → Option (List L2.Key × List P)
  | [x, y] => ((seqP x).bind keysOf).bind fun ks => (seqP y).map fun ys => mergeP ([], []) (zipPs ks ys)
  | _ => none
theorem primK_zip {K : PySem.W.Frag} {cl : String → Option Addr} : PrimK K cl (rDictZip K) pDictZip := by
  intro ω H xs zs vs Q dm hx e q
  match xs, e with
  | [x, y], e =>
    obtain ⟨ks, e1, e2⟩ := Option.bind_eq_some_iff.mp e
    obtain ⟨xs, e3, e4⟩ := Option.bind_eq_some_iff.mp e1
    obtain ⟨ys, e5, rfl⟩ := Option.map_eq_some_iff.mp e2
    obtain ⟨v, w, rfl, hv, hw⟩ := hx.two
    obtain ⟨a, us, rfl, h1, h2⟩ := seqP_ok hv e3
    obtain ⟨b, ws, rfl, h3, h4⟩ := seqP_ok hw e5
    rw [keysOf_ok h2 e4] at h1
    refine ⟨a, b, ks, ws, rfl, h1, h3, fun p hp => ?_⟩
    obtain ⟨z1, z2⟩ := zipPs_ok (ks := ks) h4
    obtain ⟨y1, y2⟩ := mergeP_ok (kvs := []) (acc := ([], [])) z1 z2 rfl .nil
    exact q p _ hp y1 y2
theorem df_dictZip {X : Cx} {g : G} {e : Expr} {ms : List M} (he : PE X e (tDictZip g.K (tA g (mAs ms)))) : PE X e (tF g (mPrimK pDictZip ms)) := pe_weak he fun σ H Q h => tF_primK primK_zip σ H Q h
/-- dict(xs), xs pairs; dict(d) -/
def pairsP : List P → Option (List (L2.Key × P))
  | [] => some []
  | .tup [k, v] :: r => (keyOf k).bind fun k => (pairsP r).map fun ps => (k, v) :: ps
  | _ :: _ => none
def pDictOf : List P → Option (List L2.Key × List P)
  | [.lst xs] => (pairsP xs).map fun ps => mergeP ([], []) ps
  | [.dK ks xs] => some (ks, xs)
  | _ => none
def rDictOf (K : PySem.W.Frag) : List V → Hp → VK → Prop := fun vs H Q => (∃ (a : Addr) (ps : List Addr) (kvs : List (L2.Key × V)), vs = [.ref a] ∧ SqL K H a (ps.map V.ref) ∧ Paired (fun p kv => SqT K H p [kV kv.1, kv.2]) ps kvs ∧ ∀ p, H p = none → Q (.ref p) (upd H p (.dK (mergeK [] kvs)))) ∨
  ∃ (a : Addr) (kvs : List (L2.Key × V)), vs = [.ref a] ∧ L2.Rd H a (.dK kvs) ∧ ∀ p, H p = none → Q (.ref p) (upd H p (.dK kvs))
theorem call_dictOf {X : Cx} (hc : X.calm = true) : CallR X (.type "dict") (rDictOf X.K) := by
  refine CallR.or ?_ ?_
  · intro pins s σ H vs us Q I r h
    exact call_dictP hc pins s σ H vs us Q I r h
  · intro pins s σ H vs us Q I r h
    exact call_dictD pins s σ H vs us Q I r h
theorem pairsP_ok {K : PySem.W.Frag} {cl : String → Option Addr} {H : Hp} {N : Addr → Prop} : ∀ {xs : List P} {vs : List V} {ps : List (L2.Key × P)}, RPs K cl H N xs vs → pairsP xs = some ps →
    ∃ (as : List Addr) (kvs : List (L2.Key × V)), vs = as.map V.ref ∧ Paired (fun p kv => SqT K H p [kV kv.1, kv.2]) as kvs ∧ kvs.map (·.1) = ps.map (·.1) ∧ RPs K cl H N (ps.map (·.2)) (kvs.map (·.2))
  | [], _, _, .nil, e => by cases e; exact ⟨[], [], rfl, .nil, rfl, .nil⟩
  | x :: xs, _, ps, .cons h t, e => by
    unfold pairsP at e
    split at e
    · rename_i z1 z2; cases z2
    · rename_i k y r z1
      cases z1
      obtain ⟨kk, e1, e2⟩ := Option.bind_eq_some_iff.mp e
      obtain ⟨ps', e3, rfl⟩ := Option.map_eq_some_iff.mp e2
      obtain ⟨as, kvs, q1, q2, q3, q4⟩ := pairsP_ok t e3
      cases h with
      | @tup a ws _ h1 h2 =>
        cases h2 with
        | cons h3 h4 =>
          cases h4 with
          | @cons _ v2 _ _ h5 h6 =>
            cases h6
            have ek := keyOf_ok (.p h3) e1
            subst ek
            exact ⟨a :: as, (kk, v2) :: kvs, by simp [q1], .cons (SqT.of h1) q2, by simp [q3], .cons h5 q4⟩
    · cases e
theorem primK_of {K : PySem.W.Frag} {cl : String → Option Addr} : PrimK K cl (rDictOf K) pDictOf := by
  intro ω H xs zs vs Q dm hx e q
  match xs, e with
  | [.lst xs], e =>
    obtain ⟨ps, e1, rfl⟩ := Option.map_eq_some_iff.mp e
    obtain ⟨v, rfl, hv⟩ := hx.one
    obtain ⟨a, us, rfl, h1, h2⟩ := hv.lst_inv
    obtain ⟨as, kvs, rfl, q2, q3, q4⟩ := pairsP_ok h2 e1
    refine .inl ⟨a, as, kvs, rfl, SqL.of h1, q2, fun p hp => ?_⟩
    obtain ⟨y1, y2⟩ := mergeP_ok (kvs := []) (acc := ([], [])) q3 q4 rfl .nil
    exact q p _ hp y1 y2
  | [.dK ks xs], e =>
    cases e
    obtain ⟨v, rfl, hv⟩ := hx.one
    obtain ⟨a, kvs, rfl, h1, h2, h3⟩ := hv.dK_inv
    exact .inr ⟨a, kvs, rfl, h1, fun p hp => q p kvs hp h2 h3⟩
theorem df_dictOf {X : Cx} {g : G} {e : Expr} {ms : List M} (he : PE X e (tCB (rDictOf g.K) (tA g (mAs ms)))) : PE X e (tF g (mPrimK pDictOf ms)) := pe_weak he fun σ H Q h => tF_primK primK_of σ H Q h
end PV

set_option Elab.async false
set_option linter.all false
set_option maxRecDepth 100000
set_option maxHeartbeats 4000000
/-! PvR: dict displays, .get, len(set(..)), min, max, list(range(..)), reversed slices. -/

namespace PV
open PySem PySem.Spec PyProof.Rows L2

/-! ### a thing parked while others are made -/
section
variable {g : G} {ω ω0 : Om} {H H0 : Hp} {σD : Env} {σ : L2.St} {p : Addr} {o : HO}
theorem park (st : Sta g ω H σD σ) (hp : H p = none) (ht : isT o = false) : ∃ ω', Step ω H ω' (upd H p o) ∧ Sta g ω' (upd H p o) σD σ ∧ ω' p = .out := by
  obtain ⟨sl, stl, kl⟩ := lay_new (o := o) st hp ht
  have sr : Step (lay ω p) (upd H p o) (ren (lay ω p) .tmp .out) (upd H p o) := .ren (by intro z; cases z) (by intro z; cases z)
  refine ⟨_, sl.trans sr, ⟨stl.len, fun j d' e => ?_, stl.par, stl.dom.ren (by intro z; cases z)⟩, ren_at lay_at⟩
  obtain ⟨v', e4, r'⟩ := stl.rd j d' e
  exact ⟨v', e4, r'.own (fun a h => ren_free (by intro z; cases z) h) fun a h => ren_ne h (by intro z; cases z)⟩
theorem unpark (d0 : Dom ω0 H0) (s : Step ω0 H0 ω H) (st : Sta g ω H σD σ) (hp : H0 p = none) (ho : ω p = .out) (ht : isT o = false) :
    ∃ ω4, Step ω0 H0 ω4 (upd H p o) ∧ Sta g ω4 (upd H p o) σD σ ∧ ω4 p = .tmp ∧ ∀ x v, RP g.K g.cl H (Fr ω) x v → RP g.K g.cl (upd H p o) (Fr ω4) x v := by
  obtain ⟨st2, k2⟩ := poke (o := o) st ho ht
  have s2 := s.poke (o := o) hp
  let ω4 : Om := fun a => if a = p then .tmp else ω a
  have hf : ∀ a, ω a = .free → ω4 a = .free := fun a h => by
    show (if a = p then Own.tmp else ω a) = _
    rw [if_neg (by rintro rfl; rw [ho] at h; cases h)]; exact h
  have h4 : ∀ a, H0 a ≠ none → ω4 a = ω a := fun a h => by
    show (if a = p then Own.tmp else ω a) = _
    rw [if_neg (by rintro rfl; exact h hp)]
  have nn : ∀ b, ω0 b ≠ .free → H0 b ≠ none := fun b hb => by
    obtain ⟨u, e1, _⟩ := d0.dom b hb
    rw [e1]; intro z; cases z
  refine ⟨ω4, ⟨s2.fr, s2.ot, fun a h => by rw [h4 a (nn a (by rw [h]; intro z; cases z))]; exact s2.out a h, fun a h t => by rw [h4 a t]; exact s2.fz a h t, s2.th⟩, ⟨st2.len, fun j d e => ?_, st2.par, ⟨fun a h => ?_⟩⟩, by show (if p = p then _ else _) = _; rw [if_pos rfl], fun x v r => RP.keep (Keeps.own hf) _ _ (k2 x v r)⟩
  · obtain ⟨v, e1, r⟩ := st2.rd j d e
    exact ⟨v, e1, r.own hf fun a h => by
      show (if a = p then Own.tmp else ω a) = _
      rw [if_neg (by rintro rfl; rw [ho] at h; cases h)]; exact h⟩
  · by_cases ea : a = p
    · subst ea; exact ⟨o, upd_same, ht⟩
    · exact st2.dom.dom a (by
        have : ω4 a = ω a := by show (if a = p then Own.tmp else ω a) = _; rw [if_neg ea]
        rw [← this]; exact h)
/-- one more piece, from a later state; what it gave is known -/
theorem Post.more {α β : Type} {r : R α} {f : α → Env → R β} {K : β → Env → Om → Hp → Prop} (h : Post g ω0 H0 σ (r.bind f) K) (s : Step ω0 H0 ω H) : Post g ω H σ r fun a σD' _ _ => r = .ok a σD' ∧ Post g ω0 H0 σ (f a σD') K := by
  cases r with
  | ok a σD' => exact fun _ _ _ _ => ⟨rfl, h⟩
  | exc c ns vs σD' => exact fun ω' H' C d s2 st x => h ω' H' C d (s.trans s2) st x
  | stuck => exact h
end
/-! ### {"a": x, ..} -/
def mDisp (ks : List L2.Key) (ms : List M) : MF := fun σ => (mAs ms σ).bind fun os σ1 => match pureAll os with
  | some xs => if xs.length ≤ 15 then .ok (.dK (mergeP ([], []) (zipPs ks xs)).1 (mergeP ([], []) (zipPs ks xs)).2) σ1 else .stuck
  | none => .stuck
theorem pairs_run {g : G} {σ : L2.St} {H0 : Hp} {ω0 : Om} {β : Type} {K : β → Env → Om → Hp → Prop} : ∀ {ks : List L2.Key} {ms : List M} {ω : Om} {H : Hp} {σD : Env} {F : List O → Env → R β} {Q : List (V × V) → Hp → Prop}, ks.length = ms.length → Sta g ω H σD σ → Step ω0 H0 ω H → Post g ω0 H0 σ ((mAs ms σD).bind F) K →
    (∀ os vs ω' H' σ', Step ω H ω' H' → Sta g ω' H' σ' σ → OVs g ω' H' σ os vs → vs.length = ks.length → Post g ω0 H0 σ (F os σ') K → Q ((zipK ks vs).map fun kv => (kV kv.1, kv.2)) H') → tPairs ((ks.zip ms).map fun km => (tC (kV km.1), tM g km.2)) σ H Q
  | [], [], ω, H, σD, F, Q, _, st, s, h, q => q [] [] ω H σD .refl st .nil rfl h
  | [], _ :: _, _, _, _, _, _, e, _, _, _, _ => by simp at e
  | _ :: _, [], _, _, _, _, _, e, _, _, _, _ => by simp at e
  | k :: ks, m :: ms, ω, H, σD, F, Q, e, st, s, h, q => by
    have h' : Post g ω0 H0 σ ((m σD).bind fun o σ1 => ((mAs ms σ1).bind fun os σ2 => R.ok (o :: os) σ2).bind F) K := by
      have : (mAs (m :: ms) σD).bind F = (m σD).bind fun o σ1 => ((mAs ms σ1).bind fun os σ2 => R.ok (o :: os) σ2).bind F := by
        show ((m σD).bind fun o σ1 => _).bind F = _
        cases m σD <;> rfl
      rw [← this]; exact h
    show tC (kV k) σ H fun x H1 => tM g m σ H1 fun y H2 => _
    refine ⟨ω, σD, st, (Post.more h' s).imp fun o σ1 ω1 H1 s1 st1 ⟨e1, q1⟩ v ov => ?_⟩
    have q2 : Post g ω0 H0 σ ((mAs ms σ1).bind fun os σ2 => F (o :: os) σ2) K := by
      have : ((mAs ms σ1).bind fun os σ2 => R.ok (o :: os) σ2).bind F = (mAs ms σ1).bind fun os σ2 => F (o :: os) σ2 := by cases mAs ms σ1 <;> rfl
      rw [← this]; exact q1
    exact pairs_run (F := fun os σ2 => F (o :: os) σ2) (by simpa using e) st1 (s.trans s1) q2 fun os vs ω' H' σ' s2 st2 ovs hl h2 => q (o :: os) (v :: vs) ω' H' σ' (s1.trans s2) st2 (.cons (ov.step s2 st1.dom) ovs) (by simp [hl]) h2
theorem zipK_keys : ∀ (ks : List L2.Key) (vs : List V), (zipK ks vs).length ≤ vs.length
  | ks, vs => by rw [zipK_len]; exact Nat.min_le_right _ _
theorem df_disp {X : Cx} {g : G} {e : Expr} {ks : List L2.Key} {ms : List M} (hl : ks.length = ms.length) (he : PE X e (tDisp ((ks.zip ms).map fun km => (tC (kV km.1), tM g km.2)))) : PE X e (tF g (mDisp ks ms)) := pe_weak he fun σ H Q h p hp => by
  obtain ⟨ω, σD, st, q⟩ := h
  obtain ⟨ω1, s1, st1, o1⟩ := park (o := .dK []) st hp rfl
  refine pairs_run hl st1 s1 q fun os vs ω2 H2 σ2 s2 st2 ov hvl h2 => ?_
  have hp2 : H2 p = some (.dK []) := s2.ot p _ upd_same o1
  refine ⟨hp2, zipK ks vs, rfl, ?_⟩
  split at h2
  · rename_i xs ex
    split at h2
    · rename_i hx
      have rp := pureAll_ok ov ex
      obtain ⟨z1, z2⟩ := zipPs_ok (ks := ks) rp
      obtain ⟨ω4, s4, st4, o4, k4⟩ := unpark (o := .dK (mergeK [] (zipK ks vs))) st.dom (s1.trans s2) st2 hp (s2.out p o1) rfl
      obtain ⟨y1, y2⟩ := mergeP_ok (kvs := []) (acc := ([], [])) z1 z2 rfl .nil
      refine ⟨?_, h2 ω4 _ s4 st4 _ (.dK upd_same o4 y1 (RPs.imp k4 y2))⟩
      have := zipK_keys ks vs
      rw [← rp.length] at this
      omega
    · exact h2.elim
  · exact h2.elim
/-! ### d.get(k, x), d.get(k) -/
def isDP : Option P → Bool
  | some (.dK _ _) => true
  | some (.dT _ _) => true
  | _ => false
theorem isDP_ok {K : PySem.W.Frag} {cl : String → Option Addr} {H : Hp} {N : Addr → Prop} {x : P} {v : V} (h : RO K cl H N x v) (e : isDP (some x) = true) : ∃ a, v = .ref a ∧ IsD H a := by
  cases x <;> first | (cases e; done) | skip
  · obtain ⟨a, kvs, rfl, h1, _⟩ := h.dK_inv
    exact ⟨a, rfl, .inl ⟨kvs, h1⟩⟩
  · obtain ⟨a, kvs, rfl, h1, _⟩ := h.dT_inv
    exact ⟨a, rfl, .inr ⟨kvs, h1⟩⟩
def mGet2 (md mk mx : M) : M := fun σ => (md σ).bind fun od σ1 => if isDP (od.get σ1) = true then (mk σ1).bind fun ok σ2 => (mx σ2).bind fun ox σ3 => (match (od.get σ3).bind fun d => (ok.get σ3).bind fun k => pGet? d k with
  | some (some x) => .ok (.v x) σ3
  | some none => .ok ox σ3
  | none => .stuck) else .stuck
theorem de_get2 {X : Cx} {g : G} {e : Expr} {md mk mx : M} (he : PE X e (tDGet2 (tM g md) (tM g mk) (tM g mx))) : PE X e (tM g (mGet2 md mk mx)) := pe_weak he fun σ H Q h => by
  obtain ⟨ω, σD, st, q⟩ := h
  refine ⟨ω, σD, st, q.bind.imp fun od σ1 ω1 H1 s1 st1 q1 vd ovd => ?_⟩
  split at q1
  · rename_i hd
    obtain ⟨x, ex⟩ : ∃ x, od.get σ1 = some x := by
      cases z : od.get σ1 with
      | none => rw [z] at hd; cases hd
      | some x => exact ⟨x, rfl⟩
    rw [ex] at hd
    obtain ⟨a, rfl, da⟩ := isDP_ok (st1.get ovd ex) hd
    refine ⟨a, rfl, da, ω1, σ1, st1, q1.bind.imp fun ok σ2 ω2 H2 s2 st2 q2 vk ovk => ⟨ω2, σ2, st2, q2.bind.imp fun ox σ3 ω3 H3 s3 st3 q3 vx ovx => ?_⟩⟩
    have ovd3 := (ovd.step s2 st1.dom).step s3 st2.dom
    have ovk3 := ovk.step s3 st2.dom
    split at q3
    · rename_i y e
      obtain ⟨d, e1, e⟩ := Option.bind_eq_some_iff.mp e
      obtain ⟨k, e2, e⟩ := Option.bind_eq_some_iff.mp e
      obtain ⟨a', o, ea, dg, z1, z2⟩ := pGet_ok (st3.get ovd3 e1) (st3.get ovk3 e2) e
      cases ea
      obtain ⟨w, rfl, rw'⟩ := z1 y rfl
      exact ⟨some w, dg, Post.ok q3 st3 w (.v rw')⟩
    · rename_i e
      obtain ⟨d, e1, e⟩ := Option.bind_eq_some_iff.mp e
      obtain ⟨k, e2, e⟩ := Option.bind_eq_some_iff.mp e
      obtain ⟨a', o, ea, dg, z1, z2⟩ := pGet_ok (st3.get ovd3 e1) (st3.get ovk3 e2) e
      cases ea
      obtain rfl := z2 rfl
      exact ⟨none, dg, Post.ok q3 st3 vx ovx⟩
    · exact q3.elim
  · exact q1.elim
def mGet1 (md mk : M) : M := fun σ => (md σ).bind fun od σ1 => if isDP (od.get σ1) = true then (mk σ1).bind fun ok σ2 => (match (od.get σ2).bind fun d => (ok.get σ2).bind fun k => pGet? d k with
  | some (some x) => .ok (.v x) σ2
  | some none => .ok (.v .non) σ2
  | none => .stuck) else .stuck
theorem de_get1 {X : Cx} {g : G} {e : Expr} {md mk : M} (he : PE X e (tDGet1 (tM g md) (tM g mk))) : PE X e (tM g (mGet1 md mk)) := pe_weak he fun σ H Q h => by
  obtain ⟨ω, σD, st, q⟩ := h
  refine ⟨ω, σD, st, q.bind.imp fun od σ1 ω1 H1 s1 st1 q1 vd ovd => ?_⟩
  split at q1
  · rename_i hd
    obtain ⟨x, ex⟩ : ∃ x, od.get σ1 = some x := by
      cases z : od.get σ1 with
      | none => rw [z] at hd; cases hd
      | some x => exact ⟨x, rfl⟩
    rw [ex] at hd
    obtain ⟨a, rfl, da⟩ := isDP_ok (st1.get ovd ex) hd
    refine ⟨a, rfl, da, ω1, σ1, st1, q1.bind.imp fun ok σ2 ω2 H2 s2 st2 q2 vk ovk => ?_⟩
    have ovd3 := ovd.step s2 st1.dom
    split at q2
    · rename_i y e
      obtain ⟨d, e1, e⟩ := Option.bind_eq_some_iff.mp e
      obtain ⟨k, e2, e⟩ := Option.bind_eq_some_iff.mp e
      obtain ⟨a', o, ea, dg, z1, z2⟩ := pGet_ok (st2.get ovd3 e1) (st2.get ovk e2) e
      cases ea
      obtain ⟨w, rfl, rw'⟩ := z1 y rfl
      exact ⟨some w, dg, Post.ok q2 st2 w (.v rw')⟩
    · rename_i e
      obtain ⟨d, e1, e⟩ := Option.bind_eq_some_iff.mp e
      obtain ⟨k, e2, e⟩ := Option.bind_eq_some_iff.mp e
      obtain ⟨a', o, ea, dg, z1, z2⟩ := pGet_ok (st2.get ovd3 e1) (st2.get ovk e2) e
      cases ea
      obtain rfl := z2 rfl
      exact ⟨none, dg, Post.ok q2 st2 .non (.v .non)⟩
    · exact q2.elim
  · exact q1.elim
/-! ### len(set(x)) -/
def ddup (ns : List Int) : List Int := ns.foldl step_dedup []
theorem ddup_go (acc ns : List Int) (h : acc.Nodup) : (ns.foldl step_dedup acc).Nodup ∧ ∀ k, k ∈ ns.foldl step_dedup acc ↔ k ∈ acc ∨ k ∈ ns := by
  induction ns generalizing acc with
  | nil => exact ⟨h, fun k => by simp⟩
  | cons n ns ih =>
    rw [List.foldl_cons]
    have e : (step_dedup acc n).Nodup ∧ ∀ k, k ∈ step_dedup acc n ↔ k ∈ acc ∨ k = n := by
      unfold step_dedup
      by_cases hm : acc.any (· == n) = true
      · rw [if_pos hm]
        have hn : n ∈ acc := by
          obtain ⟨x, hx, ex⟩ := List.any_eq_true.mp hm
          rw [← eq_of_beq ex]; exact hx
        exact ⟨h, fun k => ⟨.inl, fun z => z.elim id fun z => z ▸ hn⟩⟩
      · rw [if_neg hm]
        have hn : n ∉ acc := fun z => hm (List.any_eq_true.mpr ⟨n, z, beq_self_eq_true n⟩)
        refine ⟨List.nodup_append.mpr ⟨h, List.nodup_cons.mpr ⟨by simp, List.nodup_nil⟩, fun a ha b hb => ?_⟩, fun k => by simp⟩
        rw [List.mem_singleton.mp hb]
        rintro rfl
        exact hn ha
    obtain ⟨z1, z2⟩ := ih _ e.1
    refine ⟨z1, fun k => ?_⟩
    rw [z2, e.2, List.mem_cons]
    constructor
    · rintro ((h | h) | h)
      · exact .inl h
      · exact .inr (.inl h)
      · exact .inr (.inr h)
    · rintro (h | h | h)
      · exact .inl (.inl h)
      · exact .inl (.inr h)
      · exact .inr h
theorem ddup_nodup (ns : List Int) : (ddup ns).Nodup := (ddup_go [] ns List.nodup_nil).1
theorem ddup_mem (ns : List Int) (k : Int) : k ∈ ddup ns ↔ k ∈ ns := by
  unfold ddup
  rw [(ddup_go [] ns List.nodup_nil).2]; simp
theorem nodup_len {a b : List Int} (ha : a.Nodup) (hb : b.Nodup) (h : ∀ k, k ∈ a ↔ k ∈ b) : a.length = b.length := by
  have p : a.Perm b := (List.perm_ext_iff_of_nodup ha hb).mpr h
  exact p.length_eq
theorem firstMet_all (ns : List Int) : firstMet (fun i => ns.getD i 0) ns.length = ddup ns := by
  unfold firstMet ddup
  congr 1
  apply List.ext_getElem?
  intro j
  rw [List.getElem?_map]
  by_cases h : j < ns.length
  · simp [h, List.getD]
  · rw [List.getElem?_eq_none (by simpa using h), List.getElem?_eq_none (by omega)]; rfl
def tLenSetA (K : PySem.W.Frag) (ta : TE) : TE := fun σ H Q => ta σ H fun x H1 => ∃ (l : Addr) (ns : List Int), x = V.ref l ∧ (SqL K H1 l (ns.map V.int) ∨ SqT K H1 l (ns.map V.int)) ∧ ns.length ≤ 1000 ∧ Q (.int (ddup ns).length) H1
theorem pe_lenSetA {X : Cx} {a : Expr} {ta : TE} {p p2 q pos : Pos} (hc : X.calm = true) (hg : Gl X "len") (hm : X.mg "len" = none) (hg2 : Gl X "set") (hm2 : X.mg "set" = none) (ha : PE X a ta)
    (na : starEach [a] X.env = (false, eval a X.env) :: starEach [] X.env := by rfl) : PE X (.Call (.Name "len" p) [.Call (.Name "set" p2) [a] [] q] [] pos) (tLenSetA X.K ta) := by
  refine ⟨fun pins s σ H Q I h => ?_⟩
  refine Call_ (ld_blt I hg hm PySem.boot_len ?_)
  refine PyProof.Rows.callWith_builtin1 (PyProof.Rows.args_cons ?_ rfl) rfl rfl
  refine Call_ (ld_blt I hg2 hm2 PyProof.Rows.boot_set ?_)
  refine PyProof.Rows.callWith_type1 (PyProof.Rows.args_cons (thn (ha.run pins s σ H _ I h) fun v s1 ⟨x, H1, I1, r1, l, ns, ex, hq, hl, q1⟩ => PyProof.Rows.args_nil ?_) na) na rfl
  subst ex
  cases r1
  rcases hq with hq | hq
  · obtain ⟨its, r, pl, hz⟩ := I1.list hq
    have hlen : its.toArray.size = ns.length := by rw [List.size_toArray, ← r.length, List.length_map]
    refine call_set_list (I1.ok.hd hc) pl.isList (ns := ns) (by simpa using r.ints) (by unfold scanBound; omega) fun h' tk hS hk => ?_
    rw [hlen, firstMet_all] at hS
    refine PyProof.Rows.args_nil ?_
    obtain ⟨o, es, ep, t, ho, hex, hd, _, _, _, hf, hn⟩ := hS
    have I2 : L2.Inv X pins σ H1 { s1 with heap := h', toks := tk } := I1.kept fun b o e => hk b o (Heap.lt_size e) e
    have hle : (ddup ns).length ≤ ns.length := by
      have := firstMet_length_le (fun i => ns.getD i 0) ns.length
      rw [firstMet_all] at this
      exact this
    exact call_len_set ho hex hd hf (by rw [hn]; omega) ⟨.int (ddup ns).length, H1, I2.tok _, ⟨_, by rw [hn]⟩, q1⟩
  · obtain ⟨its, r, pl, hz⟩ := I1.tuple hq
    refine call_set_tupI (E := X.xe) ns (I1.ok.hd hc) (show s1.heap.IsTuple l its.toArray from pl) (by simpa using r.ints) (by unfold scanBound; omega) fun h' tk c hS hcl hk => ?_
    refine PyProof.Rows.args_nil ?_
    obtain ⟨o, es, ep, t, ho, hex, hd, hg1, hnd, hmem, hb, hf, hn, _⟩ := hS
    have I2 : L2.Inv X pins σ H1 { s1 with heap := h', toks := tk } := I1.kept hk
    have e : es.size = (ddup ns).length := by
      have := nodup_len hnd (ddup_nodup ns) fun k => by rw [← hmem k, ddup_mem]; simp
      simpa using this
    exact call_len_set ho hex hd hf (by rw [hn]; omega) ⟨.int (ddup ns).length, H1, I2.tok _, ⟨_, by rw [e]⟩, q1⟩
/-- len(set(x)), x a row of numbers -/
def pLenSet (x : P) : Option P := ((seqP x).bind allI).bind fun ns => if ns.length ≤ 1000 then some (.int (ddup ns).length) else none
theorem de_lenSet {X : Cx} {g : G} {e : Expr} {m : M} (he : PE X e (tLenSetA g.K (tM g m))) : PE X e (tM g (mOp1 pLenSet m)) := pe_weak he fun σ H Q h => by
  obtain ⟨ω, σD, st, q⟩ := h
  refine ⟨ω, σD, st, q.bind.imp fun o σ1 ω1 H1 s1 st1 q1 v ov => ?_⟩
  obtain ⟨z, e, q1⟩ := lift_post q1
  obtain ⟨x, e1, e2⟩ := Option.bind_eq_some_iff.mp e
  obtain ⟨ns, e3, e4⟩ := Option.bind_eq_some_iff.mp e2
  obtain ⟨xs, e5, e6⟩ := Option.bind_eq_some_iff.mp e3
  split at e4
  · rename_i hl
    cases e4
    obtain ⟨a, vs, rfl, h1, h2⟩ := seqP_ok (st1.get ov e1) e5
    obtain rfl := allI_some e6
    obtain rfl := RPs.ints h2
    exact ⟨a, ns, rfl, h1, hl, Post.ok q1 st1 _ (.v (.int _))⟩
  · cases e4
/-! ### min, max of a list of numbers -/
section
variable {K : PySem.W.Frag} {cl : String → Option Addr}
def pMaxL : P → Option P
  | .lst xs => (allI xs).bind fun ns => ns.max?.map P.int
  | .fz xs => (allI xs).bind fun ns => ns.max?.map P.int
  | _ => none
def pMinL : P → Option P
  | .lst xs => (allI xs).bind fun ns => ns.min?.map P.int
  | .fz xs => (allI xs).bind fun ns => ns.min?.map P.int
  | _ => none
theorem max_of {ns : List Int} {m : Int} (h : ns.max? = some m) {Q : Int → Prop} (q : Q m) : 0 < ns.length ∧ ∀ k, k ∈ ns → (∀ y, y ∈ ns → y ≤ k) → Q k := by
  have h1 := List.max?_eq_some_iff.mp h
  refine ⟨List.length_pos_of_mem h1.1, fun k hk hle => ?_⟩
  have : k = m := Int.le_antisymm (h1.2 k hk) (hle m h1.1)
  rw [this]; exact q
theorem min_of {ns : List Int} {m : Int} (h : ns.min? = some m) {Q : Int → Prop} (q : Q m) : 0 < ns.length ∧ ∀ k, k ∈ ns → (∀ y, y ∈ ns → k ≤ y) → Q k := by
  have h1 := List.min?_eq_some_iff.mp h
  refine ⟨List.length_pos_of_mem h1.1, fun k hk hle => ?_⟩
  have : k = m := Int.le_antisymm (hle m h1.1) (h1.2 k hk)
  rw [this]; exact q
theorem prim_maxL : PrimN K cl (rMax K) (pF1 pMaxL) := primN1 fun ω H x z v Q dm hx e q => by
  have go : ∀ xs a vs, v = .ref a → SqL K H a vs → RPs K cl H (Fr ω) xs vs → (allI xs).bind (fun ns => ns.max?.map P.int) = some z → rMax K [v] H Q := fun xs a vs ev h1 h2 e => by
    obtain ⟨ns, e1, e2⟩ := Option.bind_eq_some_iff.mp e
    obtain ⟨m, e3, rfl⟩ := Option.map_eq_some_iff.mp e2
    obtain rfl := allI_some e1
    obtain rfl := RPs.ints h2
    subst ev
    obtain ⟨z1, z2⟩ := max_of e3 (Q := fun m => Q (.int m) H) (q H _ (.refl H) (.int _))
    exact ⟨a, ns, rfl, h1, z1, z2⟩
  cases x <;> first | (cases e; done) | skip
  · obtain ⟨a, vs, ev, h1, h2⟩ := hx.lst_inv
    exact go _ a vs ev (SqL.of h1) h2 e
  · obtain ⟨a, vs, ev, h1, h2⟩ := hx.fz_inv
    exact go _ a vs ev h1 h2 e
theorem prim_minL : PrimN K cl (rMin K) (pF1 pMinL) := primN1 fun ω H x z v Q dm hx e q => by
  have go : ∀ xs a vs, v = .ref a → SqL K H a vs → RPs K cl H (Fr ω) xs vs → (allI xs).bind (fun ns => ns.min?.map P.int) = some z → rMin K [v] H Q := fun xs a vs ev h1 h2 e => by
    obtain ⟨ns, e1, e2⟩ := Option.bind_eq_some_iff.mp e
    obtain ⟨m, e3, rfl⟩ := Option.map_eq_some_iff.mp e2
    obtain rfl := allI_some e1
    obtain rfl := RPs.ints h2
    subst ev
    obtain ⟨z1, z2⟩ := min_of e3 (Q := fun m => Q (.int m) H) (q H _ (.refl H) (.int _))
    exact ⟨a, ns, rfl, h1, z1, z2⟩
  cases x <;> first | (cases e; done) | skip
  · obtain ⟨a, vs, ev, h1, h2⟩ := hx.lst_inv
    exact go _ a vs ev (SqL.of h1) h2 e
  · obtain ⟨a, vs, ev, h1, h2⟩ := hx.fz_inv
    exact go _ a vs ev h1 h2 e
end
/-! ### list(range(..)) -/
theorem rgV_rps {K : PySem.W.Frag} {cl : String → Option Addr} {H : Hp} {N : Addr → Prop} (a b : Int) : RPs K cl H N (rangeP a (b - a).toNat) (rgV a b) := by
  unfold rangeP rgV
  generalize (b - a).toNat = n
  have : ∀ l : List Nat, RPs K cl H N (l.map fun i => P.int (a + (i : Nat))) (l.map fun i => V.int (a + (i : Nat))) := fun l => by
    induction l with
    | nil => exact .nil
    | cons i l ih => exact .cons (.int _) ih
  exact this _
instance (a b : Int) : Decidable (RgOk a b) := by unfold RgOk; infer_instance
def mRgL (ms : List M) : MF := fun σ => (mAs ms σ).bind fun os σ1 => match getAll σ1 os with
  | some [.int j] => if RgOk 0 j then .ok (.lst (rangeP 0 j.toNat)) σ1 else .stuck
  | some [.int i, .int j] => if RgOk i j then .ok (.lst (rangeP i (j - i).toNat)) σ1 else .stuck
  | _ => .stuck
theorem df_rgL1 {X : Cx} {g : G} {e : Expr} {m : M} (he : PE X e (tLstRg (tRg1 (tM g m)))) : PE X e (tF g (mRgL [m])) := pe_weak he fun σ H Q h => by
  obtain ⟨ω, σD, st, q⟩ := h
  have e1 : mRgL [m] σD = (m σD).bind fun o σ1 => (match o.get σ1 with | some (.int j) => if RgOk 0 j then R.ok (D.lst (rangeP 0 j.toNat)) σ1 else .stuck | _ => .stuck) := by
    unfold mRgL mAs
    cases m σD with
    | ok o σ1 =>
      simp only [R.bind_ok, mAs, getAll_cons, getAll_nil]
      cases o.get σ1 with
      | none => rfl
      | some x => cases x <;> rfl
    | exc _ _ _ _ => rfl
    | stuck => rfl
  rw [e1] at q
  refine ⟨ω, σD, st, q.bind.imp fun o σ1 ω1 H1 s1 st1 q1 v ov => ?_⟩
  split at q1
  · rename_i j ej
    split at q1
    · rename_i hr
      refine ⟨j, (st1.get ov ej).int_inv, hr, fun p hp => ?_⟩
      have r := rgV_rps (K := g.K) (cl := g.cl) (H := H1) (N := Fr ω1) 0 j
      rw [Int.sub_zero] at r
      exact Post.laid st1 hp rfl q1 fun k => .lst upd_same lay_at (RPs.imp k r)
    · exact q1.elim
  · exact q1.elim
/-! ### xs[::-1] -/
def pRevL : P → Option P
  | .lst xs => some (.lst xs.reverse)
  | .fz xs => some (.lst xs.reverse)
  | _ => none
theorem de_revL {X : Cx} {g : G} {e : Expr} {m : M} (he : PE X e (tRevL g.K (tM g m))) : PE X e (tM g (mOp1 pRevL m)) := pe_weak he fun σ H Q h => by
  obtain ⟨ω, σD, st, q⟩ := h
  refine ⟨ω, σD, st, q.bind.imp fun o σ1 ω1 H1 s1 st1 q1 v ov => ?_⟩
  obtain ⟨z, e, q1⟩ := lift_post q1
  obtain ⟨x, e1, e2⟩ := Option.bind_eq_some_iff.mp e
  have go : ∀ a vs xs, v = .ref a → SqL g.K H1 a vs → RPs g.K g.cl H1 (Fr ω1) xs vs → z = .lst xs.reverse → ∃ a xs, v = .ref a ∧ SqL g.K H1 a xs ∧ ∀ p, H1 p = none → Q (.ref p) (upd H1 p (.lst xs.reverse)) := fun a vs xs ev h1 h2 ez => by
    subst ez
    refine ⟨a, vs, ev, h1, fun p hp => ?_⟩
    have sm : Same H1 (upd H1 p (.lst vs.reverse)) := Same.new hp
    exact q1 ω1 _ (.same sm) (st1.same sm) _ (.v (.lst upd_same (st1.dom.fresh hp) (RPs.keep (same_keeps sm) _ _ h2.reverse)))
  cases x <;> first | (cases e2; done) | skip
  · cases e2
    obtain ⟨a, vs, ev, h1, h2⟩ := (st1.get ov e1).lst_inv
    exact go a vs _ ev (SqL.of h1) h2 rfl
  · cases e2
    obtain ⟨a, vs, ev, h1, h2⟩ := (st1.get ov e1).fz_inv
    exact go a vs _ ev h1 h2 rfl
end PV

set_option Elab.async false
set_option linter.all false
set_option maxRecDepth 100000
set_option maxHeartbeats 4000000
/-! PvS: comprehensions with two clauses. -/
namespace PV
open PySem L2
theorem wipe_sub {σ : L2.St} {vs vs1 : List Nat} (h : ∀ j ∈ vs1, j ∈ vs) : wipe (wipe σ vs1) vs = wipe σ vs := by
  apply List.ext_getElem?
  intro j
  by_cases hj : j ∈ vs
  · by_cases hl : j < σ.length
    · rw [wipe_in hj (by rw [wipe_length]; exact hl), wipe_in hj hl]
    · rw [List.getElem?_eq_none (by simp only [wipe_length]; omega), List.getElem?_eq_none (by simp only [wipe_length]; omega)]
  · rw [wipe_out hj, wipe_out hj, wipe_out fun z => hj (h j z)]
theorem wipeE_wipeE (τ : Env) (vs : List Nat) : wipeE (wipeE τ vs) vs = wipeE τ vs := by
  have inn : ∀ (l : List Nat) (τ : Env) (j : Nat), j ∈ l → j < τ.length → (wipeE τ l)[j]? = some none := fun l => by
    induction l with
    | nil => intro τ j h; simp at h
    | cons v l ih =>
      intro τ j h hl
      show ((wipeE τ l).set v none)[j]? = _
      by_cases e : v = j
      · subst e
        rw [List.getElem?_set_self (by rw [wipeE_len]; exact hl)]
      · rw [List.getElem?_set_ne e]
        exact ih τ j ((List.mem_cons.mp h).resolve_left fun z => e z.symm) hl
  have out : ∀ (l : List Nat) (τ : Env) (j : Nat), j ∉ l → (wipeE τ l)[j]? = τ[j]? := fun l => by
    induction l with
    | nil => intro τ j _; rfl
    | cons v l ih =>
      intro τ j hn
      simp only [List.mem_cons, not_or] at hn
      show ((wipeE τ l).set v none)[j]? = _
      rw [List.getElem?_set_ne (fun z => hn.1 z.symm)]
      exact ih τ j hn.2
  apply List.ext_getElem?
  intro j
  by_cases hj : j ∈ vs
  · by_cases hl : j < τ.length
    · rw [inn _ _ _ hj (by rw [wipeE_len]; exact hl), inn _ _ _ hj hl]
    · rw [List.getElem?_eq_none (by simp only [wipeE_len]; omega), List.getElem?_eq_none (by simp only [wipeE_len]; omega)]
  · rw [out _ _ _ hj]
theorem Wk.step {ω ω1 ω2 : Om} {H H1 H2 : Hp} (a : Wk ω H ω1 H1) (b : Step ω1 H1 ω2 H2) : Wk ω H ω2 H2 where
  fr := fun x o h w => by
    have h2 := a.fz x w (by rw [h]; intro z; cases z)
    rcases a.fr x o h w with h1 | ⟨h1, od, h3⟩
    · exact b.fr x o h1 h2
    · exact .inr ⟨h1, od, (b.fr x _ h3 h2).of rfl⟩
  fz := fun x h t => b.fz x (a.fz x h t) (by
    intro z
    cases e : H x with
    | none => exact t e
    | some o => rcases a.fr x o e h with h1 | ⟨_, od, h1⟩ <;> (rw [h1] at z; cases z))
section
variable {X : Cx} {g : G}
def cLoop2 (mg : MG) (mt : MT) (mi1 : MI) (mg1 : MG) (mt1 : MT) (me : M) (vs vs1 : List Nat) : List P → List P → Env → R (List P)
  | [], acc, σ => .ok acc σ
  | x :: xs, acc, σ => match mg x σ with
    | some σ1 => (match mt σ1 with
      | .ok b σ2 => if b = true then (match mi1 σ2 with
        | .ok ys σ3 => (match cLoop mg1 mt1 me vs1 ys acc (wipeE σ3 vs1) with
          | .ok acc2 σ4 => cLoop2 mg mt mi1 mg1 mt1 me vs vs1 xs acc2 (wipeE σ4 vs)
          | _ => .stuck)
        | _ => .stuck) else cLoop2 mg mt mi1 mg1 mt1 me vs vs1 xs acc (wipeE σ2 vs)
      | _ => .stuck)
    | none => .stuck
def mCompR2 (vs vs1 : List Nat) (mi : MI) (mg : MG) (mt : MT) (mi1 : MI) (mg1 : MG) (mt1 : MT) (me : M) : Env → R (List P) := fun σ => (mi σ).bind fun xs σ1 => if (vs.all (pureAt σ1)) = true then (match cLoop2 mg mt mi1 mg1 mt1 me vs vs1 xs [] (wipeE σ1 vs) with
  | .ok zs σ2 => .ok zs (backE σ1 vs σ2)
  | _ => .stuck) else .stuck
theorem comp2_core {wi : TI} {S S1 vs vs1 : List Nat} {mi mi1 : MI} {mg mg1 : MG} {mt mt1 : MT} {me : M} {σ : L2.St} {H : Hp} {Q : VK} (hS : ∀ j ∈ S, j ∈ vs) (hS1 : ∀ j ∈ S1, j ∈ vs1) (hvv : ∀ j ∈ vs1, j ∈ vs) (hv : ∀ v ∈ vs, v ∉ g.io) (ω : Om) (σD : Env) (st : Sta g ω H σD σ)
    (h : Post g ω H σ (mCompR2 vs vs1 mi mg mt mi1 mg1 mt1 me σD) fun zs σ2 ω2 H2 => ∀ p us, ω2 p = .tmp → H2 p = some (.lst us) → RPs g.K g.cl H2 (Fr ω2) zs us → Q (.ref p) H2) :
    tLc2 (tI g mi) (tG g.nox S mg) (tT g.nox mt) (tI g.nox mi1) (tG g.nox S1 mg1) (tT g.nox mt1) (tM g.nox me) vs vs1 σ H Q := by
  refine ⟨ω, σD, st, h.bind.imp fun xs σ1 ω1 H1 s1 st1 q1 J ω2 H2 s2 st2 yl D hD => ?_⟩
  have q2 := q1.shift s2
  clear q1
  by_cases hpure : (vs.all (pureAt σ1)) = true
  · simp only [if_pos hpure] at q2
    have hv1 : ∀ v ∈ vs1, v ∉ g.io := fun v z => hv v (hvv v z)
    obtain ⟨ωp, s0, stp, oD0⟩ := park (o := .lst []) st2 hD rfl
    -- what comes at the end
    have fin : ∀ zs (τ : Env) ω3 H3 us, Step ω2 H2 ω3 H3 → Sta g ω3 H3 (wipeE τ vs) (wipe σ vs) → ω3 D = .out → H3 D = some (.lst us) → RPs g.K g.cl H3 (Fr ω3) zs us → (∃ Qr, Post g ω2 H2 σ (.ok zs (backE σ1 vs (wipeE τ vs)) : R (List P)) Qr ∧ Qr = fun zs σ2 ω2 H2 => ∀ p us, ω2 p = .tmp → H2 p = some (.lst us) → RPs g.K g.cl H2 (Fr ω2) zs us → Q (.ref p) H2) → Q (.ref D) H3 := fun zs τ ω3 H3 us s3 st3 o3 h3 r3 ⟨Qr, hq, eq⟩ => by
      subst eq
      obtain ⟨ω4, s4, st4, o4, k4⟩ := unpark (o := .lst us) st2.dom s3 st3 hD o3 rfl
      have eH : upd H3 D (.lst us) = H3 := by
        funext a
        by_cases ea : a = D
        · subst ea; rw [upd_same, h3]
        · rw [upd_ne ea]
      rw [eH] at s4 st4 k4
      refine hq ω4 H3 s4 ⟨?_, fun j d e => ?_, fun i v hi e => st2.par i v hi e, st4.dom⟩ D us o4 h3 (RPs.imp k4 r3)
      · rw [backE_len, wipeE_len]
        have e1 := st3.len
        rw [wipe_length, wipeE_len] at e1
        exact e1
      · rcases backE_get e with ⟨z1, z2⟩ | ⟨z1, z2⟩
        · have hpv := (List.all_eq_true.mp hpure) j z1
          unfold pureAt at hpv
          rw [z2] at hpv
          obtain ⟨v, e1, r⟩ := st2.rd j d z2
          cases d with
          | p x => cases r with | p r => exact ⟨v, e1, .p (s4.rp st2.dom r)⟩
          | _ => cases hpv
        · obtain ⟨v, e1, r⟩ := st4.rd j d z2
          rw [wipe_out z1] at e1
          exact ⟨v, e1, r⟩
    let Inv' : List P → List P → L2.Hp → Prop := fun rest acc H' => ∃ ω' σD' us, Step ω2 H2 ω' H' ∧ Sta g ω' H' (wipeE σD' vs) (wipe σ vs) ∧ ω' D = .out ∧ H' D = some (.lst us) ∧ RPs g.K g.cl H' (Fr ω') acc us ∧ ∃ Qr, Post g ω2 H2 σ (match cLoop2 mg mt mi1 mg1 mt1 me vs vs1 rest acc (wipeE σD' vs) with | .ok zs σ2 => R.ok zs (backE σ1 vs σ2) | _ => R.stuck) Qr ∧ Qr = fun zs σ2 ω2 H2 => ∀ p us, ω2 p = .tmp → H2 p = some (.lst us) → RPs g.K g.cl H2 (Fr ω2) zs us → Q (.ref p) H2
    refine ⟨fun i m H' => m = xs.length - i ∧ i ≤ xs.length ∧ ∃ acc, Inv' (xs.drop i) acc H', ⟨_, rfl, Nat.zero_le _, [], _, σ1, [], s0, stp.wipe hv, oD0, upd_same, .nil, _, by rw [List.drop_zero]; exact q2, rfl⟩, ?_⟩
    rintro i m H' ⟨rfl, hi, acc, ω', σD', us, s', st', oD, hD', racc, Qr, hq, eQ⟩
    obtain ⟨y1, y2⟩ := yl ω' H' s'.wk st'.dom
    by_cases hlt : i < xs.length
    · refine .inr ⟨(y1 i hlt).1, fun H'' => i + 1 ≤ xs.length ∧ ∃ acc, Inv' (xs.drop (i + 1)) acc H'', fun H'' ⟨z1, z2⟩ => ⟨_, by omega, rfl, z1, z2⟩, fun x H3 hy => ?_⟩
      obtain ⟨sm, p, e1, rp⟩ := (y1 i hlt).2 x H3 hy
      have ed : xs.drop i = p :: xs.drop (i + 1) := by
        rw [List.drop_eq_getElem_cons hlt]
        congr 1
        exact (List.getElem?_eq_some_iff.mp e1).2
      rw [ed] at hq
      unfold cLoop2 at hq
      have st3 := (st'.same sm).nox
      have s3 := s'.trans (.same sm)
      have hD3 := sm _ _ hD'
      have racc3 := RPs.keep (same_keeps sm) _ _ racc
      refine ⟨ω', wipeE σD' vs, p, st3, rp, ?_⟩
      cases em : mg p (wipeE σD' vs) with
      | none => simp only [em] at hq; exact hq.elim
      | some σ4 =>
        simp only [em] at hq
        intro ω5 H5 σ5 s5 st5 hl5 hj5
        have sw : wipe σ5 vs = wipe σ vs := wipe_again hl5 hj5 hS
        refine ⟨sw, ω5, σ4, st5, ?_⟩
        cases et : mt σ4 with
        | stuck => simp only [et] at hq; exact hq.elim
        | exc _ _ _ _ => simp only [et] at hq; exact hq.elim
        | ok b σ6 =>
          simp only [et] at hq
          intro ω6 H6 s6 st6
          have s56 := s5.trans s6
          have hD6 : H6 D = some (.lst us) := s56.ot D _ hD3 oD
          have oD6 : ω6 D = .out := s56.out D oD
          have racc6 := s56.rps st3.dom racc3
          have s6' := s3.trans s56
          cases b with
          | false =>
            simp only [Bool.false_eq_true, if_false] at hq ⊢
            refine ⟨hlt, acc, ω6, σ6, us, s6', ?_, oD6, hD6, racc6, Qr, hq, eQ⟩
            rw [← sw]
            exact st6.unnox.wipe hv
          | true =>
            simp only [if_true] at hq ⊢
            refine ⟨ω6, σ6, st6, ?_⟩
            cases ei : mi1 σ6 with
            | stuck => simp only [ei] at hq; exact hq.elim
            | exc _ _ _ _ => simp only [ei] at hq; exact hq.elim
            | ok ys σ7 =>
              simp only [ei] at hq
              intro ω7 H7 s7 st7 J1 ω8 H8 s8 st8 yl1
              have s78 := s7.trans s8
              have s8' := s6'.trans s78
              let Inv1 : List P → List P → L2.Hp → Prop := fun rest acc H' => ∃ ω' σD' us, Step ω2 H2 ω' H' ∧ Wk ω8 H8 ω' H' ∧ Sta g ω' H' (wipeE σD' vs1) (wipe σ5 vs1) ∧ ω' D = .out ∧ H' D = some (.lst us) ∧ RPs g.K g.cl H' (Fr ω') acc us ∧
                ∃ Qr, Post g ω2 H2 σ (match (match cLoop mg1 mt1 me vs1 rest acc (wipeE σD' vs1) with | .ok acc2 σ4 => cLoop2 mg mt mi1 mg1 mt1 me vs vs1 (xs.drop (i + 1)) acc2 (wipeE σ4 vs) | _ => R.stuck) with | .ok zs σ2 => R.ok zs (backE σ1 vs σ2) | _ => R.stuck) Qr ∧ Qr = fun zs σ2 ω2 H2 => ∀ p us, ω2 p = .tmp → H2 p = some (.lst us) → RPs g.K g.cl H2 (Fr ω2) zs us → Q (.ref p) H2
              refine ⟨fun j k H' => k = ys.length - j ∧ j ≤ ys.length ∧ ∃ acc, Inv1 (ys.drop j) acc H', ⟨_, rfl, Nat.zero_le _, acc, ω8, σ7, us, s8', (Step.refl).wk, st8.unnox.wipe hv1, s78.out D oD6, s78.ot D _ hD6 oD6, s78.rps st6.dom racc6, Qr, by rw [List.drop_zero]; exact hq, eQ⟩, ?_⟩
              rintro j k H9 ⟨rfl, hj, acc9, ω9, σ9, us9, s9, s9b, st9, oD9, hD9, racc9, Qr9, hq9, eQ9⟩
              obtain ⟨y3, y4⟩ := yl1 ω9 H9 s9b st9.dom
              by_cases hlt1 : j < ys.length
              · refine .inr ⟨(y3 j hlt1).1, fun H'' => j + 1 ≤ ys.length ∧ ∃ acc, Inv1 (ys.drop (j + 1)) acc H'', fun H'' ⟨z1, z2⟩ => ⟨_, by omega, rfl, z1, z2⟩, fun x1 H10 hy1 => ?_⟩
                obtain ⟨sm1, p1, e3, rp1⟩ := (y3 j hlt1).2 x1 H10 hy1
                have ed1 : ys.drop j = p1 :: ys.drop (j + 1) := by
                  rw [List.drop_eq_getElem_cons hlt1]
                  congr 1
                  exact (List.getElem?_eq_some_iff.mp e3).2
                rw [ed1] at hq9
                unfold cLoop at hq9
                have st10 := (st9.same sm1).nox
                have s10 := s9.trans (.same sm1)
                have s10b := s9b.step (Step.same (ω := ω9) sm1)
                have hD10 := sm1 _ _ hD9
                have racc10 := RPs.keep (same_keeps sm1) _ _ racc9
                refine ⟨ω9, wipeE σ9 vs1, p1, st10, rp1, ?_⟩
                cases em1 : mg1 p1 (wipeE σ9 vs1) with
                | none => simp only [em1] at hq9; exact hq9.elim
                | some σ11 =>
                  simp only [em1] at hq9
                  intro ω12 H12 σ12 s12 st12 hl12 hj12
                  have sw1 : wipe σ12 vs1 = wipe σ5 vs1 := wipe_again hl12 hj12 hS1
                  refine ⟨sw1, ω12, σ11, st12, ?_⟩
                  cases et1 : mt1 σ11 with
                  | stuck => simp only [et1] at hq9; exact hq9.elim
                  | exc _ _ _ _ => simp only [et1] at hq9; exact hq9.elim
                  | ok b1 σ13 =>
                    simp only [et1] at hq9
                    intro ω14 H14 s14 st14
                    have s1214 := s12.trans s14
                    have hD14 : H14 D = some (.lst us9) := s1214.ot D _ hD10 oD9
                    have oD14 : ω14 D = .out := s1214.out D oD9
                    have racc14 := s1214.rps st10.dom racc10
                    have s14' := s10.trans s1214
                    have s14b := s10b.step s1214
                    cases b1 with
                    | false =>
                      simp only [Bool.false_eq_true, if_false] at hq9 ⊢
                      refine ⟨hlt1, acc9, ω14, σ13, us9, s14', s14b, ?_, oD14, hD14, racc14, Qr9, hq9, eQ9⟩
                      rw [← sw1]
                      exact st14.unnox.wipe hv1
                    | true =>
                      simp only [if_true] at hq9 ⊢
                      refine ⟨ω14, σ13, st14, ?_⟩
                      cases ee : me σ13 with
                      | stuck => simp only [ee] at hq9; exact hq9.elim
                      | exc _ _ _ _ => simp only [ee] at hq9; exact hq9.elim
                      | ok o σ15 =>
                        simp only [ee] at hq9
                        intro ω16 H16 s16 st16 vy ovy
                        cases ef : frz o σ15 with
                        | stuck => simp only [ef] at hq9; exact hq9.elim
                        | exc _ _ _ _ => simp only [ef] at hq9; exact hq9.elim
                        | ok y σ17 =>
                          simp only [ef] at hq9
                          obtain ⟨y', σ17', ω17, s17, st17, r17, e17, _⟩ := frz_ok (k := fun _ _ _ _ => True) st16 ovy (by rw [ef]; exact fun _ _ _ _ => trivial)
                          rw [ef] at e17
                          cases e17
                          have s167 := s16.trans s17
                          have hD17 : H16 D = some (.lst us9) := s167.ot D _ hD14 oD14
                          have oD17 : ω17 D = .out := s167.out D oD14
                          have racc17 := s167.rps st14.dom racc14
                          by_cases hsz : acc9.length < sizeLine
                          · rw [if_pos hsz] at hq9
                            obtain ⟨st18, k18⟩ := poke (o := .lst (us9 ++ [vy])) st17 oD17 rfl
                            have hDn8 : H8 D ≠ none := by
                              have := s78.ot D _ hD6 oD6
                              rw [this]; intro z; cases z
                            have sb : Wk ω8 H8 ω17 (upd H16 D (.lst (us9 ++ [vy]))) := by
                              have sb0 := s14b.step s167
                              refine ⟨fun a u h w => ?_, sb0.fz⟩
                              have ne : a ≠ D := by
                                rintro rfl
                                have : ω8 a = .out := s78.out a oD6
                                rw [this] at w; cases w
                              rcases sb0.fr a u h w with z | ⟨z1, od, z2⟩
                              · exact .inl (by rw [upd_ne ne]; exact z)
                              · exact .inr ⟨z1, od, by rw [upd_ne ne]; exact z2⟩
                            refine ⟨us9, hD17, by rw [← racc17.length]; exact hsz, hlt1, acc9 ++ [y], ω17, σ17, us9 ++ [vy], (s14'.trans s167).poke hD, sb, ?_, oD17, upd_same, (RPs.imp k18 racc17).append (.cons (k18 _ _ r17) .nil), Qr9, hq9, eQ9⟩
                            rw [← sw1]
                            exact st18.unnox.wipe hv1
                          · rw [if_neg hsz] at hq9
                            exact hq9.elim
              · have e : j = ys.length := by omega
                subst e
                rw [List.drop_length] at hq9
                unfold cLoop at hq9
                refine .inl ⟨y4, hlt, acc9, ω9, wipeE σ9 vs1, us9, s9, ?_, oD9, hD9, racc9, Qr9, hq9, eQ9⟩
                rw [← sw, ← wipe_sub (σ := σ5) hvv]
                exact st9.wipe hv
    · have e : i = xs.length := by omega
      subst e
      rw [List.drop_length] at hq
      unfold cLoop2 at hq
      exact .inl ⟨y2, fin acc σD' ω' H' us s' st' oD hD' racc ⟨Qr, hq, eQ⟩⟩
  · rw [Bool.not_eq_true] at hpure
    simp only [hpure] at q2
    exact q2.elim
def mComp2 (vs vs1 : List Nat) (mi : MI) (mg : MG) (mt : MT) (mi1 : MI) (mg1 : MG) (mt1 : MT) (me : M) : M := fun σ => (mCompR2 vs vs1 mi mg mt mi1 mg1 mt1 me σ).bind fun zs σ2 => .ok (.v (.lst zs)) σ2
def mCompF2 (vs vs1 : List Nat) (mi : MI) (mg : MG) (mt : MT) (mi1 : MI) (mg1 : MG) (mt1 : MT) (me : M) : MF := fun σ => (mCompR2 vs vs1 mi mg mt mi1 mg1 mt1 me σ).bind fun zs σ2 => .ok (.lst zs) σ2
section
variable {S S1 vs vs1 : List Nat} {mi mi1 : MI} {mg mg1 : MG} {mt mt1 : MT} {me : M}
theorem tM_comp2 (hS : ∀ j ∈ S, j ∈ vs) (hS1 : ∀ j ∈ S1, j ∈ vs1) (hvv : ∀ j ∈ vs1, j ∈ vs) (hv : ∀ v ∈ vs, v ∉ g.io) (σ : L2.St) (H : Hp) (Q : VK) (h : tM g (mComp2 vs vs1 mi mg mt mi1 mg1 mt1 me) σ H Q) :
    tLc2 (tI g mi) (tG g.nox S mg) (tT g.nox mt) (tI g.nox mi1) (tG g.nox S1 mg1) (tT g.nox mt1) (tM g.nox me) vs vs1 σ H Q := by
  obtain ⟨ω, σD, st, q⟩ := h
  refine comp2_core (wi := tI g mi) hS hS1 hvv hv ω σD st (q.bind.imp fun zs σ2 ω2 H2 s2 st2 q2 p us hp hH r => ?_)
  have s3 : Step ω2 H2 (ren ω2 .tmp .free) H2 := .ren (by intro z; cases z) (by intro z; cases z)
  exact q2 _ H2 s3 st2.tmpFree _ (.v (.lst hH (ren_at hp) (s3.rps st2.dom r)))
theorem tF_comp2 (hS : ∀ j ∈ S, j ∈ vs) (hS1 : ∀ j ∈ S1, j ∈ vs1) (hvv : ∀ j ∈ vs1, j ∈ vs) (hv : ∀ v ∈ vs, v ∉ g.io) (σ : L2.St) (H : Hp) (Q : VK) (h : tF g (mCompF2 vs vs1 mi mg mt mi1 mg1 mt1 me) σ H Q) :
    tLc2 (tI g mi) (tG g.nox S mg) (tT g.nox mt) (tI g.nox mi1) (tG g.nox S1 mg1) (tT g.nox mt1) (tM g.nox me) vs vs1 σ H Q := by
  obtain ⟨ω, σD, st, q⟩ := h
  refine comp2_core (wi := tI g mi) hS hS1 hvv hv ω σD st (q.bind.imp fun zs σ2 ω2 H2 s2 st2 q2 p us hp hH r => ?_)
  exact (Post.ok q2 st2) _ (.lst hH hp r)
theorem de_comp2 {e : Expr} (he : PE X e (tLc2 (tI g mi) (tG g.nox S mg) (tT g.nox mt) (tI g.nox mi1) (tG g.nox S1 mg1) (tT g.nox mt1) (tM g.nox me) vs vs1)) (hS : ∀ j ∈ S, j ∈ vs) (hS1 : ∀ j ∈ S1, j ∈ vs1) (hvv : ∀ j ∈ vs1, j ∈ vs) (hv : ∀ v ∈ vs, v ∉ g.io) :
    PE X e (tM g (mComp2 vs vs1 mi mg mt mi1 mg1 mt1 me)) := pe_weak he (tM_comp2 hS hS1 hvv hv)
theorem df_comp2 {e : Expr} (he : PE X e (tLc2 (tI g mi) (tG g.nox S mg) (tT g.nox mt) (tI g.nox mi1) (tG g.nox S1 mg1) (tT g.nox mt1) (tM g.nox me) vs vs1)) (hS : ∀ j ∈ S, j ∈ vs) (hS1 : ∀ j ∈ S1, j ∈ vs1) (hvv : ∀ j ∈ vs1, j ∈ vs) (hv : ∀ v ∈ vs, v ∉ g.io) :
    PE X e (tF g (mCompF2 vs vs1 mi mg mt mi1 mg1 mt1 me)) := pe_weak he (tF_comp2 hS hS1 hvv hv)
theorem ds_setLc2 {i : Nat} {st : Stmt} (hs : PS X st (tAsg (tLc2 (tI g mi) (tG g.nox S mg) (tT g.nox mt) (tI g.nox mi1) (tG g.nox S1 mg1) (tT g.nox mt1) (tM g.nox me) vs vs1) (gName i))) (hio : i ∉ g.io) (hS : ∀ j ∈ S, j ∈ vs) (hS1 : ∀ j ∈ S1, j ∈ vs1) (hvv : ∀ j ∈ vs1, j ∈ vs) (hv : ∀ v ∈ vs, v ∉ g.io) :
    PS X st (tS g (mSet i (mComp2 vs vs1 mi mg mt mi1 mg1 mt1 me))) := ps_weak hs fun D σ H h => by
  obtain ⟨ω, σD, st, q⟩ := h
  refine tM_comp2 hS hS1 hvv hv σ H _ ⟨ω, σD, st, (PostS.of q).imp fun o σ1 ω1 H1 s1 st1 q1 v ov => ?_⟩
  obtain ⟨y, σ2, ω2, s2, st2, r, e, q2⟩ := frz_ok st1 ov (PostS.of q1)
  exact q2 ω2 H1 _ .refl (st2.setP hio r)
theorem ds_setLcF2 {i : Nat} {st : Stmt} (hs : PS X st (tAsg (tLc2 (tI g mi) (tG g.nox S mg) (tT g.nox mt) (tI g.nox mi1) (tG g.nox S1 mg1) (tT g.nox mt1) (tM g.nox me) vs vs1) (gName i))) (hio : i ∉ g.io) (hS : ∀ j ∈ S, j ∈ vs) (hS1 : ∀ j ∈ S1, j ∈ vs1) (hvv : ∀ j ∈ vs1, j ∈ vs) (hv : ∀ v ∈ vs, v ∉ g.io) :
    PS X st (tS g (mSetF i (mCompF2 vs vs1 mi mg mt mi1 mg1 mt1 me))) := ps_weak hs fun D σ H h => by
  obtain ⟨ω, σD, st, q⟩ := h
  refine tF_comp2 hS hS1 hvv hv σ H _ ⟨ω, σD, st, (PostS.of q).imp fun d σ1 ω1 H1 s1 st1 q1 v r => ?_⟩
  exact q1 _ H1 _ (.give i) (st1.setD hio r)
end
end
end PV

set_option Elab.async false
set_option linter.all false
set_option maxRecDepth 100000
set_option maxHeartbeats 4000000
/-! PvT: short words for what the program that prints the walks writes down. -/
namespace PV
open PySem L2
section
variable {X : Cx} {g : G}
/-! ### walked: lists, tuples, dicts -/
def mIter (m : M) : MI := fun σ => (m σ).bind fun o σ1 => (frz o σ1).bind fun x σ2 => match itemsP x with
  | some xs => .ok xs σ2
  | none => .stuck
theorem di_iter {tg l : Expr} {m : M} (hl : PE X l (tM g m)) (hK : g.K = X.K := by rfl) : PI X tg l (tI g (mIter m)) := pi_weak (pi_or (pi_seq hl) (pi_keysL hl)) fun σ H RR h => by
  obtain ⟨ω, σD, st, q⟩ := h
  have q' : Post g ω H σ (m σD) fun o σ1 ω1 H1 => Post g ω1 H1 σ ((frz o σ1).bind fun x σ2 => match itemsP x with | some xs => R.ok xs σ2 | none => .stuck) fun items σ1 ω1 H1 => ∀ J ω2 H2, Step ω1 H1 ω2 H2 → Sta g ω2 H2 σ1 σ → Yld g.K g.cl ω2 H2 J items → RR J H2 := Post.bind q
  cases em : m σD with
  | stuck => rw [em] at q'; exact q'.elim
  | exc c ns vs σ1 => exact .inl ⟨ω, σD, st, by rw [em] at q' ⊢; exact q'⟩
  | ok o σ1 =>
    rw [em] at q'
    by_cases hs : ∃ xs, (∃ x σ2, frz o σ1 = .ok x σ2 ∧ seqP x = some xs)
    · obtain ⟨xs, x0, σ20, ef, es⟩ := hs
      refine .inl ⟨ω, σD, st, by
        rw [em]
        intro ω1 H1 s1 st1 v ov
        obtain ⟨x, σ2, ω2, s2, st2, r, e2, q2⟩ := frz_ok st1 ov (q' ω1 H1 s1 st1).bind
        rw [ef] at e2; cases e2
        rw [← hK]
        cases x0 with
        | lst xs =>
          cases r with
          | lst h1 h2 h3 => exact .inl ⟨_, _, rfl, SqL.of h1, (Post.ok q2 st2) _ ω2 H1 .refl st2 (yld_list h1 rfl (fun H' e => SqL.of e) h2 st2.dom h3)⟩
        | tup xs =>
          cases r with
          | tup h1 h3 => exact .inr ⟨_, _, rfl, SqT.of h1, (Post.ok q2 st2) _ ω2 H1 .refl st2 (yld_tup h1 st2.dom h3)⟩
        | fz xs =>
          cases r with
          | fz h1 h3 => exact .inl ⟨_, _, rfl, h1.sq, (Post.ok q2 st2) _ ω2 H1 .refl st2 (yld_fz h1 st2.dom h3)⟩
        | _ => cases es⟩
    · refine .inr ⟨ω, σD, st, by
        rw [em]
        intro ω1 H1 s1 st1 v ov
        obtain ⟨x, σ2, ω2, s2, st2, r, e2, q2⟩ := frz_ok st1 ov (q' ω1 H1 s1 st1).bind
        cases x with
        | dK ks xs =>
          cases r with
          | @dK a kvs _ _ h1 h2 h0 h3 =>
            subst h0
            refine ⟨a, rfl, .inl ⟨kvs, h1, fun o H2 lk => ?_⟩⟩
            obtain ⟨s3, st3⟩ := lk.step rfl h2 st2
            exact (q2 ω2 H2 s3 st3) _ ω2 H2 .refl st3 (yld_keys lk.at h2)
        | dT ks xs =>
          cases r with
          | @dT a kvs _ _ h1 h2 h0 h3 =>
            subst h0
            refine ⟨a, rfl, .inr ⟨kvs, h1, fun o H2 lk => ?_⟩⟩
            obtain ⟨s3, st3⟩ := lk.step rfl h2 st2
            exact (q2 ω2 H2 s3 st3) _ ω2 H2 .refl st3 (yld_keysT lk.at h2)
        | lst xs => exact absurd ⟨xs, _, _, e2, rfl⟩ hs
        | tup xs => exact absurd ⟨xs, _, _, e2, rfl⟩ hs
        | fz xs => exact absurd ⟨xs, _, _, e2, rfl⟩ hs
        | non => exact q2.elim
        | bl _ => exact q2.elim
        | int _ => exact q2.elim
        | str _ => exact q2.elim
        | ins _ _ _ => exact q2.elim⟩
/-! ### a < b < c -/
def mChain (f f' : P → P → Option P) (a b c : M) : M := fun σ => (a σ).bind fun oa σ1 => (b σ1).bind fun ob σ2 => match (oa.get σ2).bind fun x => (ob.get σ2).bind fun y => f x y with
  | some (.bl true) => (c σ2).bind fun oc σ3 => R.lift σ3 ((ob.get σ3).bind fun y => (oc.get σ3).bind fun z => f' y z)
  | some (.bl false) => .ok (.v (.bl false)) σ2
  | _ => .stuck
theorem tM_chain {r r' : R2} {f f' : P → P → Option P} {a b c : M} (hp : Prim2 g.K g.cl r f) (hp' : Prim2 g.K g.cl r' f') (σ : L2.St) (H : Hp) (Q : VK) (h : tM g (mChain f f' a b c) σ H Q) : tChain r r' (tM g a) (tM g b) (tM g c) σ H Q := by
  obtain ⟨ω, σD, st, q⟩ := h
  refine ⟨ω, σD, st, q.bind.imp fun oa σ1 ω1 H1 s1 st1 q1 va ova => ⟨ω1, σ1, st1, q1.bind.imp fun ob σ2 ω2 H2 s2 st2 q2 vb ovb => ?_⟩⟩
  have hh : ∀ k, ((oa.get σ2).bind fun x => (ob.get σ2).bind fun y => f x y) = some (.bl k) → (∀ H', Same H2 H' → ∃ k', V.bl k = V.bl k' ∧ (if k' = true then tM g c σ H' fun w' H4 => r' vb w' H4 Q else Q (.bl false) H')) →
      r va vb H2 fun z H3 => ∃ k, z = V.bl k ∧ (if k = true then tM g c σ H3 fun w' H4 => r' vb w' H4 Q else Q (.bl false) H3) := fun k e z => by
    obtain ⟨x, e1, e⟩ := Option.bind_eq_some_iff.mp e
    obtain ⟨y, e2, e⟩ := Option.bind_eq_some_iff.mp e
    refine hp ω2 H2 x y _ va vb _ st2.dom (st2.get (ova.step s2 st1.dom) e1) (st2.get ovb e2) e fun H' u sm rz => ?_
    cases rz
    exact z H' sm
  split at q2
  · rename_i e
    refine hh true e fun H' sm => ⟨true, rfl, ?_⟩
    simp only [if_true]
    have st2' := st2.same sm
    refine ⟨ω2, σ2, st2', (q2.shift (.same sm)).bind.imp fun oc σ3 ω3 H3 s3 st3 q3 vc ovc => ?_⟩
    obtain ⟨z, e, q3⟩ := lift_post q3
    obtain ⟨x, e1, e⟩ := Option.bind_eq_some_iff.mp e
    obtain ⟨y, e2, e⟩ := Option.bind_eq_some_iff.mp e
    refine hp' ω3 H3 x y z vb vc Q st3.dom (st3.get ((ovb.step (.same sm) st2.dom).step s3 st2'.dom) e1) (st3.get ovc e2) e fun H' u sm rz => ?_
    exact q3 ω3 H' (.same sm) (st3.same sm) u (.v rz)
  · rename_i e
    refine hh false e fun H' sm => ⟨false, rfl, ?_⟩
    simp only [Bool.false_eq_true, if_false]
    exact q2 ω2 H' (.same sm) (st2.same sm) _ (.v (.bl false))
  · exact q2.elim
theorem de_chain {op op' : CmpOp} {r r' : R2} {f f' : P → P → Option P} {a b c : Expr} {ma mb mc : M} {pos : Pos} (ho : OpR X (compareOp op) r) (hp : Prim2 g.K g.cl r f) (ho' : OpR X (compareOp op') r') (hp' : Prim2 g.K g.cl r' f') (ha : PE X a (tM g ma)) (hb : PE X b (tM g mb)) (hc : PE X c (tM g mc))
    (hm : lastMarks [op, op'] [b, c] = false := by with_unfolding_all rfl) : PE X (.Compare a [op, op'] [b, c] pos) (tM g (mChain f f' ma mb mc)) := pe_weak (pe_chain ho ho' ha hb hc hm) (tM_chain hp hp')
theorem dt_chain {op op' : CmpOp} {r r' : R2} {f f' : P → P → Option P} {a b c : Expr} {ma mb mc : M} {pos : Pos} (ho : OpR X (compareOp op) r) (hp : Prim2 g.K g.cl r f) (ho' : OpR X (compareOp op') r') (hp' : Prim2 g.K g.cl r' f') (ha : PE X a (tM g ma)) (hb : PE X b (tM g mb)) (hc : PE X c (tM g mc))
    (hm : lastMarks [op, op'] [b, c] = false := by with_unfolding_all rfl) : PT X (.Compare a [op, op'] [b, c] pos) (tT g (mTe (mChain f f' ma mb mc))) := pt_weak (pt_chain ho ho' ha hb hc hm) fun σ H Q h => by
  have q := tT_e σ H Q h
  exact tM_chain hp hp' σ H _ q
/-! ### numbers -/
abbrev pLt : P → P → Option P := pI fun i j => some (.bl (decide (i < j)))
abbrev pLe : P → P → Option P := pI fun i j => some (.bl (decide (i ≤ j)))
abbrev pGt : P → P → Option P := pI fun i j => some (.bl (decide (j < i)))
abbrev pGe : P → P → Option P := pI fun i j => some (.bl (decide (j ≤ i)))
abbrev pMinus : P → P → Option P := pI fun i j => some (.int (i - j))
abbrev pMod : P → P → Option P := pI fun i j => if 0 < j then some (.int (i % j)) else none
abbrev pDiv : P → P → Option P := pI fun i j => if CDivW i j then some (.int (i / j)) else none
abbrev pPow : P → P → Option P := pI fun i j => if CPow i j then some (.int (i ^ j.toNat)) else none
/-! ### a new list: x + y -/
theorem df_add {a b : Expr} {ma mb : M} {pos : Pos} (ha : PE X a (tM g ma)) (hb : PE X b (tM g mb)) (hK : g.K = X.K := by rfl) : PE X (.BinOp a .Add b pos) (tF g (mOpF pAdd ma mb)) :=
  pe_weak (pe_op op_addA ha hb) fun σ H Q h => by
    obtain ⟨ω, σD, st, q⟩ := h
    refine ⟨ω, σD, st, q.bind.imp fun oa σ1 ω1 H1 s1 st1 q1 va ova => ⟨ω1, σ1, st1, q1.bind.imp fun ob σ2 ω2 H2 s2 st2 q2 vb ovb => ?_⟩⟩
    split at q2
    · rename_i zs e
      obtain ⟨x, e1, e⟩ := Option.bind_eq_some_iff.mp e
      obtain ⟨y, e2, e⟩ := Option.bind_eq_some_iff.mp e
      have hx := st2.get (ova.step s2 st1.dom) e1
      have hy := st2.get ovb e2
      cases x <;> cases y <;> first | (cases e; done) | (dsimp only [pAdd] at e; split at e <;> cases e; done) | skip
      obtain ⟨l, vs, rfl, h1, h2⟩ := hx.lst_inv
      obtain ⟨l', us, rfl, h3, h4⟩ := hy.lst_inv
      dsimp only [pAdd] at e
      split at e
      · rename_i hc
        cases e
        refine .inr (.inr (.inl ⟨l, l', vs, us, rfl, rfl, h1, h3, by rw [← h2.length, ← h4.length]; exact hc, fun p hp => ?_⟩))
        exact Post.laid st2 hp rfl q2 fun k => .lst upd_same lay_at (RPs.imp k (h2.append h4))
      · cases e
    · exact q2.elim
/-! ### isinstance(x, T), isinstance(x, (T, U)) -/
theorem de_isT {e : Expr} {m : M} {T : String} {x : Str} {p p2 pos : Pos} (hg : Gl X "isinstance") (hm : X.mg "isinstance" = none) (hgT : Gl X x) (hmT : X.mg x = none) (he : PE X e (tM g m)) (hv : bootBuiltins x = some (.type T) := by rfl) (hT : T ∈ tyAsked := by decide) (hK : g.K = X.K := by rfl) (hn : x ≠ "__name__" := by decide) (hd : (x == ("__debug__" : Str)) = false := by decide)
    (hs : starEach [e, .Name x p2] X.env = (false, eval e X.env) :: starEach [.Name x p2] X.env := by rfl) (hs2 : starEach [.Name x p2] X.env = (false, eval (.Name x p2) X.env) :: starEach [] X.env := by rfl) (hpl : (backTo pos (starEach [.Name x p2] X.env)).any (·.1) = false := by rfl) :
    PE X (.Call (.Name "isinstance" p) [e, .Name x p2] [] pos) (tM g (mOp1 (pIs (isTy T)) m)) :=
  de_isi (isTy_ok hT) (.ty T) (pe_callB call_isi hg hm (by rfl) (pa_cons he (pa_cons (pe_bltn hgT hmT hv rfl hn hd) pa_nil hs2) hs) (by decide) (by decide) hs hpl) hK
theorem de_isT2 {e : Expr} {m : M} {T U : String} {x y : Str} {k : Nat} {p p2 p3 pt pos : Pos} (hg : Gl X "isinstance") (hm : X.mg "isinstance" = none) (hgT : Gl X x) (hmT : X.mg x = none) (hgU : Gl X y) (hmU : X.mg y = none) (he : PE X e (tM g m)) (hv : bootBuiltins x = some (.type T) := by rfl) (hv2 : bootBuiltins y = some (.type U) := by rfl) (hT : T ∈ tyAsked := by decide) (hU : U ∈ tyAsked := by decide) (hK : g.K = X.K := by rfl)
    (hn : x ≠ "__name__" := by decide) (hd : (x == ("__debug__" : Str)) = false := by decide) (hn2 : y ≠ "__name__" := by decide) (hd2 : (y == ("__debug__" : Str)) = false := by decide)
    (hs : starEach [e, .Tuple [.Name x p2, .Name y p3] k pt] X.env = (false, eval e X.env) :: starEach [.Tuple [.Name x p2, .Name y p3] k pt] X.env := by rfl) (hs2 : starEach [.Tuple [.Name x p2, .Name y p3] k pt] X.env = (false, eval (.Tuple [.Name x p2, .Name y p3] k pt) X.env) :: starEach [] X.env := by rfl) (hpl : (backTo pos (starEach [.Tuple [.Name x p2, .Name y p3] k pt] X.env)).any (·.1) = false := by rfl)
    (hs3 : starEach [.Name x p2, .Name y p3] X.env = (false, eval (.Name x p2) X.env) :: starEach [.Name y p3] X.env := by rfl) (hs4 : starEach [.Name y p3] X.env = (false, eval (.Name y p3) X.env) :: starEach [] X.env := by rfl) :
    PE X (.Call (.Name "isinstance" p) [e, .Tuple [.Name x p2, .Name y p3] k pt] [] pos) (tM g (mOp1 (pIs2 (isTy T) (isTy U)) m)) :=
  de_isi2 hT hU (pe_callB call_isiT hg hm (by rfl) (pa_cons he (pa_cons (pe_tup (pa_cons (pe_bltn hgT hmT hv rfl hn hd) (pa_cons (pe_bltn hgU hmU hv2 rfl hn2 hd2) pa_nil hs4) hs3)) pa_nil hs2) hs) (by decide) (by decide) hs hpl) hK
end
/-- a new thing handed on as data -/
def mFz (m : MF) : M := fun σ => (m σ).bind fun d σ2 => .ok (.v d.view) σ2
theorem de_fz {X : Cx} {g : G} {e : Expr} {m : MF} (he : PE X e (tF g m)) : PE X e (tM g (mFz m)) := de_frz he
abbrev fL (f : List P → Option (List P)) : List P → Option P := fun xs => (f xs).map P.lst
/-! ### defs -/
section
variable {P : Program} {w : World} {K : PySem.W.Frag} {mg : Str → Option Value} {base : Heap} {cl : String → Option Addr}
theorem callee_of {x : Str} {k np nl : Nat} {io : List Nat} {body : MS} {a : Addr} {fd : FuncData} {ps : List Str} (F : FnOk P w K mg base (L2.CX P w) k a fd ps (spOf K cl np (fnOf np nl io body))) (hm : mg x = some (.ref a)) (kp : PySem.W.keepIn K (.ref a) = true) (hb : Binds K fd ps []) : Callee P w K mg base cl x k np (fnOf np nl io body) :=
  ⟨⟨a, fd, ps, F, hm, kp, hb⟩, fun _ _ _ h => fnOf_fin h, fun _ _ _ _ _ h => fnOf_fin' h⟩
theorem callee_up {x : Str} {j k np : Nat} {f : FS} (F : Callee P w K mg base cl x j np f) (h : j ≤ k) : Callee P w K mg base cl x k np f := by
  obtain ⟨⟨a, fd, ps, F1, h1, h2, h3⟩, hf, hf'⟩ := F
  exact ⟨⟨a, fd, ps, F1.mono h, h1, h2, h3⟩, hf, hf'⟩
theorem maker_of {x : Str} {c : String} {k np nl : Nat} {io : List Nat} {body : MS} {C a : Addr} {fd : FuncData} {ps : List Str} (M : Mk K C a) (F : FnOk P w K mg base (L2.CX P w) k a fd ps (spOf K cl (np + 1) (fnOf (np + 1) nl io body))) (hm : mg x = some (.ref C)) (hc : cl c = some C) (hb : Binds K fd ps []) : Maker P w K mg base cl x c k np (fnOf (np + 1) nl io body) :=
  ⟨⟨C, a, fd, ps, M, F, hm, hc, hb⟩, fun _ _ _ h => fnOf_fin h, fun _ _ _ _ _ h => fnOf_fin' h⟩
/-- nothing is promised of it -/
theorem fn_none {x qual : Str} {st : Stmt} {f : Addr} {fd : FuncData} {N ps : List Str} {k np : Nat} (F : Fun K x qual st f fd) (S : FnScope N ps (defScope st)) : FnOk P w K mg base (L2.CX P w) (k + 1) f fd ps (spOf K cl np fun _ => .stuck) :=
  F.okX S (fun vs H Q E ⟨_, _, _, _, _, _, z⟩ => z.elim) fun cdv A outer s H vs Q E hr ⟨_, _, _, _, _, _, z⟩ => z.elim
end
end PV

set_option Elab.async false
set_option linter.all false
set_option maxRecDepth 100000
set_option maxHeartbeats 4000000
/-! PvU: from the law's meaning to its promise. -/
namespace PV
open PySem L2
def spTrue (K : PySem.W.Frag) : Sp := fun vs H Q _ => ∃ (a : Addr) (ns : List Int), vs = [.ref a] ∧ SqL K H a (ns.map V.int) ∧ ns.length ≤ 63 ∧ Only H ∧ ∀ H', Q (.bl true) H'
theorem sp_true {K : PySem.W.Frag} {cl : String → Option Addr} {f : FS} (hf : ∀ ns : List Int, ns.length ≤ 63 → ∃ fin, f [.p (.fz (ns.map .int))] = .ok (.p (.bl true)) fin) (vs : List V) (H : Hp) (Q : VK) (E : XK) (h : spTrue K vs H Q E) : spOf K cl 1 f vs H Q E := by
  obtain ⟨a, ns, rfl, hs, hl, ho, q⟩ := h
  obtain ⟨fin, e⟩ := hf ns hl
  have hz : SqZ K H (Fr fun _ => .free) a (ns.map V.int) := by
    rcases hs with (hs | ⟨o, hs⟩) | hs
    · rcases ho a with z | ⟨o, xs, z⟩ <;> (rw [hs] at z; cases z)
    · exact .inl ⟨o, hs, rfl⟩
    · exact .inr hs
  refine ⟨fun _ => .free, [.p (.fz (ns.map .int))], rfl, rfl, fun j d v e1 e2 => ?_, ⟨fun b hb => absurd rfl hb⟩, ?_⟩
  · match j with
    | 0 =>
      simp at e1 e2
      subst e1; subst e2
      exact .p (.fz hz (RPs.of_ints ns))
    | j + 1 => simp at e1
  · rw [e]
    intro ω' H' v _ _ _ r
    cases r with
    | p r => cases r; exact q H'
theorem walk63 {l : PySem.W.OpenLaw} {k : Nat} {x : Str} {q : Program} {loose : List Str} {XP : (Str → Option Value) → Heap → Prop} {YP : World → Heap → Prop} {d : DefRec} {K : Params → PySem.W.Frag} (hn : l.most = some 63) (hdf : d.params.defaults = []) (hr : Room k callerA)
    (hY : ∀ (w : World) (h : Heap), YP w h → (K w.params).In h)
    (F : ∀ (w : World) (mg : Str → Option Value) (fa : Addr) (h : Heap), (K w.params).In h → h.Ns mainGlobals mg → mg d.name = some (.ref fa) →
      ∃ fd : FuncData, (∀ (s : Shared) (u : Value), BindsTo s fd ⟨[u], []⟩ [(x, u)]) ∧ ∀ base : Heap, (K w.params).In base → base.Ns mainGlobals mg → FnOk l.prog w (K w.params) mg base (L2.CX l.prog w) k fa fd [x] (spTrue (K w.params))) :
    PySem.W.WalkO q loose XP YP l.row.toRowW d [] (fun f vs => PySem.call f vs) :=
  L2.walk_of (n := 63) (k := k) (x := x) (CX := fun w => L2.CX l.prog w) (sp := fun w => spTrue (K w.params)) hn (by decide) hdf hr hY F (fun _ _ a ns hl ho hS => ⟨a, ns, rfl, hS, hl, ho, fun _ => rfl⟩) fun _ _ _ _ _ h => by
    obtain ⟨_, _, _, _, _, _, _, _, _, _, _, _, z⟩ := h
    exact z
end PV

set_option Elab.async false
set_option linter.all false
set_option maxRecDepth 100000
set_option maxHeartbeats 4000000
/-! PvV: the meanings computed: what simp may unfold; loops and comprehensions by what they do. -/
namespace PV
open PySem (Str)
section
variable (σ : Env)
theorem q_C (x : P) : mC x σ = .ok (.v x) σ := rfl
theorem q_V (i : Nat) : mV i σ = (match σ[i]? with | some (some (.p x)) => .ok (.v x) σ | some (some _) => .ok (.at i) σ | _ => .stuck) := rfl
theorem q_op1 (f : P → Option P) (a : M) : mOp1 f a σ = (a σ).bind fun oa σ1 => R.lift σ1 ((oa.get σ1).bind f) := rfl
theorem q_op2 (f : P → P → Option P) (a b : M) : mOp2 f a b σ = (a σ).bind fun oa σ1 => (b σ1).bind fun ob σ2 => R.lift σ2 ((oa.get σ2).bind fun x => (ob.get σ2).bind fun y => f x y) := rfl
theorem q_as0 : mAs [] σ = .ok [] σ := rfl
theorem q_as (m : M) (ms : List M) : mAs (m :: ms) σ = (m σ).bind fun o σ1 => (mAs ms σ1).bind fun os σ2 => .ok (o :: os) σ2 := rfl
theorem q_prim (f : List P → Option P) (ms : List M) : mPrim f ms σ = (mAs ms σ).bind fun os σ1 => R.lift σ1 ((getAll σ1 os).bind f) := rfl
theorem q_lift0 : R.lift σ none = .stuck := rfl
theorem q_tup (ms : List M) : mTup ms σ = (mAs ms σ).bind fun os σ1 => R.lift σ1 ((pureAll os).bind fun xs => if xs.length ≤ PySem.sizeLine then some (.tup xs) else none) := rfl
theorem q_lst (ms : List M) : mLst ms σ = (mAs ms σ).bind fun os σ1 => R.lift σ1 ((pureAll os).bind fun xs => if xs.length ≤ PySem.sizeLine then some (.lst xs) else none) := rfl
theorem q_Te (m : M) : mTe m σ = (m σ).bind fun o σ1 => match o.get σ1 with | some (.bl b) => .ok b σ1 | _ => .stuck := rfl
theorem q_NotT (m : MT) : mNotT m σ = (m σ).bind fun b σ1 => .ok (!b) σ1 := rfl
theorem q_AndT (a b : MT) : mAndT a b σ = (a σ).bind fun x σ1 => if x = true then b σ1 else .ok false σ1 := rfl
theorem q_OrT (a b : MT) : mOrT a b σ = (a σ).bind fun x σ1 => if x = true then .ok true σ1 else b σ1 := rfl
theorem q_AndV (a b : M) : mAndV a b σ = (mTe a σ).bind fun x σ1 => if x = true then b σ1 else .ok (.v (.bl false)) σ1 := rfl
theorem q_OrV (a b : M) : mOrV a b σ = (mTe a σ).bind fun x σ1 => if x = true then .ok (.v (.bl true)) σ1 else b σ1 := rfl
theorem q_NotV (a : M) : mNotV a σ = (mTe a σ).bind fun x σ1 => .ok (.v (.bl (!x))) σ1 := rfl
theorem q_IfE (c : MT) (a b : M) : mIfE c a b σ = (c σ).bind fun x σ1 => if x = true then a σ1 else b σ1 := rfl
theorem q_frzv (x : P) : frz (.v x) σ = .ok x σ := rfl
theorem q_frza (i : Nat) : frz (.at i) σ = (match σ[i]? with | some (some (.lk _)) => .stuck | some (some d) => .ok d.view (σ.set i (some (.p d.view))) | _ => .stuck) := rfl
theorem q_Nil : mNil σ = .next σ := rfl
theorem q_Seq (a b : MS) : mSeq a b σ = (match a σ with | .next σ1 => b σ1 | r => r) := rfl
theorem q_Break : mBreak σ = .brk σ := rfl
theorem q_Cont : mCont σ = .cont σ := rfl
theorem q_Drop (m : M) : mDrop m σ = (m σ).toS fun _ σ1 => .next σ1 := rfl
theorem q_Ret (m : M) : mRet m σ = (m σ).toS fun o σ1 => (frz o σ1).toS fun x σ2 => .ret (.p x) σ2 := rfl
theorem q_RetN : mRetN σ = .ret (.p .non) σ := rfl
theorem q_If (c : MT) (a b : MS) : mIf c a b σ = (c σ).toS fun x σ1 => if x = true then a σ1 else b σ1 := rfl
theorem q_Set (i : Nat) (m : M) : mSet i m σ = (m σ).toS fun o σ1 => (frz o σ1).toS fun x σ2 => .next (σ2.set i (some (.p x))) := rfl
theorem q_SetF (i : Nat) (m : MF) : mSetF i m σ = (m σ).toS fun d σ1 => .next (σ1.set i (some d)) := rfl
theorem q_RetF (m : MF) : mRetF m σ = (m σ).toS fun d σ1 => .ret d σ1 := rfl
theorem q_For (mi : MI) (mg : MG) (mb : MS) : mFor mi mg mb σ = (mi σ).toS fun xs σ1 => loop mg mb xs σ1 := rfl
theorem q_Iter (m : M) : mIter m σ = (m σ).bind fun o σ1 => (frz o σ1).bind fun x σ2 => match itemsP x with | some xs => .ok xs σ2 | none => .stuck := rfl
theorem q_Enum (m : M) : mEnum m σ = (mAs [m] σ).bind fun os σ1 => (frzAll os σ1).bind fun xs σ2 => match xs with | [.lst ys] => .ok (enumP 0 ys) σ2 | [.tup ys] => .ok (enumP 0 ys) σ2 | [.fz ys] => .ok (enumP 0 ys) σ2 | _ => .stuck := rfl
theorem q_frzAll0 : frzAll [] σ = .ok [] σ := rfl
theorem q_frzAll (o : O) (os : List O) : frzAll (o :: os) σ = (frz o σ).bind fun x σ1 => (frzAll os σ1).bind fun xs σ2 => .ok (x :: xs) σ2 := rfl
theorem q_Rg1 (m : M) : mRg1 m σ = (mAs [m] σ).bind fun os σ1 => match getAll σ1 os with | some [.int j] => if -(2 ^ 62) ≤ j ∧ j < 2 ^ 62 then .ok (rangeP 0 j.toNat) σ1 else .stuck | _ => .stuck := rfl
theorem q_Rg2 (a b : M) : mRg2 a b σ = (mAs [a, b] σ).bind fun os σ1 => match getAll σ1 os with | some [.int i, .int j] => if -(2 ^ 62) ≤ i ∧ i < 2 ^ 62 ∧ -(2 ^ 62) ≤ j ∧ j < 2 ^ 62 then .ok (rangeP i (j - i).toNat) σ1 else .stuck | _ => .stuck := rfl
theorem q_RgL (ms : List M) : mRgL ms σ = (mAs ms σ).bind fun os σ1 => match getAll σ1 os with | some [.int j] => if L2.RgOk 0 j then .ok (.lst (rangeP 0 j.toNat)) σ1 else .stuck | some [.int i, .int j] => if L2.RgOk i j then .ok (.lst (rangeP i (j - i).toNat)) σ1 else .stuck | _ => .stuck := rfl
theorem q_Call (f : FS) (ms : List M) : mCall f ms σ = (mAs ms σ).bind fun os σ1 => (PV.callEnd σ1 os f).bind fun d σ2 => .ok (.v d.view) σ2 := rfl
theorem q_CallF (f : FS) (ms : List M) : mCallF f ms σ = (mAs ms σ).bind fun os σ1 => PV.callEnd σ1 os f := rfl
theorem q_callEnd (os : List O) (f : FS) : PV.callEnd σ os f = (match takeAll σ os with
  | some ds => if once os = true then (match f ds with
    | .ok d fin => .ok d (giveBack σ os fin)
    | .exc c ns vs fin => .exc c ns vs (giveBack σ os fin)
    | .stuck => .stuck) else .stuck
  | none => .stuck) := rfl
@[simp] theorem q_take0 : takeAll σ [] = some [] := rfl
@[simp] theorem q_takev (x : P) (os : List O) : takeAll σ (.v x :: os) = (takeAll σ os).bind fun ds => some (.p x :: ds) := rfl
@[simp] theorem q_takea (i : Nat) (os : List O) : takeAll σ (.at i :: os) = (match σ[i]? with | some (some d) => (takeAll σ os).bind fun ds => some (d :: ds) | _ => none) := rfl
@[simp] theorem q_give0 (ds : List D) : giveBack σ [] ds = σ := by cases ds <;> rfl
@[simp] theorem q_givev (x : P) (d : D) (os : List O) (ds : List D) : giveBack σ (.v x :: os) (d :: ds) = giveBack σ os ds := rfl
@[simp] theorem q_givea (i : Nat) (d : D) (os : List O) (ds : List D) : giveBack σ (.at i :: os) (d :: ds) = (giveBack σ os ds).set i (some d) := rfl
@[simp] theorem q_once0 : once [] = true := rfl
@[simp] theorem q_oncev (x : P) (os : List O) : once (.v x :: os) = once os := rfl
@[simp] theorem q_oncea (i : Nat) (os : List O) : once (.at i :: os) = ((match atIx i 0 os with | none => true | some _ => false) && once os) := rfl
@[simp] theorem q_atIx0 (i k : Nat) : atIx i k [] = none := rfl
@[simp] theorem q_atIxv (i k : Nat) (x : P) (os : List O) : atIx i k (.v x :: os) = atIx i (k + 1) os := rfl
theorem q_geta (i : Nat) : O.get σ (.at i) = (match σ[i]? with | some (some d) => some d.view | _ => none) := rfl
theorem q_Chain (f f' : P → P → Option P) (a b c : M) : mChain f f' a b c σ = (a σ).bind fun oa σ1 => (b σ1).bind fun ob σ2 => match (oa.get σ2).bind fun x => (ob.get σ2).bind fun y => f x y with
  | some (.bl true) => (c σ2).bind fun oc σ3 => R.lift σ3 ((ob.get σ3).bind fun y => (oc.get σ3).bind fun z => f' y z)
  | some (.bl false) => .ok (.v (.bl false)) σ2
  | _ => .stuck := rfl
theorem q_Fz (m : MF) : mFz m σ = (m σ).bind fun d σ2 => .ok (.v d.view) σ2 := rfl
theorem q_LstF (ms : List M) : mLstF ms σ = (mAs ms σ).bind fun os σ1 => match pureAll os with | some xs => if xs.length ≤ PySem.sizeLine then .ok (.lst xs) σ1 else .stuck | none => .stuck := rfl
theorem q_DK : mDK σ = .ok (.dK [] []) σ := rfl
theorem q_DT : mDT σ = .ok (.dT [] []) σ := rfl
theorem q_PrimF (f : List P → Option (List P)) (ms : List M) : mPrimF f ms σ = (mAs ms σ).bind fun os σ1 => match (getAll σ1 os).bind f with | some zs => .ok (.lst zs) σ1 | none => .stuck := rfl
theorem q_PrimK (f : List P → Option (List L2.Key × List P)) (ms : List M) : mPrimK f ms σ = (mAs ms σ).bind fun os σ1 => match (getAll σ1 os).bind f with | some zs => .ok (.dK zs.1 zs.2) σ1 | none => .stuck := rfl
theorem q_OpF (f : P → P → Option P) (a b : M) : mOpF f a b σ = (a σ).bind fun oa σ1 => (b σ1).bind fun ob σ2 => match (oa.get σ2).bind fun x => (ob.get σ2).bind fun y => f x y with | some (.lst zs) => .ok (.lst zs) σ2 | _ => .stuck := rfl
theorem q_Asg (mg : MG) (me : M) : mAsg mg me σ = (me σ).toS fun o σ1 => (frz o σ1).toS fun x σ2 => toN (mg x σ2) .next := rfl
theorem q_gN (i : Nat) (x : P) : mgN i x σ = some (σ.set i (some (.p x))) := rfl
theorem q_gTup (ms : List MG) (xs : List P) : mgTup ms (.tup xs) σ = (if xs.length = ms.length then mgAll ms xs σ else none) := rfl
theorem q_gAll0 : mgAll [] [] σ = some σ := rfl
theorem q_gAll (m : MG) (ms : List MG) (x : P) (xs : List P) : mgAll (m :: ms) (x :: xs) σ = (m x σ).bind fun σ1 => mgAll ms xs σ1 := rfl
theorem q_True : mTrue σ = .ok true σ := rfl
@[simp] theorem q_loop0 (mg : MG) (mb : MS) : loop mg mb [] σ = .next σ := rfl
end
@[simp] theorem q_lastR {a : Bool} : (P.bl a).isNon = false := rfl
@[simp] theorem q_fnEnd_ret (io : List Nat) (args : List D) (d : D) (σ : Env) : fnEnd io args (.ret d σ) = (match finOf io σ 0 args with | some f => .ok d f | none => .stuck) := rfl
@[simp] theorem q_fnEnd_next (io : List Nat) (args : List D) (σ : Env) : fnEnd io args (.next σ) = (match finOf io σ 0 args with | some f => .ok (.p .non) f | none => .stuck) := rfl
theorem q_finOf0 (io : List Nat) (σ : Env) (k : Nat) : finOf io σ k [] = some [] := rfl
theorem q_finOf (io : List Nat) (σ : Env) (k : Nat) (a : D) (as : List D) : finOf io σ k (a :: as) = (match (if k ∈ io then (match σ[k]? with | some (some d) => some d | _ => none) else some a), finOf io σ (k + 1) as with | some d, some r => some (d :: r) | _, _ => none) := rfl
@[simp] theorem q_view (x : P) : (D.p x).view = x := rfl
@[simp] theorem q_viewl (xs : List P) : (D.lst xs).view = .lst xs := rfl
@[simp] theorem q_viewk (ks : List L2.Key) (xs : List P) : (D.dK ks xs).view = .dK ks xs := rfl
@[simp] theorem q_viewt (ks : List (List L2.Key)) (xs : List P) : (D.dT ks xs).view = .dT ks xs := rfl
@[simp] theorem q_okArgs0 (io : List Nat) (k : Nat) : okArgs io k [] = true := rfl
@[simp] theorem q_okArgs (io : List Nat) (k : Nat) (a : D) (as : List D) : okArgs io k (a :: as) = ((decide (k ∈ io) || !a.owned) && okArgs io (k + 1) as) := rfl
@[simp] theorem q_ownp (x : P) : (D.p x).owned = false := rfl
@[simp] theorem q_pI (f : Int → Int → Option P) (i j : Int) : pI f (.int i) (.int j) = f i j := rfl
@[simp] theorem q_pF1 (f : P → Option P) (x : P) : pF1 f [x] = f x := rfl
@[simp] theorem q_is (tab : P → Option Bool) (x : P) : pIs tab x = (tab x).map P.bl := rfl
theorem fn_run {np nl : Nat} {io : List Nat} {body : MS} {args : List D} (h : args.length = np) (h2 : okArgs io 0 args = true) : fnOf np nl io body args = fnEnd io args (body (args.map some ++ List.replicate nl none)) := by
  unfold fnOf; rw [if_pos ⟨h, h2⟩]
end PV

set_option Elab.async false
set_option linter.all false
set_option maxRecDepth 100000
set_option maxHeartbeats 4000000
/-! PvW: what must hold ahead (weakest preconditions of the meanings), outermost first. -/
namespace PV
open PySem (Str)
/-- wishes about an exception -/
abbrev XP := String → List String → List P → Env → Prop
@[irreducible] def WE {α : Type} (r : R α) (X : XP) (Q : α → Env → Prop) : Prop := match r with
  | .ok a σ => Q a σ
  | .exc c ns vs σ => X c ns vs σ
  | .stuck => False
structure EP where
  nx : Env → Prop := fun _ => False
  rt : D → Env → Prop := fun _ _ => False
  bk : Env → Prop := fun _ => False
  ct : Env → Prop := fun _ => False
  xc : XP := fun _ _ _ _ => False
@[irreducible] def WS (r : RS) (E : EP) : Prop := match r with
  | .next σ => E.nx σ
  | .ret d σ => E.rt d σ
  | .brk σ => E.bk σ
  | .cont σ => E.ct σ
  | .exc c ns vs σ => E.xc c ns vs σ
  | .stuck => False
/-- a def's meaning -/
@[irreducible] def WF (f : FS) (args : List D) (X : String → List String → List P → List D → Prop) (Q : D → List D → Prop) : Prop := match f args with
  | .ok d fin => Q d fin
  | .exc c ns vs fin => X c ns vs fin
  | .stuck => False
def WN (r : Option Env) (Q : Env → Prop) : Prop := match r with
  | some σ => Q σ
  | none => False
def WO {α : Type} (r : Option α) (Q : α → Prop) : Prop := match r with
  | some a => Q a
  | none => False
theorem WF.imp {f : FS} {args : List D} {X : String → List String → List P → List D → Prop} {Q Q' : D → List D → Prop} (h : WF f args X Q) (g : ∀ d fin, Q d fin → Q' d fin) : WF f args X Q' := by
  unfold WF at *
  cases e : f args with
  | ok d fin => rw [e] at h; exact g _ _ h
  | exc c ns vs fin => rw [e] at h; exact h
  | stuck => rw [e] at h; exact h
theorem WF.ok {f : FS} {args : List D} {Q : D → List D → Prop} (h : WF f args (fun _ _ _ _ => False) Q) : ∃ d fin, f args = .ok d fin ∧ Q d fin := by
  unfold WF at h
  cases e : f args with
  | ok d fin => rw [e] at h; exact ⟨d, fin, rfl, h⟩
  | exc c ns vs fin => rw [e] at h; exact h.elim
  | stuck => rw [e] at h; exact h.elim
theorem ite_conj {c p : Prop} [Decidable c] : (if c then p else False) = (c ∧ p) := by split <;> simp [*]
section
variable {α β : Type} (σ : Env) (X : XP) (E : EP)
@[simp ↓] theorem w_ok (a : α) (Q : α → Env → Prop) : WE (.ok a σ) X Q = Q a σ := by with_unfolding_all rfl
@[simp ↓] theorem w_exc (c ns vs) (Q : α → Env → Prop) : WE (.exc c ns vs σ : R α) X Q = X c ns vs σ := by with_unfolding_all rfl
@[simp ↓] theorem w_stuck (Q : α → Env → Prop) : WE (.stuck : R α) X Q = False := by with_unfolding_all rfl
@[simp ↓] theorem w_bind (r : R α) (k : α → Env → R β) (Q : β → Env → Prop) : WE (r.bind k) X Q = WE r X fun a σ1 => WE (k a σ1) X Q := by cases r <;> with_unfolding_all rfl
@[simp ↓] theorem w_ite (c : Prop) [Decidable c] (a b : R α) (Q : α → Env → Prop) : WE (if c then a else b) X Q = if c then WE a X Q else WE b X Q := by split <;> with_unfolding_all rfl
@[simp ↓] theorem w_C (x : P) (Q : O → Env → Prop) : WE (mC x σ) X Q = Q (.v x) σ := by with_unfolding_all rfl
def getO (σ : Env) (i : Nat) (Q : D → Prop) : Prop := match σ[i]? with
  | some (some d) => Q d
  | _ => False
def D.op (i : Nat) : D → O
  | .p x => .v x
  | _ => .at i
@[simp ↓] theorem w_V (i : Nat) (Q : O → Env → Prop) : WE (mV i σ) X Q = getO σ i fun d => Q (d.op i) σ := by
  unfold getO
  rw [q_V]
  cases e : σ[i]? with
  | none => with_unfolding_all rfl
  | some o =>
    cases o with
    | none => with_unfolding_all rfl
    | some d => cases d <;> with_unfolding_all rfl
@[simp ↓] theorem getO_zero (d : D) (r : Env) (Q : D → Prop) : getO (some d :: r) 0 Q = Q d := by with_unfolding_all rfl
@[simp ↓] theorem getO_none (r : Env) (Q : D → Prop) : getO (none :: r) 0 Q = False := by with_unfolding_all rfl
@[simp ↓] theorem getO_nil (i : Nat) (Q : D → Prop) : getO [] i Q = False := by simp [getO]
@[simp ↓] theorem getO_succ (d : Option D) (r : Env) (i : Nat) (Q : D → Prop) : getO (d :: r) (i + 1) Q = getO r i Q := by with_unfolding_all rfl
@[simp] theorem op_p (i : Nat) (x : P) : D.op i (.p x) = .v x := by with_unfolding_all rfl
@[simp] theorem op_l (i : Nat) (x : List P) : D.op i (.lst x) = .at i := by with_unfolding_all rfl
@[simp] theorem op_k (i : Nat) (ks x) : D.op i (.dK ks x) = .at i := by with_unfolding_all rfl
@[simp] theorem op_t (i : Nat) (ks x) : D.op i (.dT ks x) = .at i := by with_unfolding_all rfl
@[simp] theorem op_i (i : Nat) (c ns x) : D.op i (.ins c ns x) = .at i := by with_unfolding_all rfl
/-- an operand's data -/
def getQ (σ : Env) (o : O) (Q : P → Prop) : Prop := match o with
  | .v x => Q x
  | .at i => getO σ i fun d => Q d.view
@[simp ↓] theorem getQ_v (x : P) (Q : P → Prop) : getQ σ (.v x) Q = Q x := by with_unfolding_all rfl
@[simp ↓] theorem getQ_at (i : Nat) (Q : P → Prop) : getQ σ (.at i) Q = getO σ i fun d => Q d.view := by with_unfolding_all rfl
@[simp ↓] theorem wo_some (a : α) (Q : α → Prop) : WO (some a) Q = Q a := by with_unfolding_all rfl
@[simp ↓] theorem wo_none (Q : α → Prop) : WO (none : Option α) Q = False := by with_unfolding_all rfl
@[simp ↓] theorem wo_bind (r : Option α) (k : α → Option β) (Q : β → Prop) : WO (r.bind k) Q = WO r fun a => WO (k a) Q := by cases r <;> with_unfolding_all rfl
@[simp ↓] theorem wo_map (r : Option α) (k : α → β) (Q : β → Prop) : WO (r.map k) Q = WO r fun a => Q (k a) := by cases r <;> with_unfolding_all rfl
@[simp ↓] theorem wo_ite (c : Prop) [Decidable c] (a b : Option α) (Q : α → Prop) : WO (if c then a else b) Q = if c then WO a Q else WO b Q := by split <;> with_unfolding_all rfl
theorem getQ_eq (o : O) (Q : P → Prop) : getQ σ o Q = WO (o.get σ) Q := by
  cases o with
  | v x => with_unfolding_all rfl
  | «at» i =>
    simp only [getQ, getO, O.get]
    cases σ[i]? with
    | none => with_unfolding_all rfl
    | some d => cases d <;> with_unfolding_all rfl
@[simp ↓] theorem w_lift (o : Option P) (Q : O → Env → Prop) : WE (R.lift σ o) X Q = WO o fun z => Q (.v z) σ := by cases o <;> with_unfolding_all rfl
@[simp ↓] theorem w_op1 (f : P → Option P) (a : M) (Q : O → Env → Prop) : WE (mOp1 f a σ) X Q = WE (a σ) X fun oa σ1 => getQ σ1 oa fun x => WO (f x) fun z => Q (.v z) σ1 := by
  rw [q_op1, w_bind]
  congr 1; funext oa σ1
  rw [w_lift, wo_bind, getQ_eq]
@[simp ↓] theorem w_op2 (f : P → P → Option P) (a b : M) (Q : O → Env → Prop) : WE (mOp2 f a b σ) X Q = WE (a σ) X fun oa σ1 => WE (b σ1) X fun ob σ2 => getQ σ2 oa fun x => getQ σ2 ob fun y => WO (f x y) fun z => Q (.v z) σ2 := by
  rw [q_op2, w_bind]
  congr 1; funext oa σ1
  rw [w_bind]
  congr 1; funext ob σ2
  rw [w_lift, wo_bind, getQ_eq]
  congr 1; funext x
  rw [wo_bind, getQ_eq]
@[simp ↓] theorem w_as0 (Q : List O → Env → Prop) : WE (mAs [] σ) X Q = Q [] σ := by with_unfolding_all rfl
@[simp ↓] theorem w_as (m : M) (ms : List M) (Q : List O → Env → Prop) : WE (mAs (m :: ms) σ) X Q = WE (m σ) X fun o σ1 => WE (mAs ms σ1) X fun os σ2 => Q (o :: os) σ2 := by
  rw [q_as, w_bind]
  congr 1; funext o σ1
  rw [w_bind]; with_unfolding_all rfl
def getQs (σ : Env) : List O → (List P → Prop) → Prop
  | [], Q => Q []
  | o :: os, Q => getQ σ o fun x => getQs σ os fun xs => Q (x :: xs)
@[simp ↓] theorem getQs_nil (Q : List P → Prop) : getQs σ [] Q = Q [] := by with_unfolding_all rfl
@[simp ↓] theorem getQs_cons (o : O) (os : List O) (Q : List P → Prop) : getQs σ (o :: os) Q = getQ σ o fun x => getQs σ os fun xs => Q (x :: xs) := by with_unfolding_all rfl
theorem getQs_eq : ∀ (os : List O) (Q : List P → Prop), getQs σ os Q = WO (getAll σ os) Q
  | [], Q => rfl
  | o :: os, Q => by
    rw [getQs_cons, getAll_cons, wo_bind, getQ_eq]
    congr 1; funext x
    rw [wo_bind, getQs_eq os]; with_unfolding_all rfl
@[simp ↓] theorem w_prim (f : List P → Option P) (ms : List M) (Q : O → Env → Prop) : WE (mPrim f ms σ) X Q = WE (mAs ms σ) X fun os σ1 => getQs σ1 os fun xs => WO (f xs) fun z => Q (.v z) σ1 := by
  rw [q_prim, w_bind]
  congr 1; funext os σ1
  rw [w_lift, wo_bind, getQs_eq]
@[simp ↓] theorem w_primF (f : List P → Option (List P)) (ms : List M) (Q : D → Env → Prop) : WE (mPrimF f ms σ) X Q = WE (mAs ms σ) X fun os σ1 => getQs σ1 os fun xs => WO (f xs) fun z => Q (.lst z) σ1 := by
  rw [q_PrimF, w_bind]
  congr 1; funext os σ1
  rw [getQs_eq]
  cases getAll σ1 os with
  | none => with_unfolding_all rfl
  | some xs => simp only [Option.bind_some, wo_some]; cases f xs <;> with_unfolding_all rfl
@[simp ↓] theorem w_primK (f : List P → Option (List L2.Key × List P)) (ms : List M) (Q : D → Env → Prop) : WE (mPrimK f ms σ) X Q = WE (mAs ms σ) X fun os σ1 => getQs σ1 os fun xs => WO (f xs) fun z => Q (.dK z.1 z.2) σ1 := by
  rw [q_PrimK, w_bind]
  congr 1; funext os σ1
  rw [getQs_eq]
  cases getAll σ1 os with
  | none => with_unfolding_all rfl
  | some xs => simp only [Option.bind_some, wo_some]; cases f xs <;> with_unfolding_all rfl
@[simp ↓] theorem w_opF (f : P → P → Option P) (a b : M) (Q : D → Env → Prop) : WE (mOpF f a b σ) X Q = WE (a σ) X fun oa σ1 => WE (b σ1) X fun ob σ2 => getQ σ2 oa fun x => getQ σ2 ob fun y => WO (f x y) fun z => ∃ zs, z = .lst zs ∧ Q (.lst zs) σ2 := by
  rw [q_OpF, w_bind]
  congr 1; funext oa σ1
  rw [w_bind]
  congr 1; funext ob σ2
  rw [getQ_eq]
  cases oa.get σ2 with
  | none => with_unfolding_all rfl
  | some x =>
    simp only [Option.bind_some, wo_some, getQ_eq]
    cases ob.get σ2 with
    | none => with_unfolding_all rfl
    | some y =>
      simp only [Option.bind_some, wo_some]
      cases f x y with
      | none => with_unfolding_all rfl
      | some z =>
        cases z <;> simp [WE, WO]
@[simp ↓] theorem w_tup (ms : List M) (Q : O → Env → Prop) : WE (mTup ms σ) X Q = WE (mAs ms σ) X fun os σ1 => WO (pureAll os) fun xs => xs.length ≤ PySem.sizeLine ∧ Q (.v (.tup xs)) σ1 := by
  rw [q_tup, w_bind]
  congr 1; funext os σ1
  rw [w_lift, wo_bind]
  congr 1; funext xs
  rw [wo_ite]
  split <;> simp [*, WO]
@[simp ↓] theorem w_lst (ms : List M) (Q : O → Env → Prop) : WE (mLst ms σ) X Q = WE (mAs ms σ) X fun os σ1 => WO (pureAll os) fun xs => xs.length ≤ PySem.sizeLine ∧ Q (.v (.lst xs)) σ1 := by
  rw [q_lst, w_bind]
  congr 1; funext os σ1
  rw [w_lift, wo_bind]
  congr 1; funext xs
  rw [wo_ite]
  split <;> simp [*, WO]
@[simp ↓] theorem w_lstF (ms : List M) (Q : D → Env → Prop) : WE (mLstF ms σ) X Q = WE (mAs ms σ) X fun os σ1 => WO (pureAll os) fun xs => xs.length ≤ PySem.sizeLine ∧ Q (.lst xs) σ1 := by
  rw [q_LstF, w_bind]
  congr 1; funext os σ1
  cases pureAll os with
  | none => with_unfolding_all rfl
  | some xs => dsimp only; split <;> simp [*, WO, WE]
@[simp ↓] theorem w_DK (Q : D → Env → Prop) : WE (mDK σ) X Q = Q (.dK [] []) σ := by with_unfolding_all rfl
@[simp ↓] theorem w_DT (Q : D → Env → Prop) : WE (mDT σ) X Q = Q (.dT [] []) σ := by with_unfolding_all rfl
@[simp ↓] theorem w_Disp (ks : List L2.Key) (ms : List M) (Q : D → Env → Prop) : WE (mDisp ks ms σ) X Q = WE (mAs ms σ) X fun os σ1 => WO (pureAll os) fun xs => xs.length ≤ 15 ∧ Q (.dK (mergeP ([], []) (zipPs ks xs)).1 (mergeP ([], []) (zipPs ks xs)).2) σ1 := by
  unfold mDisp
  rw [w_bind]
  congr 1; funext os σ1
  cases pureAll os with
  | none => with_unfolding_all rfl
  | some xs => dsimp only; split <;> simp [*, WO, WE]
@[simp ↓] theorem w_Fz (m : MF) (Q : O → Env → Prop) : WE (mFz m σ) X Q = WE (m σ) X fun d σ2 => Q (.v d.view) σ2 := by
  rw [q_Fz, w_bind]; with_unfolding_all rfl
/-- a truth -/
def isB (x : P) (Q : Bool → Prop) : Prop := match x with
  | .bl b => Q b
  | _ => False
@[simp ↓] theorem isB_bl (b : Bool) (Q : Bool → Prop) : isB (.bl b) Q = Q b := by with_unfolding_all rfl
@[simp ↓] theorem w_Te (m : M) (Q : Bool → Env → Prop) : WE (mTe m σ) X Q = WE (m σ) X fun o σ1 => getQ σ1 o fun x => isB x fun b => Q b σ1 := by
  rw [q_Te, w_bind]
  congr 1; funext o σ1
  rw [getQ_eq]
  cases o.get σ1 with
  | none => with_unfolding_all rfl
  | some x => cases x <;> with_unfolding_all rfl
@[simp ↓] theorem w_NotT (m : MT) (Q : Bool → Env → Prop) : WE (mNotT m σ) X Q = WE (m σ) X fun b σ1 => Q (!b) σ1 := by rw [q_NotT, w_bind]; with_unfolding_all rfl
@[simp ↓] theorem w_AndT (a b : MT) (Q : Bool → Env → Prop) : WE (mAndT a b σ) X Q = WE (a σ) X fun x σ1 => if x = true then WE (b σ1) X Q else Q false σ1 := by
  rw [q_AndT, w_bind]
  congr 1; funext x σ1
  rw [w_ite]; with_unfolding_all rfl
@[simp ↓] theorem w_OrT (a b : MT) (Q : Bool → Env → Prop) : WE (mOrT a b σ) X Q = WE (a σ) X fun x σ1 => if x = true then Q true σ1 else WE (b σ1) X Q := by
  rw [q_OrT, w_bind]
  congr 1; funext x σ1
  rw [w_ite]; with_unfolding_all rfl
@[simp ↓] theorem w_AndV (a b : M) (Q : O → Env → Prop) : WE (mAndV a b σ) X Q = WE (mTe a σ) X fun x σ1 => if x = true then WE (b σ1) X Q else Q (.v (.bl false)) σ1 := by
  rw [q_AndV, w_bind]
  congr 1; funext x σ1
  rw [w_ite]; with_unfolding_all rfl
@[simp ↓] theorem w_OrV (a b : M) (Q : O → Env → Prop) : WE (mOrV a b σ) X Q = WE (mTe a σ) X fun x σ1 => if x = true then Q (.v (.bl true)) σ1 else WE (b σ1) X Q := by
  rw [q_OrV, w_bind]
  congr 1; funext x σ1
  rw [w_ite]; with_unfolding_all rfl
@[simp ↓] theorem w_NotV (a : M) (Q : O → Env → Prop) : WE (mNotV a σ) X Q = WE (mTe a σ) X fun x σ1 => Q (.v (.bl (!x))) σ1 := by rw [q_NotV, w_bind]; with_unfolding_all rfl
@[simp ↓] theorem w_IfE (c : MT) (a b : M) (Q : O → Env → Prop) : WE (mIfE c a b σ) X Q = WE (c σ) X fun x σ1 => if x = true then WE (a σ1) X Q else WE (b σ1) X Q := by
  rw [q_IfE, w_bind]
  congr 1; funext x σ1
  rw [w_ite]
@[simp ↓] theorem w_Chain (f f' : P → P → Option P) (a b c : M) (Q : O → Env → Prop) : WE (mChain f f' a b c σ) X Q = WE (a σ) X fun oa σ1 => WE (b σ1) X fun ob σ2 => getQ σ2 oa fun x => getQ σ2 ob fun y => WO (f x y) fun z => isB z fun k =>
    if k = true then WE (c σ2) X fun oc σ3 => getQ σ3 ob fun y => getQ σ3 oc fun z => WO (f' y z) fun u => Q (.v u) σ3 else Q (.v (.bl false)) σ2 := by
  rw [q_Chain, w_bind]
  congr 1; funext oa σ1
  rw [w_bind]
  congr 1; funext ob σ2
  rw [getQ_eq]
  cases oa.get σ2 with
  | none => with_unfolding_all rfl
  | some x =>
    simp only [Option.bind_some, wo_some, getQ_eq]
    cases ob.get σ2 with
    | none => with_unfolding_all rfl
    | some y =>
      simp only [Option.bind_some, wo_some]
      cases f x y with
      | none => with_unfolding_all rfl
      | some z =>
        cases z with
        | bl k =>
          cases k with
          | false => with_unfolding_all rfl
          | true =>
            simp only [wo_some, isB_bl, if_true, w_bind]
            congr 1; funext oc σ3
            rw [w_lift, wo_bind]
            congr 1; funext y'
            rw [wo_bind]
        | _ => with_unfolding_all rfl
/-- an operand as data, frozen -/
def fzQ (σ : Env) (o : O) (Q : P → Env → Prop) : Prop := match o with
  | .v x => Q x σ
  | .at i => getO σ i fun d => (∀ d', d ≠ .lk d') ∧ Q d.view (σ.set i (some (.p d.view)))
@[simp ↓] theorem fzQ_v (x : P) (Q : P → Env → Prop) : fzQ σ (.v x) Q = Q x σ := by with_unfolding_all rfl
@[simp ↓] theorem fzQ_at (i : Nat) (Q : P → Env → Prop) : fzQ σ (.at i) Q = getO σ i fun d => (∀ d', d ≠ .lk d') ∧ Q d.view (σ.set i (some (.p d.view))) := by with_unfolding_all rfl
@[simp ↓] theorem w_frz (o : O) (Q : P → Env → Prop) : WE (frz o σ) X Q = fzQ σ o Q := by
  cases o with
  | v x => with_unfolding_all rfl
  | «at» i =>
    rw [fzQ_at, q_frza]
    unfold getO
    cases σ[i]? with
    | none => with_unfolding_all rfl
    | some d =>
      cases d with
      | none => with_unfolding_all rfl
      | some d => cases d <;> simp [WE]
@[simp ↓] theorem w_iter (m : M) (Q : List P → Env → Prop) : WE (mIter m σ) X Q = WE (m σ) X fun o σ1 => fzQ σ1 o fun x σ2 => WO (itemsP x) fun xs => Q xs σ2 := by
  rw [q_Iter, w_bind]
  congr 1; funext o σ1
  rw [w_bind, w_frz]
  congr 1; funext x σ2
  cases itemsP x <;> with_unfolding_all rfl
def fzQs (σ : Env) : List O → (List P → Env → Prop) → Prop
  | [], Q => Q [] σ
  | o :: os, Q => fzQ σ o fun x σ1 => fzQs σ1 os fun xs σ2 => Q (x :: xs) σ2
@[simp ↓] theorem fzQs_nil (Q : List P → Env → Prop) : fzQs σ [] Q = Q [] σ := by with_unfolding_all rfl
@[simp ↓] theorem fzQs_cons (o : O) (os : List O) (Q : List P → Env → Prop) : fzQs σ (o :: os) Q = fzQ σ o fun x σ1 => fzQs σ1 os fun xs σ2 => Q (x :: xs) σ2 := by with_unfolding_all rfl
@[simp ↓] theorem w_frzAll : ∀ (os : List O) (σ : Env) (Q : List P → Env → Prop), WE (frzAll os σ) X Q = fzQs σ os Q
  | [], σ, Q => by with_unfolding_all rfl
  | o :: os, σ, Q => by
    rw [q_frzAll, w_bind, w_frz, fzQs_cons]
    congr 1; funext x σ1
    rw [w_bind, w_frzAll os]; with_unfolding_all rfl
@[simp ↓] theorem w_enum (m : M) (Q : List P → Env → Prop) : WE (mEnum m σ) X Q = WE (m σ) X fun o σ1 => fzQ σ1 o fun x σ2 => WO (seqP x) fun xs => Q (enumP 0 xs) σ2 := by
  rw [q_Enum, w_bind, w_as]
  congr 1; funext o σ1
  rw [w_as0, w_bind, w_frzAll, fzQs_cons]
  congr 1; funext x σ2
  rw [fzQs_nil]
  cases x <;> with_unfolding_all rfl
def asI (x : P) (Q : Int → Prop) : Prop := match x with
  | .int i => Q i
  | _ => False
@[simp ↓] theorem asI_int (i : Int) (Q : Int → Prop) : asI (.int i) Q = Q i := by with_unfolding_all rfl
@[simp ↓] theorem w_rg1 (m : M) (Q : List P → Env → Prop) : WE (mRg1 m σ) X Q = WE (m σ) X fun o σ1 => getQ σ1 o fun x => asI x fun j => (-(2 ^ 62) ≤ j ∧ j < 2 ^ 62) ∧ Q (rangeP 0 j.toNat) σ1 := by
  rw [q_Rg1, w_bind, w_as]
  congr 1; funext o σ1
  rw [w_as0, getAll_cons, getAll_nil, getQ_eq]
  cases o.get σ1 with
  | none => with_unfolding_all rfl
  | some x =>
    cases x with
    | int j => simp only [Option.bind_some, wo_some, asI_int, w_ite]; with_unfolding_all exact ite_conj
    | _ => with_unfolding_all rfl
@[simp ↓] theorem w_rg2 (a b : M) (Q : List P → Env → Prop) : WE (mRg2 a b σ) X Q = WE (a σ) X fun oa σ1 => WE (b σ1) X fun ob σ2 => getQ σ2 oa fun x => getQ σ2 ob fun y => asI x fun i => asI y fun j => (-(2 ^ 62) ≤ i ∧ i < 2 ^ 62 ∧ -(2 ^ 62) ≤ j ∧ j < 2 ^ 62) ∧ Q (rangeP i (j - i).toNat) σ2 := by
  rw [q_Rg2, w_bind, w_as]
  congr 1; funext oa σ1
  rw [w_as]
  congr 1; funext ob σ2
  rw [w_as0, getAll_cons, getAll_cons, getAll_nil, getQ_eq]
  cases oa.get σ2 with
  | none => with_unfolding_all rfl
  | some x =>
    simp only [Option.bind_some, wo_some, getQ_eq]
    cases ob.get σ2 with
    | none => with_unfolding_all rfl
    | some y =>
      cases x <;> cases y <;> first | with_unfolding_all rfl | (simp only [Option.bind_some, wo_some, asI_int, w_ite]; with_unfolding_all exact ite_conj)
@[simp ↓] theorem w_rgL (m : M) (Q : D → Env → Prop) : WE (mRgL [m] σ) X Q = WE (m σ) X fun o σ1 => getQ σ1 o fun x => asI x fun j => L2.RgOk 0 j ∧ Q (.lst (rangeP 0 j.toNat)) σ1 := by
  rw [q_RgL, w_bind, w_as]
  congr 1; funext o σ1
  rw [w_as0, getAll_cons, getAll_nil, getQ_eq]
  cases o.get σ1 with
  | none => with_unfolding_all rfl
  | some x =>
    cases x with
    | int j => simp only [Option.bind_some, wo_some, asI_int, w_ite]; with_unfolding_all exact ite_conj
    | _ => with_unfolding_all rfl
def tkQ (σ : Env) : List O → (List D → Prop) → Prop
  | [], Q => Q []
  | .v x :: os, Q => tkQ σ os fun ds => Q (.p x :: ds)
  | .at i :: os, Q => getO σ i fun d => tkQ σ os fun ds => Q (d :: ds)
@[simp ↓] theorem tkQ_nil (Q : List D → Prop) : tkQ σ [] Q = Q [] := by with_unfolding_all rfl
@[simp ↓] theorem tkQ_v (x : P) (os : List O) (Q : List D → Prop) : tkQ σ (.v x :: os) Q = tkQ σ os fun ds => Q (.p x :: ds) := by with_unfolding_all rfl
@[simp ↓] theorem tkQ_at (i : Nat) (os : List O) (Q : List D → Prop) : tkQ σ (.at i :: os) Q = getO σ i fun d => tkQ σ os fun ds => Q (d :: ds) := by with_unfolding_all rfl
theorem tkQ_eq : ∀ (os : List O) (Q : List D → Prop), tkQ σ os Q = WO (takeAll σ os) Q
  | [], Q => rfl
  | .v x :: os, Q => by rw [tkQ_v, q_takev, wo_bind, tkQ_eq os]; with_unfolding_all rfl
  | .at i :: os, Q => by
    rw [tkQ_at, q_takea]
    unfold getO
    cases σ[i]? with
    | none => with_unfolding_all rfl
    | some d =>
      cases d with
      | none => with_unfolding_all rfl
      | some d => dsimp only; rw [wo_bind, tkQ_eq os]; with_unfolding_all rfl
@[simp ↓] theorem w_callEnd (os : List O) (f : FS) (Q : D → Env → Prop) : WE (PV.callEnd σ os f) X Q = tkQ σ os fun ds => once os = true ∧ WF f ds (fun c ns vs fin => X c ns vs (giveBack σ os fin)) fun d fin => Q d (giveBack σ os fin) := by
  rw [q_callEnd, tkQ_eq]
  cases takeAll σ os with
  | none => with_unfolding_all rfl
  | some ds =>
    simp only [wo_some]
    by_cases h : once os = true
    · simp only [h, if_true, true_and]
      unfold WF
      cases f ds <;> with_unfolding_all rfl
    · simp only [h]
      simp [WE]
@[simp ↓] theorem w_Call (f : FS) (ms : List M) (Q : O → Env → Prop) : WE (mCall f ms σ) X Q = WE (mAs ms σ) X fun os σ1 => WE (PV.callEnd σ1 os f) X fun d σ2 => Q (.v d.view) σ2 := by
  rw [q_Call, w_bind]
  congr 1; funext os σ1
  rw [w_bind]; with_unfolding_all rfl
@[simp ↓] theorem w_CallF (f : FS) (ms : List M) (Q : D → Env → Prop) : WE (mCallF f ms σ) X Q = WE (mAs ms σ) X fun os σ1 => WE (PV.callEnd σ1 os f) X Q := by
  rw [q_CallF, w_bind]
/-! statements -/
@[simp ↓] theorem ws_next : WS (.next σ) E = E.nx σ := by with_unfolding_all rfl
@[simp ↓] theorem ws_ret (d : D) : WS (.ret d σ) E = E.rt d σ := by with_unfolding_all rfl
@[simp ↓] theorem ws_brk : WS (.brk σ) E = E.bk σ := by with_unfolding_all rfl
@[simp ↓] theorem ws_cont : WS (.cont σ) E = E.ct σ := by with_unfolding_all rfl
@[simp ↓] theorem ws_stuck : WS .stuck E = False := by with_unfolding_all rfl
@[simp ↓] theorem ws_ite (c : Prop) [Decidable c] (a b : RS) : WS (if c then a else b) E = if c then WS a E else WS b E := by split <;> with_unfolding_all rfl
@[simp ↓] theorem ws_toS (r : R α) (k : α → Env → RS) : WS (r.toS k) E = WE r E.xc fun a σ1 => WS (k a σ1) E := by cases r <;> with_unfolding_all rfl
@[simp ↓] theorem ws_Nil : WS (mNil σ) E = E.nx σ := by with_unfolding_all rfl
@[simp ↓] theorem ws_Seq (a b : MS) : WS (mSeq a b σ) E = WS (a σ) { E with nx := fun σ1 => WS (b σ1) E } := by
  rw [q_Seq]
  cases a σ <;> with_unfolding_all rfl
@[simp ↓] theorem ws_Never : WS (mNever σ) E = False := by with_unfolding_all rfl
@[simp ↓] theorem ws_Break : WS (mBreak σ) E = E.bk σ := by with_unfolding_all rfl
@[simp ↓] theorem ws_Cont : WS (mCont σ) E = E.ct σ := by with_unfolding_all rfl
@[simp ↓] theorem ws_Drop (m : M) : WS (mDrop m σ) E = WE (m σ) E.xc fun _ σ1 => E.nx σ1 := by rw [q_Drop, ws_toS]; with_unfolding_all rfl
@[simp ↓] theorem ws_Ret (m : M) : WS (mRet m σ) E = WE (m σ) E.xc fun o σ1 => fzQ σ1 o fun x σ2 => E.rt (.p x) σ2 := by
  rw [q_Ret, ws_toS]
  congr 1; funext o σ1
  rw [ws_toS, w_frz]; with_unfolding_all rfl
@[simp ↓] theorem ws_RetN : WS (mRetN σ) E = E.rt (.p .non) σ := by with_unfolding_all rfl
@[simp ↓] theorem ws_RetF (m : MF) : WS (mRetF m σ) E = WE (m σ) E.xc fun d σ1 => E.rt d σ1 := by rw [q_RetF, ws_toS]; with_unfolding_all rfl
@[simp ↓] theorem ws_If (c : MT) (a b : MS) : WS (mIf c a b σ) E = WE (c σ) E.xc fun x σ1 => if x = true then WS (a σ1) E else WS (b σ1) E := by
  rw [q_If, ws_toS]
  congr 1; funext x σ1
  rw [ws_ite]
@[simp ↓] theorem ws_Set (i : Nat) (m : M) : WS (mSet i m σ) E = WE (m σ) E.xc fun o σ1 => fzQ σ1 o fun x σ2 => E.nx (σ2.set i (some (.p x))) := by
  rw [q_Set, ws_toS]
  congr 1; funext o σ1
  rw [ws_toS, w_frz]; with_unfolding_all rfl
@[simp ↓] theorem ws_SetF (i : Nat) (m : MF) : WS (mSetF i m σ) E = WE (m σ) E.xc fun d σ1 => E.nx (σ1.set i (some d)) := by rw [q_SetF, ws_toS]; with_unfolding_all rfl
@[simp ↓] theorem ws_For (mi : MI) (mg : MG) (mb : MS) : WS (mFor mi mg mb σ) E = WE (mi σ) E.xc fun xs σ1 => WS (loop mg mb xs σ1) E := by rw [q_For, ws_toS]
@[simp ↓] theorem ws_toN (r : Option Env) (k : Env → RS) : WS (toN r k) E = WN r fun σ1 => WS (k σ1) E := by cases r <;> with_unfolding_all rfl
@[simp ↓] theorem wn_some (Q : Env → Prop) : WN (some σ) Q = Q σ := by with_unfolding_all rfl
@[simp ↓] theorem wn_none (Q : Env → Prop) : WN none Q = False := by with_unfolding_all rfl
@[simp ↓] theorem wn_gN (i : Nat) (x : P) (Q : Env → Prop) : WN (mgN i x σ) Q = Q (σ.set i (some (.p x))) := by with_unfolding_all rfl
@[simp ↓] theorem wn_bind (r : Option Env) (k : Env → Option Env) (Q : Env → Prop) : WN (r.bind k) Q = WN r fun σ1 => WN (k σ1) Q := by cases r <;> with_unfolding_all rfl
@[simp ↓] theorem wn_gTup (ms : List MG) (xs : List P) (Q : Env → Prop) : WN (mgTup ms (.tup xs) σ) Q = (xs.length = ms.length ∧ WN (mgAll ms xs σ) Q) := by
  rw [q_gTup]; split <;> simp [*, WN]
@[simp ↓] theorem wn_gAll0 (Q : Env → Prop) : WN (mgAll [] [] σ) Q = Q σ := by with_unfolding_all rfl
@[simp ↓] theorem wn_gAll (m : MG) (ms : List MG) (x : P) (xs : List P) (Q : Env → Prop) : WN (mgAll (m :: ms) (x :: xs) σ) Q = WN (m x σ) fun σ1 => WN (mgAll ms xs σ1) Q := by rw [q_gAll, wn_bind]
@[simp ↓] theorem ws_Asg (mg : MG) (me : M) : WS (mAsg mg me σ) E = WE (me σ) E.xc fun o σ1 => fzQ σ1 o fun x σ2 => WN (mg x σ2) E.nx := by
  rw [q_Asg, ws_toS]
  congr 1; funext o σ1
  rw [ws_toS, w_frz]
  congr 1; funext x σ2
  rw [ws_toN]; with_unfolding_all rfl
@[simp ↓] theorem ws_DPut (i : Nat) (mk me : M) : WS (mDPut i mk me σ) E = WE (me σ) E.xc fun o σ1 => fzQ σ1 o fun x σ2 => getO σ2 i fun _ => WE (mk σ2) E.xc fun ok σ3 => getQ σ3 ok fun k => getO σ3 i fun d => WO (dPut d k x) fun d' => E.nx (σ3.set i (some d')) := by
  unfold mDPut
  rw [ws_toS]
  congr 1; funext o σ1
  rw [ws_toS, w_frz]
  congr 1; funext x σ2
  unfold getO
  cases σ2[i]? with
  | none => with_unfolding_all rfl
  | some d0 =>
    cases d0 with
    | none => with_unfolding_all rfl
    | some d0 =>
      dsimp only
      rw [ws_toS]
      congr 1; funext ok σ3
      rw [getQ_eq]
      cases ok.get σ3 with
      | none => with_unfolding_all rfl
      | some k =>
        simp only [wo_some]
        cases σ3[i]? with
        | none => with_unfolding_all rfl
        | some d1 =>
          cases d1 with
          | none => with_unfolding_all rfl
          | some d1 => dsimp only; cases dPut d1 k x <;> with_unfolding_all rfl
/-- the list in a slot -/
def getL (σ : Env) (i : Nat) (Q : List P → Prop) : Prop := match σ[i]? with
  | some (some (.lst xs)) => Q xs
  | _ => False
@[simp ↓] theorem getL_zero (xs : List P) (r : Env) (Q : List P → Prop) : getL (some (.lst xs) :: r) 0 Q = Q xs := by with_unfolding_all rfl
@[simp ↓] theorem getL_succ (d : Option D) (r : Env) (i : Nat) (Q : List P → Prop) : getL (d :: r) (i + 1) Q = getL r i Q := by with_unfolding_all rfl
@[simp ↓] theorem w_App (i : Nat) (m : M) (Q : O → Env → Prop) : WE (mApp i m σ) X Q = getL σ i fun _ => WE (m σ) X fun o σ1 => fzQ σ1 o fun x σ2 => getL σ2 i fun xs => xs.length < PySem.sizeLine ∧ Q (.v .non) (σ2.set i (some (.lst (xs ++ [x])))) := by
  unfold mApp getL
  split
  · rename_i xs0 e0
    rw [w_bind]
    simp only [e0]
    congr 1; funext o σ1
    rw [w_bind, w_frz]
    congr 1; funext x σ2
    split
    · rename_i xs e1
      rw [w_ite]; (try simp only [e1]); with_unfolding_all exact ite_conj
    · rename_i h
      first
      | (with_unfolding_all rfl)
      | (split <;> first | (rename_i xs e; exact absurd e (h xs)) | (with_unfolding_all rfl))
  · rename_i h
    first
    | (with_unfolding_all rfl)
    | (split <;> first | (rename_i xs e; exact absurd e (h xs)) | (with_unfolding_all rfl))
@[simp ↓] theorem w_Pop (i : Nat) (m : M) (Q : O → Env → Prop) : WE (mPop i m σ) X Q = getL σ i fun _ => WE (m σ) X fun o σ1 => getQ σ1 o fun k => asI k fun k => getL σ1 i fun xs => WO (L2.ixN xs.length k) fun j => WO xs[j]? fun x => xs.length ≤ PySem.sizeLine ∧ Q (.v x) (σ1.set i (some (.lst (xs.eraseIdx j)))) := by
  unfold mPop getL
  split
  · rename_i xs0 e0
    rw [w_bind]
    simp only [e0]
    congr 1; funext o σ1
    rw [getQ_eq]
    cases o.get σ1 with
    | none => with_unfolding_all rfl
    | some k =>
      cases k with
      | int k =>
        simp only [wo_some, asI_int]
        cases σ1[i]? with
        | none => with_unfolding_all rfl
        | some d =>
          cases d with
          | none => with_unfolding_all rfl
          | some d =>
            cases d with
            | lst xs =>
              dsimp only
              cases L2.ixN xs.length k with
              | none => with_unfolding_all rfl
              | some j =>
                simp only [wo_some]
                cases xs[j]? with
                | none => with_unfolding_all rfl
                | some x => dsimp only; split <;> simp [*, WE, WO]
            | _ => with_unfolding_all rfl
      | _ => with_unfolding_all rfl
  · rename_i h
    first
    | (with_unfolding_all rfl)
    | (split <;> first | (rename_i xs e; exact absurd e (h xs)) | (with_unfolding_all rfl))
@[simp ↓] theorem ws_SetIx (i : Nat) (mk me : M) : WS (mSetIx i mk me σ) E = WE (me σ) E.xc fun o σ1 => fzQ σ1 o fun x σ2 => getL σ2 i fun _ => WE (mk σ2) E.xc fun ok σ3 => getQ σ3 ok fun k => asI k fun k => getL σ3 i fun xs => WO (L2.ixN xs.length k) fun j => E.nx (σ3.set i (some (.lst (xs.set j x)))) := by
  unfold mSetIx
  rw [ws_toS]
  congr 1; funext o σ1
  rw [ws_toS, w_frz]
  congr 1; funext x σ2
  unfold getL
  split
  · rename_i xs0 e0
    simp only [e0]
    rw [ws_toS]
    congr 1; funext ok σ3
    rw [getQ_eq]
    cases ok.get σ3 with
    | none => with_unfolding_all rfl
    | some k =>
      cases k with
      | int k =>
        simp only [wo_some, asI_int]
        cases σ3[i]? with
        | none => with_unfolding_all rfl
        | some d =>
          cases d with
          | none => with_unfolding_all rfl
          | some d =>
            cases d with
            | lst xs => dsimp only; cases L2.ixN xs.length k <;> with_unfolding_all rfl
            | _ => with_unfolding_all rfl
      | _ => with_unfolding_all rfl
  · rename_i h
    first
    | (with_unfolding_all rfl)
    | (split <;> first | (rename_i xs e; exact absurd e (h xs)) | (with_unfolding_all rfl))
end
/-- what is left of the arguments -/
def finQ (io : List Nat) (σ : Env) : Nat → List D → (List D → Prop) → Prop
  | _, [], Q => Q []
  | k, a :: as, Q => if k ∈ io then getO σ k fun d => finQ io σ (k + 1) as fun r => Q (d :: r) else finQ io σ (k + 1) as fun r => Q (a :: r)
@[simp ↓] theorem finQ_nil (io : List Nat) (σ : Env) (k : Nat) (Q : List D → Prop) : finQ io σ k [] Q = Q [] := by with_unfolding_all rfl
@[simp ↓] theorem finQ_cons (io : List Nat) (σ : Env) (k : Nat) (a : D) (as : List D) (Q : List D → Prop) : finQ io σ k (a :: as) Q = if k ∈ io then getO σ k fun d => finQ io σ (k + 1) as fun r => Q (d :: r) else finQ io σ (k + 1) as fun r => Q (a :: r) := by with_unfolding_all rfl
theorem finQ_eq (io : List Nat) (σ : Env) : ∀ (as : List D) (k : Nat) (Q : List D → Prop), finQ io σ k as Q = WO (finOf io σ k as) Q
  | [], k, Q => rfl
  | a :: as, k, Q => by
    rw [finQ_cons, q_finOf]
    by_cases h : k ∈ io
    · simp only [h, if_true]
      unfold getO
      cases σ[k]? with
      | none => with_unfolding_all rfl
      | some d =>
        cases d with
        | none => with_unfolding_all rfl
        | some d =>
          dsimp only
          rw [finQ_eq io σ as]
          cases finOf io σ (k + 1) as <;> with_unfolding_all rfl
    · simp only [h, if_false]
      rw [finQ_eq io σ as]
      cases finOf io σ (k + 1) as <;> with_unfolding_all rfl
/-- a def: its body from its arguments -/
theorem wf_fn {np nl : Nat} {io : List Nat} {body : MS} {args : List D} {X : String → List String → List P → List D → Prop} {Q : D → List D → Prop} (h : args.length = np) (h2 : okArgs io 0 args = true)
    (hb : WS (body (args.map some ++ List.replicate nl none)) { nx := fun σ => finQ io σ 0 args fun fin => Q (.p .non) fin, rt := fun d σ => finQ io σ 0 args fun fin => Q d fin, xc := fun c ns vs σ => finQ io σ 0 args fun fin => X c ns vs fin }) : WF (fnOf np nl io body) args X Q := by
  simp only [finQ_eq] at hb
  unfold WF
  unfold WS at hb
  unfold fnOf
  rw [if_pos ⟨h, h2⟩]
  unfold fnEnd
  cases e : body (args.map some ++ List.replicate nl none) with
  | next σ =>
    rw [e] at hb
    change WO (finOf io σ 0 args) _ at hb
    dsimp only
    cases ef : finOf io σ 0 args with
    | none => rw [ef] at hb; exact hb.elim
    | some fin => rw [ef] at hb; exact hb
  | ret d σ =>
    rw [e] at hb
    change WO (finOf io σ 0 args) _ at hb
    dsimp only
    cases ef : finOf io σ 0 args with
    | none => rw [ef] at hb; exact hb.elim
    | some fin => rw [ef] at hb; exact hb
  | exc c ns vs σ =>
    rw [e] at hb
    change WO (finOf io σ 0 args) _ at hb
    dsimp only
    cases ef : finOf io σ 0 args with
    | none => rw [ef] at hb; exact hb.elim
    | some fin => rw [ef] at hb; exact hb
  | brk σ => rw [e] at hb; exact hb.elim
  | cont σ => rw [e] at hb; exact hb.elim
  | stuck => rw [e] at hb; exact hb.elim
@[simp] theorem ofS_eq (a b : String) : (Str.ofString a = Str.ofString b) = (a = b) := propext ⟨ofS_inj, fun h => by rw [h]⟩
end PV

set_option Elab.async false
set_option linter.all false
set_option maxRecDepth 100000
set_option maxHeartbeats 4000000
/-! PvX: operations on data, computed. -/
namespace PV
open PySem (Str PyData)
@[simp ↓] theorem wo_if {α : Type} (c : Prop) [Decidable c] (a : α) (Q : α → Prop) : WO (if c then some a else none) Q = (c ∧ Q a) := by split <;> simp [*, WO]
@[simp] theorem pAdd_int (i j : Int) : pAdd (.int i) (.int j) = some (.int (i + j)) := rfl
@[simp] theorem pAdd_lst (x y : List P) : pAdd (.lst x) (.lst y) = if x.length + y.length ≤ PySem.sizeLine then some (.lst (x ++ y)) else none := rfl
@[simp] theorem pAdd_tup (x y : List P) : pAdd (.tup x) (.tup y) = if x.length + y.length ≤ PySem.sizeLine then some (.tup (x ++ y)) else none := rfl
@[simp] theorem pMul_int (i j : Int) : pMul (.int i) (.int j) = if L2.CMulW i j then some (.int (i * j)) else none := rfl
@[simp] theorem pMul_lst (x : List P) (k : Int) : pMul (.lst x) (.int k) = if -(2 ^ 63) ≤ k ∧ k < 2 ^ 63 ∧ x.length * k.toNat ≤ PySem.sizeLine then some (.lst (List.replicate k.toNat x).flatten) else none := rfl
@[simp] theorem pLen_lst (x : List P) : pLen (.lst x) = some (.int x.length) := rfl
@[simp] theorem pLen_tup (x : List P) : pLen (.tup x) = some (.int x.length) := rfl
@[simp] theorem pInt_int (i : Int) : pInt (.int i) = some (.int i) := rfl
@[simp] theorem pNeg_int (i : Int) : pNeg (.int i) = some (.int (-i)) := rfl
@[simp] theorem pTuple_lst (x : List P) : pTuple (.lst x) = some (.tup x) := rfl
@[simp] theorem pTuple_tup (x : List P) : pTuple (.tup x) = some (.tup x) := rfl
@[simp] theorem pSub_lst (x : List P) (k : Int) : pSub (.lst x) (.int k) = L2.atI x k := rfl
@[simp] theorem pSub_tup (x : List P) (k : Int) : pSub (.tup x) (.int k) = L2.atI x k := rfl
@[simp] theorem pItems_lst (x : List P) : pItems [.lst x] = some x := rfl
@[simp] theorem pItems_tup (x : List P) : pItems [.tup x] = some x := rfl
@[simp] theorem pItems_fz (x : List P) : pItems [.fz x] = some x := rfl
@[simp] theorem itemsP_lst (x : List P) : itemsP (.lst x) = some x := rfl
@[simp] theorem itemsP_tup (x : List P) : itemsP (.tup x) = some x := rfl
@[simp] theorem itemsP_fz (x : List P) : itemsP (.fz x) = some x := rfl
@[simp] theorem itemsP_dK (k : List L2.Key) (x : List P) : itemsP (.dK k x) = some (k.map keyP) := rfl
@[simp] theorem itemsP_dT (k : List (List L2.Key)) (x : List P) : itemsP (.dT k x) = some (k.map tupP) := rfl
@[simp] theorem seqP_lst (x : List P) : seqP (.lst x) = some x := rfl
@[simp] theorem seqP_tup (x : List P) : seqP (.tup x) = some x := rfl
@[simp] theorem pIsN_n (x : P) : pIsN x .non = some (.bl x.isNon) := rfl
@[simp] theorem pNotN_n (x : P) : pNotN x .non = some (.bl (!x.isNon)) := rfl
@[simp] theorem isNon_n : P.non.isNon = true := rfl
@[simp] theorem isNon_i (i : Int) : (P.int i).isNon = false := rfl
@[simp] theorem isNon_t (x : List P) : (P.tup x).isNon = false := rfl
@[simp] theorem isNon_l (x : List P) : (P.lst x).isNon = false := rfl
@[simp] theorem isNon_k (k x) : (P.dK k x).isNon = false := rfl
@[simp] theorem pure_nil : pureAll [] = some [] := rfl
theorem atI_nat {α : Type} (xs : List α) (n : Nat) : L2.atI xs (n : Int) = xs[n]? := by
  unfold L2.atI L2.ixN
  rw [if_pos (by omega)]
  by_cases h : (n : Int) < (xs.length : Int)
  · rw [if_pos h]; simp
  · rw [if_neg h]
    rw [List.getElem?_eq_none (by omega)]; rfl
@[simp] theorem atI_0 {α : Type} (x : α) (xs : List α) : L2.atI (x :: xs) 0 = some x := by
  have := atI_nat (x :: xs) 0; simpa using this
@[simp] theorem atI_1 {α : Type} (x y : α) (xs : List α) : L2.atI (x :: y :: xs) 1 = some y := by
  have := atI_nat (x :: y :: xs) 1; simpa using this
@[simp] theorem atI_2 {α : Type} (x y z : α) (xs : List α) : L2.atI (x :: y :: z :: xs) 2 = some z := by
  have := atI_nat (x :: y :: z :: xs) 2; simpa using this
theorem atI_lt {α : Type} {xs : List α} {i : Int} (h0 : 0 ≤ i) (h1 : i < xs.length) : ∃ x, L2.atI xs i = some x ∧ xs[i.toNat]? = some x := by
  obtain ⟨n, rfl⟩ := Int.eq_ofNat_of_zero_le h0
  have hn : n < xs.length := by omega
  exact ⟨xs[n], by show L2.atI xs (n : Int) = _; rw [atI_nat]; simp [hn], by simp [hn]⟩
theorem CMulW_small {i j : Int} (h1 : i.natAbs < 2 ^ 1000) (h2 : j.natAbs < 2 ^ 1000) : L2.CMulW i j := by
  unfold L2.CMulW
  have g : ∀ n : Nat, n < 2 ^ 1000 → n.log2 < 1000 := fun n h => by
    by_cases h0 : n = 0
    · subst h0; simp
    · exact (Nat.log2_lt h0).mpr h
  have := g _ h1; have := g _ h2
  omega
theorem CDivW_small {i j : Int} (h1 : 0 < j) (h2 : j.natAbs < 2 ^ 1000) : L2.CDivW i j := by
  refine ⟨h1, ?_⟩
  have := (Nat.log2_lt (n := j.natAbs) (k := 1000) (by omega)).mpr h2
  omega
/-! ### == of plain data -/
mutual
/-- numbers, texts, None, rows of such, not too deep -/
def P.plain : Nat → P → Bool
  | _, .int _ => true
  | _, .str x => (PyData.str x).canLay0
  | _, .non => true
  | n + 1, .tup xs => plainL n xs
  | n + 1, .lst xs => plainL n xs
  | _, _ => false
def plainL : Nat → List P → Bool
  | _, [] => true
  | n, x :: xs => P.plain n x && plainL n xs
end
mutual
theorem plain_py : ∀ (n : Nat) (x : P), P.plain n x = true → ∃ d, x.py = some d ∧ d.canLay0 = true ∧ d.depth ≤ n
  | n, .int i, _ => ⟨.int i, rfl, rfl, Nat.zero_le _⟩
  | n, .str i, h => ⟨.str i, rfl, by cases n <;> simpa [P.plain] using h, Nat.zero_le _⟩
  | n, .non, _ => ⟨.none, rfl, rfl, Nat.zero_le _⟩
  | n + 1, .tup xs, h => by
    obtain ⟨ds, h1, h2, h3⟩ := plainL_py n xs (by simpa [P.plain] using h)
    exact ⟨.tuple ds, by simp [P.py, h1], by simpa [PyData.canLay0] using h2, by simp only [PyData.depth]; omega⟩
  | n + 1, .lst xs, h => by
    obtain ⟨ds, h1, h2, h3⟩ := plainL_py n xs (by simpa [P.plain] using h)
    exact ⟨.list ds, by simp [P.py, h1], by simpa [PyData.canLay0] using h2, by simp only [PyData.depth]; omega⟩
  | 0, .tup _, h => by simp [P.plain] at h
  | 0, .lst _, h => by simp [P.plain] at h
  | n, .bl _, h => by cases n <;> simp [P.plain] at h
  | n, .dK _ _, h => by cases n <;> simp [P.plain] at h
  | n, .dT _ _, h => by cases n <;> simp [P.plain] at h
  | n, .ins _ _ _, h => by cases n <;> simp [P.plain] at h
  | n, .fz _, h => by cases n <;> simp [P.plain] at h
theorem plainL_py : ∀ (n : Nat) (xs : List P), plainL n xs = true → ∃ ds, pyL xs = some ds ∧ PyData.canLayAll0 ds = true ∧ PyData.depthAll ds ≤ n
  | n, [], _ => ⟨[], rfl, rfl, Nat.zero_le _⟩
  | n, x :: xs, h => by
    simp only [plainL, Bool.and_eq_true] at h
    obtain ⟨d, h1, h2, h3⟩ := plain_py n x h.1
    obtain ⟨ds, h4, h5, h6⟩ := plainL_py n xs h.2
    exact ⟨d :: ds, by simp [pyL, h1, h4], by simp [PyData.canLayAll0, h2, h5], by simp only [PyData.depthAll]; omega⟩
end
mutual
theorem plain_eqv : ∀ (n m : Nat) (x y : P) (d e : PyData), P.plain n x = true → P.plain m y = true → x.py = some d → y.py = some e → (PyData.eqv d e = true ↔ x = y)
  | n, m, x, y, d, e, hx, hy, h1, h2 => by
    cases x with
    | non => cases y <;> first | (cases m <;> simp [P.plain] at hy; done) | (cases h1; simp only [P.py, Option.map_eq_some_iff] at h2; first | (cases h2; simp [PyData.eqv]; done) | (obtain ⟨_, _, rfl⟩ := h2; simp [PyData.eqv]))
    | int i => cases y <;> first | (cases m <;> simp [P.plain] at hy; done) | (cases h1; simp only [P.py, Option.map_eq_some_iff] at h2; first | (cases h2; simp [PyData.eqv]; done) | (obtain ⟨_, _, rfl⟩ := h2; simp [PyData.eqv]))
    | str i => cases y <;> first | (cases m <;> simp [P.plain] at hy; done) | (cases h1; simp only [P.py, Option.map_eq_some_iff] at h2; first | (cases h2; simp [PyData.eqv]; done) | (obtain ⟨_, _, rfl⟩ := h2; simp [PyData.eqv]))
    | tup xs =>
      cases n with
      | zero => simp [P.plain] at hx
      | succ n =>
        simp only [P.py, Option.map_eq_some_iff] at h1
        obtain ⟨ds, h1, rfl⟩ := h1
        cases y with
        | tup ys =>
          cases m with
          | zero => simp [P.plain] at hy
          | succ m =>
            simp only [P.py, Option.map_eq_some_iff] at h2
            obtain ⟨es, h2, rfl⟩ := h2
            simp only [PyData.eqv, P.tup.injEq]
            exact plainL_eqv n m xs ys ds es (by simpa [P.plain] using hx) (by simpa [P.plain] using hy) h1 h2
        | _ => first | (cases m <;> simp [P.plain] at hy; done) | (simp only [P.py, Option.map_eq_some_iff] at h2; first | (cases h2; simp [PyData.eqv]; done) | (obtain ⟨_, _, rfl⟩ := h2; simp [PyData.eqv]))
    | lst xs =>
      cases n with
      | zero => simp [P.plain] at hx
      | succ n =>
        simp only [P.py, Option.map_eq_some_iff] at h1
        obtain ⟨ds, h1, rfl⟩ := h1
        cases y with
        | lst ys =>
          cases m with
          | zero => simp [P.plain] at hy
          | succ m =>
            simp only [P.py, Option.map_eq_some_iff] at h2
            obtain ⟨es, h2, rfl⟩ := h2
            simp only [PyData.eqv, P.lst.injEq]
            exact plainL_eqv n m xs ys ds es (by simpa [P.plain] using hx) (by simpa [P.plain] using hy) h1 h2
        | _ => first | (cases m <;> simp [P.plain] at hy; done) | (simp only [P.py, Option.map_eq_some_iff] at h2; first | (cases h2; simp [PyData.eqv]; done) | (obtain ⟨_, _, rfl⟩ := h2; simp [PyData.eqv]))
    | _ => cases n <;> simp [P.plain] at hx
theorem plainL_eqv : ∀ (n m : Nat) (xs ys : List P) (ds es : List PyData), plainL n xs = true → plainL m ys = true → pyL xs = some ds → pyL ys = some es → (PyData.eqvAll ds es = true ↔ xs = ys)
  | n, m, [], [], ds, es, _, _, h1, h2 => by cases h1; cases h2; simp [PyData.eqvAll]
  | n, m, [], y :: ys, ds, es, _, hy, h1, h2 => by
    cases h1
    simp only [pyL, Option.bind_eq_some_iff, Option.map_eq_some_iff] at h2
    obtain ⟨d, _, ds, _, rfl⟩ := h2
    simp [PyData.eqvAll]
  | n, m, x :: xs, [], ds, es, _, hy, h1, h2 => by
    cases h2
    simp only [pyL, Option.bind_eq_some_iff, Option.map_eq_some_iff] at h1
    obtain ⟨d, _, ds, _, rfl⟩ := h1
    simp [PyData.eqvAll]
  | n, m, x :: xs, y :: ys, ds, es, hx, hy, h1, h2 => by
    simp only [pyL, Option.bind_eq_some_iff, Option.map_eq_some_iff] at h1 h2
    obtain ⟨d, a1, ds', a2, rfl⟩ := h1
    obtain ⟨e, b1, es', b2, rfl⟩ := h2
    simp only [plainL, Bool.and_eq_true] at hx hy
    simp only [PyData.eqvAll, Bool.and_eq_true, List.cons.injEq]
    rw [plain_eqv n m x y d e hx.1 hy.1 a1 b1, plainL_eqv n m xs ys ds' es' hx.2 hy.2 a2 b2]
end
theorem shaped_of {n : Nat} {d : PyData} (h1 : d.canLay0 = true) (h2 : d.depth ≤ n) (hn : n ≤ 64) : PySem.SeqAt.shaped d = true := by
  unfold PySem.SeqAt.shaped
  simp [h1]; omega
theorem pEqB_plain {n m : Nat} {x y : P} (hx : P.plain n x = true) (hy : P.plain m y = true) (hn : n ≤ 64) (hm : m ≤ 64) : ∃ b, pEqB x y = some b ∧ (b = true ↔ x = y) := by
  obtain ⟨d, h1, h2, h3⟩ := plain_py n x hx
  obtain ⟨e, h4, h5, h6⟩ := plain_py m y hy
  refine ⟨PyData.eqv d e, ?_, plain_eqv n m x y d e hx hy h1 h4⟩
  unfold pEqB
  rw [h1, h4]
  simp [shaped_of h2 h3 hn, shaped_of h5 h6 hm]
theorem wo_eq {n m : Nat} {x y : P} {Q : P → Prop} (hx : P.plain n x = true) (hy : P.plain m y = true) (h1 : x = y → Q (.bl true)) (h2 : x ≠ y → Q (.bl false)) (hn : n ≤ 64 := by decide) (hm : m ≤ 64 := by decide) : WO (pEq x y) Q := by
  obtain ⟨b, e, hb⟩ := pEqB_plain hx hy hn hm
  unfold pEq
  rw [e]
  cases b with
  | true => exact h1 (hb.mp rfl)
  | false => exact h2 fun z => by simpa using hb.mpr z
theorem wo_ne {n m : Nat} {x y : P} {Q : P → Prop} (hx : P.plain n x = true) (hy : P.plain m y = true) (h1 : x = y → Q (.bl false)) (h2 : x ≠ y → Q (.bl true)) (hn : n ≤ 64 := by decide) (hm : m ≤ 64 := by decide) : WO (pNe x y) Q := by
  obtain ⟨b, e, hb⟩ := pEqB_plain hx hy hn hm
  unfold pNe
  rw [e]
  cases b with
  | true => exact h1 (hb.mp rfl)
  | false => exact h2 fun z => by simpa using hb.mpr z
@[simp] theorem pEq_int (i j : Int) : pEq (.int i) (.int j) = some (.bl (decide (i = j))) := by
  obtain ⟨b, e, hb⟩ := pEqB_plain (n := 0) (m := 0) (x := .int i) (y := .int j) rfl rfl (by decide) (by decide)
  unfold pEq
  rw [e]
  simp only [P.int.injEq] at hb
  by_cases h : i = j
  · simp [h] at hb ⊢; exact hb
  · simp [h] at hb ⊢; exact hb
@[simp] theorem pNe_int (i j : Int) : pNe (.int i) (.int j) = some (.bl (!decide (i = j))) := by
  obtain ⟨b, e, hb⟩ := pEqB_plain (n := 0) (m := 0) (x := .int i) (y := .int j) rfl rfl (by decide) (by decide)
  unfold pNe
  rw [e]
  simp only [P.int.injEq] at hb
  by_cases h : i = j
  · simp [h] at hb ⊢; exact hb
  · simp [h] at hb ⊢; exact hb
theorem any_plain {n m : Nat} {x : P} {d : PyData} (hx : P.plain n x = true) (h1 : x.py = some d) : ∀ {ys : List P} {ds : List PyData}, plainL m ys = true → pyL ys = some ds → (anyEq d ds = true ↔ x ∈ ys)
  | [], ds, _, h => by cases h; simp [anyEq]
  | y :: ys, ds, hy, h => by
    simp only [pyL, Option.bind_eq_some_iff, Option.map_eq_some_iff] at h
    obtain ⟨e, b1, es', b2, rfl⟩ := h
    simp only [plainL, Bool.and_eq_true] at hy
    have ih := any_plain hx h1 hy.2 b2
    unfold anyEq at ih ⊢
    rw [List.any_cons, Bool.or_eq_true, plain_eqv m n y x e d hy.1 hx b1 h1, ih, List.mem_cons]
    constructor
    · rintro (h | h)
      · exact .inl h.symm
      · exact .inr h
    · rintro (h | h)
      · exact .inl h.symm
      · exact .inr h
theorem pIn_tup {neg : Bool} {n m : Nat} {x : P} {ys : List P} {Q : P → Prop} (hx : P.plain n x = true) (hy : plainL m ys = true) (h1 : x ∈ ys → Q (.bl (!neg))) (h2 : x ∉ ys → Q (.bl neg)) (hn : n ≤ 64 := by decide) (hm : m + 1 ≤ 64 := by decide) : WO (pInAll neg x (.tup ys)) Q := by
  obtain ⟨d, a1, a2, a3⟩ := plain_py n x hx
  obtain ⟨ds, b1, b2, b3⟩ := plainL_py m ys hy
  have hb := any_plain hx a1 hy b1
  have e : pInAll neg x (.tup ys) = some (.bl (neg ^^ anyEq d ds)) := by
    show (pInB x (.tup ys)).map _ = _
    have e1 : pInB x (.tup ys) = (match x.py, (P.tup ys).py with
      | some d, some (.tuple ds) => if PySem.SeqAt.shaped d = true ∧ PySem.SeqAt.shaped (.tuple ds) = true then some (anyEq d ds) else none
      | _, _ => none) := by cases x <;> rfl
    rw [e1, a1]
    simp only [P.py, b1, Option.map_some]
    rw [if_pos ⟨shaped_of a2 a3 hn, shaped_of (n := m + 1) (by simpa [PyData.canLay0] using b2) (by simp only [PyData.depth]; omega) hm⟩]
    rfl
  rw [e]
  by_cases h : x ∈ ys
  · rw [hb.mpr h, Bool.xor_true]; exact h1 h
  · have : anyEq d ds = false := by
      cases q : anyEq d ds with
      | false => rfl
      | true => exact absurd (hb.mp q) h
    rw [this, Bool.xor_false]; exact h2 h
end PV

set_option Elab.async false
set_option linter.all false
set_option maxRecDepth 100000
set_option maxHeartbeats 4000000
/-! PvY: loops and comprehensions by invariants. -/
namespace PV
theorem ws_loop {mg : MG} {mb : MS} {E : EP} (Inv : Nat → Env → Prop) : ∀ {xs : List P} {σ : Env} (k : Nat), Inv k σ → (∀ i x σ, xs[i]? = some x → Inv (k + i) σ → WN (mg x σ) fun σ1 => WS (mb σ1) { nx := Inv (k + i + 1), ct := Inv (k + i + 1), bk := E.nx, rt := E.rt, xc := E.xc }) →
    (∀ σ, Inv (k + xs.length) σ → E.nx σ) → WS (loop mg mb xs σ) E
  | [], σ, k, h0, _, hd => by with_unfolding_all exact hd σ h0
  | x :: xs, σ, k, h0, hs, hd => by
    unfold loop
    rw [ws_toN]
    have h1 := hs 0 x σ rfl h0
    unfold WN at h1 ⊢
    cases e : mg x σ with
    | none => rw [e] at h1; exact h1
    | some σ1 =>
      rw [e] at h1
      have go : ∀ σ2, Inv (k + 0 + 1) σ2 → WS (loop mg mb xs σ2) E := fun σ2 h2 =>
        ws_loop Inv (k + 1) h2 (fun i y σ hy hi => by
          have := hs (i + 1) y σ (by simpa using hy) (by rw [show k + (i + 1) = k + 1 + i by omega]; exact hi)
          rw [show k + (i + 1) + 1 = k + 1 + i + 1 by omega] at this
          exact this) (fun σ h => hd σ (by rw [List.length_cons, show k + (xs.length + 1) = k + 1 + xs.length by omega]; exact h))
      dsimp only at h1 ⊢
      cases em : mb σ1 with
      | next σ2 => rw [em] at h1; with_unfolding_all exact go σ2 h1
      | cont σ2 => rw [em] at h1; with_unfolding_all exact go σ2 h1
      | brk σ2 => rw [em] at h1; with_unfolding_all exact h1
      | ret d σ2 => rw [em] at h1; with_unfolding_all exact h1
      | exc c ns vs σ2 => rw [em] at h1; with_unfolding_all exact h1
      | stuck => rw [em] at h1; with_unfolding_all exact h1
theorem ws_for {mg : MG} {mb : MS} {E : EP} {xs : List P} {σ : Env} (Inv : Nat → Env → Prop) (h0 : Inv 0 σ) (hs : ∀ i x σ, xs[i]? = some x → Inv i σ → WN (mg x σ) fun σ1 => WS (mb σ1) { nx := Inv (i + 1), ct := Inv (i + 1), bk := E.nx, rt := E.rt, xc := E.xc }) (hd : ∀ σ, Inv xs.length σ → E.nx σ) : WS (loop mg mb xs σ) E :=
  ws_loop Inv 0 h0 (fun i x σ hx hi => by
    have := hs i x σ hx (by simpa using hi)
    simpa using this) (fun σ h => hd σ (by simpa using h))
/-- a comprehension's loop -/
def WC (mg : MG) (mt : MT) (me : M) (vs : List Nat) (xs acc : List P) (σ : Env) (Q : List P → Env → Prop) : Prop := match cLoop mg mt me vs xs acc σ with
  | .ok zs σ2 => Q zs σ2
  | _ => False
section
variable (σ : Env) (X : XP) (vs : List Nat) (mi : MI) (mg : MG) (mt : MT) (me : M)
theorem w_compR (Q : List P → Env → Prop) : WE (mCompR vs mi mg mt me σ) X Q = WE (mi σ) X fun xs σ1 => vs.all (pureAt σ1) = true ∧ WC mg mt me vs xs [] (wipeE σ1 vs) fun zs σ2 => Q zs (backE σ1 vs σ2) := by
  unfold mCompR
  rw [w_bind]
  congr 1; funext xs σ1
  rw [w_ite]
  unfold WC
  by_cases h : vs.all (pureAt σ1) = true
  · rw [if_pos h]
    simp only [h, true_and]
    cases cLoop mg mt me vs xs [] (wipeE σ1 vs) <;> with_unfolding_all rfl
  · rw [if_neg h]; simp [h, WE]
@[simp ↓] theorem w_comp (Q : O → Env → Prop) : WE (mComp vs mi mg mt me σ) X Q = WE (mi σ) X fun xs σ1 => vs.all (pureAt σ1) = true ∧ WC mg mt me vs xs [] (wipeE σ1 vs) fun zs σ2 => Q (.v (.lst zs)) (backE σ1 vs σ2) := by
  unfold mComp
  rw [w_bind, w_compR]; with_unfolding_all rfl
@[simp ↓] theorem w_compF (Q : D → Env → Prop) : WE (mCompF vs mi mg mt me σ) X Q = WE (mi σ) X fun xs σ1 => vs.all (pureAt σ1) = true ∧ WC mg mt me vs xs [] (wipeE σ1 vs) fun zs σ2 => Q (.lst zs) (backE σ1 vs σ2) := by
  unfold mCompF
  rw [w_bind, w_compR]; with_unfolding_all rfl
end
abbrev NoX : XP := fun _ _ _ _ => False
theorem wc_go {mg : MG} {mt : MT} {me : M} {vs : List Nat} {Q : List P → Env → Prop} (Inv : Nat → List P → Env → Prop) : ∀ {xs acc : List P} {σ : Env} (k : Nat), Inv k acc σ →
    (∀ i x acc σ, xs[i]? = some x → Inv (k + i) acc σ → WN (mg x σ) fun σ1 => WE (mt σ1) NoX fun b σ2 => if b = true then WE (me σ2) NoX fun o σ3 => fzQ σ3 o fun y σ4 => acc.length < PySem.sizeLine ∧ Inv (k + i + 1) (acc ++ [y]) (wipeE σ4 vs) else Inv (k + i + 1) acc (wipeE σ2 vs)) →
    (∀ acc σ, Inv (k + xs.length) acc σ → Q acc σ) → WC mg mt me vs xs acc σ Q
  | [], acc, σ, k, h0, _, hd => hd acc σ h0
  | x :: xs, acc, σ, k, h0, hs, hd => by
    have h1 := hs 0 x acc σ rfl h0
    have go : ∀ acc2 σ2, Inv (k + 0 + 1) acc2 σ2 → WC mg mt me vs xs acc2 σ2 Q := fun acc2 σ2 h2 =>
      wc_go Inv (k + 1) h2 (fun i y acc σ hy hi => by
        have := hs (i + 1) y acc σ (by simpa using hy) (by rw [show k + (i + 1) = k + 1 + i by omega]; exact hi)
        rw [show k + (i + 1) + 1 = k + 1 + i + 1 by omega] at this
        exact this) (fun acc σ h => hd acc σ (by rw [List.length_cons, show k + (xs.length + 1) = k + 1 + xs.length by omega]; exact h))
    unfold WC
    unfold cLoop
    unfold WN at h1
    cases e : mg x σ with
    | none => rw [e] at h1; exact h1.elim
    | some σ1 =>
      rw [e] at h1
      dsimp only at h1 ⊢
      cases et : mt σ1 with
      | stuck => rw [et] at h1; unfold WE at h1; exact h1.elim
      | exc _ _ _ _ => rw [et] at h1; unfold WE at h1; exact h1.elim
      | ok b σ2 =>
        rw [et] at h1
        rw [w_ok] at h1
        dsimp only
        cases b with
        | false => exact go _ _ h1
        | true =>
          simp only [if_true] at h1 ⊢
          cases ee : me σ2 with
          | stuck => rw [ee] at h1; unfold WE at h1; exact h1.elim
          | exc _ _ _ _ => rw [ee] at h1; unfold WE at h1; exact h1.elim
          | ok o σ3 =>
            rw [ee] at h1
            rw [w_ok, ← w_frz σ3 NoX o] at h1
            dsimp only
            cases ef : frz o σ3 with
            | stuck => rw [ef] at h1; unfold WE at h1; exact h1.elim
            | exc _ _ _ _ => rw [ef] at h1; unfold WE at h1; exact h1.elim
            | ok y σ4 =>
              rw [ef] at h1
              rw [w_ok] at h1
              dsimp only
              rw [if_pos h1.1]
              exact go _ _ h1.2
theorem wc_inv {mg : MG} {mt : MT} {me : M} {vs : List Nat} {Q : List P → Env → Prop} {xs acc : List P} {σ : Env} (Inv : Nat → List P → Env → Prop) (h0 : Inv 0 acc σ)
    (hs : ∀ i x acc σ, xs[i]? = some x → Inv i acc σ → WN (mg x σ) fun σ1 => WE (mt σ1) NoX fun b σ2 => if b = true then WE (me σ2) NoX fun o σ3 => fzQ σ3 o fun y σ4 => acc.length < PySem.sizeLine ∧ Inv (i + 1) (acc ++ [y]) (wipeE σ4 vs) else Inv (i + 1) acc (wipeE σ2 vs))
    (hd : ∀ acc σ, Inv xs.length acc σ → Q acc σ) : WC mg mt me vs xs acc σ Q :=
  wc_go Inv 0 h0 (fun i x acc σ hx hi => by
    have := hs i x acc σ hx (by simpa using hi)
    simpa using this) (fun acc σ h => hd acc σ (by simpa using h))
/-- where the slots stay: each item kept as f says, or dropped -/
theorem wc_map {mg : MG} {mt : MT} {me : M} {vs : List Nat} {Q : List P → Env → Prop} {xs : List P} {σ : Env} (f : P → Option P) (hl : xs.length ≤ PySem.sizeLine)
    (hs : ∀ x ∈ xs, WN (mg x σ) fun σ1 => WE (mt σ1) NoX fun b σ2 => if b = true then WE (me σ2) NoX fun o σ3 => fzQ σ3 o fun y σ4 => f x = some y ∧ wipeE σ4 vs = σ else f x = none ∧ wipeE σ2 vs = σ) (q : Q (xs.filterMap f) σ) : WC mg mt me vs xs [] σ Q := by
  refine wc_inv (fun i acc σ' => σ' = σ ∧ acc = (xs.take i).filterMap f) ⟨rfl, by simp⟩ (fun i x acc σ' hx ⟨e1, e2⟩ => ?_) (fun acc σ' ⟨e1, e2⟩ => by subst e1; subst e2; simpa using q)
  subst e1; subst e2
  have hi : i < xs.length := (List.getElem?_eq_some_iff.mp hx).1
  have et : xs.take (i + 1) = xs.take i ++ [x] := by
    rw [List.take_succ, hx]; with_unfolding_all rfl
  have hlt : ((xs.take i).filterMap f).length < PySem.sizeLine := by
    have h1 := List.length_filterMap_le f (xs.take i)
    have h2 := List.length_take_le i xs
    omega
  have h := hs x (List.mem_of_getElem? hx)
  revert h
  unfold WN
  cases mg x σ' with
  | none => exact id
  | some σ1 =>
    dsimp only
    unfold WE
    cases mt σ1 with
    | stuck => exact id
    | exc _ _ _ _ => exact id
    | ok b σ2 =>
      dsimp only
      cases b with
      | false =>
        simp only [Bool.false_eq_true, if_false]
        rintro ⟨h1, h2⟩
        exact ⟨h2, by rw [et, List.filterMap_append]; simp [h1]⟩
      | true =>
        simp only [if_true]
        cases me σ2 with
        | stuck => exact id
        | exc _ _ _ _ => exact id
        | ok o σ3 =>
          dsimp only
          rw [← w_frz σ3 NoX o, ← w_frz σ3 NoX o]
          unfold WE
          cases frz o σ3 with
          | stuck => exact id
          | exc _ _ _ _ => exact id
          | ok y σ4 =>
            dsimp only
            rintro ⟨h1, h2⟩
            exact ⟨hlt, h2, by rw [et, List.filterMap_append]; simp [h1]⟩
end PV

set_option Elab.async false
set_option linter.all false
set_option maxRecDepth 100000
set_option maxHeartbeats 4000000
/-! PvZ: more preconditions: parallel assignment, slices, .get, fields, instances, two clauses. -/
namespace PV
section
variable {α β : Type} (σ : Env) (X : XP) (E : EP)
@[simp ↓] theorem w_each0 (Q : List D → Env → Prop) : WE (mEach [] σ) X Q = Q [] σ := by with_unfolding_all rfl
@[simp ↓] theorem w_each_m (m : M) (ms : List ME) (Q : List D → Env → Prop) : WE (mEach (.m m :: ms) σ) X Q = WE (m σ) X fun o σ1 => fzQ σ1 o fun x σ2 => WE (mEach ms σ2) X fun ds σ3 => Q (.p x :: ds) σ3 := by
  show WE ((m σ).bind _) X Q = _
  rw [w_bind]
  congr 1; funext o σ1
  rw [w_bind, w_frz]
  congr 1; funext x σ2
  rw [w_bind]; with_unfolding_all rfl
@[simp ↓] theorem w_each_f (m : MF) (ms : List ME) (Q : List D → Env → Prop) : WE (mEach (.f m :: ms) σ) X Q = WE (m σ) X fun d σ1 => d.root = true ∧ WE (mEach ms σ1) X fun ds σ3 => Q (d :: ds) σ3 := by
  show WE ((m σ).bind _) X Q = _
  rw [w_bind]
  congr 1; funext d σ1
  rw [w_ite, w_bind]
  with_unfolding_all exact ite_conj
@[simp ↓] theorem ws_Par (is : List Nat) (ms : List ME) : WS (mPar is ms σ) E = WE (mEach ms σ) E.xc fun ds σ1 => is.length = ds.length ∧ E.nx (setAll is ds σ1) := by
  unfold mPar
  rw [ws_toS]
  congr 1; funext ds σ1
  rw [ws_ite]
  with_unfolding_all exact ite_conj
@[simp] theorem setAll_nil (ds : List D) : setAll [] ds σ = σ := by cases ds <;> with_unfolding_all rfl
@[simp] theorem setAll_cons (i : Nat) (is : List Nat) (d : D) (ds : List D) : setAll (i :: is) (d :: ds) σ = setAll is ds (σ.set i (some d)) := by with_unfolding_all rfl
@[simp] theorem root_l (x : List P) : (D.lst x).root = true := by with_unfolding_all rfl
@[simp] theorem root_k (k x) : (D.dK k x).root = true := by with_unfolding_all rfl
@[simp] theorem root_t (k x) : (D.dT k x).root = true := by with_unfolding_all rfl
@[simp ↓] theorem w_NoP (Q : Option Int → Env → Prop) : WE (mNoP σ) X Q = Q none σ := by with_unfolding_all rfl
@[simp ↓] theorem w_Part (m : M) (Q : Option Int → Env → Prop) : WE (mPart m σ) X Q = WE (m σ) X fun o σ1 => getQ σ1 o fun x => asI x fun i => Q (some i) σ1 := by
  unfold mPart
  rw [w_bind]
  congr 1; funext o σ1
  rw [getQ_eq]
  cases o.get σ1 with
  | none => with_unfolding_all rfl
  | some x => cases x <;> with_unfolding_all rfl
@[simp ↓] theorem w_Slice (m : M) (lo hi : MO) (Q : O → Env → Prop) : WE (mSlice m lo hi σ) X Q = WE (m σ) X fun o σ1 => WE (lo σ1) X fun l σ2 => WE (hi σ2) X fun u σ3 => getQ σ3 o fun x => WO (pSlice x l u) fun z => Q (.v z) σ3 := by
  unfold mSlice
  rw [w_bind]
  congr 1; funext o σ1
  rw [w_bind]
  congr 1; funext l σ2
  rw [w_bind]
  congr 1; funext u σ3
  rw [w_lift, wo_bind, getQ_eq]
def optQ (r : Option P) (Q : P → Prop) (N : Prop) : Prop := match r with
  | some x => Q x
  | none => N
@[simp ↓] theorem optQ_some (x : P) (Q : P → Prop) (N : Prop) : optQ (some x) Q N = Q x := by with_unfolding_all rfl
@[simp ↓] theorem optQ_none (Q : P → Prop) (N : Prop) : optQ none Q N = N := by with_unfolding_all rfl
@[simp ↓] theorem w_Get2 (md mk mx : M) (Q : O → Env → Prop) : WE (mGet2 md mk mx σ) X Q = WE (md σ) X fun od σ1 => getQ σ1 od fun d => isDP (some d) = true ∧ WE (mk σ1) X fun ok σ2 => WE (mx σ2) X fun ox σ3 => getQ σ3 od fun d => getQ σ3 ok fun k => WO (pGet? d k) fun r => optQ r (fun x => Q (.v x) σ3) (Q ox σ3) := by
  unfold mGet2
  rw [w_bind]
  congr 1; funext od σ1
  rw [w_ite, getQ_eq]
  cases e : od.get σ1 with
  | none => simp [isDP, WE, WO]
  | some d =>
    rw [wo_some]
    have : ∀ ok ox (σ3 : Env), WE (match (od.get σ3).bind fun d => (ok.get σ3).bind fun k => pGet? d k with | some (some x) => (R.ok (O.v x) σ3 : R O) | some none => .ok ox σ3 | none => .stuck) X Q = getQ σ3 od fun d => getQ σ3 ok fun k => WO (pGet? d k) fun r => optQ r (fun x => Q (.v x) σ3) (Q ox σ3) := fun ok ox σ3 => by
      rw [getQ_eq]
      cases od.get σ3 with
      | none => with_unfolding_all rfl
      | some d =>
        simp only [Option.bind_some, wo_some, getQ_eq]
        cases ok.get σ3 with
        | none => with_unfolding_all rfl
        | some k =>
          simp only [Option.bind_some, wo_some]
          cases pGet? d k with
          | none => with_unfolding_all rfl
          | some r => cases r <;> with_unfolding_all rfl
    by_cases h : isDP (some d) = true
    · rw [if_pos h]; simp only [w_bind, h, true_and]
      congr 1; funext ok σ2
      congr 1; funext ox σ3
      exact this ok ox σ3
    · rw [if_neg h]; simp [h, WE]
/-- the instance in a slot -/
def getI (σ : Env) (i : Nat) (Q : String → List String → List P → Prop) : Prop := match σ[i]? with
  | some (some (.ins c ns xs)) => Q c ns xs
  | _ => False
@[simp ↓] theorem getI_zero (c : String) (ns : List String) (xs : List P) (r : Env) (Q) : getI (some (.ins c ns xs) :: r) 0 Q = Q c ns xs := by with_unfolding_all rfl
@[simp ↓] theorem ws_Fld (i : Nat) (cs : List String) (f : String) (me : M) : WS (mFld i cs f me σ) E = WE (me σ) E.xc fun o σ1 => fzQ σ1 o fun x σ2 => getI σ2 i fun c ns xs => (c ∈ cs ∧ ns.length < 1000) ∧ E.nx (σ2.set i (some (.ins c (putFP f x ns xs).1 (putFP f x ns xs).2))) := by
  unfold mFld
  rw [ws_toS]
  congr 1; funext o σ1
  rw [ws_toS, w_frz]
  congr 1; funext x σ2
  unfold getI
  split
  · rename_i c ns xs e
    rw [ws_ite]; (try simp only [e]); with_unfolding_all exact ite_conj
  · rename_i h
    first
    | (with_unfolding_all rfl)
    | (split <;> first | (rename_i c ns xs e; exact absurd e (h c ns xs)) | (with_unfolding_all rfl))
@[simp ↓] theorem wn_gIx (i : Nat) (mk : M) (x : P) (Q : Env → Prop) : WN (mgIx i mk x σ) Q = getL σ i fun _ => WE (mk σ) NoX fun ok σ3 => getQ σ3 ok fun k => asI k fun k => getL σ3 i fun xs => WO (L2.ixN xs.length k) fun j => Q (σ3.set i (some (.lst (xs.set j x)))) := by
  unfold mgIx getL
  split
  · rename_i xs0 e0
    simp only [e0]
    cases mk σ with
    | stuck => with_unfolding_all rfl
    | exc _ _ _ _ => with_unfolding_all rfl
    | ok ok σ3 =>
      dsimp only
      rw [w_ok, getQ_eq]
      cases ok.get σ3 with
      | none => with_unfolding_all rfl
      | some k =>
        cases k with
        | int k =>
          simp only [wo_some, asI_int]
          cases σ3[i]? with
          | none => with_unfolding_all rfl
          | some d =>
            cases d with
            | none => with_unfolding_all rfl
            | some d =>
              cases d with
              | lst xs => dsimp only; cases L2.ixN xs.length k <;> with_unfolding_all rfl
              | _ => with_unfolding_all rfl
        | _ => with_unfolding_all rfl
  · rename_i h
    first
    | (with_unfolding_all rfl)
    | (split <;> first | (rename_i xs e; exact absurd e (h xs)) | (with_unfolding_all rfl))
theorem once_v : ∀ (xs : List P), once (xs.map O.v) = true
  | [] => rfl
  | x :: xs => once_v xs
theorem atIx_v : ∀ (xs : List P) (i k : Nat), atIx i k (xs.map O.v) = none
  | [], _, _ => rfl
  | x :: xs, i, k => atIx_v xs i (k + 1)
theorem take_v : ∀ (xs : List P) (σ : Env), takeAll σ (xs.map O.v) = some (xs.map D.p)
  | [], _ => rfl
  | x :: xs, σ => by
    show (takeAll σ (xs.map O.v)).bind _ = _
    rw [take_v xs]; with_unfolding_all rfl
theorem give_v : ∀ (xs : List P) (ds : List D) (σ : Env), giveBack σ (xs.map O.v) ds = σ
  | [], ds, σ => by cases ds <;> with_unfolding_all rfl
  | x :: xs, [], σ => rfl
  | x :: xs, d :: ds, σ => give_v xs ds σ
/-- an instance made from data -/
theorem w_make {c : String} {f : FS} {ms : List M} {Q : D → Env → Prop} {X : XP} {σ : Env} (h : WE (mAs ms σ) X fun os σ1 => ∃ xs : List P, os = xs.map O.v ∧ WF f (.ins c [] [] :: xs.map .p) (fun _ _ _ _ => False) fun d fin => d = .p .non ∧ ∃ d0 fin', fin = d0 :: fin' ∧ Q d0 σ1) : WE (mMakeF c f ms σ) X Q := by
  unfold mMakeF
  rw [w_bind]
  revert h
  cases mAs ms σ with
  | stuck => with_unfolding_all exact id
  | exc _ _ _ _ => with_unfolding_all exact id
  | ok os σ1 =>
    rw [w_ok, w_ok]
    rintro ⟨xs, rfl, hw⟩
    obtain ⟨d, fin, ef, rfl, d0, fin', rfl, q⟩ := hw.ok
    unfold makeEnd PV.callEnd
    have e1 : takeAll (σ1 ++ [some (.ins c [] [])]) (.at σ1.length :: xs.map O.v) = some (.ins c [] [] :: xs.map .p) := by
      rw [q_takea, take_v]
      simp
    rw [e1]
    have e2 : once (.at σ1.length :: xs.map O.v) = true := by
      rw [q_oncea, atIx_v, once_v]; with_unfolding_all rfl
    simp only [e2, if_true, ef, q_givea, give_v]
    unfold WE
    have e3 : ((σ1 ++ [some (D.ins c [] [])]).set σ1.length (some d0))[σ1.length]? = some (some d0) := by simp
    simp only [e3]
    have e4 : ((σ1 ++ [some (D.ins c [] [])]).set σ1.length (some d0)).take σ1.length = σ1 := by simp
    rw [e4]
    exact q
end
end PV

set_option Elab.async false
set_option linter.all false
set_option maxRecDepth 100000
set_option maxHeartbeats 4000000
/-! PvZb: more to compute with. -/
namespace PV
@[simp ↓] theorem w_True (σ : Env) (X : XP) (Q : Bool → Env → Prop) : WE (mTrue σ) X Q = Q true σ := by with_unfolding_all rfl
section
variable (T : String)
@[simp] theorem isTy_int (i : Int) : isTy T (.int i) = some (isTyB "int" T) := rfl
@[simp] theorem isTy_bl (i : Bool) : isTy T (.bl i) = some (isTyB "bool" T) := rfl
@[simp] theorem isTy_str (i : PySem.Str) : isTy T (.str i) = some (isTyB "str" T) := rfl
@[simp] theorem isTy_non : isTy T .non = some (isTyB "NoneType" T) := rfl
@[simp] theorem isTy_tup (x : List P) : isTy T (.tup x) = some (isTyB "tuple" T) := rfl
@[simp] theorem isTy_lst (x : List P) : isTy T (.lst x) = some (isTyB "list" T) := rfl
end
end PV

set_option Elab.async false
set_option linter.all false
set_option maxRecDepth 100000
set_option maxHeartbeats 4000000
/-! PvZc: comprehensions with two clauses, by what they do. -/
namespace PV
def WC2 (mg : MG) (mt : MT) (mi1 : MI) (mg1 : MG) (mt1 : MT) (me : M) (vs vs1 : List Nat) (xs acc : List P) (σ : Env) (Q : List P → Env → Prop) : Prop := match cLoop2 mg mt mi1 mg1 mt1 me vs vs1 xs acc σ with
  | .ok zs σ2 => Q zs σ2
  | _ => False
section
variable (σ : Env) (X : XP) (vs vs1 : List Nat) (mi mi1 : MI) (mg mg1 : MG) (mt mt1 : MT) (me : M)
theorem w_compR2 (Q : List P → Env → Prop) : WE (mCompR2 vs vs1 mi mg mt mi1 mg1 mt1 me σ) X Q = WE (mi σ) X fun xs σ1 => vs.all (pureAt σ1) = true ∧ WC2 mg mt mi1 mg1 mt1 me vs vs1 xs [] (wipeE σ1 vs) fun zs σ2 => Q zs (backE σ1 vs σ2) := by
  unfold mCompR2
  rw [w_bind]
  congr 1; funext xs σ1
  rw [w_ite]
  unfold WC2
  by_cases h : vs.all (pureAt σ1) = true
  · rw [if_pos h]
    simp only [h, true_and]
    cases cLoop2 mg mt mi1 mg1 mt1 me vs vs1 xs [] (wipeE σ1 vs) <;> with_unfolding_all rfl
  · rw [if_neg h]; simp [h, WE]
@[simp ↓] theorem w_comp2 (Q : O → Env → Prop) : WE (mComp2 vs vs1 mi mg mt mi1 mg1 mt1 me σ) X Q = WE (mi σ) X fun xs σ1 => vs.all (pureAt σ1) = true ∧ WC2 mg mt mi1 mg1 mt1 me vs vs1 xs [] (wipeE σ1 vs) fun zs σ2 => Q (.v (.lst zs)) (backE σ1 vs σ2) := by
  unfold mComp2
  rw [w_bind, w_compR2]; with_unfolding_all rfl
@[simp ↓] theorem w_compF2 (Q : D → Env → Prop) : WE (mCompF2 vs vs1 mi mg mt mi1 mg1 mt1 me σ) X Q = WE (mi σ) X fun xs σ1 => vs.all (pureAt σ1) = true ∧ WC2 mg mt mi1 mg1 mt1 me vs vs1 xs [] (wipeE σ1 vs) fun zs σ2 => Q (.lst zs) (backE σ1 vs σ2) := by
  unfold mCompF2
  rw [w_bind, w_compR2]; with_unfolding_all rfl
end
theorem wc2_go {mg mg1 : MG} {mt mt1 : MT} {mi1 : MI} {me : M} {vs vs1 : List Nat} {Q : List P → Env → Prop} (Inv : Nat → List P → Env → Prop) : ∀ {xs acc : List P} {σ : Env} (k : Nat), Inv k acc σ →
    (∀ i x acc σ, xs[i]? = some x → Inv (k + i) acc σ → WN (mg x σ) fun σ1 => WE (mt σ1) NoX fun b σ2 => if b = true then WE (mi1 σ2) NoX fun ys σ3 => WC mg1 mt1 me vs1 ys acc (wipeE σ3 vs1) fun acc2 σ4 => Inv (k + i + 1) acc2 (wipeE σ4 vs) else Inv (k + i + 1) acc (wipeE σ2 vs)) →
    (∀ acc σ, Inv (k + xs.length) acc σ → Q acc σ) → WC2 mg mt mi1 mg1 mt1 me vs vs1 xs acc σ Q
  | [], acc, σ, k, h0, _, hd => hd acc σ h0
  | x :: xs, acc, σ, k, h0, hs, hd => by
    have h1 := hs 0 x acc σ rfl h0
    have go : ∀ acc2 σ2, Inv (k + 0 + 1) acc2 σ2 → WC2 mg mt mi1 mg1 mt1 me vs vs1 xs acc2 σ2 Q := fun acc2 σ2 h2 =>
      wc2_go Inv (k + 1) h2 (fun i y acc σ hy hi => by
        have := hs (i + 1) y acc σ (by simpa using hy) (by rw [show k + (i + 1) = k + 1 + i by omega]; exact hi)
        rw [show k + (i + 1) + 1 = k + 1 + i + 1 by omega] at this
        exact this) (fun acc σ h => hd acc σ (by rw [List.length_cons, show k + (xs.length + 1) = k + 1 + xs.length by omega]; exact h))
    unfold WC2
    unfold cLoop2
    unfold WN at h1
    cases e : mg x σ with
    | none => rw [e] at h1; exact h1.elim
    | some σ1 =>
      rw [e] at h1
      dsimp only at h1 ⊢
      cases et : mt σ1 with
      | stuck => rw [et] at h1; unfold WE at h1; exact h1.elim
      | exc _ _ _ _ => rw [et] at h1; unfold WE at h1; exact h1.elim
      | ok b σ2 =>
        rw [et] at h1
        rw [w_ok] at h1
        dsimp only
        cases b with
        | false => exact go _ _ h1
        | true =>
          simp only [if_true] at h1 ⊢
          cases ee : mi1 σ2 with
          | stuck => rw [ee] at h1; unfold WE at h1; exact h1.elim
          | exc _ _ _ _ => rw [ee] at h1; unfold WE at h1; exact h1.elim
          | ok ys σ3 =>
            rw [ee] at h1
            rw [w_ok] at h1
            unfold WC at h1
            dsimp only
            cases ec : cLoop mg1 mt1 me vs1 ys acc (wipeE σ3 vs1) with
            | stuck => rw [ec] at h1; exact h1.elim
            | exc _ _ _ _ => rw [ec] at h1; exact h1.elim
            | ok acc2 σ4 =>
              rw [ec] at h1
              exact go _ _ h1
theorem wc2_inv {mg mg1 : MG} {mt mt1 : MT} {mi1 : MI} {me : M} {vs vs1 : List Nat} {Q : List P → Env → Prop} {xs acc : List P} {σ : Env} (Inv : Nat → List P → Env → Prop) (h0 : Inv 0 acc σ)
    (hs : ∀ i x acc σ, xs[i]? = some x → Inv i acc σ → WN (mg x σ) fun σ1 => WE (mt σ1) NoX fun b σ2 => if b = true then WE (mi1 σ2) NoX fun ys σ3 => WC mg1 mt1 me vs1 ys acc (wipeE σ3 vs1) fun acc2 σ4 => Inv (i + 1) acc2 (wipeE σ4 vs) else Inv (i + 1) acc (wipeE σ2 vs))
    (hd : ∀ acc σ, Inv xs.length acc σ → Q acc σ) : WC2 mg mt mi1 mg1 mt1 me vs vs1 xs acc σ Q :=
  wc2_go Inv 0 h0 (fun i x acc σ hx hi => by
    have := hs i x acc σ hx (by simpa using hi)
    simpa using this) (fun acc σ h => hd acc σ (by simpa using h))
theorem WC.imp {mg : MG} {mt : MT} {me : M} {vs : List Nat} {xs acc : List P} {σ : Env} {Q Q' : List P → Env → Prop} (h : WC mg mt me vs xs acc σ Q) (g : ∀ zs σ, Q zs σ → Q' zs σ) : WC mg mt me vs xs acc σ Q' := by
  revert h
  unfold WC
  cases cLoop mg mt me vs xs acc σ with
  | ok zs σ2 => exact g zs σ2
  | _ => exact id
/-- behind what is there: each item kept as f says, or dropped -/
theorem wc_mapA {mg : MG} {mt : MT} {me : M} {vs : List Nat} {Q : List P → Env → Prop} {xs acc : List P} {σ : Env} (f : P → Option P) (hl : acc.length + xs.length ≤ PySem.sizeLine)
    (hs : ∀ x ∈ xs, WN (mg x σ) fun σ1 => WE (mt σ1) NoX fun b σ2 => if b = true then WE (me σ2) NoX fun o σ3 => fzQ σ3 o fun y σ4 => f x = some y ∧ wipeE σ4 vs = σ else f x = none ∧ wipeE σ2 vs = σ) (q : Q (acc ++ xs.filterMap f) σ) : WC mg mt me vs xs acc σ Q := by
  refine wc_inv (fun i acc' σ' => σ' = σ ∧ acc' = acc ++ (xs.take i).filterMap f) ⟨rfl, by simp⟩ (fun i x acc' σ' hx ⟨e1, e2⟩ => ?_) (fun acc' σ' ⟨e1, e2⟩ => by subst e1; subst e2; simpa using q)
  subst e1; subst e2
  have hi : i < xs.length := (List.getElem?_eq_some_iff.mp hx).1
  have et : xs.take (i + 1) = xs.take i ++ [x] := by
    rw [List.take_succ, hx]; with_unfolding_all rfl
  have hlt : (acc ++ (xs.take i).filterMap f).length < PySem.sizeLine := by
    have h1 := List.length_filterMap_le f (xs.take i)
    have h2 := List.length_take_le i xs
    rw [List.length_append]
    omega
  have h := hs x (List.mem_of_getElem? hx)
  revert h
  unfold WN
  cases mg x σ' with
  | none => exact id
  | some σ1 =>
    dsimp only
    unfold WE
    cases mt σ1 with
    | stuck => exact id
    | exc _ _ _ _ => exact id
    | ok b σ2 =>
      dsimp only
      cases b with
      | false =>
        simp only [Bool.false_eq_true, if_false]
        rintro ⟨h1, h2⟩
        exact ⟨h2, by rw [et, List.filterMap_append]; simp [h1]⟩
      | true =>
        simp only [if_true]
        cases me σ2 with
        | stuck => exact id
        | exc _ _ _ _ => exact id
        | ok o σ3 =>
          dsimp only
          rw [← w_frz σ3 NoX o, ← w_frz σ3 NoX o]
          unfold WE
          cases frz o σ3 with
          | stuck => exact id
          | exc _ _ _ _ => exact id
          | ok y σ4 =>
            dsimp only
            rintro ⟨h1, h2⟩
            exact ⟨hlt, h2, by rw [et, List.filterMap_append]; simp [h1]⟩
/-- the rest of a block as a letter: simp leaves it alone -/
theorem ws_seqH {a b : MS} {σ : Env} {E : EP} (h : ∀ K : Env → Prop, (∀ σ, WS (b σ) E → K σ) → WS (a σ) { E with nx := K }) : WS (mSeq a b σ) E := by
  rw [ws_Seq]
  exact h _ fun σ h => h
end PV

set_option Elab.async false
set_option linter.all false
set_option maxRecDepth 100000
set_option maxHeartbeats 4000000
/-! the defs as functions on data, printed by gen.py. -/
namespace Sl
open PySem PV
def b__law_all_moves : MS := mRet (mOp2 pAdd (mComp [1, 2] (mIter (mOp2 pSub (mV 0) (mC (.int 1)))) (mgTup [mgN 1, mgN 2]) mTrue (mTup [mC (.str "slide"), mV 1, mV 2])) (mComp [3] (mRg1 (mPrim (pF1 pLen) [mOp2 pSub (mV 0) (mC (.int 2))])) (mgN 3) mTrue (mTup [mC (.str "turn"), mV 3])))
def s__law_all_moves : FS := fnOf 1 3 [] b__law_all_moves
def b__law_back : MS := mSeq (mSetF 2 (mLstF [])) (mSeq (mFor (mIter (mOp1 pRevL (mV 1))) (mgN 3) (mIf (mTe (mOp2 pEq (mOp2 pSub (mV 3) (mC (.int 0))) (mC (.str "turn")))) (mSetF 2 (mOpF pAdd (mV 2) (mOp2 pMul (mLst [mV 3]) (mOp2 pMinus (mPrim (pF1 pLen) [mOp2 pSub (mOp2 pSub (mV 0) (mC (.int 2))) (mOp2 pSub (mV 3) (mC (.int 1)))]) (mC (.int 1)))))) (mIf (mTe (mOp2 (pInAll false) (mTup [mOp2 pSub (mV 3) (mC (.int 2)), mOp2 pSub (mV 3) (mC (.int 1))]) (mOp2 pSub (mV 0) (mC (.int 1))))) (mDrop (mApp 2 (mTup [mC (.str "slide"), mOp2 pSub (mV 3) (mC (.int 2)), mOp2 pSub (mV 3) (mC (.int 1))]))) (mRet (mC .non))))) (mRet (mPrim (pF1 pTuple) [mV 2])))
def s__law_back : FS := fnOf 2 2 [] b__law_back
def b__law_draw : MS := mSeq (mDPut 0 (mC (.str "count")) (mOp2 pAdd (mOp2 pSub (mV 0) (mC (.str "count"))) (mC (.int 1)))) (mSeq (mIf (mAndT (mTe (mOp2 pEq (mOp2 pSub (mV 0) (mC (.str "digits"))) (mC (.int 0)))) (mTe (mOp2 pLt (mOp2 pSub (mV 0) (mC (.str "at"))) (mPrim (pF1 pLen) [mOp2 pSub (mV 0) (mC (.str "cells"))])))) (mSeq (mSet 2 (mOp2 pSub (mOp2 pSub (mV 0) (mC (.str "cells"))) (mOp2 pSub (mV 0) (mC (.str "at"))))) (mSeq (mDPut 0 (mC (.str "at")) (mOp2 pAdd (mOp2 pSub (mV 0) (mC (.str "at"))) (mC (.int 1)))) (mIf (mTe (mOp2 pGe (mV 2) (mOp2 pPow (mC (.int 10)) (mC (.int 18))))) (mDPut 0 (mC (.str "digits")) (mOp2 pMinus (mV 2) (mOp2 pPow (mC (.int 10)) (mC (.int 18))))) (mDPut 0 (mC (.str "fold")) (mOp2 pMod (mPrim (pF1 pInt) [mOp2 pAdd (mOp2 pMul (mOp2 pSub (mV 0) (mC (.str "fold"))) (mC (.int 69069))) (mV 2)]) (mC (.int 2147483587))))))) (mNil)) (mSeq (mIf (mTe (mOp2 pGt (mOp2 pSub (mV 0) (mC (.str "digits"))) (mC (.int 0)))) (mSeq (mSet 3 (mOp2 pMod (mPrim (pF1 pInt) [mOp2 pSub (mV 0) (mC (.str "digits"))]) (mV 1))) (mSeq (mDPut 0 (mC (.str "digits")) (mOp2 pDiv (mOp2 pSub (mV 0) (mC (.str "digits"))) (mV 1))) (mRet (mV 3)))) (mNil)) (mSeq (mSet 4 (mOp2 pAdd (mOp2 pAdd (mOp2 pSub (mV 0) (mC (.str "fold"))) (mOp2 pMul (mOp2 pSub (mV 0) (mC (.str "count"))) (mC (.int 8117)))) (mC (.int 61)))) (mRet (mOp2 pMod (mOp2 pDiv (mPrim (pF1 pInt) [mOp2 pMod (mOp2 pPow (mV 4) (mC (.int 17))) (mC (.int 2305843009213693951))]) (mC (.int 128))) (mV 1))))))
def s__law_draw : FS := fnOf 2 3 [0] b__law_draw
def b__law_moved : MS := mSeq (mSetF 3 (mPrimF pItems [mV 1])) (mSeq (mIf (mTe (mOp2 pEq (mOp2 pSub (mV 2) (mC (.int 0))) (mC (.str "slide")))) (mSeq (mIf (mOrT (mTe (mOp2 (pInAll true) (mTup [mOp2 pSub (mV 2) (mC (.int 1)), mOp2 pSub (mV 2) (mC (.int 2))]) (mOp2 pSub (mV 0) (mC (.int 1))))) (mOrT (mTe (mOp2 pEq (mOp2 pSub (mV 1) (mOp2 pSub (mV 2) (mC (.int 1)))) (mC (.int 0)))) (mTe (mOp2 pNe (mOp2 pSub (mV 1) (mOp2 pSub (mV 2) (mC (.int 2)))) (mC (.int 0)))))) (mRet (mC .non)) (mNil)) (mSeq (mAsg (mgTup [mgIx 3 (mOp2 pSub (mV 2) (mC (.int 1))), mgIx 3 (mOp2 pSub (mV 2) (mC (.int 2)))]) (mTup [mC (.int 0), mOp2 pSub (mV 1) (mOp2 pSub (mV 2) (mC (.int 1)))])) (mRet (mPrim (pF1 pTuple) [mV 3])))) (mNil)) (mSeq (mSet 4 (mOp2 pSub (mOp2 pSub (mV 0) (mC (.int 2))) (mOp2 pSub (mV 2) (mC (.int 1))))) (mSeq (mFor (mRg1 (mPrim (pF1 pLen) [mV 4])) (mgN 5) (mSetIx 3 (mOp2 pSub (mV 4) (mOp2 pMod (mPrim (pF1 pInt) [mOp2 pAdd (mV 5) (mC (.int 1))]) (mPrim (pF1 pLen) [mV 4]))) (mOp2 pSub (mV 1) (mOp2 pSub (mV 4) (mV 5))))) (mRet (mPrim (pF1 pTuple) [mV 3])))))
def s__law_moved : FS := fnOf 3 3 [] b__law_moved
def b__law_moves : MS := mSeq (mSet 2 (mComp [3, 4] (mIter (mOp2 pSub (mV 0) (mC (.int 1)))) (mgTup [mgN 3, mgN 4]) (mAndT (mTe (mOp2 pGt (mOp2 pSub (mV 1) (mV 3)) (mC (.int 0)))) (mTe (mOp2 pEq (mOp2 pSub (mV 1) (mV 4)) (mC (.int 0))))) (mTup [mC (.str "slide"), mV 3, mV 4]))) (mRet (mOp2 pAdd (mV 2) (mComp [5] (mRg1 (mPrim (pF1 pLen) [mOp2 pSub (mV 0) (mC (.int 2))])) (mgN 5) mTrue (mTup [mC (.str "turn"), mV 5]))))
def s__law_moves : FS := fnOf 2 4 [] b__law_moves
def b__law_pen : MS := mSeq (mSet 1 (mC (.int 0))) (mSeq (mFor (mIter (mV 0)) (mgN 2) (mSet 1 (mOp2 pMod (mPrim (pF1 pInt) [mOp2 pAdd (mOp2 pMul (mV 1) (mC (.int 67))) (mV 2)]) (mC (.int 1000000007))))) (mRetF (mDisp [.inr "cells", .inr "at", .inr "digits", .inr "count", .inr "fold"] [mPrim (fL pItems) [mV 0], mC (.int 0), mC (.int 0), mC (.int 0), mV 1])))
def s__law_pen : FS := fnOf 1 2 [] b__law_pen
def b__law_without : MS := mSeq (mSetF 2 (mDT)) (mSeq (mFor (mIter (mV 0)) (mgN 3) (mIf (mTe (mOp2 pNe (mV 3) (mV 1))) (mDPut 2 (mV 3) (mC (.bl true))) (mNil))) (mRet (mV 2)))
def s__law_without : FS := fnOf 2 2 [0] b__law_without
def b_filled : MS := mRet (mPrim (pF1 pTuple) [mComp [1, 2] (mEnum (mV 0)) (mgTup [mgN 1, mgN 2]) (mTe (mOp2 pGt (mV 2) (mC (.int 0)))) (mV 1)])
def s_filled : FS := fnOf 1 2 [] b_filled
def b_is_row : MS := mRet (mOp1 (pIs2 (isTy "tuple") (isTy "list")) (mV 0))
def s_is_row : FS := fnOf 1 0 [] b_is_row
def b_is_whole : MS := mRet (mAndV (mOp1 (pIs (isTy "int")) (mV 0)) (mNotV (mOp1 (pIs (isTy "bool")) (mV 0))))
def s_is_whole : FS := fnOf 1 0 [] b_is_whole
def b_turn_of : MS := mRet (mFz (mPrimK pDictZip [mV 0, mOp2 pAdd (mSlice (mV 0) (mPart (mC (.int 1))) mNoP) (mSlice (mV 0) mNoP (mPart (mC (.int 1))))]))
def s_turn_of : FS := fnOf 1 0 [] b_turn_of
def b__law_drawn_ring : MS := mSeq (mPar [2, 3] [.f (mRgL [mV 1]), .f (mLstF [])]) (mSeq (mFor (mRg1 (mOp2 pAdd (mC (.int 3)) (mCall s__law_draw [mV 0, mOp2 pMinus (mV 1) (mC (.int 2))]))) (mgN 4) (mDrop (mApp 3 (mPop 2 (mCall s__law_draw [mV 0, mPrim (pF1 pLen) [mV 2]]))))) (mRet (mPrim (pF1 pTuple) [mV 3])))
def s__law_drawn_ring : FS := fnOf 2 3 [0] b__law_drawn_ring
def b__law_drawn_stand : MS := mSeq (mPar [4, 5] [.f (mRgL [mV 1]), .f (mOpF pMul (mLst [mC (.int 0)]) (mV 1))]) (mSeq (mSetF 6 (mLstF [])) (mSeq (mFor (mRg1 (mOp2 pMinus (mV 1) (mV 2))) (mgN 7) (mDrop (mApp 6 (mIfE (mTe (mV 3)) (mOp2 pAdd (mC (.int 1)) (mCall s__law_draw [mV 0, mC (.int 2)])) (mOp2 pAdd (mV 7) (mC (.int 1))))))) (mSeq (mFor (mIter (mV 6)) (mgN 8) (mSetIx 5 (mPop 4 (mCall s__law_draw [mV 0, mPrim (pF1 pLen) [mV 4]])) (mV 8))) (mRet (mPrim (pF1 pTuple) [mV 5])))))
def s__law_drawn_stand : FS := fnOf 4 5 [0] b__law_drawn_stand
def b__law_pick : MS := mRet (mOp2 pSub (mV 1) (mCall s__law_draw [mV 0, mPrim (pF1 pLen) [mV 1]]))
def s__law_pick : FS := fnOf 2 0 [0] b__law_pick
def b__law_shuffled : MS := mSeq (mPar [2, 3] [.f (mPrimF pItems [mV 1]), .f (mLstF [])]) (mSeq (mFor (mRg1 (mPrim (pF1 pLen) [mV 1])) (mgN 4) (mDrop (mApp 3 (mPop 2 (mCall s__law_draw [mV 0, mPrim (pF1 pLen) [mV 2]]))))) (mRet (mV 3)))
def s__law_shuffled : FS := fnOf 2 3 [0] b__law_shuffled
def b_carried : MS := mSeq (mIf (mTe (mOp2 pEq (mOp2 pSub (mV 2) (mC (.int 0))) (mC (.str "turn")))) (mSeq (mSet 3 (mCall s_turn_of [mOp2 pSub (mOp1 (pAttr ["Yard"] "rings") (mV 0)) (mOp2 pSub (mV 2) (mC (.int 1)))])) (mRet (mFz (mPrimK pDictOf [mComp [4] (mIter (mV 1)) (mgN 4) mTrue (mTup [mGet2 (mV 3) (mV 4) (mV 4), mOp2 pSub (mV 1) (mV 4)])])))) (mNil)) (mSeq (mIf (mOrT (mTe (mOp2 (pInAll true) (mOp2 pSub (mV 2) (mC (.int 1))) (mV 1))) (mTe (mOp2 (pInAll false) (mOp2 pSub (mV 2) (mC (.int 2))) (mV 1)))) (mRet (mC .non)) (mNil)) (mRet (mFz (mPrimK pDictOf [mComp [4] (mIter (mV 1)) (mgN 4) mTrue (mTup [mIfE (mTe (mOp2 pEq (mV 4) (mOp2 pSub (mV 2) (mC (.int 1))))) (mOp2 pSub (mV 2) (mC (.int 2))) (mV 4), mOp2 pSub (mV 1) (mV 4)])]))))
def s_carried : FS := fnOf 3 2 [] b_carried
def b_is_place : MS := mRet (mAndV (mCall s_is_whole [mV 0]) (mChain pLe pLt (mC (.int 0)) (mV 0) (mV 1)))
def s_is_place : FS := fnOf 2 0 [] b_is_place
def b_is_stand : MS := mSeq (mIf (mOrT (mNotT (mTe (mOp1 (pIs (isTy "tuple")) (mV 1)))) (mTe (mOp2 pNe (mPrim (pF1 pLen) [mV 1]) (mOp1 (pAttr ["Yard"] "places") (mV 0))))) (mRet (mC (.bl false))) (mNil)) (mRet (mPrim (pF1 pAll) [mComp [2] (mIter (mV 1)) (mgN 2) mTrue (mAndV (mCall s_is_whole [mV 2]) (mOp2 pGe (mV 2) (mC (.int 0))))]))
def s_is_stand : FS := fnOf 2 1 [] b_is_stand
def b__law_drawn_yard : MS := mSeq (mSet 4 (mOp2 pAdd (mC (.int 2)) (mCall s__law_draw [mV 0, mOp2 pMinus (mV 1) (mC (.int 1))]))) (mSeq (mSetF 5 (mDT)) (mSeq (mFor (mRg2 (mC (.int 1)) (mV 4)) (mgN 6) (mSeq (mSet 7 (mCall s__law_draw [mV 0, mV 6])) (mSeq (mDPut 5 (mTup [mV 7, mV 6]) (mC (.bl true))) (mDPut 5 (mTup [mV 6, mV 7]) (mC (.bl true)))))) (mSeq (mFor (mRg1 (mCall s__law_draw [mV 0, mC (.int 3)])) (mgN 8) (mSeq (mPar [9, 7] [.m (mCall s__law_draw [mV 0, mV 4]), .m (mCall s__law_draw [mV 0, mV 4])]) (mIf (mTe (mOp2 pNe (mV 9) (mV 7))) (mSeq (mDPut 5 (mTup [mV 9, mV 7]) (mC (.bl true))) (mIf (mOrT (mNotT (mTe (mV 2))) (mTe (mOp2 pEq (mCall s__law_draw [mV 0, mC (.int 2)]) (mC (.int 0))))) (mDPut 5 (mTup [mV 7, mV 9]) (mC (.bl true))) (mNil))) (mNil)))) (mSeq (mIf (mAndT (mTe (mV 2)) (mTe (mOp2 pEq (mCall s__law_draw [mV 0, mC (.int 3)]) (mC (.int 0))))) (mSeq (mSet 10 (mCall s__law_pick [mV 0, mPrim (fL pSorted) [mV 5]])) (mSet 5 (mCall s__law_without [mV 5, mV 10]))) (mNil)) (mSeq (mSetF 11 (mLstF [])) (mSeq (mIf (mAndT (mTe (mV 3)) (mTe (mOp2 pGe (mV 4) (mC (.int 3))))) (mFor (mRg1 (mCall s__law_draw [mV 0, mC (.int 3)])) (mgN 8) (mDrop (mApp 11 (mCall s__law_drawn_ring [mV 0, mV 4])))) (mNil)) (mRet (mTup [mV 4, mPrim (pF1 pTuple) [mPrim (fL pSorted) [mV 5]], mPrim (pF1 pTuple) [mV 11]]))))))))
def s__law_drawn_yard : FS := fnOf 4 8 [0] b__law_drawn_yard
def b__law_some_moves : MS := mSeq (mSetF 4 (mLstF [])) (mSeq (mFor (mRg1 (mCall s__law_draw [mV 0, mOp2 pAdd (mV 3) (mC (.int 1))])) (mgN 5) (mSeq (mSet 6 (mCall s__law_moves [mV 1, mV 2])) (mSeq (mIf (mTe (mOp2 pEq (mV 6) (mLst []))) (mBreak) (mNil)) (mSeq (mDrop (mApp 4 (mCall s__law_pick [mV 0, mV 6]))) (mSet 2 (mCall s__law_moved [mV 1, mV 2, mOp2 pSub (mV 4) (mOp1 pNeg (mC (.int 1)))])))))) (mRet (mV 4)))
def s__law_some_moves : FS := fnOf 4 3 [0] b__law_some_moves
def b_as_tie : MS := mSeq (mIf (mOrT (mNotT (mTe (mCall s_is_row [mV 0]))) (mOrT (mTe (mOp2 pNe (mPrim (pF1 pLen) [mV 0]) (mC (.int 2)))) (mNotT (mTe (mPrim (pF1 pAll) [mComp [2] (mIter (mV 0)) (mgN 2) mTrue (mCall s_is_place [mV 2, mV 1])]))))) (mRet (mC .non)) (mNil)) (mRet (mIfE (mTe (mOp2 pNe (mOp2 pSub (mV 0) (mC (.int 0))) (mOp2 pSub (mV 0) (mC (.int 1))))) (mPrim (pF1 pTuple) [mV 0]) (mC .non)))
def s_as_tie : FS := fnOf 2 1 [] b_as_tie
def b_is_ring : MS := mSeq (mIf (mOrT (mNotT (mTe (mCall s_is_row [mV 0]))) (mOrT (mTe (mOp2 pLt (mPrim (pF1 pLen) [mV 0]) (mC (.int 3)))) (mNotT (mTe (mPrim (pF1 pAll) [mComp [2] (mIter (mV 0)) (mgN 2) mTrue (mCall s_is_place [mV 2, mV 1])]))))) (mRet (mC (.bl false))) (mNil)) (mRet (mOp2 pEq (mOp1 pLenSet (mV 0)) (mPrim (pF1 pLen) [mV 0])))
def s_is_ring : FS := fnOf 2 1 [] b_is_ring
def b_stand_told : MS := mSeq (mSet 2 (mIfE (mTe (mCall s_is_row [mV 1])) (mPrim (pF1 pTuple) [mV 1]) (mC .non))) (mSeq (mIf (mNotT (mTe (mCall s_is_stand [mV 0, mV 2]))) (mNever) (mNil)) (mRet (mV 2)))
def s_stand_told : FS := fnOf 2 1 [] b_stand_told
def b__law_some_yard : MS := mSeq (mIf (mTe (mOp2 pEq (mCall s__law_draw [mV 0, mC (.int 12)]) (mC (.int 0)))) (mRet (mTup [mC (.int 1), mTup [], mTup []])) (mNil)) (mRet (mCall s__law_drawn_yard [mV 0, mV 1, mOp2 pEq (mCall s__law_draw [mV 0, mC (.int 2)]) (mC (.int 0)), mOp2 pEq (mCall s__law_draw [mV 0, mC (.int 2)]) (mC (.int 0))]))
def s__law_some_yard : FS := fnOf 2 0 [0] b__law_some_yard
def b_as_move : MS := mSeq (mIf (mOrT (mNotT (mTe (mOp1 (pIs (isTy "tuple")) (mV 1)))) (mOrT (mTe (mOp2 pLt (mPrim (pF1 pLen) [mV 1]) (mC (.int 2)))) (mNotT (mTe (mOp1 (pIs (isTy "str")) (mOp2 pSub (mV 1) (mC (.int 0)))))))) (mRet (mC .non)) (mNil)) (mSeq (mIf (mAndT (mTe (mOp2 pEq (mOp2 pSub (mV 1) (mC (.int 0))) (mC (.str "slide")))) (mAndT (mTe (mOp2 pEq (mPrim (pF1 pLen) [mV 1]) (mC (.int 3)))) (mTe (mOp2 (pInAll false) (mCall s_as_tie [mSlice (mV 1) (mPart (mC (.int 1))) mNoP, mOp1 (pAttr ["Yard"] "places") (mV 0)]) (mOp1 (pAttr ["Yard"] "ties") (mV 0)))))) (mRet (mV 1)) (mNil)) (mSeq (mIf (mAndT (mTe (mOp2 pEq (mOp2 pSub (mV 1) (mC (.int 0))) (mC (.str "turn")))) (mAndT (mTe (mOp2 pEq (mPrim (pF1 pLen) [mV 1]) (mC (.int 2)))) (mTe (mCall s_is_place [mOp2 pSub (mV 1) (mC (.int 1)), mPrim (pF1 pLen) [mOp1 (pAttr ["Yard"] "rings") (mV 0)]])))) (mRet (mV 1)) (mNil)) (mRet (mC .non))))
def s_as_move : FS := fnOf 2 0 [] b_as_move
def b_rings_told : MS := mSeq (mIf (mNotT (mTe (mCall s_is_row [mV 0]))) (mNever) (mNil)) (mSeq (mFor (mEnum (mV 0)) (mgTup [mgN 2, mgN 3]) (mIf (mNotT (mTe (mCall s_is_ring [mV 3, mV 1]))) (mNever) (mNil))) (mRet (mPrim (pF1 pTuple) [mComp [3] (mIter (mV 0)) (mgN 3) mTrue (mPrim (pF1 pTuple) [mV 3])])))
def s_rings_told : FS := fnOf 2 2 [] b_rings_told
def b_ties_told : MS := mSeq (mIf (mNotT (mTe (mCall s_is_row [mV 0]))) (mNever) (mNil)) (mSeq (mSetF 2 (mDT)) (mSeq (mFor (mIter (mV 0)) (mgN 3) (mSeq (mSet 4 (mCall s_as_tie [mV 3, mV 1])) (mSeq (mIf (mOrT (mTe (mOp2 pIsN (mV 4) (mC .non))) (mTe (mOp2 (pInAll false) (mV 4) (mV 2)))) (mNever) (mNil)) (mDPut 2 (mV 4) (mC (.bl true)))))) (mRet (mPrim (pF1 pTuple) [mPrim (fL pSorted) [mV 2]]))))
def s_ties_told : FS := fnOf 2 3 [] b_ties_told
def b_Yard_init : MS := mSeq (mIf (mOrT (mNotT (mTe (mCall s_is_whole [mV 1]))) (mTe (mOp2 pLt (mV 1) (mC (.int 1))))) (mNever) (mNil)) (mSeq (mFld 0 ["Yard"] "places" (mV 1)) (mSeq (mFld 0 ["Yard"] "ties" (mCall s_ties_told [mV 2, mV 1])) (mFld 0 ["Yard"] "rings" (mCall s_rings_told [mV 3, mV 1]))))
def s_Yard_init : FS := fnOf 4 0 [0] b_Yard_init
def b__law_listed (me : FS) : MS := mSeq (mSet 2 (mComp [3] (mIter (mV 1)) (mgN 3) mTrue (mIfE (mTe (mOp1 (pIs (isTy "tuple")) (mV 3))) (mCall me [mV 0, mV 3]) (mV 3)))) (mRet (mIfE (mTe (mOp2 pEq (mCall s__law_draw [mV 0, mC (.int 2)]) (mC (.int 0)))) (mV 2) (mPrim (pF1 pTuple) [mV 2])))
def s__law_listed : Nat → FS
  | 0 => fun _ => .stuck
  | n + 1 => fnOf 2 2 [0] (b__law_listed (s__law_listed n))
def b_carried_all : MS := mSeq (mFor (mEnum (mV 2)) (mgTup [mgN 3, mgN 4]) (mSeq (mSet 5 (mCall s_as_move [mV 0, mV 4])) (mSeq (mSet 6 (mIfE (mTe (mOp2 pIsN (mV 5) (mC .non))) (mC .non) (mCall s_carried [mV 0, mV 1, mV 5]))) (mSeq (mIf (mTe (mOp2 pIsN (mV 6) (mC .non))) (mNever) (mNil)) (mSet 1 (mV 6)))))) (mRet (mV 1))
def s_carried_all : FS := fnOf 3 4 [] b_carried_all
def b_taken_back : MS := mSeq (mSetF 2 (mLstF [])) (mSeq (mFor (mEnum (mV 1)) (mgTup [mgN 3, mgN 4]) (mSeq (mSet 5 (mCall s_as_move [mV 0, mV 4])) (mSeq (mIf (mTe (mOp2 pIsN (mV 5) (mC .non))) (mNever) (mNil)) (mIf (mTe (mOp2 pEq (mOp2 pSub (mV 5) (mC (.int 0))) (mC (.str "turn")))) (mDrop (mApp 2 (mOp2 pMul (mLst [mV 5]) (mOp2 pMinus (mPrim (pF1 pLen) [mOp2 pSub (mOp1 (pAttr ["Yard"] "rings") (mV 0)) (mOp2 pSub (mV 5) (mC (.int 1)))]) (mC (.int 1)))))) (mDrop (mApp 2 (mIfE (mTe (mOp2 (pInAll false) (mTup [mOp2 pSub (mV 5) (mC (.int 2)), mOp2 pSub (mV 5) (mC (.int 1))]) (mOp1 (pAttr ["Yard"] "ties") (mV 0)))) (mLst [mTup [mC (.str "slide"), mOp2 pSub (mV 5) (mC (.int 2)), mOp2 pSub (mV 5) (mC (.int 1))]]) (mC .non)))))))) (mSeq (mIf (mTe (mPrim (pF1 pAny) [mComp [6] (mIter (mV 2)) (mgN 6) mTrue (mOp2 pIsN (mV 6) (mC .non))])) (mRet (mC .non)) (mNil)) (mRet (mPrim (pF1 pTuple) [mComp2 [6, 5] [5] (mIter (mOp1 pRevL (mV 2))) (mgN 6) mTrue (mIter (mV 6)) (mgN 5) mTrue (mV 5)]))))
def s_taken_back : FS := fnOf 2 5 [] b_taken_back
def b_played : MS := mSeq (mSet 3 (mCall s_stand_told [mV 0, mV 1])) (mSeq (mSet 4 (mCall s_carried_all [mV 0, mFz (mPrimK pDictOf [mComp [5] (mIter (mCall s_filled [mV 3])) (mgN 5) mTrue (mTup [mV 5, mOp2 pSub (mV 3) (mV 5)])]), mV 2])) (mRet (mPrim (pF1 pTuple) [mComp [5] (mRg1 (mOp1 (pAttr ["Yard"] "places") (mV 0))) (mgN 5) mTrue (mGet2 (mV 4) (mV 5) (mC (.int 0)))])))
def s_played : FS := fnOf 3 3 [] b_played
def b__law_made_yard : MS := mRet (mFz (mMakeF "Yard" s_Yard_init [mOp2 pSub (mV 1) (mC (.int 0)), mCall (s__law_listed 4) [mV 0, mPrim (pF1 pTuple) [mCall s__law_shuffled [mV 0, mOp2 pSub (mV 1) (mC (.int 1))]]], mCall (s__law_listed 4) [mV 0, mOp2 pSub (mV 1) (mC (.int 2))]]))
def s__law_made_yard : FS := fnOf 2 0 [0] b__law_made_yard
def b_law : MS := mSeq (mSetF 1 (mCallF s__law_pen [mV 0])) (mSeq (mFor (mRg1 (mC (.int 4))) (mgN 2) (mSeq (mSet 3 (mCall s__law_some_yard [mV 1, mC (.int 6)])) (mSeq (mSet 4 (mCall s__law_made_yard [mV 1, mV 3])) (mSeq (mSet 5 (mCall s__law_drawn_stand [mV 1, mOp2 pSub (mV 3) (mC (.int 0)), mPrim (pF1 pMinL) [mLst [mCall s__law_draw [mV 1, mC (.int 4)], mOp2 pSub (mV 3) (mC (.int 0))]], mOp2 pEq (mCall s__law_draw [mV 1, mC (.int 2)]) (mC (.int 0))])) (mSeq (mSet 6 (mCall s__law_some_moves [mV 1, mV 3, mV 5, mC (.int 10)])) (mSeq (mPar [7, 8] [.m (mCall s_taken_back [mV 4, mCall s__law_pick [mV 1, mLst [mV 6, mPrim (pF1 pTuple) [mV 6]]]]), .m (mCall s__law_back [mV 3, mV 6])]) (mSeq (mIf (mOrT (mTe (mOp2 pNe (mV 7) (mV 8))) (mTe (mOp2 pNe (mCall s_taken_back [mV 4, mTup []]) (mTup [])))) (mRet (mC (.bl false))) (mNil)) (mSeq (mIf (mAndT (mTe (mOp2 pNotN (mV 8) (mC .non))) (mTe (mOp2 pNe (mCall s_played [mV 4, mCall s_played [mV 4, mV 5, mV 6], mV 7]) (mV 5)))) (mRet (mC (.bl false))) (mNil)) (mSeq (mSet 9 (mCall s__law_all_moves [mV 3])) (mIf (mTe (mOp2 pNe (mV 9) (mLst []))) (mSeq (mSet 10 (mComp [11] (mRg1 (mOp2 pAdd (mC (.int 1)) (mCall s__law_draw [mV 1, mC (.int 4)]))) (mgN 11) mTrue (mCall s__law_pick [mV 1, mV 9]))) (mIf (mTe (mOp2 pNe (mCall s_taken_back [mV 4, mV 10]) (mCall s__law_back [mV 3, mV 10]))) (mRet (mC (.bl false))) (mNil))) (mNil))))))))))) (mRet (mC (.bl true))))
def s_law : FS := fnOf 1 11 [] b_law
end Sl

set_option Elab.async false
set_option linter.all false
set_option maxRecDepth 100000
set_option maxHeartbeats 4000000
/-! S06a: the pen. -/
namespace Sl
open PV
abbrev XF := String → List String → List P → List D → Prop
def penV (cells : List Int) (at_ digits count fold : Int) : List P := [.lst (cells.map .int), .int at_, .int digits, .int count, .int fold]
def penK : List (Int ⊕ PySem.Str) := [.inr "cells", .inr "at", .inr "digits", .inr "count", .inr "fold"]
def penD (cells : List Int) (at_ digits count fold : Int) : D := .dK penK (penV cells at_ digits count fold)
section
variable (l : List Int) (a d c f x : Int) (i : Nat)
@[simp] theorem pen_view : (penD l a d c f).view = .dK penK (penV l a d c f) := rfl
@[simp] theorem pen_op : D.op i (penD l a d c f) = .at i := rfl
@[simp] theorem pen_own : (penD l a d c f).owned = true := rfl
@[simp] theorem pg1 : pSub (.dK penK (penV l a d c f)) (.str "cells") = some (.lst (l.map .int)) := rfl
@[simp] theorem pg2 : pSub (.dK penK (penV l a d c f)) (.str "at") = some (.int a) := rfl
@[simp] theorem pg3 : pSub (.dK penK (penV l a d c f)) (.str "digits") = some (.int d) := rfl
@[simp] theorem pg4 : pSub (.dK penK (penV l a d c f)) (.str "count") = some (.int c) := rfl
@[simp] theorem pg5 : pSub (.dK penK (penV l a d c f)) (.str "fold") = some (.int f) := rfl
theorem five_sz : (5 : Nat) < PySem.sizeLine := by decide
@[simp] theorem pp2 : dPut (penD l a d c f) (.str "at") (.int x) = some (penD l x d c f) := by
  show (if (5:Nat) < PySem.sizeLine then _ else none) = _
  rw [if_pos five_sz]; rfl
@[simp] theorem pp3 : dPut (penD l a d c f) (.str "digits") (.int x) = some (penD l a x c f) := by
  show (if (5:Nat) < PySem.sizeLine then _ else none) = _
  rw [if_pos five_sz]; rfl
@[simp] theorem pp4 : dPut (penD l a d c f) (.str "count") (.int x) = some (penD l a d x f) := by
  show (if (5:Nat) < PySem.sizeLine then _ else none) = _
  rw [if_pos five_sz]; rfl
@[simp] theorem pp5 : dPut (penD l a d c f) (.str "fold") (.int x) = some (penD l a d c x) := by
  show (if (5:Nat) < PySem.sizeLine then _ else none) = _
  rw [if_pos five_sz]; rfl
end
/-- a pen from which n more draws may come -/
inductive Pen (n : Nat) : D → Prop
  | mk (l : List Int) (a d c f : Int) : 0 ≤ a → 0 ≤ d → 0 ≤ c → c + n ≤ 1000000 → 0 ≤ f → f < 2 ^ 31 → Pen n (penD l a d c f)
theorem Pen.less {n m : Nat} {p : D} (h : Pen n p) (hm : m ≤ n) : Pen m p := by
  cases h with
  | mk l a d c f h1 h2 h3 h4 h5 h6 => exact .mk l a d c f h1 h2 h3 (by omega) h5 h6
theorem Pen.own {n : Nat} {p : D} (h : Pen n p) : p.owned = true := by cases h; rfl
theorem Pen.op {n : Nat} {p : D} (h : Pen n p) (i : Nat) : D.op i p = .at i := by cases h; rfl
theorem atI_ints {l : List Int} {a : Int} (h0 : 0 ≤ a) (h1 : a < l.length) : ∃ z : Int, L2.atI (l.map P.int) a = some (.int z) := by
  obtain ⟨x, e1, e2⟩ := atI_lt (xs := l.map P.int) h0 (by simpa using h1)
  rw [List.getElem?_map] at e2
  obtain ⟨z, _, rfl⟩ := Option.map_eq_some_iff.mp e2
  exact ⟨z, e1⟩
theorem small_abs {i : Int} (h0 : 0 ≤ i) (h1 : i < 2 ^ 64) : i.natAbs < 2 ^ 1000 := by
  have : i.natAbs < 2 ^ 64 := by omega
  exact Nat.lt_of_lt_of_le this (Nat.pow_le_pow_right (by decide) (by decide))
theorem draw {n : Nat} {p : D} {m : Int} (hp : Pen (n + 1) p) (hm : 0 < m) (hm2 : m < 2 ^ 31) {X : XF} {Q : D → List D → Prop} (q : ∀ x p', Pen n p' → 0 ≤ x → x < m → Q (.p (.int x)) [p', .p (.int m)]) : WF s__law_draw [p, .p (.int m)] X Q := by
  obtain ⟨l, a, d, c, f, h1, h2, h3, h4, h5, h6⟩ := hp
  have hmd : ∀ x : Int, 0 ≤ x % m ∧ x % m < m := fun x => ⟨Int.emod_nonneg _ (by omega), Int.emod_lt_of_pos _ hm⟩
  refine wf_fn rfl rfl ?_
  have last : ∀ (l : List Int) (a f : Int), 0 ≤ a → 0 ≤ f → f < 2 ^ 31 → L2.CMulW (c + 1) 8117 ∧ L2.CPow (f + (c + 1) * 8117 + 61) 17 ∧ L2.CDivW ((f + (c + 1) * 8117 + 61) ^ 17 % 2305843009213693951) 128 := fun l a f h7 h8 h9 => by
    refine ⟨CMulW_small (small_abs (by omega) (by omega)) (by decide), ⟨by decide, by decide, ?_⟩, CDivW_small (by decide) (by decide)⟩
    omega
  have dig : ∀ (l : List Int) (a d f : Int), 0 ≤ a → 0 < d → 0 ≤ f → f < 2 ^ 31 → L2.CDivW d m ∧ Q (.p (.int (d % m))) [penD l a (d / m) (c + 1) f, .p (.int m)] := fun l a d f h7 h8 h9 h10 =>
    ⟨CDivW_small hm (small_abs (by omega) (by omega)), q _ _ (.mk l a _ _ f h7 (Int.ediv_nonneg (by omega) (by omega)) (by omega) (by omega) h9 h10) (hmd d).1 (hmd d).2⟩
  have mix : ∀ (l : List Int) (a f : Int) (z : Int), 0 ≤ a → 0 ≤ f → f < 2 ^ 31 → Q (.p (.int (z % m))) [penD l a 0 (c + 1) f, .p (.int m)] := fun l a f z h7 h9 h10 =>
    q _ _ (.mk l a _ _ f h7 (by omega) (by omega) (by omega) h9 h10) (hmd z).1 (hmd z).2
  have c10 : L2.CPow 10 18 := ⟨by decide, by decide, by decide⟩
  by_cases hd : d = 0
  · subst hd
    by_cases ha : a < l.length
    · obtain ⟨z, ez⟩ := atI_ints h1 ha
      have hmf : L2.CMulW f 69069 := CMulW_small (small_abs h5 (by omega)) (by decide)
      have hf2 : 0 ≤ (f * 69069 + z) % 2147483587 ∧ (f * 69069 + z) % 2147483587 < 2 ^ 31 := by
        have := Int.emod_nonneg (f * 69069 + z) (b := 2147483587) (by decide)
        have := Int.emod_lt_of_pos (f * 69069 + z) (b := 2147483587) (by decide)
        omega
      by_cases hz : (1000000000000000000 : Int) ≤ z
      · by_cases hz2 : 0 < z - 1000000000000000000
        · simp [b__law_draw, ha, ez, hz, c10, hm]
          have := dig l (a + 1) (z - 1000000000000000000) f (by omega) (by omega) h5 h6
          have hz3 : (1000000000000000000 : Int) < z := by omega
          simpa [hz3] using this
        · have e0 : z = 1000000000000000000 := by omega
          subst e0
          simp [b__law_draw, ha, ez, c10, hm]
          have := last l (a + 1) f (by omega) h5 h6
          exact ⟨this.1, this.2.1, this.2.2, mix l (a + 1) f _ (by omega) h5 h6⟩
      · simp [b__law_draw, ha, ez, hz, c10, hm, hmf]
        have := last l (a + 1) ((f * 69069 + z) % 2147483587) (by omega) hf2.1 hf2.2
        exact ⟨this.1, this.2.1, this.2.2, mix l (a + 1) _ _ (by omega) hf2.1 hf2.2⟩
    · simp [b__law_draw, ha, hm]
      have := last l a f h1 h5 h6
      exact ⟨this.1, this.2.1, this.2.2, mix l a f _ h1 h5 h6⟩
  · have hd2 : 0 < d := by omega
    simp [b__law_draw, hd, hd2, hm]
    exact dig l a d f h1 hd2 h5 h6
end Sl

set_option Elab.async false
set_option linter.all false
set_option maxRecDepth 100000
set_option maxHeartbeats 4000000
/-! S06b: drawn rows. -/
namespace Sl
open PV
theorem pick {n : Nat} {p : D} {xs : List P} (hp : Pen (n + 1) p) (hx : xs ≠ []) (hl : xs.length < 2 ^ 31) {X : XF} {Q : D → List D → Prop} (q : ∀ x p', x ∈ xs → Pen n p' → Q (.p x) [p', .p (.lst xs)]) : WF s__law_pick [p, .p (.lst xs)] X Q := by
  have ho := hp.op
  refine wf_fn rfl (by simp) ?_
  simp [b__law_pick, ho]
  refine draw (m := (xs.length : Int)) hp (by have := List.length_pos_iff.mpr hx; omega) (by omega) fun x p' hp' h0 h1 => ?_
  obtain ⟨y, e1, e2⟩ := atI_lt h0 h1
  simp [e1]
  exact q y p' (List.mem_of_getElem? e2) hp'
theorem erase_perm {α : Type} {xs : List α} {j : Nat} {x : α} (h : xs[j]? = some x) : (x :: xs.eraseIdx j).Perm xs := by
  induction xs generalizing j with
  | nil => simp at h
  | cons y ys ih =>
    cases j with
    | zero => simp at h; subst h; exact .refl _
    | succ j =>
      rw [List.eraseIdx_cons_succ]
      exact (List.Perm.swap y x _).trans ((ih (by simpa using h)).cons y)
theorem ixN_lt {n : Nat} {i : Int} (h0 : 0 ≤ i) (h1 : i < n) : L2.ixN n i = some i.toNat := by
  unfold L2.ixN
  rw [if_pos h0, if_pos h1]
theorem shuffled {n : Nat} {p : D} {x : P} {xs : List P} (hx : itemsP x = some xs) (hx2 : pLen x = some (.int xs.length)) (hx3 : pItems [x] = some xs) (hl : xs.length ≤ 1000000) (hp : Pen (n + xs.length) p) {X : XF} {Q : D → List D → Prop} (q : ∀ ys p', ys.Perm xs → Pen n p' → Q (.p (.lst ys)) [p', .p x]) : WF s__law_shuffled [p, .p x] X Q := by
  refine wf_fn rfl (by simp) ?_
  have hsz : PySem.sizeLine = 16777216 := by decide
  have hn0 : (-(2 ^ 62) : Int) ≤ (xs.length : Int) ∧ (xs.length : Int) < 2 ^ 62 := by omega
  simp [b__law_shuffled, hx2, hx3]
  refine ⟨by omega, ?_⟩
  refine ws_for (fun i σ => ∃ p' left found y, σ = [some p', some (.p x), some (.lst left), some (.lst found), y] ∧ Pen (n + xs.length - i) p' ∧ (found ++ left).Perm xs ∧ found.length = i) ⟨p, xs, [], _, rfl, hp, by simp, rfl⟩ ?_ ?_
  · rintro i z σ hi ⟨p', left, found, y, rfl, hp', hperm, hlen⟩
    have hil : i < xs.length := by
      have := (List.getElem?_eq_some_iff.mp hi).1
      simpa [rangeP] using this
    have hll : found.length + left.length = xs.length := by rw [← List.length_append, hperm.length_eq]
    have ho := hp'.op
    simp [ho]
    have e1 : n + xs.length - i = (n + xs.length - (i + 1)) + 1 := by omega
    rw [e1] at hp'
    refine draw (m := (left.length : Int)) hp' (by omega) (by omega) fun k p2 hp2 h0 h1 => ?_
    have ek : L2.ixN left.length k = some k.toNat := ixN_lt h0 h1
    have hk : k.toNat < left.length := by omega
    simp [ek, hk]
    refine ⟨by omega, by omega, p2, left.eraseIdx k.toNat, found ++ [left[k.toNat]], ⟨rfl, ⟨rfl, rfl⟩⟩, hp2, ?_, by simp [hlen]⟩
    refine List.Perm.trans ?_ hperm
    rw [List.append_assoc]
    refine List.Perm.append_left found ?_
    exact erase_perm (by simp [hk])
  · rintro σ ⟨p', left, found, y, rfl, hp', hperm, hlen⟩
    have e0 : (rangeP 0 xs.length).length = xs.length := by simp [rangeP]
    have hll : found.length + left.length = xs.length := by rw [← List.length_append, hperm.length_eq]
    rw [e0] at hp' hlen
    have hl0 : left = [] := List.length_eq_zero_iff.mp (by omega)
    subst hl0
    simp
    exact q found p' (by simpa using hperm) (hp'.less (by omega))
end Sl

set_option Elab.async false
set_option linter.all false
set_option maxRecDepth 100000
set_option maxHeartbeats 4000000
/-! S06c: the pen made; rings and stands drawn. -/
namespace Sl
open PV
theorem szl : PySem.sizeLine = 16777216 := by decide
theorem pen {ns : List Int} {X : XF} {Q : D → List D → Prop} (q : ∀ p, Pen 900000 p → Q p [.p (.fz (ns.map .int))]) : WF s__law_pen [.p (.fz (ns.map .int))] X Q := by
  refine wf_fn rfl (by simp) ?_
  simp [b__law_pen]
  refine ws_for (fun i σ => ∃ f y, σ = [some (.p (.fz (ns.map .int))), some (.p (.int f)), y] ∧ 0 ≤ f ∧ f < 1000000007) ⟨0, _, rfl, by decide, by decide⟩ ?_ ?_
  · rintro i x σ hi ⟨f, y, rfl, h0, h1⟩
    obtain ⟨z, _, rfl⟩ := List.mem_map.mp (List.mem_of_getElem? hi)
    have hm : L2.CMulW f 67 := CMulW_small (small_abs h0 (by omega)) (by decide)
    have := Int.emod_nonneg (f * 67 + z) (b := 1000000007) (by decide)
    have := Int.emod_lt_of_pos (f * 67 + z) (b := 1000000007) (by decide)
    have hd : ∀ i, L2.CDivW i 1000000007 := fun i => CDivW_small (by decide) (by decide)
    simp [hm, hd]
    omega
  · rintro σ ⟨f, y, rfl, h0, h1⟩
    simp [fL]
    exact q _ (.mk ns 0 0 0 f (by decide) (by decide) (by decide) (by decide) h0 (by omega))
theorem range_map (n : Nat) : rangeP 0 n = (List.range n).map fun i : Nat => P.int (i : Int) := by
  simp [rangeP]
theorem int_of {xs : List P} (h : ∀ x ∈ xs, ∃ i : Int, x = .int i) : ∃ r : List Int, xs = r.map .int := by
  induction xs with
  | nil => exact ⟨[], rfl⟩
  | cons x xs ih =>
    obtain ⟨i, rfl⟩ := h x (by simp)
    obtain ⟨r, rfl⟩ := ih fun y hy => h y (by simp [hy])
    exact ⟨i :: r, rfl⟩
theorem int_inj : Function.Injective P.int := fun a b h => by cases h; rfl
theorem ring_of {n : Nat} {found rest : List P} (h : (found ++ rest).Perm (rangeP 0 n)) : ∃ r : List Int, found = r.map .int ∧ r.Nodup ∧ ∀ x ∈ r, 0 ≤ x ∧ x < n := by
  have hm : ∀ x ∈ found, ∃ k : Nat, k < n ∧ x = .int k := fun x hx => by
    have := h.mem_iff.mp (List.mem_append_left _ hx)
    rw [range_map] at this
    simpa [eq_comm] using this
  obtain ⟨r, rfl⟩ := int_of (xs := found) fun x hx => by obtain ⟨k, _, e⟩ := hm x hx; exact ⟨k, e⟩
  refine ⟨r, rfl, ?_, fun x hx => ?_⟩
  · have h1 : (rangeP 0 n).Nodup := by
      rw [range_map]
      refine List.pairwise_map.mpr (List.nodup_range.imp fun hne e => hne ?_)
      cases e
      rfl
    have h2 := (List.Perm.nodup_iff h).mpr h1
    exact (List.pairwise_map.mp (List.nodup_append.mp h2).1).imp fun hne e => hne (by rw [e])
  · obtain ⟨k, hk, e⟩ := hm (.int x) (List.mem_map_of_mem hx)
    cases e
    omega
theorem rgok {n : Nat} (h : n ≤ 100) : L2.RgOk 0 n := by
  unfold L2.RgOk
  have := szl
  omega
theorem drawn_ring {n : Nat} {p : D} {k : Nat} (hk : 3 ≤ k) (hk2 : k ≤ 100) (hp : Pen (n + (k + 1)) p) {X : XF} {Q : D → List D → Prop} (q : ∀ (r : List Int) p', Pen n p' → 3 ≤ r.length → r.length ≤ k → r.Nodup → (∀ x ∈ r, 0 ≤ x ∧ x < k) → Q (.p (.tup (r.map .int))) [p', .p (.int k)]) : WF s__law_drawn_ring [p, .p (.int k)] X Q := by
  have ho := hp.op
  refine wf_fn rfl (by simp) ?_
  simp [b__law_drawn_ring, rgok hk2, ho]
  have hp1 : Pen (n + k + 1) p := hp
  refine draw (n := n + k) (m := (k : Int) - 2) hp1 (by omega) (by omega) fun x p1 hp1 h0 h1 => ?_
  obtain ⟨x, rfl⟩ := Int.eq_ofNat_of_zero_le h0
  simp
  have en : (3 + (x : Int)).toNat = 3 + x := by omega
  rw [en]
  refine ⟨by omega, ?_⟩
  have hx : 3 + x ≤ k := by omega
  have hsz := szl
  refine ws_for (fun i σ => ∃ p' left found y, σ = [some p', some (.p (.int k)), some (.lst left), some (.lst found), y] ∧ Pen (n + k - i) p' ∧ (found ++ left).Perm (rangeP 0 k) ∧ found.length = i) ⟨p1, rangeP 0 k, [], _, rfl, hp1, by simp, rfl⟩ ?_ ?_
  · rintro i z σ hi ⟨p', left, found, y, rfl, hp', hperm, hlen⟩
    have hil : i < 3 + x := by
      have := (List.getElem?_eq_some_iff.mp hi).1
      simpa [rangeP] using this
    have hll : found.length + left.length = k := by rw [← List.length_append, hperm.length_eq]; simp [rangeP]
    have ho := hp'.op
    simp [ho]
    have e1 : n + k - i = (n + k - (i + 1)) + 1 := by omega
    rw [e1] at hp'
    refine draw (m := (left.length : Int)) hp' (by omega) (by omega) fun k' p2 hp2 h0 h1 => ?_
    have ek : L2.ixN left.length k' = some k'.toNat := ixN_lt h0 h1
    have hk' : k'.toNat < left.length := by omega
    simp [ek, hk']
    refine ⟨by omega, by omega, p2, left.eraseIdx k'.toNat, found ++ [left[k'.toNat]], ⟨rfl, ⟨rfl, rfl⟩⟩, hp2, ?_, by simp [hlen]⟩
    refine List.Perm.trans ?_ hperm
    rw [List.append_assoc]
    refine List.Perm.append_left found ?_
    exact erase_perm (by simp [hk'])
  · rintro σ ⟨p', left, found, y, rfl, hp', hperm, hlen⟩
    have e0 : (rangeP 0 (3 + x)).length = 3 + x := by simp [rangeP]
    rw [e0] at hp' hlen
    obtain ⟨r, rfl, h1, h2⟩ := ring_of hperm
    simp
    rw [List.length_map] at hlen
    exact q r p' (hp'.less (by omega)) (by omega) (by omega) h1 h2
end Sl

set_option Elab.async false
set_option linter.all false
set_option maxRecDepth 100000
set_option maxHeartbeats 4000000
/-! S06d: stands drawn; rows of ties as keys. -/
namespace Sl
open PV
inductive St1 (n k h : Nat) (kd : Bool) (i : Nat) : Env → Prop
  | mk {p' : D} {things : List Int} {ys : List P} {y z : Option D} : Pen (n + 200 - i) p' → things.length = i → (∀ x ∈ things, (1 : Int) ≤ x) → ys = things.map P.int →
    St1 n k h kd i [some p', some (.p (.int k)), some (.p (.int h)), some (.p (.bl kd)), some (.lst (rangeP 0 k)), some (.lst (List.replicate k (.int 0))), some (.lst ys), y, z]
inductive St2 (n k h : Nat) (kd : Bool) (m : Nat) (th : P) (i : Nat) : Env → Prop
  | mk {p' : D} {left : List P} {st : List Int} {zs : List P} {y z : Option D} : Pen (n + 200 - m - i) p' → left.length + i = k → (∀ x ∈ left, ∃ j : Nat, j < k ∧ x = .int j) → st.length = k → (∀ x ∈ st, (0 : Int) ≤ x) → zs = st.map P.int →
    St2 n k h kd m th i [some p', some (.p (.int k)), some (.p (.int h)), some (.p (.bl kd)), some (.lst left), some (.lst zs), some (.p th), y, z]
theorem drawn_stand {n : Nat} {p : D} {k h : Nat} {kd : Bool} (hk : k ≤ 100) (hh : h ≤ k) (hp : Pen (n + 200) p) {X : XF} {Q : D → List D → Prop} (q : ∀ (st : List Int) p', Pen n p' → st.length = k → (∀ x ∈ st, 0 ≤ x) → Q (.p (.tup (st.map .int))) [p', .p (.int k), .p (.int h), .p (.bl kd)]) : WF s__law_drawn_stand [p, .p (.int k), .p (.int h), .p (.bl kd)] X Q := by
  have ho := hp.op
  have hsz := szl
  refine wf_fn rfl (by simp) ?_
  simp [b__law_drawn_stand, rgok hk, ho]
  refine ⟨by omega, by omega, by omega, ?_⟩
  refine ws_for (St1 n k h kd) (.mk (things := []) hp rfl (by simp) rfl) ?_ ?_
  · rintro i z σ hi ⟨hp', hlen, hpos, rfl⟩
    rename_i p' things y z'
    have hil : i < k - h ∧ z = .int i := by
      have := (List.getElem?_eq_some_iff.mp hi)
      simpa [rangeP, eq_comm] using this
    obtain ⟨hil, rfl⟩ := hil
    have ho := hp'.op
    have e1 : n + 200 - i = (n + 200 - (i + 1)) + 1 := by omega
    rw [e1] at hp'
    cases kd with
    | false =>
      simp [ho]
      refine ⟨by omega, .mk (things := things ++ [(i : Int) + 1]) (hp'.less (by omega)) (by simp [hlen]) ?_ (by simp)⟩
      intro x hx
      rcases List.mem_append.mp hx with h | h
      · exact hpos x h
      · simp at h; omega
    | true =>
      simp [ho]
      refine draw (m := 2) hp' (by omega) (by omega) fun x p2 hp2 h0 h1 => ?_
      simp
      refine ⟨by omega, .mk (things := things ++ [1 + x]) hp2 (by simp [hlen]) ?_ (by simp)⟩
      intro y hy
      rcases List.mem_append.mp hy with h | h
      · exact hpos y h
      · simp at h; omega
  · rintro σ ⟨hp', hlen, hpos, rfl⟩
    rename_i p' things y z
    have e0 : (rangeP 0 (k - h)).length = k - h := by simp [rangeP]
    rw [e0] at hp' hlen
    have ho := hp'.op
    simp [ho]
    refine ws_for (St2 n k h kd (k - h) (.lst (things.map .int))) (.mk (st := List.replicate k 0) hp' (by simp [rangeP]) (fun x hx => by simpa [range_map, eq_comm] using hx) (by simp) (by simp) (by simp)) ?_ ?_
    · rintro i t σ hi ⟨hp', hleft, hin, hst, hpos2, rfl⟩
      rename_i p' left st y z
      have hi2 : i < k - h := by
        have := (List.getElem?_eq_some_iff.mp hi).1
        simpa [hlen] using this
      obtain ⟨t, ht, rfl⟩ := List.mem_map.mp (List.mem_of_getElem? hi)
      have ho := hp'.op
      have e1 : n + 200 - (k - h) - i = (n + 200 - (k - h) - (i + 1)) + 1 := by omega
      rw [e1] at hp'
      simp [ho]
      refine draw (m := (left.length : Int)) hp' (by omega) (by omega) fun k' p2 hp2 h0 h1 => ?_
      have ek : L2.ixN left.length k' = some k'.toNat := ixN_lt h0 h1
      have hk' : k'.toNat < left.length := by omega
      obtain ⟨j, hj, ej⟩ := hin left[k'.toNat] (List.getElem_mem hk')
      have ej2 : L2.ixN k j = some j := by rw [ixN_lt (by omega) (by omega)]; simp
      simp [ek, hk', ej, hst, ej2]
      refine ⟨by omega, .mk (st := st.set j t) hp2 (by rw [List.length_eraseIdx_of_lt hk']; omega) (fun x hx => hin x (List.mem_of_mem_eraseIdx hx)) (by simp [hst]) (fun x hx => ?_) (by rw [List.map_set])⟩
      rcases List.mem_or_eq_of_mem_set hx with h | h
      · exact hpos2 x h
      · subst h; have := hpos _ ht; omega
    · rintro σ ⟨hp', hleft, hin, hst, hpos2, rfl⟩
      rename_i p' left st y z
      simp
      refine q st p' (hp'.less ?_) hst hpos2
      simp [hlen]
      omega
end Sl

set_option Elab.async false
set_option linter.all false
set_option maxRecDepth 100000
set_option maxHeartbeats 4000000
/-! S06e: ties and yards drawn. -/
namespace Sl
open PV
abbrev Tie := Int × Int
def tieP (t : Tie) : P := .tup [.int t.1, .int t.2]
def tk (t : Tie) : List L2.Key := [.inl t.1, .inl t.2]
def ringP (r : List Int) : P := .tup (r.map .int)
theorem tk_inj {a b : Tie} (h : tk a = tk b) : a = b := by
  simp [tk] at h; exact Prod.ext h.1 h.2
theorem tieP_inj {a b : Tie} (h : tieP a = tieP b) : a = b := by
  simp [tieP] at h; exact Prod.ext h.1 h.2
theorem tk_mem {t : Tie} {ts : List Tie} : tk t ∈ ts.map tk ↔ t ∈ ts := by
  constructor
  · intro h; obtain ⟨u, hu, e⟩ := List.mem_map.mp h; rw [← tk_inj e]; exact hu
  · exact List.mem_map_of_mem
theorem tieP_mem {t : Tie} {ts : List Tie} : tieP t ∈ ts.map tieP ↔ t ∈ ts := by
  constructor
  · intro h; obtain ⟨u, hu, e⟩ := List.mem_map.mp h; rw [← tieP_inj e]; exact hu
  · exact List.mem_map_of_mem
/-- a dict of ties, each True -/
def TD (ts : List Tie) : D := .dT (ts.map tk) (List.replicate ts.length (.bl true))
def tput (ts : List Tie) (t : Tie) : List Tie := if t ∈ ts then ts else ts ++ [t]
theorem setP_rep {κ : Type} [DecidableEq κ] (k : κ) (y : P) : ∀ (ks : List κ) (n : Nat), setP k y ks (List.replicate n y) = List.replicate n y
  | [], n => by cases n <;> rfl
  | k' :: ks, 0 => rfl
  | k' :: ks, n + 1 => by
    rw [List.replicate_succ]
    unfold setP
    split <;> rw [setP_rep k y ks n]
theorem put_td {ts : List Tie} {a b : Int} (h : ts.length < 1000) : dPut (TD ts) (.tup [.int a, .int b]) (.bl true) = some (TD (tput ts (a, b))) := by
  have hsz := szl
  show (if (ts.map tk).length < PySem.sizeLine then _ else none) = _
  rw [if_pos (by rw [List.length_map]; omega)]
  show some (D.dT (putP (tk (a, b)) (.bl true) (ts.map tk) (List.replicate ts.length (.bl true))).1 (putP (tk (a, b)) (.bl true) (ts.map tk) (List.replicate ts.length (.bl true))).2) = _
  unfold TD tput putP
  by_cases hm : (a, b) ∈ ts
  · rw [if_pos (tk_mem.mpr hm), if_pos hm, setP_rep]
  · rw [if_neg (fun h => hm (tk_mem.mp h)), if_neg hm]
    simp [List.replicate_succ']
@[simp] theorem td_op (i : Nat) (ts : List Tie) : D.op i (TD ts) = .at i := rfl
@[simp] theorem td_view (ts : List Tie) : (TD ts).view = .dT (ts.map tk) (List.replicate ts.length (.bl true)) := rfl
@[simp] theorem td_own (ts : List Tie) : (TD ts).owned = true := rfl
theorem td_nil : D.dT [] [] = TD [] := rfl
@[simp] theorem td_keys : tupP ∘ tk = tieP := rfl
/-- ties between different places -/
structure Ties (n : Nat) (m : Nat) (ts : List Tie) : Prop where
  ok : ∀ t ∈ ts, 0 ≤ t.1 ∧ t.1 < n ∧ 0 ≤ t.2 ∧ t.2 < n ∧ t.1 ≠ t.2
  nd : ts.Nodup
  len : ts.length ≤ m
theorem Ties.put {n m : Nat} {ts : List Tie} {a b : Int} (h : Ties n m ts) (h1 : 0 ≤ a) (h2 : a < n) (h3 : 0 ≤ b) (h4 : b < n) (h5 : a ≠ b) : Ties n (m + 1) (tput ts (a, b)) := by
  unfold tput
  by_cases hm : (a, b) ∈ ts
  · rw [if_pos hm]; exact ⟨h.ok, h.nd, by have := h.len; omega⟩
  · rw [if_neg hm]
    refine ⟨fun t ht => ?_, ?_, by have := h.len; simp; omega⟩
    · rcases List.mem_append.mp ht with h' | h'
      · exact h.ok t h'
      · simp at h'; subst h'; exact ⟨h1, h2, h3, h4, h5⟩
    · refine List.nodup_append.mpr ⟨h.nd, by simp, fun x hx y hy e => ?_⟩
      simp at hy; subst hy; subst e; exact hm hx
theorem Ties.more {n m k : Nat} {ts : List Tie} (h : Ties n m ts) (hk : m ≤ k) : Ties n k ts := ⟨h.ok, h.nd, Nat.le_trans h.len hk⟩
theorem tie_plain (t : Tie) : P.plain 1 (tieP t) = true := rfl
theorem tput_mem {ts : List Tie} {t u : Tie} : u ∈ tput ts t ↔ u ∈ ts ∨ u = t := by
  unfold tput
  by_cases h : t ∈ ts
  · rw [if_pos h]
    exact ⟨.inl, fun h' => h'.elim id fun e => e ▸ h⟩
  · rw [if_neg h]; simp
theorem put_tie {ts : List Tie} {t : Tie} (h : ts.length < 1000) : dPut (TD ts) (tieP t) (.bl true) = some (TD (tput ts t)) := put_td h
inductive Wi (n m : Nat) (ts : List Tie) (g : Tie) (d : Option D) (i : Nat) : Env → Prop
  | mk {us : List Tie} {y : Option D} {e : D} : Ties n m us → us.length ≤ i → (∀ t, t ∈ us ↔ t ∈ ts.take i ∧ t ≠ g) → e = TD us → Wi n m ts g d i [d, some (.p (tieP g)), some e, y]
theorem without {n m : Nat} {ts : List Tie} {g : Tie} (hm : m ≤ 900) (ht : Ties n m ts) {X : XF} {Q : D → List D → Prop} (q : ∀ us d', Ties n m us → (∀ t, t ∈ us ↔ t ∈ ts ∧ t ≠ g) → Q (.p (TD us).view) [d', .p (tieP g)]) : WF s__law_without [TD ts, .p (tieP g)] X Q := by
  refine wf_fn rfl (by simp) ?_
  have hl := ht.len
  simp [b__law_without, td_nil, td_keys]
  refine ⟨by simp [TD], ?_⟩
  refine ws_for (Wi n m ts g _) (.mk (us := []) ⟨by simp, by simp, by simp⟩ (by simp) (by simp) td_nil) ?_ ?_
  · rintro i x σ hi ⟨hu, hul, hmem, rfl⟩
    rename_i us y
    rw [List.getElem?_map] at hi
    obtain ⟨t, hi', rfl⟩ := Option.map_eq_some_iff.mp hi
    clear hi
    have hit : i < ts.length := (List.getElem?_eq_some_iff.mp hi').1
    have htake : ts.take (i + 1) = ts.take i ++ [t] := by rw [List.take_succ, hi']; rfl
    have hok := ht.ok t (List.mem_of_getElem? hi')
    simp
    refine wo_ne (n := 1) (m := 1) rfl rfl (fun he => ?_) (fun he => ?_)
    · have he := tieP_inj he
      simp
      refine .mk hu (by omega) (fun u => ?_) rfl
      rw [htake, hmem u]
      simp
      intro h1 h2; subst h2; exact absurd he h1
    · have he : t ≠ g := fun h => he (by rw [h])
      have hl' := hu.len
      simp [put_tie (ts := us) (t := t) (by omega)]
      have hlt : (tput us t).length ≤ i + 1 := by
        unfold tput; split <;> first | omega | (simp; omega)
      have hmem2 : ∀ u, u ∈ tput us t ↔ u ∈ ts.take (i + 1) ∧ u ≠ g := fun u => by
        rw [tput_mem, hmem u, htake, List.mem_append]
        constructor
        · rintro (⟨h1, h2⟩ | rfl)
          · exact ⟨.inl h1, h2⟩
          · exact ⟨.inr (by simp), he⟩
        · rintro ⟨h1 | h1, h2⟩
          · exact .inl ⟨h1, h2⟩
          · simp at h1; exact .inr h1
      have hput := hu.put (a := t.1) (b := t.2) hok.1 hok.2.1 hok.2.2.1 hok.2.2.2.1 hok.2.2.2.2
      refine .mk ⟨hput.ok, hput.nd, Nat.le_trans hlt (by have := ht.len; omega)⟩ hlt hmem2 rfl
  · rintro σ ⟨hu, hul, hmem, rfl⟩
    rename_i us y
    rw [List.length_map] at hul hmem
    simp
    refine ⟨by simp [TD], q us _ hu fun t => ?_⟩
    rw [hmem t]
    simp
def untie : P → Tie
  | .tup [.int a, .int b] => (a, b)
  | _ => (0, 0)
theorem untie_tie (t : Tie) : untie (tieP t) = t := rfl
def sortT (ts : List Tie) : List Tie := (sortP (ts.map tieP)).map untie
theorem sortT_map (ts : List Tie) : (sortT ts).map tieP = sortP (ts.map tieP) := by
  unfold sortT
  rw [List.map_map]
  refine (List.map_congr_left fun x hx => ?_).trans (List.map_id _)
  obtain ⟨t, _, rfl⟩ := List.mem_map.mp ((sortP_perm _).mem_iff.mp hx)
  rfl
theorem sortT_perm (ts : List Tie) : (sortT ts).Perm ts := by
  have h := (sortP_perm (ts.map tieP)).map untie
  rw [List.map_map] at h
  have e : (untie ∘ tieP) = id := rfl
  rw [e, List.map_id] at h
  exact h
theorem kinded_ties (ts : List Tie) : kinded (ts.map tieP) = true := by
  have : ∀ t : Tie, kdOf (tieP t) = some .t := fun t => rfl
  simp [kinded, this]
theorem sortT_srt (ts : List Tie) : sortP ((sortT ts).map tieP) = (sortT ts).map tieP := by
  refine (sortP_uniq (k := .t) (fun x hx => ?_) (.refl _) ?_).symm
  · obtain ⟨t, _, rfl⟩ := List.mem_map.mp hx; rfl
  · rw [sortT_map]; exact sortP_sorted _
theorem sorted_td (ts : List Tie) : pSorted [.dT (ts.map tk) (List.replicate ts.length (.bl true))] = some ((sortT ts).map tieP) := by
  show (itemsP (.dT (ts.map tk) (List.replicate ts.length (.bl true)))).bind (fun xs => if kinded xs = true then some (sortP xs) else none) = _
  rw [itemsP_dT, List.map_map, td_keys, Option.bind_some, if_pos (kinded_ties ts), sortT_map]
theorem Ties.perm {n m : Nat} {ts us : List Tie} (h : Ties n m ts) (hp : us.Perm ts) : Ties n m us :=
  ⟨fun t ht => h.ok t (hp.mem_iff.mp ht), hp.nodup_iff.mpr h.nd, by rw [hp.length_eq]; exact h.len⟩
theorem ws_cut {a b : MS} {σ : Env} {E : EP} (J : Env → Prop) (h1 : WS (a σ) { E with nx := J }) (h2 : ∀ σ, J σ → WS (b σ) E) : WS (mSeq a b σ) E := by
  rw [ws_Seq]
  revert h1
  cases a σ with
  | next σ1 => intro h; rw [ws_next]; exact h2 σ1 (by with_unfolding_all exact h)
  | _ => with_unfolding_all exact id
theorem tput_ne (ts : List Tie) (t : Tie) : tput ts t ≠ [] := fun h => by
  have : t ∈ tput ts t := tput_mem.mpr (.inr rfl)
  rw [h] at this; cases this
structure YOk (n : Nat) (ts : List Tie) (rs : List (List Int)) : Prop where
  n1 : 1 ≤ n
  n6 : n ≤ 6
  ties : Ties n 100 ts
  srt : sortP (ts.map tieP) = ts.map tieP
  ring : ∀ r ∈ rs, 3 ≤ r.length ∧ r.length ≤ n ∧ r.Nodup ∧ ∀ x ∈ r, 0 ≤ x ∧ x < n
  rl : rs.length ≤ 2
def yardP (n : Nat) (ts : List Tie) (rs : List (List Int)) : P := .tup [.int n, .tup (ts.map tieP), .tup (rs.map ringP)]
inductive Dy0 (n : Nat) (a1 a2 a3 : D) : Env → Prop
  | mk {p : D} {k : Nat} {z : P} {o5 o6 o7 o8 o9 o10 o11 : Option D} : Pen (n + 199) p → 2 ≤ k → k ≤ 6 → z = .int k → Dy0 n a1 a2 a3 [some p, some a1, some a2, some a3, some (.p z), o5, o6, o7, o8, o9, o10, o11]
inductive Dy1 (n : Nat) (a1 a2 a3 : D) (k : Nat) (i : Nat) : Env → Prop
  | mk {p : D} {ts : List Tie} {o6 o7 o8 o9 o10 o11 : Option D} {e : D} : Pen (n + 199 - i) p → (0 < i → ts ≠ []) → k ≤ 6 → Ties k (2 * i) ts → e = TD ts → Dy1 n a1 a2 a3 k i [some p, some a1, some a2, some a3, some (.p (.int k)), some e, o6, o7, o8, o9, o10, o11]
inductive Dy2 (n : Nat) (a1 a2 a3 : D) (k : Nat) (i : Nat) : Env → Prop
  | mk {p : D} {ts : List Tie} {o6 o7 o8 o9 o10 o11 : Option D} {e : D} : Pen (n + 190 - 3 * i) p → ts ≠ [] → k ≤ 6 → Ties k (20 + 2 * i) ts → e = TD ts → Dy2 n a1 a2 a3 k i [some p, some a1, some a2, some a3, some (.p (.int k)), some e, o6, o7, o8, o9, o10, o11]
inductive Dy3 (n : Nat) (a1 a2 a3 : D) (k : Nat) : Env → Prop
  | mk {p : D} {ts : List Tie} {o6 o7 o8 o9 o10 o11 : Option D} {e : D} : Pen (n + 160) p → 2 ≤ k → k ≤ 6 → Ties k 40 ts → e = TD ts ∨ e = .p (TD ts).view → Dy3 n a1 a2 a3 k [some p, some a1, some a2, some a3, some (.p (.int k)), some e, o6, o7, o8, o9, o10, o11]
inductive Dy4 (n : Nat) (a1 a2 a3 : D) (k : Nat) (ts : List Tie) (e : D) (i : Nat) : Env → Prop
  | mk {p : D} {rs : List (List Int)} {o6 o7 o8 o9 o10 : Option D} {zs : List P} : Pen (n + 150 - 10 * i) p → 2 ≤ k → k ≤ 6 → Ties k 40 ts → e = TD ts ∨ e = .p (TD ts).view → (∀ r ∈ rs, 3 ≤ r.length ∧ r.length ≤ k ∧ r.Nodup ∧ ∀ x ∈ r, 0 ≤ x ∧ x < k) → rs.length ≤ i → zs = rs.map ringP → Dy4 n a1 a2 a3 k ts e i [some p, some a1, some a2, some a3, some (.p (.int k)), some e, o6, o7, o8, o9, o10, some (.lst zs)]
theorem drawn_yard {n : Nat} {p : D} {w g : Bool} (hp : Pen (n + 200) p) {X : XF} {Q : D → List D → Prop} (q : ∀ k ts rs p', Pen n p' → YOk k ts rs → Q (.p (yardP k ts rs)) [p', .p (.int 6), .p (.bl w), .p (.bl g)]) : WF s__law_drawn_yard [p, .p (.int 6), .p (.bl w), .p (.bl g)] X Q := by
  have ho := hp.op
  have hsz := szl
  refine wf_fn rfl (by simp) ?_
  unfold b__law_drawn_yard
  refine ws_cut (Dy0 n (.p (.int 6)) (.p (.bl w)) (.p (.bl g))) ?_ ?_
  · simp [ho]
    refine draw (n := n + 199) (m := 5) hp (by omega) (by omega) fun x p1 hp1 h0 h1 => ?_
    obtain ⟨x, rfl⟩ := Int.eq_ofNat_of_zero_le h0
    simp
    exact .mk (k := 2 + x) hp1 (by omega) (by omega) (by simp)
  rintro σ ⟨hp1, hk2, hk6, rfl⟩
  clear ho hp
  rename_i p1 k o5 o6 o7 o8 o9 o10 o11
  refine ws_cut (Dy1 n (.p (.int 6)) (.p (.bl w)) (.p (.bl g)) k 0) ?_ ?_
  · simp
    exact .mk (ts := []) hp1 (by simp) hk6 ⟨by simp, by simp, by simp⟩ td_nil
  rintro σ ⟨hp1, -, -, hts, rfl⟩
  rename_i p1 ts o6 o7 o8 o9 o10 o11
  refine ws_cut (Dy2 (n + 1) (.p (.int 6)) (.p (.bl w)) (.p (.bl g)) k 0) ?_ ?_
  · simp
    refine ⟨by omega, ?_⟩
    refine ws_for (Dy1 n (.p (.int 6)) (.p (.bl w)) (.p (.bl g)) k) (.mk hp1 (by simp) hk6 hts rfl) ?_ ?_
    · rintro i z σ hi ⟨hp1, -, -, hts, rfl⟩
      rename_i p1 ts o6 o7 o8 o9 o10 o11
      have hi' : i < k - 1 ∧ z = .int (1 + i) := by
        have := (List.getElem?_eq_some_iff.mp hi)
        simpa [rangeP, eq_comm] using this
      obtain ⟨hik, rfl⟩ := hi'
      have ho := hp1.op
      simp [ho]
      have e1 : n + 199 - i = (n + 199 - (i + 1)) + 1 := by omega
      rw [e1] at hp1
      refine draw (m := 1 + (i : Int)) hp1 (by omega) (by omega) fun x p2 hp2 h0 h1 => ?_
      have hl := hts.len
      simp [put_td (ts := ts) (a := x) (b := 1 + (i : Int)) (by omega)]
      have ht1 := hts.put (a := x) (b := 1 + (i : Int)) h0 (by omega) (by omega) (by omega) (by omega)
      have hl1 := ht1.len
      simp [put_td (ts := tput ts (x, 1 + (i : Int))) (a := 1 + (i : Int)) (b := x) (by omega)]
      have ht2 := ht1.put (a := 1 + (i : Int)) (b := x) (by omega) (by omega) h0 (by omega) (by omega)
      exact ⟨by omega, .mk hp2 (fun _ => tput_ne _ _) hk6 (ht2.more (by omega)) rfl⟩
    · rintro σ ⟨hp1, hne, -, hts, rfl⟩
      rename_i p1 ts o6 o7 o8 o9 o10 o11
      simp [rangeP] at hp1 hts hne
      exact .mk (hp1.less (by omega)) (hne (by omega)) hk6 (hts.more (by omega)) rfl
  clear hts hp1
  rintro σ ⟨hp1, hne, -, hts, rfl⟩
  rename_i p1 ts o6 o7 o8 o9 o10 o11
  refine ws_cut (Dy2 n (.p (.int 6)) (.p (.bl w)) (.p (.bl g)) k 3) ?_ ?_
  · have ho := hp1.op
    simp [ho]
    refine draw (n := n + 190) (m := 3) (hp1.less (by omega)) (by omega) (by omega) fun x p2 hp2 h0 h1 => ?_
    obtain ⟨x, rfl⟩ := Int.eq_ofNat_of_zero_le h0
    simp
    refine ⟨by omega, ?_⟩
    refine ws_for (Dy2 n (.p (.int 6)) (.p (.bl w)) (.p (.bl g)) k) (.mk hp2 hne hk6 hts rfl) ?_ ?_
    · clear hts hp1 ho hp2 hne
      rintro i z σ hi ⟨hp1, hne, -, hts, rfl⟩
      rename_i p2' ts' o6' o7' o8' o9' o10' o11' p1 ts o6 o7 o8 o9 o10 o11
      have hi' : i < x := by
        have := (List.getElem?_eq_some_iff.mp hi).1
        simpa [rangeP] using this
      have ho := hp1.op
      simp [ho]
      refine draw (n := n + 189 - 3 * i) (m := (k : Int)) (hp1.less (by omega)) (by omega) (by omega) fun a p2 hp2 ha0 ha1 => ?_
      have ho := hp2.op
      simp [ho]
      refine draw (n := n + 188 - 3 * i) (m := (k : Int)) (hp2.less (by omega)) (by omega) (by omega) fun b p3 hp3 hb0 hb1 => ?_
      have ho := hp3.op
      have hl := hts.len
      simp
      by_cases hab : a = b
      · simp [hab]
        exact .mk (hp3.less (by omega)) hne hk6 (hts.more (by omega)) rfl
      · simp [hab, put_td (ts := ts) (a := a) (b := b) (by omega)]
        have ht1 := hts.put (a := a) (b := b) ha0 ha1 hb0 hb1 hab
        have hl1 := ht1.len
        refine ⟨by omega, ?_⟩
        have ht2 := ht1.put (a := b) (b := a) hb0 hb1 ha0 ha1 (fun h => hab h.symm)
        cases w with
        | false =>
          simp [put_td (ts := tput ts (a, b)) (a := b) (b := a) (by omega)]
          exact ⟨by omega, .mk (hp3.less (by omega)) (tput_ne _ _) hk6 (ht2.more (by omega)) rfl⟩
        | true =>
          simp [ho]
          refine draw (n := n + 187 - 3 * i) (m := 2) (hp3.less (by omega)) (by omega) (by omega) fun c p4 hp4 hc0 hc1 => ?_
          by_cases hc : c = 0
          · simp [hc, put_td (ts := tput ts (a, b)) (a := b) (b := a) (by omega)]
            exact ⟨by omega, .mk (hp4.less (by omega)) (tput_ne _ _) hk6 (ht2.more (by omega)) rfl⟩
          · simp [hc]
            exact .mk (hp4.less (by omega)) (tput_ne _ _) hk6 (ht1.more (by omega)) rfl
    · rintro σ ⟨hp1, hne, -, hts, rfl⟩
      simp [rangeP] at hp1 hts
      exact .mk (hp1.less (by omega)) hne hk6 (hts.more (by omega)) rfl
  clear hts hp1 hne
  rintro σ ⟨hp1, hne, -, hts, rfl⟩
  rename_i p1' ts' o6' o7' o8' o9' o10' o11' p1 ts o6 o7 o8 o9 o10 o11
  refine ws_cut (Dy3 n (.p (.int 6)) (.p (.bl w)) (.p (.bl g)) k) ?_ ?_
  · have ho := hp1.op
    cases w with
    | false =>
      simp
      exact .mk (hp1.less (by omega)) hk2 hk6 (hts.more (by omega)) (.inl rfl)
    | true =>
      simp [ho]
      refine draw (n := n + 180) (m := 3) (hp1.less (by omega)) (by omega) (by omega) fun c p4 hp4 hc0 hc1 => ?_
      by_cases hc : c = 0
      · have ho := hp4.op
        simp [hc, ho, fL, sorted_td]
        have hpm := sortT_perm ts
        refine pick (n := n + 170) (xs := (sortT ts).map tieP) (hp4.less (by omega)) ?_ ?_ fun x p5 hx hp5 => ?_
        · intro h; have := hpm.length_eq; simp at h; simp [h] at this; exact hne (List.length_eq_zero_iff.mp this.symm)
        · have := hts.len; simp [hpm.length_eq]; omega
        obtain ⟨t, ht, rfl⟩ := List.mem_map.mp hx
        simp
        refine without (m := 26) (by omega) hts fun us d' hus hmem => ?_
        simp
        exact .mk (hp5.less (by omega)) hk2 hk6 (hus.more (by omega)) (.inr rfl)
      · simp [hc]
        exact .mk (hp4.less (by omega)) hk2 hk6 (hts.more (by omega)) (.inl rfl)
  clear hts hp1 hne
  rintro σ ⟨hp1, -, -, hts, he⟩
  rename_i p1' ts' o6' o7' o8' o9' o10' o11' p1 ts o6 o7 o8 o9 o10 o11 e
  refine ws_cut (Dy4 (n + 1) (.p (.int 6)) (.p (.bl w)) (.p (.bl g)) k ts e 0) ?_ ?_
  · simp
    exact .mk (rs := []) (hp1.less (by omega)) hk2 hk6 hts he (by simp) (by simp) rfl
  clear hp1
  rintro σ ⟨hp1, -, -, -, -, hrs, hrl, rfl⟩
  rename_i p1 rs o6 o7 o8 o9 o10
  refine ws_cut (Dy4 n (.p (.int 6)) (.p (.bl w)) (.p (.bl g)) k ts e 2) ?_ ?_
  · have ho := hp1.op
    cases g with
    | false =>
      simp
      exact .mk (hp1.less (by omega)) hk2 hk6 hts he hrs (by omega) rfl
    | true =>
      simp [ho]
      by_cases hk3 : (3 : Int) ≤ k
      · simp [hk3, ho]
        refine draw (n := n + 150) (m := 3) (hp1.less (by omega)) (by omega) (by omega) fun x p2 hp2 h0 h1 => ?_
        obtain ⟨x, rfl⟩ := Int.eq_ofNat_of_zero_le h0
        simp
        refine ⟨by omega, ?_⟩
        refine ws_for (fun i σ => i ≤ x ∧ Dy4 n (.p (.int 6)) (.p (.bl w)) (.p (.bl true)) k ts e i σ) ⟨by omega, .mk (hp2.less (by omega)) hk2 hk6 hts he hrs hrl rfl⟩ ?_ ?_
        · clear hp1 hrs hrl ho hp2
          rintro i z σ hi ⟨-, hp1, -, -, -, -, hrs, hrl, rfl⟩
          rename_i p2' rs' o6' o7' o8' o9' o10' p1 rs o6 o7 o8 o9 o10
          have hi' : i < x := by
            have := (List.getElem?_eq_some_iff.mp hi).1
            simpa [rangeP] using this
          have ho := hp1.op
          simp [ho]
          refine drawn_ring (n := n + 140 - 10 * i) (k := k) (by omega) (by omega) (hp1.less (by omega)) fun r p2 hp2 h3 h4 h5 h6 => ?_
          simp
          refine ⟨by omega, by omega, .mk (rs := rs ++ [r]) (hp2.less (by omega)) hk2 hk6 hts he ?_ (by simp; omega) (by simp [ringP])⟩
          intro r' hr'
          rcases List.mem_append.mp hr' with h | h
          · exact hrs r' h
          · simp at h; subst h; exact ⟨h3, h4, h5, h6⟩
        · rintro σ ⟨-, hp1, -, -, -, -, hrs, hrl, rfl⟩
          simp [rangeP] at hp1 hrl
          exact .mk (hp1.less (by omega)) hk2 hk6 hts he hrs (by omega) rfl
      · simp [hk3]
        exact .mk (hp1.less (by omega)) hk2 hk6 hts he hrs (by omega) rfl
  clear hp1 hrs hrl
  rintro σ ⟨hp1, -, -, -, -, hrs, hrl, rfl⟩
  rename_i p1' rs' o6' o7' o8' o9' o10' p1 rs o6 o7 o8 o9 o10
  have hy : YOk k (sortT ts) rs := ⟨by omega, hk6, (hts.perm (sortT_perm ts)).more (by omega), sortT_srt ts, hrs, hrl⟩
  have hq := q k (sortT ts) rs p1 (hp1.less (by omega)) hy
  rcases he with rfl | rfl
  · simp [fL, sorted_td]
    exact ⟨by omega, hq⟩
  · simp [fL, sorted_td]
    exact ⟨by omega, hq⟩
theorem some_yard {n : Nat} {p : D} (hp : Pen (n + 210) p) {X : XF} {Q : D → List D → Prop} (q : ∀ k ts rs p', Pen n p' → YOk k ts rs → Q (.p (yardP k ts rs)) [p', .p (.int 6)]) : WF s__law_some_yard [p, .p (.int 6)] X Q := by
  have ho := hp.op
  have hsz := szl
  refine wf_fn rfl (by simp) ?_
  simp [b__law_some_yard, ho]
  refine draw (n := n + 209) (m := 12) hp (by omega) (by omega) fun x p1 hp1 h0 h1 => ?_
  have ho := hp1.op
  by_cases hx : x = 0
  · simp [hx]
    exact ⟨by omega, q 1 [] [] p1 (hp1.less (by omega)) ⟨by omega, by omega, ⟨by simp, by simp, by simp⟩, sortP_short (by simp), by simp, by simp⟩⟩
  · simp [hx, ho]
    refine draw (n := n + 208) (m := 2) hp1 (by omega) (by omega) fun x p2 hp2 h0 h1 => ?_
    have ho := hp2.op
    simp [ho]
    refine draw (n := n + 207) (m := 2) hp2 (by omega) (by omega) fun y p3 hp3 h0 h1 => ?_
    have ho := hp3.op
    simp [ho]
    refine drawn_yard (n := n) (hp3.less (by omega)) fun k ts rs p4 hp4 hy => ?_
    simp
    exact q k ts rs p4 hp4 hy
end Sl

set_option Elab.async false
set_option linter.all false
set_option maxRecDepth 100000
set_option maxHeartbeats 4000000
/-! S06f: rows told loosely, yards made. -/
namespace Sl
open PV
def RowI (y : P) (l : List Int) : Prop := y = .lst (l.map .int) ∨ y = .tup (l.map .int)
def RowR (y : P) (ls : List (List Int)) : Prop := ∃ zs : List P, (y = .lst zs ∨ y = .tup zs) ∧ zs.length = ls.length ∧ ∀ (i : Nat) (z : P) (l : List Int), zs[i]? = some z → ls[i]? = some l → RowI z l
theorem listed1 {n m : Nat} {p : D} {l : List Int} (hl : l.length ≤ 1000) (hp : Pen (n + 1) p) {X : XF} {Q : D → List D → Prop} (q : ∀ y p', RowI y l → Pen n p' → Q (.p y) [p', .p (.tup (l.map .int))]) : WF (s__law_listed (m + 1)) [p, .p (.tup (l.map .int))] X Q := by
  have ho := hp.op
  have hsz := szl
  show WF (fnOf 2 2 [0] (b__law_listed (s__law_listed m))) _ _ _
  refine wf_fn rfl (by simp) ?_
  simp [b__law_listed, ho, pureAt, wipeE, backE]
  refine wc_map some (by simp; omega) ?_ ?_
  · intro x hx
    obtain ⟨i, _, rfl⟩ := List.mem_map.mp hx
    simp [isTyB, wipeE]
  · simp [ho]
    refine draw (m := 2) hp (by omega) (by omega) fun x p1 hp1 h0 h1 => ?_
    by_cases hx : x = 0
    · simp [hx]
      exact q _ _ (.inl rfl) hp1
    · simp [hx]
      exact q _ _ (.inr rfl) hp1
inductive Li2 (n : Nat) (ls : List (List Int)) (a : P) (i : Nat) (acc : List P) : Env → Prop
  | mk {p : D} : Pen (n + 1 + ls.length - i) p → acc.length = i → (∀ (j : Nat) (z : P) (l : List Int), acc[j]? = some z → ls[j]? = some l → RowI z l) → Li2 n ls a i acc [some p, some (.p a), none, none]
theorem listed2 {n m : Nat} {p : D} {ls : List (List Int)} (hl : ls.length ≤ 1000) (hl2 : ∀ l ∈ ls, l.length ≤ 1000) (hp : Pen (n + 1 + ls.length) p) {X : XF} {Q : D → List D → Prop} (q : ∀ y p', RowR y ls → Pen n p' → Q (.p y) [p', .p (.tup (ls.map ringP))]) : WF (s__law_listed (m + 2)) [p, .p (.tup (ls.map ringP))] X Q := by
  have ho := hp.op
  have hsz := szl
  show WF (fnOf 2 2 [0] (b__law_listed (s__law_listed (m + 1)))) _ _ _
  refine wf_fn rfl (by simp) ?_
  simp [b__law_listed, ho, pureAt, wipeE, backE]
  refine wc_inv (Li2 n ls (.tup (ls.map ringP))) (.mk hp rfl (by simp)) ?_ ?_
  · rintro i x acc σ hi ⟨hp1, hlen, hacc⟩
    rename_i p1
    rw [List.getElem?_map] at hi
    obtain ⟨l, hi', rfl⟩ := Option.map_eq_some_iff.mp hi
    have hil : i < ls.length := (List.getElem?_eq_some_iff.mp hi').1
    have ho1 := hp1.op
    simp [isTyB, wipeE, ringP, ho1]
    have e1 : n + 1 + ls.length - i = (n + 1 + ls.length - (i + 1)) + 1 := by omega
    rw [e1] at hp1
    refine listed1 (m := m) (hl2 l (List.mem_of_getElem? hi')) hp1 fun y p2 hy hp2 => ?_
    simp
    refine ⟨by omega, .mk hp2 (by simp [hlen]) fun j z l' hz hl' => ?_⟩
    rw [List.getElem?_append] at hz
    split at hz
    · exact hacc j z l' hz hl'
    · rename_i hj
      have : j = acc.length := by
        have := (List.getElem?_eq_some_iff.mp hz).1
        simp at this; omega
      subst this
      simp at hz
      subst hz
      rw [hlen, hi'] at hl'
      cases hl'
      exact hy
  · rintro acc σ ⟨hp1, hlen, hacc⟩
    rename_i p1
    have ho1 := hp1.op
    simp [ho1]
    rw [List.length_map] at hp1 hlen
    refine draw (n := n) (m := 2) (hp1.less (by omega)) (by omega) (by omega) fun x p2 hp2 h0 h1 => ?_
    by_cases hx : x = 0
    · simp [hx]
      exact q _ _ ⟨acc, .inl rfl, hlen, hacc⟩ hp2
    · simp [hx]
      exact q _ _ ⟨acc, .inr rfl, hlen, hacc⟩ hp2
end Sl

set_option Elab.async false
set_option linter.all false
set_option maxRecDepth 100000
set_option maxHeartbeats 4000000
/-! S06g: the package's looks at ties, rings. -/
namespace Sl
open PV
theorem is_whole {i : Int} {X : XF} {Q : D → List D → Prop} (q : Q (.p (.bl true)) [.p (.int i)]) : WF s_is_whole [.p (.int i)] X Q := by
  refine wf_fn rfl (by simp) ?_
  simp [b_is_whole, isTyB]
  exact q
theorem is_place {i n : Int} {X : XF} {Q : D → List D → Prop} (h0 : 0 ≤ i) (h1 : i < n) (q : Q (.p (.bl true)) [.p (.int i), .p (.int n)]) : WF s_is_place [.p (.int i), .p (.int n)] X Q := by
  refine wf_fn rfl (by simp) ?_
  simp [b_is_place]
  refine is_whole ?_
  simp [h0, h1]
  exact q
theorem is_row {y : P} {xs : List P} (h : y = .lst xs ∨ y = .tup xs) {X : XF} {Q : D → List D → Prop} (q : Q (.p (.bl true)) [.p y]) : WF s_is_row [.p y] X Q := by
  refine wf_fn rfl (by simp) ?_
  rcases h with rfl | rfl <;> simp [b_is_row, pIs2, isTyB] <;> exact q
theorem bls_true {α : Type} : ∀ (xs : List α), blsOf (xs.map fun _ => P.bl true) = some (List.replicate xs.length true)
  | [] => rfl
  | x :: xs => by
    show (blsOf (xs.map fun _ => P.bl true)).map _ = _
    rw [bls_true xs]; rfl
theorem all_true {xs : List P} : pAll (.lst (xs.filterMap fun _ => some (.bl true))) = some (.bl true) := by
  show (blsOf _).map _ = _
  rw [List.filterMap_eq_map', bls_true]
  simp
theorem as_tie {y : P} {a b : Int} {n : Nat} (hy : RowI y [a, b]) (ha0 : 0 ≤ a) (ha1 : a < n) (hb0 : 0 ≤ b) (hb1 : b < n) (hab : a ≠ b) {X : XF} {Q : D → List D → Prop} (q : Q (.p (tieP (a, b))) [.p y, .p (.int n)]) : WF s_as_tie [.p y, .p (.int n)] X Q := by
  have hsz := szl
  refine wf_fn rfl (by simp) ?_
  have hy' : y = .lst [.int a, .int b] ∨ y = .tup [.int a, .int b] := hy
  simp [b_as_tie]
  refine is_row hy' ?_
  rcases hy' with rfl | rfl
  all_goals
    simp [pureAt, wipeE, backE]
    refine wc_map (fun _ => some (.bl true)) (by simp; omega) ?_ ?_
    · intro x hx
      simp at hx
      rcases hx with rfl | rfl
      all_goals
        simp [wipeE]
        refine is_place (by assumption) (by assumption) ?_
        simp
    · simp [blsOf, pAll, hab]
      exact q
theorem lookP_rep {κ : Type} [DecidableEq κ] (k : κ) (y : P) : ∀ (ks : List κ), lookP k ks (List.replicate ks.length y) = if k ∈ ks then some y else none
  | [] => rfl
  | k' :: ks => by
    show (if k' = k then some y else lookP k ks (List.replicate ks.length y)) = _
    rw [lookP_rep k y ks]
    by_cases h : k' = k
    · simp [h]
    · have h' : ¬ k = k' := fun e => h e.symm
      simp [h, h']
theorem td_has (t : Tie) (ts : List Tie) : pInAll false (tieP t) (.dT (ts.map tk) (List.replicate ts.length (.bl true))) = some (.bl (decide (t ∈ ts))) := by
  have e : pInAll false (tieP t) (.dT (ts.map tk) (List.replicate ts.length (.bl true))) = some (.bl (false ^^ (lookP (tk t) (ts.map tk) (List.replicate ts.length (.bl true))).isSome)) := rfl
  rw [e]
  have h := lookP_rep (tk t) (.bl true) (ts.map tk)
  rw [List.length_map] at h
  rw [h]
  by_cases hm : t ∈ ts
  · rw [if_pos (tk_mem.mpr hm)]; simp [hm]
  · rw [if_neg (fun h => hm (tk_mem.mp h))]; simp [hm]
end Sl

set_option Elab.async false
set_option linter.all false
set_option maxRecDepth 100000
set_option maxHeartbeats 4000000
/-! S06h: the yard's making. -/
namespace Sl
open PV
theorem dedup_app : ∀ (r acc : List Int), (acc ++ r).Nodup → r.foldl PyProof.Rows.step_dedup acc = acc ++ r
  | [], acc, _ => by simp
  | x :: r, acc, h => by
    have hx : x ∉ acc := fun hm => by
      have := (List.nodup_append.mp h).2.2
      exact this x hm x (by simp) rfl
    have e : PyProof.Rows.step_dedup acc x = acc ++ [x] := by
      unfold PyProof.Rows.step_dedup
      rw [if_neg (by simpa using hx)]
    rw [List.foldl_cons, e, dedup_app r (acc ++ [x]) (by simpa using h)]
    simp
theorem ddup_nd {r : List Int} (h : r.Nodup) : ddup r = r := by
  have := dedup_app r [] (by simpa using h)
  exact this
theorem all_true' {α : Type} {xs : List α} {f : α → P} : pAll (.lst (xs.filterMap ((fun _ => some (P.bl true)) ∘ f))) = some (.bl true) := by
  have := all_true (xs := xs.map f)
  rwa [List.filterMap_map] at this
@[simp] theorem tieP_non (t : Tie) : (tieP t).isNon = false := rfl
theorem is_ring {y : P} {r : List Int} {n : Nat} (hy : RowI y r) (h3 : 3 ≤ r.length) (hl : r.length ≤ 1000) (hnd : r.Nodup) (hin : ∀ x ∈ r, 0 ≤ x ∧ x < n) {X : XF} {Q : D → List D → Prop} (q : Q (.p (.bl true)) [.p y, .p (.int n)]) : WF s_is_ring [.p y, .p (.int n)] X Q := by
  have hsz := szl
  have hy' : y = .lst (r.map .int) ∨ y = .tup (r.map .int) := hy
  have h3' : ¬ ((r.length : Int) < 3) := by omega
  refine wf_fn rfl (by simp) ?_
  simp [b_is_ring]
  refine is_row hy' ?_
  rcases hy' with rfl | rfl
  all_goals
    simp [h3', pureAt, wipeE, backE]
    refine wc_map (fun _ => some (.bl true)) (by simp; omega) ?_ ?_
    · intro x hx
      obtain ⟨i, hi, rfl⟩ := List.mem_map.mp hx
      simp [wipeE]
      refine is_place (hin i hi).1 (hin i hi).2 ?_
      simp
    · simp [all_true', pLenSet, allI_map, hl, ddup_nd hnd]
      exact q
inductive Tt (a1 a2 : D) (us : List Tie) (n i : Nat) : Env → Prop
  | mk {y z : Option D} {e : D} : e = TD (us.take i) → Tt a1 a2 us n i [some a1, some a2, some e, y, z]
theorem ws_imp {r : RS} {J : Env → Prop} {E : EP} (h : WS r { nx := J }) (g : ∀ σ, J σ → E.nx σ) : WS r E := by
  revert h
  cases r with
  | next σ => intro h; rw [ws_next]; exact g σ (by with_unfolding_all exact h)
  | _ => intro h; exact (by with_unfolding_all exact h : False).elim
theorem ties_told {y : P} {us : List Tie} {n : Nat} (hu : Ties n 100 us) (hy : RowR y (us.map fun t => [t.1, t.2])) {X : XF} {Q : D → List D → Prop} (q : Q (.p (.tup ((sortT us).map tieP))) [.p y, .p (.int n)]) : WF s_ties_told [.p y, .p (.int n)] X Q := by
  have hsz := szl
  obtain ⟨zs, hy, hlen, hz⟩ := hy
  rw [List.length_map] at hlen
  have hul := hu.len
  refine wf_fn rfl (by simp) ?_
  simp [b_ties_told, td_nil]
  refine is_row hy ?_
  have main : WS (loop (mgN 3) (mSeq (mSet 4 (mCall s_as_tie [mV 3, mV 1])) (mSeq (mIf (mOrT (mTe (mOp2 pIsN (mV 4) (mC .non))) (mTe (mOp2 (pInAll false) (mV 4) (mV 2)))) (mNever) (mNil)) (mDPut 2 (mV 4) (mC (.bl true))))) zs [some (.p y), some (.p (.int n)), some (TD []), none, none]) { nx := Tt (.p y) (.p (.int n)) us n us.length } := by
    refine ws_for (Tt (.p y) (.p (.int n)) us n) (.mk rfl) ?_ ?_
    · rintro i x σ hi ⟨rfl⟩
      rename_i y1 y2
      have hil : i < us.length := by rw [← hlen]; exact (List.getElem?_eq_some_iff.mp hi).1
      have hr := hz i x [us[i].1, us[i].2] hi (by simp [hil])
      have hok := hu.ok us[i] (List.getElem_mem hil)
      have hnot : us[i] ∉ us.take i := by
        intro hm
        obtain ⟨j, hj, e⟩ := List.mem_iff_getElem.mp hm
        have hj2 : j < i := by simp at hj; omega
        have := (List.pairwise_iff_getElem.mp hu.nd) j i (by omega) hil hj2
        simp at e
        exact this e
      have htake : us.take (i + 1) = us.take i ++ [us[i]] := by rw [List.take_succ]; simp [hil]
      have hput : tput (us.take i) us[i] = us.take (i + 1) := by unfold tput; rw [if_neg hnot, htake]
      have hl2 : (us.take i).length < 1000 := by simp; omega
      have hfin : ∀ y1 y2, Tt (.p y) (.p (.int n)) us n (i + 1) [some (.p y), some (.p (.int n)), some (TD (us.take (i + 1))), y1, y2] := fun y1 y2 => .mk rfl
      revert hput hnot hl2 hfin
      generalize us.take (i + 1) = w2
      generalize us.take i = w
      generalize us[i] = t at *
      obtain ⟨a, b⟩ := t
      intro hnot hput hl2 hfin
      simp
      refine as_tie hr hok.1 hok.2.1 hok.2.2.1 hok.2.2.2.1 hok.2.2.2.2 ?_
      simp [td_has, hnot, put_tie hl2, hput]
      exact hfin _ _
    · rintro σ ⟨rfl⟩
      rw [hlen]
      exact .mk rfl
  rcases hy with rfl | rfl
  all_goals
    simp
    refine ws_imp main ?_
    rintro σ ⟨rfl⟩
    simp [fL, sorted_td]
    exact q
end Sl

set_option Elab.async false
set_option linter.all false
set_option maxRecDepth 100000
set_option maxHeartbeats 4000000
/-! S06i: rings told, the yard made. -/
namespace Sl
open PV
theorem enum_get : ∀ (xs : List P) (k i : Nat), (enumP k xs)[i]? = (xs[i]?).map fun x => .tup [.int ((k + i : Nat) : Int), x]
  | [], k, i => rfl
  | x :: xs, k, 0 => rfl
  | x :: xs, k, i + 1 => by
    have := enum_get xs (k + 1) i
    rw [show k + (i + 1) = k + 1 + i by omega]
    exact this
theorem enum_len : ∀ (xs : List P) (k : Nat), (enumP k xs).length = xs.length
  | [], k => rfl
  | x :: xs, k => by
    have := enum_len xs (k + 1)
    simp [enumP] at this ⊢
    exact this
theorem fm_rows : ∀ (zs : List P) (rs : List (List Int)), zs.length = rs.length → (∀ (i : Nat) (z : P) (l : List Int), zs[i]? = some z → rs[i]? = some l → RowI z l) → zs.filterMap pTuple = rs.map ringP
  | [], [], _, _ => rfl
  | [], _ :: _, h, _ => by cases h
  | _ :: _, [], h, _ => by cases h
  | z :: zs, r :: rs, h, hz => by
    have h0 := hz 0 z r rfl rfl
    have ih := fm_rows zs rs (by simpa using h) (fun i z l h1 h2 => hz (i + 1) z l (by simpa using h1) (by simpa using h2))
    rcases h0 with rfl | rfl <;> simp [ih, ringP]
inductive Rt (a1 a2 : D) : Env → Prop
  | mk {y z : Option D} : (z = none ∨ ∃ x, z = some (.p x)) → Rt a1 a2 [some a1, some a2, y, z]
theorem rings_told {y : P} {rs : List (List Int)} {n : Nat} (hr : ∀ r ∈ rs, 3 ≤ r.length ∧ r.length ≤ n ∧ r.Nodup ∧ ∀ x ∈ r, 0 ≤ x ∧ x < n) (hn : n ≤ 1000) (hl : rs.length ≤ 1000) (hy : RowR y rs) {X : XF} {Q : D → List D → Prop} (q : Q (.p (.tup (rs.map ringP))) [.p y, .p (.int n)]) : WF s_rings_told [.p y, .p (.int n)] X Q := by
  have hsz := szl
  obtain ⟨zs, hy, hlen, hz⟩ := hy
  refine wf_fn rfl (by simp) ?_
  simp [b_rings_told]
  refine is_row hy ?_
  have main : WS (loop (mgTup [mgN 2, mgN 3]) (mIf (mNotT (mTe (mCall s_is_ring [mV 3, mV 1]))) (mNever) (mNil)) (enumP 0 zs) [some (.p y), some (.p (.int n)), none, none]) { nx := Rt (.p y) (.p (.int n)) } := by
    refine ws_for (fun _ => Rt (.p y) (.p (.int n))) (.mk (.inl rfl)) ?_ (fun _ h => h)
    rintro i x σ hi ⟨-⟩
    rw [enum_get] at hi
    obtain ⟨x, hx, rfl⟩ := Option.map_eq_some_iff.mp hi
    have hil : i < rs.length := by rw [← hlen]; exact (List.getElem?_eq_some_iff.mp hx).1
    have hri := hz i x rs[i] hx (by simp [hil])
    have hri2 := hr rs[i] (List.getElem_mem hil)
    simp
    refine is_ring hri hri2.1 (by omega) hri2.2.2.1 hri2.2.2.2 ?_
    simp
    exact .mk (.inr ⟨_, rfl⟩)
  have hzz := fm_rows zs rs hlen hz
  have hzm : ∀ z ∈ zs, ∃ l, RowI z l := fun z hzm => by
    obtain ⟨i, hi, e⟩ := List.mem_iff_getElem.mp hzm
    exact ⟨rs[i], hz i z _ (by simp [hi, e]) (by simp [hlen ▸ hi])⟩
  rcases hy with rfl | rfl
  all_goals
    simp
    refine ws_imp main ?_
    rintro σ ⟨hz0⟩
    rcases hz0 with rfl | ⟨x0, rfl⟩
    all_goals
      simp [pureAt, wipeE, backE]
      refine wc_map pTuple ?_ ?_ ?_
      · omega
      · intro z hzi
        obtain ⟨l, hl⟩ := hzm z hzi
        rcases hl with rfl | rfl <;> simp [wipeE]
      · simp [hzz]
        exact q
def yardI (n : Nat) (ts : List Tie) (rs : List (List Int)) : P := .ins "Yard" ["places", "ties", "rings"] [.int n, .tup (ts.map tieP), .tup (rs.map ringP)]
def yardD (n : Nat) (ts : List Tie) (rs : List (List Int)) : D := .ins "Yard" ["places", "ties", "rings"] [.int n, .tup (ts.map tieP), .tup (rs.map ringP)]
theorem yard_init {a b : P} {us : List Tie} {rs : List (List Int)} {n : Nat} (h1 : 1 ≤ n) (hu : Ties n 100 us) (ha : RowR a (us.map fun t => [t.1, t.2])) (hr : ∀ r ∈ rs, 3 ≤ r.length ∧ r.length ≤ n ∧ r.Nodup ∧ ∀ x ∈ r, 0 ≤ x ∧ x < n) (hn : n ≤ 1000) (hl : rs.length ≤ 1000) (hb : RowR b rs) {X : XF} {Q : D → List D → Prop} (q : Q (.p .non) [yardD n (sortT us) rs, .p (.int n), .p a, .p b]) : WF s_Yard_init [.ins "Yard" [] [], .p (.int n), .p a, .p b] X Q := by
  refine wf_fn rfl (by simp [D.owned]) ?_
  have h1' : ¬ ((n : Int) < 1) := by omega
  simp [b_Yard_init]
  refine is_whole ?_
  simp [h1']
  refine ties_told hu ha ?_
  simp [putFP]
  refine rings_told hr hn hl hb ?_
  simp [putFP]
  exact q
theorem made_yard {n k : Nat} {ts : List Tie} {rs : List (List Int)} {p : D} (hy : YOk k ts rs) (hp : Pen (n + 300) p) {X : XF} {Q : D → List D → Prop} (q : ∀ p', Pen n p' → Q (.p (yardI k ts rs)) [p', .p (yardP k ts rs)]) : WF s__law_made_yard [p, .p (yardP k ts rs)] X Q := by
  have ho := hp.op
  have hl := hy.ties.len
  have hrl := hy.rl
  have hn6 := hy.n6
  refine wf_fn rfl (by simp) ?_
  simp [b__law_made_yard, ho, yardP]
  refine w_make ?_
  simp [ho]
  refine shuffled (n := n + 200) (xs := ts.map tieP) rfl rfl rfl (by simp; omega) (hp.less (by simp; omega)) fun ys p1 hys hp1 => ?_
  have ho1 := hp1.op
  obtain ⟨us, rfl⟩ : ∃ us : List Tie, ys = us.map tieP := by
    refine ⟨ys.map untie, ?_⟩
    rw [List.map_map]
    refine ((List.map_congr_left fun x hx => ?_).trans (List.map_id _)).symm
    obtain ⟨t, _, rfl⟩ := List.mem_map.mp (hys.mem_iff.mp hx)
    rfl
  have hus : us.Perm ts := by
    have h := hys.map untie
    rw [List.map_map, List.map_map] at h
    have e : (untie ∘ tieP) = id := rfl
    rwa [e, List.map_id, List.map_id] at h
  have hul : us.length ≤ 100 := by rw [hus.length_eq]; exact hl
  simp [ho1]
  have e1 : us.map tieP = (us.map fun t => [t.1, t.2]).map ringP := by rw [List.map_map]; rfl
  rw [e1]
  refine listed2 (n := n + 99) (m := 2) (by simp; omega) (fun l hl => by obtain ⟨t, _, rfl⟩ := List.mem_map.mp hl; simp) (hp1.less (by simp; omega)) fun y p2 hy1 hp2 => ?_
  have ho2 := hp2.op
  simp [ho2]
  refine listed2 (n := n) (m := 2) (by omega) (fun l hl => by have := hy.ring l hl; omega) (hp2.less (by omega)) fun z p3 hy2 hp3 => ?_
  simp
  refine ⟨[.int k, y, z], rfl, ?_⟩
  refine yard_init hy.n1 (hy.ties.perm hus) hy1 hy.ring (by omega) (by omega) hy2 ?_
  have hs : sortT us = sortT ts := by
    unfold sortT
    congr 1
    exact sortP_uniq (k := .t) (fun x hx => by obtain ⟨t, _, rfl⟩ := List.mem_map.mp hx; rfl) (((sortP_perm _).trans (hus.map tieP))) (sortP_sorted _)
  have hs2 : sortT ts = ts := by
    unfold sortT
    rw [hy.srt, List.map_map]
    exact List.map_id _
  simp [hs, hs2]
  exact q p3 hp3
end Sl

set_option Elab.async false
set_option linter.all false
set_option maxRecDepth 100000
set_option maxHeartbeats 4000000
/-! S06j: moves; the plain law of carrying. -/
namespace Sl
open PV
inductive Mv
  | sl (a b : Int)
  | tn (k : Nat)
def mvP : Mv → P
  | .sl a b => .tup [.str "slide", .int a, .int b]
  | .tn k => .tup [.str "turn", .int k]
/-- where a ring leads a place -/
def wr (r : List Int) (p : Int) : Int := ((r.zip (r.drop 1 ++ r.take 1)).lookup p).getD p
theorem lookup_zip {r s : List Int} (hr : r.Nodup) (hl : r.length ≤ s.length) {i : Nat} (hi : i < r.length) : (r.zip s).lookup r[i] = some (s[i]'(by omega)) := by
  induction r generalizing s i with
  | nil => simp at hi
  | cons x r ih =>
    cases s with
    | nil => simp at hl
    | cons y s =>
      cases i with
      | zero => simp
      | succ i =>
        have hx : ¬ r[i]'(by simpa using hi) = x := fun e => (List.nodup_cons.mp hr).1 (e ▸ List.getElem_mem _)
        simp only [List.getElem_cons_succ, List.zip_cons_cons, List.lookup_cons]
        rw [show ((r[i]'(by simpa using hi)) == x) = false by simpa using hx]
        exact ih (List.nodup_cons.mp hr).2 (by simpa using hl) (by simpa using hi)
theorem lookup_none {r s : List Int} {p : Int} (h : p ∉ r) : (r.zip s).lookup p = none := by
  induction r generalizing s with
  | nil => rfl
  | cons x r ih =>
    cases s with
    | nil => rfl
    | cons y s =>
      simp only [List.zip_cons_cons, List.lookup_cons]
      have hx : ¬ p = x := fun e => h (by simp [e])
      rw [show (p == x) = false by simpa using hx]
      exact ih fun hm => h (by simp [hm])
theorem rot_get {r : List Int} (i : Nat) (hi : i < r.length) : (r.drop 1 ++ r.take 1)[i]'(by simp; omega) = r[(i + 1) % r.length]'(Nat.mod_lt _ (by omega)) := by
  rw [List.getElem_append]
  split
  · rename_i h
    have h' : i + 1 < r.length := by simp at h; omega
    simp [Nat.mod_eq_of_lt h', Nat.add_comm]
  · rename_i h
    have h' : i + 1 = r.length := by simp at h; omega
    simp [h']
    congr 1
    omega
theorem wr_at {r : List Int} (hr : r.Nodup) {i : Nat} (hi : i < r.length) : wr r r[i] = r[(i + 1) % r.length]'(Nat.mod_lt _ (by omega)) := by
  unfold wr
  rw [lookup_zip hr (by simp; omega) hi, Option.getD_some, rot_get i hi]
theorem wr_out {r : List Int} {p : Int} (h : p ∉ r) : wr r p = p := by
  unfold wr
  rw [lookup_none h]; rfl
def iter (w : Int → Int) : Nat → Int → Int
  | 0, p => p
  | n + 1, p => iter w n (w p)
theorem iter_out {r : List Int} {p : Int} (h : p ∉ r) : ∀ n, iter (wr r) n p = p
  | 0 => rfl
  | n + 1 => by unfold iter; rw [wr_out h]; exact iter_out h n
theorem iter_at {r : List Int} (hr : r.Nodup) : ∀ (n i : Nat) (hi : i < r.length), iter (wr r) n r[i] = r[(i + n) % r.length]'(Nat.mod_lt _ (by omega))
  | 0, i, hi => by simp [iter, Nat.mod_eq_of_lt hi]
  | n + 1, i, hi => by
    unfold iter
    rw [wr_at hr hi, iter_at hr n _ (Nat.mod_lt _ (by omega))]
    congr 1
    rw [Nat.mod_add_mod]
    congr 1; omega
theorem iter_back {r : List Int} (hr : r.Nodup) (p : Int) : iter (wr r) (r.length - 1) (wr r p) = p := by
  by_cases h : p ∈ r
  · obtain ⟨i, hi, rfl⟩ := List.mem_iff_getElem.mp h
    have e : iter (wr r) (r.length - 1) (wr r r[i]) = iter (wr r) (r.length - 1 + 1) r[i] := rfl
    rw [e, iter_at hr _ i hi]
    congr 1
    rw [show i + (r.length - 1 + 1) = i + r.length by omega, Nat.add_mod_right, Nat.mod_eq_of_lt hi]
  · rw [wr_out h, iter_out h]
theorem wr_inj {r : List Int} (hr : r.Nodup) {p q : Int} (h : wr r p = wr r q) : p = q := by
  rw [← iter_back hr p, h, iter_back hr q]
end Sl

set_option Elab.async false
set_option linter.all false
set_option maxRecDepth 100000
set_option maxHeartbeats 4000000
/-! S06k: moves taken back, in plain Lean. -/
namespace Sl
open PV
section
variable (ts : List Tie) (rs : List (List Int))
/-- where a move leads what stands on a place -/
def w1 : Mv → Int → Int
  | .sl a b, p => if p = a then b else p
  | .tn k, p => wr ((rs[k]?).getD []) p
def Can (K : List Int) : Mv → Prop
  | .sl a b => (a, b) ∈ ts ∧ a ∈ K ∧ b ∉ K
  | .tn k => k < rs.length
def wA : List Mv → Int → Int
  | [], p => p
  | m :: ms, p => wA ms (w1 rs m p)
def CanA : List Int → List Mv → Prop
  | _, [] => True
  | K, m :: ms => Can ts rs K m ∧ CanA (K.map (w1 rs m)) ms
def bk1 : Mv → Option (List Mv)
  | .tn k => some (List.replicate (((rs[k]?).getD []).length - 1) (.tn k))
  | .sl a b => if (b, a) ∈ ts then some [.sl b a] else none
def back : List Mv → Option (List Mv)
  | [] => some []
  | m :: ms => (back ms).bind fun x => (bk1 ts rs m).map fun y => x ++ y
theorem wA_app : ∀ (x y : List Mv) (p : Int), wA rs (x ++ y) p = wA rs y (wA rs x p)
  | [], y, p => rfl
  | m :: x, y, p => wA_app x y (w1 rs m p)
theorem CanA_app : ∀ (x y : List Mv) (K : List Int), CanA ts rs K x → CanA ts rs (K.map (wA rs x)) y → CanA ts rs K (x ++ y)
  | [], y, K, _, h => by simpa [wA] using h
  | m :: x, y, K, h1, h => ⟨h1.1, CanA_app x y _ h1.2 (by rw [List.map_map]; exact h)⟩
theorem wA_rep (k : Nat) : ∀ (n : Nat) (p : Int), wA rs (List.replicate n (.tn k)) p = iter (wr ((rs[k]?).getD [])) n p
  | 0, p => rfl
  | n + 1, p => wA_rep k n _
theorem CanA_rep {k : Nat} (hk : k < rs.length) : ∀ (n : Nat) (K : List Int), CanA ts rs K (List.replicate n (.tn k))
  | 0, K => trivial
  | n + 1, K => ⟨hk, CanA_rep hk n _⟩
theorem bk1_ok (hr : ∀ r ∈ rs, r.Nodup) (hne : ∀ t ∈ ts, t.1 ≠ t.2) {K : List Int} {m : Mv} {y : List Mv} (hc : Can ts rs K m) (h : bk1 ts rs m = some y) : CanA ts rs (K.map (w1 rs m)) y ∧ ∀ p ∈ K, wA rs y (w1 rs m p) = p := by
  cases m with
  | tn k =>
    cases h
    refine ⟨CanA_rep ts rs hc _ _, fun p _ => ?_⟩
    rw [wA_rep]
    have hk : k < rs.length := hc
    have hn : ((rs[k]?).getD []).Nodup := by
      simp [hk]
      exact hr _ (List.getElem_mem hk)
    exact iter_back hn p
  | sl a b =>
    change (if (b, a) ∈ ts then some [Mv.sl b a] else none) = some y at h
    split at h
    · rename_i hb
      cases h
      obtain ⟨h1, h2, h3⟩ := hc
      have hab := hne _ h1
      refine ⟨⟨⟨hb, List.mem_map.mpr ⟨a, h2, by simp [w1]⟩, fun hm => ?_⟩, trivial⟩, fun p hp => ?_⟩
      · obtain ⟨p, hp, e⟩ := List.mem_map.mp hm
        simp only [w1] at e
        split at e
        · exact hab e.symm
        · rename_i hpa; exact hpa e
      · have hpb : p ≠ b := fun e => h3 (e ▸ hp)
        by_cases hpa : p = a
        · simp [wA, w1, hpa]
        · simp [wA, w1, hpa, hpb]
    · cases h
theorem back_ok (hr : ∀ r ∈ rs, r.Nodup) (hne : ∀ t ∈ ts, t.1 ≠ t.2) : ∀ (ms : List Mv) {K : List Int} {bs : List Mv}, CanA ts rs K ms → back ts rs ms = some bs → CanA ts rs (K.map (wA rs ms)) bs ∧ ∀ p ∈ K, wA rs bs (wA rs ms p) = p
  | [], K, bs, _, h => by cases h; exact ⟨trivial, fun p _ => rfl⟩
  | m :: ms, K, bs, hc, h => by
    obtain ⟨x, hx, h2⟩ := Option.bind_eq_some_iff.mp h
    obtain ⟨y, hy, rfl⟩ := Option.map_eq_some_iff.mp h2
    obtain ⟨i1, i2⟩ := back_ok hr hne ms hc.2 hx
    obtain ⟨j1, j2⟩ := bk1_ok ts rs hr hne hc.1 hy
    have e : (K.map (wA rs (m :: ms))).map (wA rs x) = K.map (w1 rs m) := by
      rw [List.map_map]
      refine List.map_congr_left fun p hp => ?_
      exact i2 _ (List.mem_map_of_mem hp)
    refine ⟨CanA_app ts rs x y _ (by rw [List.map_map] at i1; exact i1) (by rw [e]; exact j1), fun p hp => ?_⟩
    rw [wA_app]
    show wA rs y (wA rs x (wA rs ms (w1 rs m p))) = p
    rw [i2 _ (List.mem_map_of_mem hp)]
    exact j2 p hp
/-- what stands on a place -/
def look (A : List (Int × Int)) (p : Int) : Int := (A.lookup p).getD 0
def Keyed (A : List (Int × Int)) : Prop := (A.map (·.1)).Nodup
theorem look_in {A : List (Int × Int)} (hk : Keyed A) {p v : Int} (h : (p, v) ∈ A) : A.lookup p = some v := by
  induction A with
  | nil => cases h
  | cons x A ih =>
    obtain ⟨q, u⟩ := x
    have hk' := List.nodup_cons.mp hk
    rw [List.lookup_cons]
    rcases List.mem_cons.mp h with e | h
    · cases e; simp
    · have : ¬ p = q := fun e => hk'.1 (List.mem_map.mpr ⟨(p, v), h, e⟩)
      rw [show (p == q) = false by simpa using this]
      exact ih hk'.2 h
theorem look_out {A : List (Int × Int)} {p : Int} (h : p ∉ A.map (·.1)) : A.lookup p = none := by
  induction A with
  | nil => rfl
  | cons x A ih =>
    obtain ⟨q, u⟩ := x
    rw [List.lookup_cons]
    have : ¬ p = q := fun e => h (by simp [e])
    rw [show (p == q) = false by simpa using this]
    exact ih fun hm => h (by simp at hm ⊢; exact .inr hm)
theorem look_same {A B : List (Int × Int)} (ha : Keyed A) (hb : Keyed B) (h : ∀ x, x ∈ A ↔ x ∈ B) (p : Int) : look A p = look B p := by
  unfold look
  by_cases hm : p ∈ A.map (·.1)
  · obtain ⟨⟨q, v⟩, hx, rfl⟩ := List.mem_map.mp hm
    rw [look_in ha hx, look_in hb ((h _).mp hx)]
  · have hm2 : p ∉ B.map (·.1) := fun hb' => hm (by
      obtain ⟨x, hx, e⟩ := List.mem_map.mp hb'
      exact List.mem_map.mpr ⟨x, (h x).mpr hx, e⟩)
    rw [look_out hm, look_out hm2]
end
end Sl

set_option Elab.async false
set_option linter.all false
set_option maxRecDepth 100000
set_option maxHeartbeats 4000000
/-! S06l: stands and what stands where, in plain Lean. -/
namespace Sl
open PV
def filledI (st : List Int) : List Int := ((List.range st.length).filter fun i => decide (0 < st.getD i 0)).map fun i : Nat => (i : Int)
def fillA (st : List Int) : List (Int × Int) := (filledI st).map fun p => (p, st.getD p.toNat 0)
def unfill (n : Nat) (A : List (Int × Int)) : List Int := (List.range n).map fun i : Nat => look A i
def carryA (w : Int → Int) (A : List (Int × Int)) : List (Int × Int) := A.map fun x => (w x.1, x.2)
theorem mem_filledI {st : List Int} {p : Int} : p ∈ filledI st ↔ ∃ i : Nat, i < st.length ∧ p = i ∧ 0 < st.getD i 0 := by
  simp [filledI]
  constructor
  · rintro ⟨i, ⟨h1, h2⟩, rfl⟩; exact ⟨i, h1, rfl, h2⟩
  · rintro ⟨i, h1, rfl, h2⟩; exact ⟨i, ⟨h1, h2⟩, rfl⟩
theorem mem_fillA {st : List Int} {x : Int × Int} : x ∈ fillA st ↔ ∃ i : Nat, i < st.length ∧ x.1 = i ∧ x.2 = st.getD i 0 ∧ 0 < x.2 := by
  unfold fillA
  constructor
  · intro h
    obtain ⟨p, hp, rfl⟩ := List.mem_map.mp h
    obtain ⟨i, h1, rfl, h2⟩ := mem_filledI.mp hp
    exact ⟨i, h1, rfl, by simp, by simpa using h2⟩
  · rintro ⟨i, h1, h2, h3, h4⟩
    obtain ⟨p, v⟩ := x
    dsimp only at h2 h3 h4
    subst h2; subst h3
    exact List.mem_map.mpr ⟨(i : Int), mem_filledI.mpr ⟨i, h1, rfl, h4⟩, by simp⟩
theorem keys_fillA (st : List Int) : (fillA st).map (·.1) = filledI st := by
  unfold fillA
  rw [List.map_map]
  exact List.map_id _
theorem filledI_nd (st : List Int) : (filledI st).Nodup := by
  unfold filledI
  refine List.pairwise_map.mpr ((List.nodup_range.filter _).imp fun h e => h ?_)
  omega
theorem fillA_keyed (st : List Int) : Keyed (fillA st) := by
  unfold Keyed
  rw [keys_fillA]
  exact filledI_nd st
theorem look_fill {st : List Int} (h0 : ∀ x ∈ st, 0 ≤ x) {i : Nat} (hi : i < st.length) : look (fillA st) i = st[i] := by
  have e : st.getD i 0 = st[i] := by simp [hi]
  by_cases h : 0 < st[i]
  · unfold look
    rw [look_in (fillA_keyed st) (mem_fillA.mpr ⟨i, hi, rfl, e.symm, h⟩)]; rfl
  · have : st[i] = 0 := by have := h0 _ (List.getElem_mem hi); omega
    unfold look
    rw [look_out, this]; rfl
    rw [keys_fillA, mem_filledI]
    rintro ⟨j, h1, h2, h3⟩
    have : i = j := by omega
    subst this
    rw [e] at h3; exact h h3
theorem unfill_fill {st : List Int} (h0 : ∀ x ∈ st, 0 ≤ x) : unfill st.length (fillA st) = st := by
  refine List.ext_getElem (by simp [unfill]) fun i h1 h2 => ?_
  simp [unfill]
  exact look_fill h0 h2
theorem fill_unfill {n : Nat} {A : List (Int × Int)} (hk : Keyed A) (hin : ∀ x ∈ A, 0 ≤ x.1 ∧ x.1 < n) (hpos : ∀ x ∈ A, 0 < x.2) (x : Int × Int) : x ∈ fillA (unfill n A) ↔ x ∈ A := by
  rw [mem_fillA]
  have hg : ∀ i, i < n → (unfill n A).getD i 0 = look A i := fun i hi => by simp [unfill, hi]
  constructor
  · rintro ⟨i, h1, h2, h3, h4⟩
    have hi : i < n := by simpa [unfill] using h1
    rw [hg i hi] at h3
    unfold look at h3
    cases e : A.lookup (i : Int) with
    | none => rw [e] at h3; simp at h3; omega
    | some v =>
      rw [e] at h3
      have hm : (i : Int) ∈ A.map (·.1) := by
        by_cases hm : (i : Int) ∈ A.map (·.1)
        · exact hm
        · rw [look_out hm] at e; cases e
      obtain ⟨y, hy, ey⟩ := List.mem_map.mp hm
      have hyy : y = ((i : Int), y.2) := by rw [← ey]
      rw [hyy] at hy
      have := look_in hk hy
      rw [e] at this
      have hx : x = ((i : Int), y.2) := Prod.ext h2 (by simp at h3; rw [h3]; exact Option.some.inj this)
      rw [hx]; exact hy
  · intro hx
    obtain ⟨h1, h2⟩ := hin x hx
    obtain ⟨i, hi⟩ := Int.eq_ofNat_of_zero_le h1
    have hin' : i < n := by omega
    refine ⟨i, by simpa [unfill] using hin', hi, ?_, hpos x hx⟩
    rw [hg i hin']
    unfold look
    rw [look_in hk (p := (i : Int)) (v := x.2) (by rw [← hi]; exact hx)]; rfl
theorem carry_keyed {w : Int → Int} {A : List (Int × Int)} (hk : Keyed A) (hw : ∀ p ∈ A.map (·.1), ∀ q ∈ A.map (·.1), w p = w q → p = q) : Keyed (carryA w A) := by
  unfold Keyed carryA
  rw [List.map_map]
  have e : ((fun x : Int × Int => x.1) ∘ fun x : Int × Int => (w x.1, x.2)) = w ∘ (·.1) := rfl
  rw [e, ← List.map_map]
  refine List.pairwise_map.mpr (List.Pairwise.imp_of_mem (fun {p q} hp hq hne => ?_) hk)
  exact fun e => hne (hw p hp q hq e)
theorem carry_keys (w : Int → Int) (A : List (Int × Int)) : (carryA w A).map (·.1) = (A.map (·.1)).map w := by
  unfold carryA
  rw [List.map_map, List.map_map]; rfl
variable (ts : List Tie) (rs : List (List Int))
theorem w1_inj (hr : ∀ r ∈ rs, r.Nodup) {K : List Int} {m : Mv} (hc : Can ts rs K m) {p q : Int} (hp : p ∈ K) (hq : q ∈ K) (e : w1 rs m p = w1 rs m q) : p = q := by
  cases m with
  | tn k =>
    have hk : k < rs.length := hc
    exact wr_inj (r := (rs[k]?).getD []) (by simp [hk]; exact hr _ (List.getElem_mem hk)) e
  | sl a b =>
    obtain ⟨h1, h2, h3⟩ := hc
    have hpb : p ≠ b := fun e => h3 (e ▸ hp)
    have hqb : q ≠ b := fun e => h3 (e ▸ hq)
    simp only [w1] at e
    by_cases ha : p = a <;> by_cases hb : q = a <;> simp [ha, hb] at e ⊢
    · exact (hqb e.symm).elim
    · exact (hpb e).elim
    · exact e
theorem wA_inj (hr : ∀ r ∈ rs, r.Nodup) : ∀ (ms : List Mv) {K : List Int}, CanA ts rs K ms → ∀ p ∈ K, ∀ q ∈ K, wA rs ms p = wA rs ms q → p = q
  | [], K, _, p, hp, q, hq, e => e
  | m :: ms, K, hc, p, hp, q, hq, e => w1_inj ts rs hr hc.1 hp hq (wA_inj hr ms hc.2 _ (List.mem_map_of_mem hp) _ (List.mem_map_of_mem hq) e)
theorem CanA_same : ∀ (ms : List Mv) {K L : List Int}, (∀ p, p ∈ K ↔ p ∈ L) → CanA ts rs K ms → CanA ts rs L ms
  | [], _, _, _, _ => trivial
  | m :: ms, K, L, h, hc => by
    refine ⟨?_, CanA_same ms (fun p => ?_) hc.2⟩
    · have h1 := hc.1
      cases m with
      | tn k => exact h1
      | sl a b => exact ⟨h1.1, (h _).mp h1.2.1, fun hm => h1.2.2 ((h _).mpr hm)⟩
    · simp only [List.mem_map]
      constructor <;> rintro ⟨x, hx, rfl⟩
      · exact ⟨x, (h x).mp hx, rfl⟩
      · exact ⟨x, (h x).mpr hx, rfl⟩
theorem wr_in {r : List Int} (hn : r.Nodup) {n : Nat} (hr : ∀ x ∈ r, 0 ≤ x ∧ x < n) {p : Int} (hp : 0 ≤ p ∧ p < n) : 0 ≤ wr r p ∧ wr r p < n := by
  by_cases h : p ∈ r
  · obtain ⟨i, hi, rfl⟩ := List.mem_iff_getElem.mp h
    rw [wr_at hn hi]
    exact hr _ (List.getElem_mem _)
  · rw [wr_out h]; exact hp
theorem w1_in {n : Nat} (hn : ∀ r ∈ rs, r.Nodup) (hr : ∀ r ∈ rs, ∀ x ∈ r, 0 ≤ x ∧ x < n) (ht : ∀ t ∈ ts, 0 ≤ t.1 ∧ t.1 < n ∧ 0 ≤ t.2 ∧ t.2 < n ∧ t.1 ≠ t.2) {K : List Int} {m : Mv} (hc : Can ts rs K m) {p : Int} (hp : 0 ≤ p ∧ p < n) : 0 ≤ w1 rs m p ∧ w1 rs m p < n := by
  cases m with
  | tn k =>
    have hk : k < rs.length := hc
    have : (rs[k]?).getD [] = rs[k] := by simp [hk]
    show 0 ≤ wr ((rs[k]?).getD []) p ∧ wr ((rs[k]?).getD []) p < n
    rw [this]
    exact wr_in (hn _ (List.getElem_mem hk)) (hr _ (List.getElem_mem hk)) hp
  | sl a b =>
    have := ht _ hc.1
    simp only [w1]
    split
    · exact ⟨this.2.2.1, this.2.2.2.1⟩
    · exact hp
theorem wA_in {n : Nat} (hn : ∀ r ∈ rs, r.Nodup) (hr : ∀ r ∈ rs, ∀ x ∈ r, 0 ≤ x ∧ x < n) (ht : ∀ t ∈ ts, 0 ≤ t.1 ∧ t.1 < n ∧ 0 ≤ t.2 ∧ t.2 < n ∧ t.1 ≠ t.2) : ∀ (ms : List Mv) {K : List Int}, CanA ts rs K ms → ∀ {p : Int}, 0 ≤ p ∧ p < n → 0 ≤ wA rs ms p ∧ wA rs ms p < n
  | [], K, _, p, hp => hp
  | m :: ms, K, hc, p, hp => wA_in hn hr ht ms hc.2 (w1_in ts rs hn hr ht hc.1 hp)
theorem look_mem {A : List (Int × Int)} {p : Int} : look A p = 0 ∨ ∃ v, (p, v) ∈ A ∧ look A p = v := by
  unfold look
  cases e : A.lookup p with
  | none => exact .inl rfl
  | some v =>
    refine .inr ⟨v, ?_, rfl⟩
    induction A with
    | nil => cases e
    | cons x A ih =>
      obtain ⟨q, u⟩ := x
      rw [List.lookup_cons] at e
      by_cases h : p = q
      · subst h; simp at e; subst e; exact .head _
      · rw [show (p == q) = false by simpa using h] at e
        exact .tail _ (ih e)
theorem unfill_pos {n : Nat} {A : List (Int × Int)} (hpos : ∀ x ∈ A, 0 < x.2) : ∀ x ∈ unfill n A, 0 ≤ x := by
  intro x hx
  obtain ⟨i, _, rfl⟩ := List.mem_map.mp hx
  rcases look_mem (A := A) (p := (i : Int)) with h | ⟨v, h1, h2⟩
  · omega
  · have := hpos _ h1; dsimp only at this ⊢; omega
theorem play_back {n : Nat} {st : List Int} {ms bs : List Mv} (hn : ∀ r ∈ rs, r.Nodup) (hr : ∀ r ∈ rs, ∀ x ∈ r, 0 ≤ x ∧ x < n) (ht : ∀ t ∈ ts, 0 ≤ t.1 ∧ t.1 < n ∧ 0 ≤ t.2 ∧ t.2 < n ∧ t.1 ≠ t.2) (hl : st.length = n) (h0 : ∀ x ∈ st, 0 ≤ x) (hc : CanA ts rs (filledI st) ms) (hb : back ts rs ms = some bs) :
    CanA ts rs (filledI (unfill n (carryA (wA rs ms) (fillA st)))) bs ∧ unfill n (carryA (wA rs bs) (fillA (unfill n (carryA (wA rs ms) (fillA st))))) = st := by
  have hkey : Keyed (carryA (wA rs ms) (fillA st)) := carry_keyed (fillA_keyed st) (by rw [keys_fillA]; exact wA_inj ts rs hn ms hc)
  have hin0 : ∀ x ∈ fillA st, 0 ≤ x.1 ∧ x.1 < n := fun x hx => by
    obtain ⟨i, h1, h2, _⟩ := mem_fillA.mp hx
    omega
  have hpos0 : ∀ x ∈ fillA st, 0 < x.2 := fun x hx => by
    obtain ⟨i, h1, h2, h3, h4⟩ := mem_fillA.mp hx
    exact h4
  have hin : ∀ x ∈ carryA (wA rs ms) (fillA st), 0 ≤ x.1 ∧ x.1 < n := fun x hx => by
    obtain ⟨y, hy, rfl⟩ := List.mem_map.mp hx
    exact wA_in ts rs hn hr ht ms hc (hin0 y hy)
  have hpos : ∀ x ∈ carryA (wA rs ms) (fillA st), 0 < x.2 := fun x hx => by
    obtain ⟨y, hy, rfl⟩ := List.mem_map.mp hx
    exact hpos0 y hy
  have hsame := fill_unfill hkey hin hpos
  obtain ⟨b1, b2⟩ := back_ok ts rs hn (fun t h => (ht t h).2.2.2.2) ms hc hb
  have hkeys : ∀ p, p ∈ (filledI st).map (wA rs ms) ↔ p ∈ filledI (unfill n (carryA (wA rs ms) (fillA st))) := fun p => by
    rw [← keys_fillA, ← carry_keys, ← keys_fillA]
    simp only [List.mem_map]
    constructor <;> rintro ⟨x, hx, rfl⟩
    · exact ⟨x, (hsame x).mpr hx, rfl⟩
    · exact ⟨x, (hsame x).mp hx, rfl⟩
  have hc2 := CanA_same ts rs bs hkeys b1
  refine ⟨hc2, ?_⟩
  have hkey2 : Keyed (carryA (wA rs bs) (fillA (unfill n (carryA (wA rs ms) (fillA st))))) := carry_keyed (fillA_keyed _) (by rw [keys_fillA]; exact wA_inj ts rs hn bs hc2)
  have hset : ∀ x, x ∈ carryA (wA rs bs) (fillA (unfill n (carryA (wA rs ms) (fillA st)))) ↔ x ∈ fillA st := fun x => by
    unfold carryA
    simp only [List.mem_map]
    constructor
    · rintro ⟨y, hy, rfl⟩
      obtain ⟨z, hz, rfl⟩ := List.mem_map.mp ((hsame y).mp hy)
      dsimp only
      rw [b2 z.1 (by rw [← keys_fillA]; exact List.mem_map_of_mem (f := (·.1)) hz)]
      exact hz
    · intro hx
      refine ⟨(wA rs ms x.1, x.2), (hsame _).mpr (List.mem_map.mpr ⟨x, hx, rfl⟩), ?_⟩
      dsimp only
      rw [b2 x.1 (by rw [← keys_fillA]; exact List.mem_map_of_mem (f := (·.1)) hx)]
  have hlook := look_same hkey2 (fillA_keyed st) hset
  have : unfill n (carryA (wA rs bs) (fillA (unfill n (carryA (wA rs ms) (fillA st))))) = unfill n (fillA st) := by
    unfold unfill
    exact List.map_congr_left fun i _ => hlook i
  rw [this, ← hl]
  exact unfill_fill h0
end Sl

set_option Elab.async false
set_option linter.all false
set_option maxRecDepth 100000
set_option maxHeartbeats 4000000
/-! S06m: the law's own moves. -/
namespace Sl
open PV
theorem at_st {st : List Int} {a : Int} (h0 : 0 ≤ a) (h1 : a < st.length) : L2.atI (st.map P.int) a = some (.int (st.getD a.toNat 0)) := by
  obtain ⟨i, rfl⟩ := Int.eq_ofNat_of_zero_le h0
  show L2.atI _ ((i : Nat) : Int) = _
  rw [atI_nat]
  have hi : i < st.length := by omega
  simp [hi]
theorem filled_iff {st : List Int} {a : Int} (h0 : 0 ≤ a) (h1 : a < st.length) : a ∈ filledI st ↔ 0 < st.getD a.toNat 0 := by
  rw [mem_filledI]
  constructor
  · rintro ⟨i, h, rfl, h3⟩; simpa using h3
  · intro h; exact ⟨a.toNat, by omega, by omega, h⟩
theorem getD_pos {st : List Int} (h : ∀ x ∈ st, 0 ≤ x) (i : Nat) : 0 ≤ st.getD i 0 := by
  by_cases hi : i < st.length
  · rw [List.getD_eq_getElem?_getD, List.getElem?_eq_getElem hi]; exact h _ (List.getElem_mem hi)
  · simp [List.getElem?_eq_none (by omega : st.length ≤ i)]
def canS (st : List Int) (t : Tie) : Bool := decide (0 < st.getD t.1.toNat 0) && decide (st.getD t.2.toNat 0 = 0)
def movesOf (ts : List Tie) (rs : List (List Int)) (st : List Int) : List Mv := (ts.filter (canS st)).map (fun t => .sl t.1 t.2) ++ (List.range rs.length).map .tn
theorem movesOf_can {ts : List Tie} {rs : List (List Int)} {st : List Int} {n m : Nat} (ht : Ties n m ts) (hl : st.length = n) : ∀ m ∈ movesOf ts rs st, Can ts rs (filledI st) m := by
  intro m hm
  rcases List.mem_append.mp hm with h | h
  · obtain ⟨t, h1, rfl⟩ := List.mem_map.mp h
    obtain ⟨h1, h2⟩ := List.mem_filter.mp h1
    have hok := ht.ok t h1
    simp only [canS, Bool.and_eq_true, decide_eq_true_eq] at h2
    refine ⟨h1, (filled_iff hok.1 (by omega)).mpr h2.1, fun hm => ?_⟩
    have := (filled_iff hok.2.2.1 (by omega)).mp hm
    omega
  · obtain ⟨k, h1, rfl⟩ := List.mem_map.mp h
    exact List.mem_range.mp h1
theorem moves {k : Nat} {ts : List Tie} {rs : List (List Int)} {st : List Int} (hy : YOk k ts rs) (hl : st.length = k) (h0 : ∀ x ∈ st, 0 ≤ x) {X : XF} {Q : D → List D → Prop} (q : Q (.p (.lst ((movesOf ts rs st).map mvP))) [.p (yardP k ts rs), .p (.tup (st.map .int))]) : WF s__law_moves [.p (yardP k ts rs), .p (.tup (st.map .int))] X Q := by
  have hsz := szl
  have htl := hy.ties.len
  have hrl := hy.rl
  refine wf_fn rfl (by simp) ?_
  simp [b__law_moves, yardP, pureAt, wipeE, backE]
  refine wc_map (fun x => if canS st (untie x) then some (mvP (.sl (untie x).1 (untie x).2)) else none) (by simp; omega) ?_ ?_
  · intro x hx
    obtain ⟨⟨a, b⟩, hm, rfl⟩ := List.mem_map.mp hx
    have hok := hy.ties.ok _ hm
    dsimp only at hok
    simp [tieP, at_st hok.1 (by omega : a < st.length), at_st hok.2.2.1 (by omega : b < st.length), untie, canS, mvP, wipeE]
    split
    · rename_i h1
      split
      · rename_i h2; exact ⟨by omega, h1, h2⟩
      · rename_i h2; exact fun _ => h2
    · rename_i h1; exact fun h => (h1 h).elim
  · have hfm : ∀ ts : List Tie, List.filterMap ((fun x => if canS st (untie x) = true then some (mvP (Mv.sl (untie x).fst (untie x).snd)) else none) ∘ tieP) ts = ((ts.filter (canS st)).map fun t => Mv.sl t.1 t.2).map mvP := by
      intro ts
      induction ts with
      | nil => rfl
      | cons t ts ih =>
        rw [List.filterMap_cons, ih]
        by_cases h : canS st t = true
        · simp [untie_tie, h]
        · simp [untie_tie, h]
    simp [hfm]
    refine ⟨by omega, ?_⟩
    refine wc_map (fun x => match x with | .int j => some (.tup [.str "turn", .int j]) | _ => none) (by simp [rangeP]; omega) ?_ ?_
    · intro x hx
      simp [range_map] at hx
      obtain ⟨j, hj, rfl⟩ := hx
      simp [wipeE]
      omega
    · have hr : (rangeP 0 rs.length).filterMap (fun x => match x with | .int j => some (P.tup [.str "turn", .int j]) | _ => none) = ((List.range rs.length).map Mv.tn).map mvP := by
        rw [range_map, List.filterMap_map, List.map_map]
        exact congrFun (List.filterMap_eq_map' (f := mvP ∘ Mv.tn)) _
      rw [hr]
      have hml : (ts.filter (canS st)).length ≤ ts.length := List.length_filter_le _ _
      simp
      refine ⟨by omega, ?_⟩
      have e : movesOf ts rs st = (ts.filter (canS st)).map (fun t => .sl t.1 t.2) ++ (List.range rs.length).map .tn := rfl
      rw [e] at q
      simpa [yardP] using q
end Sl

set_option Elab.async false
set_option linter.all false
set_option maxRecDepth 100000
set_option maxHeartbeats 4000000
/-! S06n: a move made by the law's own. -/
namespace Sl
open PV
theorem pl_s : P.plain 0 (.str "slide") = true := by decide +kernel
theorem pl_t : P.plain 0 (.str "turn") = true := by decide +kernel
theorem eq_of {x y : P} (hx : P.plain 0 x = true) (hy : P.plain 0 y = true) {c : Bool} (h : c = true ↔ x = y) : pEq x y = some (.bl c) := by
  obtain ⟨b, e, hb⟩ := pEqB_plain hx hy (by decide) (by decide)
  unfold pEq
  rw [e]
  have : b = c := by
    cases b <;> cases c <;> simp_all
  rw [this]; rfl
@[simp] theorem eq_ss : pEq (.str "slide") (.str "slide") = some (.bl true) := eq_of pl_s pl_s (by simp)
@[simp] theorem eq_st : pEq (.str "slide") (.str "turn") = some (.bl false) := eq_of pl_s pl_t (by simp)
@[simp] theorem eq_ts : pEq (.str "turn") (.str "slide") = some (.bl false) := eq_of pl_t pl_s (by simp)
@[simp] theorem eq_tt : pEq (.str "turn") (.str "turn") = some (.bl true) := eq_of pl_t pl_t (by simp)
theorem ties_plain : ∀ ts : List Tie, plainL 1 (ts.map tieP) = true
  | [] => rfl
  | t :: ts => by
    show (P.plain 1 (tieP t) && plainL 1 (ts.map tieP)) = true
    rw [ties_plain ts]; rfl
theorem moved_sl {k : Nat} {ts : List Tie} {rs : List (List Int)} {st : List Int} {a b : Int} (hy : YOk k ts rs) (hl : st.length = k) (h0 : ∀ x ∈ st, 0 ≤ x) (hc : Can ts rs (filledI st) (.sl a b)) {X : XF} {Q : D → List D → Prop} (q : ∀ st' : List Int, st'.length = k → (∀ x ∈ st', 0 ≤ x) → (∀ p, p ∈ (filledI st).map (w1 rs (.sl a b)) ↔ p ∈ filledI st') → Q (.p (.tup (st'.map .int))) [.p (yardP k ts rs), .p (.tup (st.map .int)), .p (mvP (.sl a b))]) : WF s__law_moved [.p (yardP k ts rs), .p (.tup (st.map .int)), .p (mvP (.sl a b))] X Q := by
  have hsz := szl
  obtain ⟨hm, hca, hcb⟩ := hc
  have hok := hy.ties.ok _ hm
  dsimp only at hok
  have hpa := (filled_iff hok.1 (by omega : a < st.length)).mp hca
  have hpb : st.getD b.toNat 0 = 0 := by
    have h1 := getD_pos h0 b.toNat
    have h2 : ¬ 0 < st.getD b.toNat 0 := fun h => hcb ((filled_iff hok.2.2.1 (by omega)).mpr h)
    omega
  refine wf_fn rfl (by simp) ?_
  simp [b__law_moved, yardP, mvP]
  refine ⟨by omega, ?_⟩
  refine pIn_tup (n := 1) (m := 1) rfl (ties_plain ts) (fun _ => ?_) (fun h => absurd (tieP_mem.mpr hm) h)
  have hga : st[a.toNat]?.getD 0 ≠ 0 := by have := hpa; simp at this; omega
  have hgb : st[b.toNat]?.getD 0 = 0 := by simpa using hpb
  simp [at_st hok.1 (by omega : a < st.length), at_st hok.2.2.1 (by omega : b < st.length), hga, hgb, ixN_lt hok.1 (by omega : a < st.length), ixN_lt hok.2.2.1 (by omega : b < st.length)]
  refine ⟨by omega, ?_⟩
  have e : ((st.map P.int).set a.toNat (.int 0)).set b.toNat (.int (st[a.toNat]?.getD 0)) = ((st.set a.toNat 0).set b.toNat (st.getD a.toNat 0)).map P.int := by
    rw [List.map_set, List.map_set]; simp
  rw [e]
  refine q _ (by simp [hl]) (fun x hx => ?_) (fun p => ?_)
  · rcases List.mem_or_eq_of_mem_set hx with h | h
    · rcases List.mem_or_eq_of_mem_set h with h | h
      · exact h0 x h
      · omega
    · omega
  · have hgd : ∀ i, i < k → ((st.set a.toNat 0).set b.toNat (st.getD a.toNat 0)).getD i 0 = if i = b.toNat then st.getD a.toNat 0 else if i = a.toNat then 0 else st.getD i 0 := fun i hi => by
      rw [List.getD_eq_getElem?_getD, List.getElem?_set, List.getElem?_set]
      by_cases h1 : b.toNat = i
      · subst h1; simp [hl, hi]
      · have h1' : ¬ i = b.toNat := fun e => h1 e.symm
        by_cases h2 : a.toNat = i
        · subst h2; simp [h1, h1', hl, hi]
        · have h2' : ¬ i = a.toNat := fun e => h2 e.symm
          simp [h1, h1', h2, h2']
    rw [mem_filledI]
    simp only [List.mem_map, w1]
    constructor
    · rintro ⟨x, hx, rfl⟩
      obtain ⟨i, h1, rfl, h3⟩ := mem_filledI.mp hx
      by_cases hxa : (i : Int) = a
      · rw [if_pos hxa]
        exact ⟨b.toNat, by simp; omega, by omega, by rw [hgd _ (by omega), if_pos rfl]; exact hpa⟩
      · rw [if_neg hxa]
        refine ⟨i, by simpa using h1, rfl, ?_⟩
        have hib : ¬ i = b.toNat := fun e => by subst e; omega
        have hia : ¬ i = a.toNat := fun e => hxa (by omega)
        rw [hgd _ (by omega), if_neg hib, if_neg hia]; exact h3
    · rintro ⟨i, h1, rfl, h3⟩
      have h1' : i < k := by simpa [hl] using h1
      rw [hgd i h1'] at h3
      by_cases hib : i = b.toNat
      · exact ⟨a, hca, by rw [if_pos rfl]; omega⟩
      · rw [if_neg hib] at h3
        by_cases hia : i = a.toNat
        · rw [if_pos hia] at h3; omega
        · rw [if_neg hia] at h3
          exact ⟨i, mem_filledI.mpr ⟨i, by omega, rfl, h3⟩, if_neg (by omega)⟩
end Sl

set_option Elab.async false
set_option linter.all false
set_option maxRecDepth 100000
set_option maxHeartbeats 4000000
/-! S06o: a ring turned by the law's own. -/
namespace Sl
open PV
/-- found behind i steps -/
structure Tu (r : List Int) (st : List Int) (i : Nat) (fd : List Int) : Prop where
  len : fd.length = st.length
  pos : ∀ x ∈ fd, 0 ≤ x
  on : ∀ j (h : j < r.length), j < i → fd.getD (r[(j + 1) % r.length]'(Nat.mod_lt _ (by omega))).toNat 0 = st.getD r[j].toNat 0
  off : ∀ p : Nat, (∀ j (h : j < r.length), j < i → r[(j + 1) % r.length]'(Nat.mod_lt _ (by omega)) ≠ (p : Int)) → fd.getD p 0 = st.getD p 0
theorem mod_inj {L i j : Nat} (hi : i < L) (hj : j < L) (h : (i + 1) % L = (j + 1) % L) : i = j := by
  by_cases h1 : i + 1 = L
  · by_cases h2 : j + 1 = L
    · omega
    · rw [h1, Nat.mod_self, Nat.mod_eq_of_lt (by omega : j + 1 < L)] at h; omega
  · by_cases h2 : j + 1 = L
    · rw [h2, Nat.mod_self, Nat.mod_eq_of_lt (by omega : i + 1 < L)] at h; omega
    · rw [Nat.mod_eq_of_lt (by omega : i + 1 < L), Nat.mod_eq_of_lt (by omega : j + 1 < L)] at h; omega
theorem Tu.step {r st fd : List Int} {i : Nat} {n : Nat} (h : Tu r st i fd) (hn : r.Nodup) (hr : ∀ x ∈ r, 0 ≤ x ∧ x < n) (hl : st.length = n) (h0 : ∀ x ∈ st, 0 ≤ x) (hi : i < r.length) : Tu r st (i + 1) (fd.set (r[(i + 1) % r.length]'(Nat.mod_lt _ (by omega))).toNat (st.getD r[i].toNat 0)) := by
  have hm : (i + 1) % r.length < r.length := Nat.mod_lt _ (by omega)
  have hx := hr _ (List.getElem_mem hm)
  have hget : ∀ p : Nat, (fd.set (r[(i + 1) % r.length]).toNat (st.getD r[i].toNat 0)).getD p 0 = if p = (r[(i + 1) % r.length]).toNat then st.getD r[i].toNat 0 else fd.getD p 0 := fun p => by
    rw [List.getD_eq_getElem?_getD, List.getElem?_set]
    by_cases h1 : (r[(i + 1) % r.length]).toNat = p
    · have hp : p < fd.length := by rw [h.len]; omega
      rw [if_pos h1, if_pos h1.symm, if_pos (by omega)]; rfl
    · have h1' : ¬ p = (r[(i + 1) % r.length]).toNat := fun e => h1 e.symm
      simp [h1, h1']
  refine ⟨by simp [h.len], fun x hx' => ?_, fun j hj hji => ?_, fun p hp => ?_⟩
  · rcases List.mem_or_eq_of_mem_set hx' with h' | h'
    · exact h.pos x h'
    · subst h'; exact getD_pos h0 _
  · rw [hget]
    by_cases e : j = i
    · subst e; rw [if_pos rfl]
    · have hjm : (j + 1) % r.length < r.length := Nat.mod_lt _ (by omega)
      have hy := hr _ (List.getElem_mem hjm)
      rw [if_neg, h.on j hj (by omega)]
      intro e2
      have e3 : r[(j + 1) % r.length] = r[(i + 1) % r.length] := by omega
      exact e (mod_inj hj hi ((List.getElem_inj hn).mp e3))
  · rw [hget, if_neg, h.off p fun j hj hji => hp j hj (by omega)]
    intro e
    exact hp i hi (by omega) (by omega)
theorem Tu.fin {r st fd : List Int} {n : Nat} (h : Tu r st r.length fd) (hn : r.Nodup) (hr : ∀ x ∈ r, 0 ≤ x ∧ x < n) (hl : st.length = n) (q : Int) : q ∈ (filledI st).map (wr r) ↔ q ∈ filledI fd := by
  rw [mem_filledI]
  simp only [List.mem_map]
  constructor
  · rintro ⟨p, hp, rfl⟩
    obtain ⟨i, h1, rfl, h3⟩ := mem_filledI.mp hp
    by_cases hm : (i : Int) ∈ r
    · obtain ⟨j, hj, e⟩ := List.mem_iff_getElem.mp hm
      have hjm : (j + 1) % r.length < r.length := Nat.mod_lt _ (by omega)
      have hy := hr _ (List.getElem_mem hjm)
      rw [← e, wr_at hn hj]
      refine ⟨(r[(j + 1) % r.length]).toNat, by rw [h.len]; omega, by omega, ?_⟩
      rw [h.on j hj hj, e]
      simpa using h3
    · rw [wr_out hm]
      refine ⟨i, by rw [h.len]; exact h1, rfl, ?_⟩
      rw [h.off i fun j hj _ e => hm (by rw [← e]; exact List.getElem_mem _)]
      exact h3
  · rintro ⟨i, h1, rfl, h3⟩
    by_cases hm : (i : Int) ∈ r
    · obtain ⟨j, hj, e⟩ := List.mem_iff_getElem.mp hm
      obtain ⟨j', hj', ej⟩ : ∃ j', j' < r.length ∧ (j' + 1) % r.length = j := by
        by_cases h0 : j = 0
        · exact ⟨r.length - 1, by omega, by rw [show r.length - 1 + 1 = r.length by omega, Nat.mod_self]; exact h0.symm⟩
        · exact ⟨j - 1, by omega, by rw [show j - 1 + 1 = j by omega, Nat.mod_eq_of_lt hj]⟩
      subst ej
      have hon := h.on j' hj' hj'
      rw [e] at hon
      have hy := hr _ (List.getElem_mem hj')
      simp only [Int.toNat_natCast] at hon
      rw [hon] at h3
      exact ⟨r[j'], mem_filledI.mpr ⟨r[j'].toNat, by omega, by omega, h3⟩, by rw [wr_at hn hj']; exact e⟩
    · refine ⟨i, ?_, wr_out hm⟩
      rw [h.off i fun j hj _ e => hm (by rw [← e]; exact List.getElem_mem _)] at h3
      exact mem_filledI.mpr ⟨i, by rw [← h.len]; exact h1, rfl, h3⟩
end Sl

set_option Elab.async false
set_option linter.all false
set_option maxRecDepth 100000
set_option maxHeartbeats 4000000
/-! S06p: moves made. -/
namespace Sl
open PV
theorem at_ring {r : List Int} {i : Nat} (hi : i < r.length) : L2.atI (r.map P.int) (i : Int) = some (.int r[i]) := by
  rw [atI_nat]; simp [hi]
inductive Tm (a1 a2 a3 : D) (r st : List Int) (i : Nat) : Env → Prop
  | mk {fd : List Int} {z : Option D} {ys : List P} : Tu r st i fd → ys = fd.map P.int → Tm a1 a2 a3 r st i [some a1, some a2, some a3, some (.lst ys), some (.p (ringP r)), z]
theorem Tu.step2 {r st fd : List Int} {i : Nat} {n : Nat} (h : Tu r st i fd) (hn : r.Nodup) (hr : ∀ x ∈ r, 0 ≤ x ∧ x < n) (hl : st.length = n) (h0 : ∀ x ∈ st, 0 ≤ x) (hi : i < r.length) : ∃ (j : Nat) (hj : j < r.length), ((i : Int) + 1) % (r.length : Int) = (j : Int) ∧ Tu r st (i + 1) (fd.set r[j].toNat (st.getD r[i].toNat 0)) :=
  ⟨(i + 1) % r.length, Nat.mod_lt _ (by omega), by simp, h.step hn hr hl h0 hi⟩
theorem moved_tn {k : Nat} {ts : List Tie} {rs : List (List Int)} {st : List Int} {m : Nat} (hy : YOk k ts rs) (hl : st.length = k) (h0 : ∀ x ∈ st, 0 ≤ x) (hc : m < rs.length) {X : XF} {Q : D → List D → Prop} (q : ∀ st' : List Int, st'.length = k → (∀ x ∈ st', 0 ≤ x) → (∀ p, p ∈ (filledI st).map (w1 rs (.tn m)) ↔ p ∈ filledI st') → Q (.p (.tup (st'.map .int))) [.p (yardP k ts rs), .p (.tup (st.map .int)), .p (mvP (.tn m))]) : WF s__law_moved [.p (yardP k ts rs), .p (.tup (st.map .int)), .p (mvP (.tn m))] X Q := by
  have hsz := szl
  have hk6 := hy.n6
  obtain ⟨hr3, hrk, hrn, hrin⟩ := hy.ring _ (List.getElem_mem hc)
  have hat : L2.atI (rs.map ringP) (m : Int) = some (ringP rs[m]) := by rw [atI_nat]; simp [hc]
  refine wf_fn rfl (by simp) ?_
  simp [b__law_moved, yardP, mvP, hat]
  have hw : ∀ p, w1 rs (.tn m) p = wr rs[m] p := fun p => by simp [w1, hc]
  have hlr : pLen (ringP rs[m]) = some (.int rs[m].length) := by simp [ringP]
  rw [hlr]
  simp only [wo_some, asI_int]
  refine ⟨by omega, ?_⟩
  refine ws_for (Tm (.p (yardP k ts rs)) (.p (.tup (st.map .int))) (.p (mvP (.tn m))) rs[m] st) (.mk (fd := st) ⟨rfl, h0, fun j _ h => by omega, fun p _ => rfl⟩ rfl) ?_ ?_
  · rintro i z σ hi ⟨hT, rfl⟩
    rename_i fd z'
    have hi' : i < rs[m].length ∧ z = .int i := by
      have := (List.getElem?_eq_some_iff.mp hi)
      simpa [rangeP, eq_comm] using this
    obtain ⟨hil, rfl⟩ := hi'
    obtain ⟨j', hm', emod, hT2⟩ := hT.step2 hrn hrin hl h0 hil
    have hx := hrin _ (List.getElem_mem hil)
    have hcd : L2.CDivW ((i : Int) + 1) (rs[m].length : Int) := CDivW_small (by omega) (small_abs (by omega) (by omega))
    have hfl := hT.len
    have hy2 := hrin _ (List.getElem_mem hm')
    have hix : L2.ixN fd.length rs[m][j'] = some rs[m][j'].toNat := ixN_lt hy2.1 (by omega)
    simp [ringP, at_ring hil, at_st hx.1 (by omega : rs[m][i] < st.length), hcd, emod, at_ring hm', hix]
    exact ⟨by omega, .mk hT2 (by rw [List.map_set]; simp)⟩
  · rintro σ ⟨hT, rfl⟩
    simp [rangeP] at hT
    simp
    refine q _ (by rw [hT.len]; exact hl) hT.pos (fun p => ?_)
    rw [← hT.fin hrn hrin hl p]
    simp only [List.mem_map, hw]
end Sl

set_option Elab.async false
set_option linter.all false
set_option maxRecDepth 100000
set_option maxHeartbeats 4000000
/-! S06q: rows of moves drawn. -/
namespace Sl
open PV
theorem moved {k : Nat} {ts : List Tie} {rs : List (List Int)} {st : List Int} {m : Mv} (hy : YOk k ts rs) (hl : st.length = k) (h0 : ∀ x ∈ st, 0 ≤ x) (hc : Can ts rs (filledI st) m) {X : XF} {Q : D → List D → Prop} (q : ∀ st' : List Int, st'.length = k → (∀ x ∈ st', 0 ≤ x) → (∀ p, p ∈ (filledI st).map (w1 rs m) ↔ p ∈ filledI st') → Q (.p (.tup (st'.map .int))) [.p (yardP k ts rs), .p (.tup (st.map .int)), .p (mvP m)]) : WF s__law_moved [.p (yardP k ts rs), .p (.tup (st.map .int)), .p (mvP m)] X Q := by
  cases m with
  | sl a b => exact moved_sl hy hl h0 hc q
  | tn m => exact moved_tn hy hl h0 hc q
theorem movesOf_len {ts : List Tie} {rs : List (List Int)} {st : List Int} : (movesOf ts rs st).length ≤ ts.length + rs.length := by
  have hml : (ts.filter (canS st)).length ≤ ts.length := List.length_filter_le _ _
  simp [movesOf]
  omega
theorem wA_snoc (rs : List (List Int)) (ms : List Mv) (m : Mv) (p : Int) : wA rs (ms ++ [m]) p = w1 rs m (wA rs ms p) := wA_app rs ms [m] p
theorem CanA_snoc {ts : List Tie} {rs : List (List Int)} {K : List Int} {ms : List Mv} {m : Mv} (h : CanA ts rs K ms) (hm : Can ts rs (K.map (wA rs ms)) m) : CanA ts rs K (ms ++ [m]) := CanA_app ts rs ms [m] K h ⟨hm, trivial⟩
theorem Can_same {ts : List Tie} {rs : List (List Int)} {K L : List Int} {m : Mv} (h : ∀ p, p ∈ K ↔ p ∈ L) (hc : Can ts rs K m) : Can ts rs L m := by
  cases m with
  | tn k => exact hc
  | sl a b => exact ⟨hc.1, (h _).mp hc.2.1, fun hm => hc.2.2 ((h _).mpr hm)⟩
theorem mv_plain (m : Mv) : P.plain 1 (mvP m) = true := by
  cases m with
  | sl a b =>
    show (P.plain 0 (.str "slide") && plainL 0 [.int a, .int b]) = true
    rw [pl_s]; rfl
  | tn k =>
    show (P.plain 0 (.str "turn") && plainL 0 [.int k]) = true
    rw [pl_t]; rfl
theorem mvs_plainL : ∀ ms : List Mv, plainL 1 (ms.map mvP) = true
  | [] => rfl
  | m :: ms => by
    show (P.plain 1 (mvP m) && plainL 1 (ms.map mvP)) = true
    rw [mv_plain, mvs_plainL ms]; rfl
theorem mvs_plain (ms : List Mv) : P.plain 2 (.lst (ms.map mvP)) = true := by
  show plainL 1 (ms.map mvP) = true
  exact mvs_plainL ms
theorem atI_last {α : Type} (xs : List α) (x : α) : L2.atI (xs ++ [x]) (-1) = some x := by
  unfold L2.atI L2.ixN
  simp
  rw [if_pos (by omega), show (-1 + ((xs.length : Int) + 1)).toNat = xs.length by omega]
  simp
inductive Sm (n k : Nat) (ts : List Tie) (rs : List (List Int)) (K : List Int) (a1 a3 : D) (i : Nat) : Env → Prop
  | mk {p : D} {st : List Int} {ms : List Mv} {zs : List P} {o5 o6 : Option D} : Pen (n + 20 - i) p → st.length = k → (∀ x ∈ st, 0 ≤ x) → CanA ts rs K ms → (∀ q, q ∈ K.map (wA rs ms) ↔ q ∈ filledI st) → ms.length ≤ i → zs = ms.map mvP →
    Sm n k ts rs K a1 a3 i [some p, some a1, some (.p (.tup (st.map .int))), some a3, some (.lst zs), o5, o6]
theorem some_moves {n k : Nat} {ts : List Tie} {rs : List (List Int)} {st : List Int} {p : D} (hy : YOk k ts rs) (hl : st.length = k) (h0 : ∀ x ∈ st, 0 ≤ x) (hp : Pen (n + 21) p) {X : XF} {Q : D → List D → Prop} (q : ∀ (ms : List Mv) p' d, Pen n p' → CanA ts rs (filledI st) ms → ms.length ≤ 11 → Q (.p (.lst (ms.map mvP))) [p', .p (yardP k ts rs), d, .p (.int 10)]) : WF s__law_some_moves [p, .p (yardP k ts rs), .p (.tup (st.map .int)), .p (.int 10)] X Q := by
  have hsz := szl
  have ho := hp.op
  have htl := hy.ties.len
  have hrl := hy.rl
  refine wf_fn rfl (by simp) ?_
  simp [b__law_some_moves, ho]
  refine draw (n := n + 20) (m := 11) hp (by omega) (by omega) fun x p1 hp1 hx0 hx1 => ?_
  obtain ⟨x, rfl⟩ := Int.eq_ofNat_of_zero_le hx0
  simp
  refine ⟨by omega, ?_⟩
  refine ws_for (fun i σ => i ≤ x ∧ Sm n k ts rs (filledI st) (.p (yardP k ts rs)) (.p (.int 10)) i σ) ⟨by omega, .mk (ms := []) hp1 hl h0 trivial (by simp [wA]) (by simp) rfl⟩ ?_ ?_
  · rintro i z σ hi ⟨-, hp2, hl2, h02, hcan, hkeys, hml, rfl⟩
    rename_i p2 st2 ms o5 o6
    have hi' : i < x := by
      have := (List.getElem?_eq_some_iff.mp hi).1
      simpa [rangeP] using this
    simp
    refine moves hy hl2 h02 ?_
    simp
    refine wo_eq (n := 2) (m := 2) (mvs_plain _) rfl (fun he => ?_) (fun he => ?_)
    · simp
      exact q ms p2 _ (hp2.less (by omega)) hcan (by omega)
    · have ho2 := hp2.op
      have hne : movesOf ts rs st2 ≠ [] := fun h => he (by rw [h]; rfl)
      have hmo := movesOf_len (ts := ts) (rs := rs) (st := st2)
      simp [ho2]
      refine pick (n := n + 20 - (i + 1)) (hp2.less (by omega)) (by simpa using hne) (by simp; omega) fun y p3 hy3 hp3 => ?_
      obtain ⟨m, hm, rfl⟩ := List.mem_map.mp hy3
      have hcm := movesOf_can hy.ties hl2 m hm
      simp
      refine ⟨by omega, ?_⟩
      have hlast : L2.atI (ms.map mvP ++ [mvP m]) (-1) = some (mvP m) := atI_last _ _
      simp [hlast]
      refine moved hy hl2 h02 hcm fun st3 hl3 h03 hk3 => ?_
      simp
      refine ⟨by omega, .mk (ms := ms ++ [m]) (hp3.less (by omega)) hl3 h03 (CanA_snoc hcan (Can_same (fun p => (hkeys p).symm) hcm)) (fun q => ?_) (by simp; omega) (by simp)⟩
      rw [← hk3 q]
      simp only [List.mem_map, wA_snoc]
      constructor
      · rintro ⟨p, hp, rfl⟩
        exact ⟨wA rs ms p, (hkeys _).mp (List.mem_map_of_mem hp), rfl⟩
      · rintro ⟨p, hp, rfl⟩
        obtain ⟨p', hp', rfl⟩ := List.mem_map.mp ((hkeys p).mpr hp)
        exact ⟨p', hp', rfl⟩
  · rintro σ ⟨hx, hp2, hl2, h02, hcan, hkeys, hml, rfl⟩
    rename_i p2 st2 ms o5 o6
    simp [rangeP] at hp2 hml
    simp
    exact q ms p2 _ (hp2.less (by omega)) hcan (by omega)
end Sl

set_option Elab.async false
set_option linter.all false
set_option maxRecDepth 100000
set_option maxHeartbeats 4000000
/-! S06r: all moves; the law's own way back. -/
namespace Sl
open PV
def MIn (ts : List Tie) (rs : List (List Int)) : Mv → Prop
  | .sl a b => (a, b) ∈ ts
  | .tn k => k < rs.length
theorem Can.min {ts : List Tie} {rs : List (List Int)} {K : List Int} {m : Mv} (h : Can ts rs K m) : MIn ts rs m := by
  cases m with
  | sl a b => exact h.1
  | tn k => exact h
theorem CanA.min {ts : List Tie} {rs : List (List Int)} : ∀ {ms : List Mv} {K : List Int}, CanA ts rs K ms → ∀ m ∈ ms, MIn ts rs m
  | [], _, _, m, h => by cases h
  | x :: ms, K, hc, m, h => by
    rcases List.mem_cons.mp h with rfl | h
    · exact hc.1.min
    · exact CanA.min hc.2 m h
def allM (ts : List Tie) (rs : List (List Int)) : List Mv := ts.map (fun t => .sl t.1 t.2) ++ (List.range rs.length).map .tn
theorem allM_in {ts : List Tie} {rs : List (List Int)} : ∀ m ∈ allM ts rs, MIn ts rs m := by
  intro m hm
  rcases List.mem_append.mp hm with h | h
  · obtain ⟨t, h1, rfl⟩ := List.mem_map.mp h; exact h1
  · obtain ⟨k, h1, rfl⟩ := List.mem_map.mp h; exact List.mem_range.mp h1
theorem all_moves {k : Nat} {ts : List Tie} {rs : List (List Int)} (hy : YOk k ts rs) {X : XF} {Q : D → List D → Prop} (q : Q (.p (.lst ((allM ts rs).map mvP))) [.p (yardP k ts rs)]) : WF s__law_all_moves [.p (yardP k ts rs)] X Q := by
  have hsz := szl
  have htl := hy.ties.len
  have hrl := hy.rl
  refine wf_fn rfl (by simp) ?_
  simp [b__law_all_moves, yardP, pureAt, wipeE, backE]
  refine wc_map (fun x => some (mvP (.sl (untie x).1 (untie x).2))) (by simp; omega) ?_ ?_
  · intro x hx
    obtain ⟨⟨a, b⟩, hm, rfl⟩ := List.mem_map.mp hx
    simp [tieP, untie, mvP, wipeE]
    omega
  · have hfm : ∀ ts : List Tie, List.filterMap ((fun x => some (mvP (.sl (untie x).1 (untie x).2))) ∘ tieP) ts = (ts.map fun t => Mv.sl t.1 t.2).map mvP := by
      intro ts
      induction ts with
      | nil => rfl
      | cons t ts ih => rw [List.filterMap_cons, ih]; rfl
    simp only [List.filterMap_map, hfm]
    simp
    refine ⟨by omega, ?_⟩
    refine wc_map (fun x => match x with | .int j => some (.tup [.str "turn", .int j]) | _ => none) (by simp [rangeP]; omega) ?_ ?_
    · intro x hx
      simp [range_map] at hx
      obtain ⟨j, hj, rfl⟩ := hx
      simp [wipeE]
      omega
    · have hr : (rangeP 0 rs.length).filterMap (fun x => match x with | .int j => some (P.tup [.str "turn", .int j]) | _ => none) = ((List.range rs.length).map Mv.tn).map mvP := by
        rw [range_map, List.filterMap_map, List.map_map]
        exact congrFun (List.filterMap_eq_map' (f := mvP ∘ Mv.tn)) _
      rw [hr]
      simp
      refine ⟨by omega, ?_⟩
      have e : allM ts rs = ts.map (fun t => .sl t.1 t.2) ++ (List.range rs.length).map .tn := rfl
      rw [e] at q
      simpa [yardP] using q
end Sl

set_option Elab.async false
set_option linter.all false
set_option maxRecDepth 100000
set_option maxHeartbeats 4000000
/-! S06s: the law's own way back. -/
namespace Sl
open PV
theorem back_none {ts : List Tie} {rs : List (List Int)} : ∀ {x y : List Mv}, back ts rs y = none → back ts rs (x ++ y) = none
  | [], y, h => h
  | m :: x, y, h => by
    show (back ts rs (x ++ y)).bind _ = none
    rw [back_none h]; rfl
theorem back_step {ts : List Tie} {rs : List (List Int)} {ms : List Mv} {i : Nat} (hi : i < ms.length) {f : List Mv} (h : back ts rs (ms.drop (ms.length - i)) = some f) : back ts rs (ms.drop (ms.length - (i + 1))) = (bk1 ts rs (ms[ms.length - 1 - i]'(by omega))).map fun y => f ++ y := by
  have e : ms.drop (ms.length - (i + 1)) = (ms[ms.length - 1 - i]'(by omega)) :: ms.drop (ms.length - i) := by
    have e1 := List.drop_eq_getElem_cons (l := ms) (i := ms.length - 1 - i) (by omega)
    rw [show ms.length - (i + 1) = ms.length - 1 - i by omega, e1, show ms.length - 1 - i + 1 = ms.length - i by omega]
  rw [e]
  show (back ts rs _).bind _ = _
  rw [h]; rfl
theorem bk1_len {k : Nat} {ts : List Tie} {rs : List (List Int)} (hy : YOk k ts rs) {m : Mv} {y : List Mv} (hm : MIn ts rs m) (h : bk1 ts rs m = some y) : y.length ≤ 6 := by
  cases m with
  | tn j =>
    have hj : j < rs.length := hm
    have := hy.ring _ (List.getElem_mem hj)
    have := hy.n6
    cases h
    simp [hj]
    omega
  | sl a b =>
    change (if (b, a) ∈ ts then some [Mv.sl b a] else none) = some y at h
    split at h
    · cases h; simp
    · cases h
theorem back_len {k : Nat} {ts : List Tie} {rs : List (List Int)} (hy : YOk k ts rs) : ∀ {ms bs : List Mv}, (∀ m ∈ ms, MIn ts rs m) → back ts rs ms = some bs → bs.length ≤ 6 * ms.length
  | [], bs, _, h => by cases h; simp
  | m :: ms, bs, hm, h => by
    obtain ⟨x, hx, h2⟩ := Option.bind_eq_some_iff.mp h
    obtain ⟨y, hy2, rfl⟩ := Option.map_eq_some_iff.mp h2
    have h3 := back_len hy (fun m h => hm m (by simp [h])) hx
    have h4 := bk1_len hy (hm m (by simp)) hy2
    simp; omega
def optT : Option (List Mv) → P
  | some b => .tup (b.map mvP)
  | none => .non
inductive Lb (a0 a1 : D) (ts : List Tie) (rs : List (List Int)) (ms : List Mv) (i : Nat) : Env → Prop
  | mk {f : List Mv} {zs : List P} {o3 : Option D} : back ts rs (ms.drop (ms.length - i)) = some f → f.length ≤ 6 * i → zs = f.map mvP → Lb a0 a1 ts rs ms i [some a0, some a1, some (.lst zs), o3]
theorem at_ringP {rs : List (List Int)} {j : Nat} (hj : j < rs.length) : L2.atI (rs.map ringP) (j : Int) = some (ringP rs[j]) := by rw [atI_nat]; simp [hj]
@[simp] theorem pLen_ring (r : List Int) : pLen (ringP r) = some (.int r.length) := by simp [ringP]
theorem law_back {k : Nat} {ts : List Tie} {rs : List (List Int)} {ms : List Mv} (hy : YOk k ts rs) (hm : ∀ m ∈ ms, MIn ts rs m) (hl : ms.length ≤ 1000) {X : XF} {Q : D → List D → Prop} (q : Q (.p (optT (back ts rs ms))) [.p (yardP k ts rs), .p (.lst (ms.map mvP))]) : WF s__law_back [.p (yardP k ts rs), .p (.lst (ms.map mvP))] X Q := by
  have hsz := szl
  refine wf_fn rfl (by simp) ?_
  simp [b__law_back, pRevL]
  refine ws_for (Lb (.p (yardP k ts rs)) (.p (.lst (ms.map mvP))) ts rs ms) (.mk (f := []) (by simp [back]) (by simp) rfl) ?_ ?_
  · rintro i z σ hi ⟨hb, hfl, rfl⟩
    rename_i f o3
    have hil : i < ms.length := by
      have := (List.getElem?_eq_some_iff.mp hi).1
      simpa using this
    have hz : mvP (ms[ms.length - 1 - i]'(by omega)) = z := by
      have := (List.getElem?_eq_some_iff.mp hi).2
      simpa using this
    subst hz
    have hmin := hm _ (List.getElem_mem (show ms.length - 1 - i < ms.length by omega))
    have hst := back_step hil hb
    have hle : ∀ y, bk1 ts rs (ms[ms.length - 1 - i]'(by omega)) = some y → y.length ≤ 6 := fun y h => bk1_len hy hmin h
    revert hst hmin hle
    generalize (ms[ms.length - 1 - i]'(by omega)) = m
    intro hmin hst hle
    cases m with
    | tn j =>
      have hj : j < rs.length := hmin
      have hr := hy.ring _ (List.getElem_mem hj)
      have hbk : bk1 ts rs (.tn j) = some (List.replicate (rs[j].length - 1) (.tn j)) := by simp [bk1, hj]
      rw [hbk] at hst
      have hle2 := hle _ hbk
      simp at hle2
      have e1 : ((rs[j].length : Int) - 1).toNat = rs[j].length - 1 := by omega
      simp [mvP, yardP, at_ringP hj, e1]
      refine ⟨by omega, by omega, by omega, .mk hst (by simp; omega) ?_⟩
      simp [mvP]
    | sl a b =>
      simp [mvP, yardP]
      refine ⟨by omega, ?_⟩
      refine pIn_tup (n := 1) (m := 1) (x := tieP (b, a)) rfl (ties_plain ts) (fun h => ?_) (fun h => ?_)
      · have hbk : bk1 ts rs (.sl a b) = some [.sl b a] := by simp [bk1, tieP_mem.mp h]
        rw [hbk] at hst
        simp
        refine ⟨by omega, by omega, .mk hst (by simp; omega) ?_⟩
        simp [mvP]
      · have hn : (b, a) ∉ ts := fun hm => h (tieP_mem.mpr hm)
        have hbk : bk1 ts rs (.sl a b) = none := by simp [bk1, hn]
        rw [hbk] at hst
        have : back ts rs ms = none := by
          rw [← List.take_append_drop (ms.length - (i + 1)) ms]
          exact back_none hst
        rw [this] at q
        simp
        exact q
  · rintro σ ⟨hb, hfl, rfl⟩
    simp at hb
    rw [hb] at q
    simp
    exact q
end Sl

set_option Elab.async false
set_option linter.all false
set_option maxRecDepth 100000
set_option maxHeartbeats 4000000
/-! S06t: dicts of numbers; what stands where, carried. -/
namespace Sl
open PV
def kA (A : List (Int × Int)) : List L2.Key := A.map fun x => .inl x.1
def vA (A : List (Int × Int)) : List P := A.map fun x => .int x.2
def dkA (A : List (Int × Int)) : P := .dK (kA A) (vA A)
theorem lookP_A (p : Int) : ∀ A : List (Int × Int), lookP (.inl p) (kA A) (vA A) = (A.lookup p).map P.int
  | [] => rfl
  | (q, v) :: A => by
    show (if (Sum.inl q : L2.Key) = .inl p then some (P.int v) else lookP (.inl p) (kA A) (vA A)) = _
    rw [List.lookup_cons, lookP_A p A]
    by_cases h : q = p
    · subst h; simp
    · have h' : ¬ p = q := fun e => h e.symm
      simp [h, show (p == q) = false by simpa using h']
theorem mergeP_new : ∀ (ps : List (L2.Key × P)) (ks : List L2.Key) (xs : List P), (ks ++ ps.map (·.1)).Nodup → mergeP (ks, xs) ps = (ks ++ ps.map (·.1), xs ++ ps.map (·.2))
  | [], ks, xs, _ => by simp [mergeP]
  | p :: ps, ks, xs, h => by
    have hx : p.1 ∉ ks := fun hm => (List.nodup_append.mp h).2.2 _ hm _ (by simp) rfl
    show mergeP (putP p.1 p.2 ks xs) ps = _
    have e : putP p.1 p.2 ks xs = (ks ++ [p.1], xs ++ [p.2]) := by unfold putP; rw [if_neg hx]
    rw [e, mergeP_new ps _ _ (by simpa using h)]
    simp
theorem pairsP_A : ∀ A : List (Int × Int), pairsP (A.map fun x => .tup [.int x.1, .int x.2]) = some (A.map fun x => (.inl x.1, .int x.2))
  | [] => rfl
  | x :: A => by
    show ((keyOf (.int x.1)).bind fun k => (pairsP (A.map fun x => P.tup [.int x.1, .int x.2])).map fun ps => (k, P.int x.2) :: ps) = _
    rw [pairsP_A A]; rfl
theorem keyed_nd {A : List (Int × Int)} (hk : Keyed A) : (kA A).Nodup := by
  unfold kA
  unfold Keyed at hk
  have e : (A.map fun x => (.inl x.1 : L2.Key)) = (A.map (·.1)).map .inl := by rw [List.map_map]; rfl
  rw [e]
  exact List.pairwise_map.mpr (hk.imp fun h e => h (by cases e; rfl))
theorem dictOf_A {A : List (Int × Int)} (hk : Keyed A) : pDictOf [.lst (A.map fun x => .tup [.int x.1, .int x.2])] = some (kA A, vA A) := by
  show (pairsP _).map _ = _
  rw [pairsP_A, Option.map_some, mergeP_new _ [] [] (by
    rw [List.nil_append, List.map_map]; exact keyed_nd hk)]
  simp [kA, vA]
theorem keysOf_ints : ∀ r : List Int, keysOf (r.map .int) = some (r.map .inl)
  | [] => rfl
  | x :: r => by
    show ((keyOf (.int x)).bind fun k => (keysOf (r.map .int)).map fun ks => k :: ks) = _
    rw [keysOf_ints r]; rfl
theorem zipPs_ints : ∀ (r s : List Int), zipPs (r.map .inl) (s.map .int) = (r.zip s).map fun x => (.inl x.1, .int x.2)
  | [], s => by cases s <;> rfl
  | x :: r, [] => rfl
  | x :: r, y :: s => by
    show (Sum.inl x, P.int y) :: zipPs (r.map .inl) (s.map .int) = _
    rw [zipPs_ints r s]; rfl
theorem zip_keyed {r s : List Int} (hr : r.Nodup) : Keyed (r.zip s) := by
  unfold Keyed
  induction r generalizing s with
  | nil => simp
  | cons x r ih =>
    cases s with
    | nil => simp
    | cons y s =>
      have h := List.nodup_cons.mp hr
      rw [List.zip_cons_cons, List.map_cons]
      refine List.nodup_cons.mpr ⟨fun hm => h.1 ?_, ih h.2⟩
      obtain ⟨z, hz, e⟩ := List.mem_map.mp hm
      have := (List.of_mem_zip (a := z.1) (b := z.2) hz).1
      dsimp only at e
      rw [e] at this; exact this
def rotA (r : List Int) : List (Int × Int) := r.zip (r.drop 1 ++ r.take 1)
theorem turn_of {r : List Int} (h3 : 3 ≤ r.length) (hl : r.length ≤ 1000) (hn : r.Nodup) {X : XF} {Q : D → List D → Prop} (q : Q (.p (dkA (rotA r))) [.p (ringP r)]) : WF s_turn_of [.p (ringP r)] X Q := by
  have hsz := szl
  refine wf_fn rfl (by simp) ?_
  have e1 : cutP (r.map P.int) (some 1) none = (r.drop 1).map P.int := by
    unfold cutP
    rw [show HT.sIx (r.map P.int).length 0 (some 1) = 1 by rw [show ((some 1 : Option Int)) = some ((1 : Nat) : Int) from rfl, HT.sIx_nat]; simp; omega]
    rw [HT.sIx_none, List.map_drop]
    exact List.take_of_length_le (by simp)
  have e2 : cutP (r.map P.int) none (some 1) = (r.take 1).map P.int := by
    unfold cutP
    rw [show HT.sIx (r.map P.int).length (r.map P.int).length (some 1) = 1 by rw [show ((some 1 : Option Int)) = some ((1 : Nat) : Int) from rfl, HT.sIx_nat]; simp; omega]
    rw [HT.sIx_none, List.map_take]
    simp
  have e3 : pDictZip [P.tup (r.map P.int), P.tup ((r.map P.int).tail ++ (r.map P.int).take 1)] = some (kA (rotA r), vA (rotA r)) := by
    rw [← List.drop_one, ← List.map_drop, ← List.map_take]
    show ((seqP (.tup (r.map P.int))).bind keysOf).bind _ = _
    rw [seqP_tup, Option.bind_some, keysOf_ints, Option.bind_some, seqP_tup, Option.map_some, ← List.map_append, zipPs_ints, mergeP_new _ [] [] (by
      rw [List.nil_append, List.map_map]; exact keyed_nd (zip_keyed hn))]
    simp [kA, vA, rotA]
  simp [b_turn_of, ringP, pSlice, e1, e2]
  refine ⟨by omega, ?_⟩
  rw [e3]
  exact q
theorem keys_kA (A : List (Int × Int)) : (kA A).map keyP = (A.map (·.1)).map P.int := by
  unfold kA
  rw [List.map_map, List.map_map]; rfl
theorem look_get {A : List (Int × Int)} (hk : Keyed A) {x : Int × Int} (hx : x ∈ A) : A.lookup x.1 = some x.2 := look_in hk (p := x.1) (v := x.2) hx
/-- the pairs told for each key, as the thing goes by w -/
theorem carry_list {A : List (Int × Int)} (hk : Keyed A) (w : Int → Int) : ((A.map (·.1)).map P.int).filterMap (fun x => match x with | P.int p => some (P.tup [P.int (w p), P.int (look A p)]) | _ => none) = (carryA w A).map fun x => P.tup [P.int x.1, P.int x.2] := by
  rw [List.map_map, List.filterMap_map]
  unfold carryA
  rw [List.map_map]
  have : ∀ B : List (Int × Int), (∀ x ∈ B, x ∈ A) → B.filterMap ((fun x => match x with | P.int p => some (P.tup [.int (w p), .int (look A p)]) | _ => none) ∘ (P.int ∘ fun x : Int × Int => x.1)) = B.map ((fun x : Int × Int => P.tup [.int x.1, .int x.2]) ∘ fun x => (w x.1, x.2)) := by
    intro B hB
    induction B with
    | nil => rfl
    | cons x B ih =>
      rw [List.filterMap_cons, ih fun y hy => hB y (by simp [hy])]
      have e : look A x.1 = x.2 := by unfold look; rw [look_get hk (hB x (by simp))]; rfl
      simp [e]
  exact this A fun x h => h
theorem get_A {A : List (Int × Int)} (p : Int) : pGet? (dkA A) (.int p) = some ((A.lookup p).map P.int) := by
  show (keyOf (P.int p)).map (fun k => lookP k (kA A) (vA A)) = _
  simp only [keyOf, Option.map_some]
  rw [lookP_A]
theorem sub_A {A : List (Int × Int)} (hk : Keyed A) {p : Int} (hp : p ∈ A.map (·.1)) : pSub (dkA A) (.int p) = some (.int (look A p)) := by
  obtain ⟨x, hx, rfl⟩ := List.mem_map.mp hp
  have e : pSub (dkA A) (.int x.1) = lookP (.inl x.1) (kA A) (vA A) := rfl
  rw [e, lookP_A]
  unfold look
  rw [look_get hk hx]; rfl
theorem look_none {A : List (Int × Int)} {p : Int} (h : A.lookup p = none) : p ∉ A.map (·.1) := by
  induction A with
  | nil => simp
  | cons x A ih =>
    obtain ⟨q, u⟩ := x
    rw [List.lookup_cons] at h
    by_cases e : p = q
    · subst e; simp at h
    · rw [show (p == q) = false by simpa using e] at h
      rw [List.map_cons]
      intro hm
      rcases List.mem_cons.mp hm with hm | hm
      · exact e hm
      · exact ih h hm
theorem in_A (neg : Bool) {A : List (Int × Int)} (p : Int) : pInAll neg (.int p) (dkA A) = some (.bl (neg ^^ decide (p ∈ A.map (·.1)))) := by
  have e : pInAll neg (.int p) (dkA A) = some (.bl (neg ^^ (lookP (.inl p) (kA A) (vA A)).isSome)) := rfl
  rw [e, lookP_A]
  cases e2 : A.lookup p with
  | none => simp [look_none e2]
  | some v =>
    have h : p ∈ A.map (·.1) := by
      by_cases h : p ∈ A.map (·.1)
      · exact h
      · rw [look_out h] at e2; cases e2
    simp only [h, Option.map_some, Option.isSome_some, decide_true]
theorem itemsP_A (A : List (Int × Int)) : itemsP (dkA A) = some ((A.map (·.1)).map P.int) := by
  show some ((kA A).map keyP) = _
  rw [keys_kA]
@[simp] theorem isDP_A (A : List (Int × Int)) : isDP (some (dkA A)) = true := rfl
@[simp] theorem yard_p (k ts rs) : pAttr ["Yard"] "places" (yardI k ts rs) = some (.int k) := rfl
@[simp] theorem yard_t (k ts rs) : pAttr ["Yard"] "ties" (yardI k ts rs) = some (.tup (ts.map tieP)) := rfl
@[simp] theorem yard_r (k ts rs) : pAttr ["Yard"] "rings" (yardI k ts rs) = some (.tup (rs.map ringP)) := rfl
theorem carried {k : Nat} {ts : List Tie} {rs : List (List Int)} {A : List (Int × Int)} {m : Mv} (hy : YOk k ts rs) (hk : Keyed A) (hl : A.length ≤ 1000) (hc : Can ts rs (A.map (·.1)) m) {X : XF} {Q : D → List D → Prop} (q : Q (.p (dkA (carryA (w1 rs m) A))) [.p (yardI k ts rs), .p (dkA A), .p (mvP m)]) : WF s_carried [.p (yardI k ts rs), .p (dkA A), .p (mvP m)] X Q := by
  have hsz := szl
  have hrn : ∀ r ∈ rs, r.Nodup := fun r h => (hy.ring r h).2.2.1
  have hck : Keyed (carryA (w1 rs m) A) := carry_keyed hk fun p hp q' hq e => w1_inj ts rs hrn hc hp hq e
  have hdo := dictOf_A hck
  rw [← carry_list hk] at hdo
  refine wf_fn rfl (by simp) ?_
  cases m with
  | tn j =>
    have hj : j < rs.length := hc
    obtain ⟨hr3, hrk, hrn2, hrin⟩ := hy.ring _ (List.getElem_mem hj)
    have hk6 := hy.n6
    simp [b_carried, mvP, at_ringP hj]
    refine turn_of hr3 (by omega) hrn2 ?_
    simp [itemsP_A, pureAt, wipeE, backE]
    refine wc_map (fun x => match x with | .int p => some (.tup [.int (w1 rs (.tn j) p), .int (look A p)]) | _ => none) (by simp; omega) ?_ ?_
    · intro x hx
      obtain ⟨y, hy2, rfl⟩ := List.mem_map.mp hx
      have hp : y.1 ∈ A.map (·.1) := List.mem_map_of_mem hy2
      rw [Function.comp_apply]
      generalize y.1 = p at hp
      have hw : w1 rs (.tn j) p = ((rotA rs[j]).lookup p).getD p := by simp [w1, hj, wr, rotA]
      simp [get_A, sub_A hk hp, hw, wipeE]
      cases (rotA rs[j]).lookup p with
      | none => simp; omega
      | some v => simp; omega
    · simp at hdo ⊢
      rw [hdo]
      simp
      exact q
  | sl a b =>
    obtain ⟨hm, hca, hcb⟩ := hc
    simp [b_carried, mvP, in_A, hca, hcb]
    have hca' := hca
    have hcb' := hcb
    simp only [List.mem_map, not_exists, not_and] at hca' hcb'
    simp [itemsP_A, pureAt, wipeE, backE]
    refine wc_map (fun x => match x with | .int p => some (.tup [.int (w1 rs (.sl a b) p), .int (look A p)]) | _ => none) (by simp; omega) ?_ ?_
    · intro x hx
      obtain ⟨y, hy2, rfl⟩ := List.mem_map.mp hx
      have hp : y.1 ∈ A.map (·.1) := List.mem_map_of_mem hy2
      rw [Function.comp_apply]
      generalize y.1 = p at hp
      by_cases hpa : p = a
      · subst hpa
        simp [sub_A hk hp, w1, wipeE]; omega
      · simp [sub_A hk hp, w1, hpa, wipeE]; omega
    · simp at hdo ⊢
      rw [hdo]
      simp
      exact q
end Sl

set_option Elab.async false
set_option linter.all false
set_option maxRecDepth 100000
set_option maxHeartbeats 4000000
/-! S06u: moves told; rows of moves carried. -/
namespace Sl
open PV
@[simp] theorem cut1 (x y z : P) : pSlice (.tup [x, y, z]) (some 1) none = some (.tup [y, z]) := rfl
theorem as_move {k : Nat} {ts : List Tie} {rs : List (List Int)} {m : Mv} (hy : YOk k ts rs) (hm : MIn ts rs m) {X : XF} {Q : D → List D → Prop} (q : Q (.p (mvP m)) [.p (yardI k ts rs), .p (mvP m)]) : WF s_as_move [.p (yardI k ts rs), .p (mvP m)] X Q := by
  refine wf_fn rfl (by simp) ?_
  cases m with
  | sl a b =>
    have hok := hy.ties.ok _ hm
    dsimp only at hok
    simp [b_as_move, mvP, isTyB]
    refine as_tie (a := a) (b := b) (.inr rfl) hok.1 hok.2.1 hok.2.2.1 hok.2.2.2.1 hok.2.2.2.2 ?_
    simp
    refine pIn_tup (n := 1) (m := 1) rfl (ties_plain ts) (fun h => ?_) (fun h => absurd (tieP_mem.mpr hm) h)
    simp
    exact q
  | tn j =>
    have hj : j < rs.length := hm
    simp [b_as_move, mvP, isTyB]
    refine is_place (by omega) (by omega) ?_
    simp
    exact q
theorem carry_comp (w v : Int → Int) (A : List (Int × Int)) : carryA v (carryA w A) = carryA (fun p => v (w p)) A := by
  unfold carryA
  rw [List.map_map]; rfl
inductive Ca (a0 a2 : D) (k : Nat) (ts : List Tie) (rs : List (List Int)) (ms : List Mv) (A : List (Int × Int)) (i : Nat) : Env → Prop
  | mk {B : List (Int × Int)} {z : P} {o3 o4 o5 o6 : Option D} : CanA ts rs (B.map (·.1)) (ms.drop i) → Keyed B → B.length = A.length → carryA (wA rs (ms.drop i)) B = carryA (wA rs ms) A → z = dkA B → Ca a0 a2 k ts rs ms A i [some a0, some (.p z), some a2, o3, o4, o5, o6]
def RowM (y : P) (ms : List Mv) : Prop := y = .lst (ms.map mvP) ∨ y = .tup (ms.map mvP)
theorem RowM.seq {y : P} {ms : List Mv} (h : RowM y ms) : seqP y = some (ms.map mvP) := by rcases h with rfl | rfl <;> rfl
@[simp] theorem mvP_non (m : Mv) : (mvP m).isNon = false := by cases m <;> rfl
@[simp] theorem dkA_non (A) : (dkA A).isNon = false := rfl
theorem carried_all {k : Nat} {ts : List Tie} {rs : List (List Int)} {A : List (Int × Int)} {ms : List Mv} {y : P} (hy : YOk k ts rs) (hk : Keyed A) (hl : A.length ≤ 1000) (hr : RowM y ms) (hc : CanA ts rs (A.map (·.1)) ms) {X : XF} {Q : D → List D → Prop} (q : ∀ d, Q (.p (dkA (carryA (wA rs ms) A))) [.p (yardI k ts rs), d, .p y]) : WF s_carried_all [.p (yardI k ts rs), .p (dkA A), .p y] X Q := by
  have hsz := szl
  refine wf_fn rfl (by simp) ?_
  simp [b_carried_all, hr.seq]
  refine ws_for (Ca (.p (yardI k ts rs)) (.p y) k ts rs ms A) (.mk (B := A) hc hk rfl rfl rfl) ?_ ?_
  · rintro i x σ hi ⟨hcb, hkb, hlb, hwb, rfl⟩
    rename_i B o3 o4 o5 o6
    rw [enum_get] at hi
    obtain ⟨x, hx, rfl⟩ := Option.map_eq_some_iff.mp hi
    rw [List.getElem?_map] at hx
    obtain ⟨m, hm, rfl⟩ := Option.map_eq_some_iff.mp hx
    have hil := (List.getElem?_eq_some_iff.mp hm).1
    have e : ms.drop i = m :: ms.drop (i + 1) := by
      rw [List.drop_eq_getElem_cons hil]
      congr 1
      exact (List.getElem?_eq_some_iff.mp hm).2
    rw [e] at hcb hwb
    simp
    refine as_move hy hcb.1.min ?_
    simp
    refine carried hy hkb (by omega) hcb.1 ?_
    simp
    refine .mk (B := carryA (w1 rs m) B) ?_ ?_ (by simp [carryA, hlb]) ?_ rfl
    · rw [carry_keys]; exact hcb.2
    · exact carry_keyed hkb fun p hp q' hq e => w1_inj ts rs (fun r h => (hy.ring r h).2.2.1) hcb.1 hp hq e
    · rw [carry_comp]; exact hwb
  · rintro σ ⟨hcb, hkb, hlb, hwb, rfl⟩
    rename_i B o3 o4 o5 o6
    rw [enum_len, List.length_map, List.drop_length] at hwb
    have e : carryA (wA rs []) B = B := by
      unfold carryA
      exact List.map_id _
    rw [e] at hwb
    simp
    rw [hwb]
    exact q _
end Sl

set_option Elab.async false
set_option linter.all false
set_option maxRecDepth 100000
set_option maxHeartbeats 4000000
/-! S06v: moves taken back by the package. -/
namespace Sl
open PV
def optL : Option (List Mv) → P
  | some b => .lst (b.map mvP)
  | none => .non
theorem back_some {ts : List Tie} {rs : List (List Int)} : ∀ {ms : List Mv}, (∀ m ∈ ms, bk1 ts rs m ≠ none) → back ts rs ms = some ((ms.reverse.map fun m => (bk1 ts rs m).getD []).flatten)
  | [], _ => rfl
  | m :: ms, h => by
    show (back ts rs ms).bind _ = _
    rw [back_some fun m hm => h m (by simp [hm])]
    cases e : bk1 ts rs m with
    | none => exact absurd e (h m (by simp))
    | some y => simp [e]
theorem back_none' {ts : List Tie} {rs : List (List Int)} : ∀ {ms : List Mv}, (∃ m ∈ ms, bk1 ts rs m = none) → back ts rs ms = none
  | [], ⟨m, h, _⟩ => by cases h
  | m :: ms, ⟨x, hx, e⟩ => by
    show (back ts rs ms).bind _ = _
    rcases List.mem_cons.mp hx with rfl | hx
    · rw [e]
      cases back ts rs ms <;> rfl
    · rw [back_none' ⟨x, hx, e⟩]; rfl
inductive Tb (a0 a1 : D) (ts : List Tie) (rs : List (List Int)) (ms : List Mv) (i : Nat) : Env → Prop
  | mk {zs : List P} {o3 o4 o5 : Option D} : (∀ d, o5 = some d → d.owned = false) → zs = (ms.take i).map (fun m => optL (bk1 ts rs m)) → Tb a0 a1 ts rs ms i [some a0, some a1, some (.lst zs), o3, o4, o5, none]
theorem any_non : ∀ (xs : List P), blsOf (xs.map fun x => P.bl x.isNon) = some (xs.map P.isNon)
  | [] => rfl
  | x :: xs => by
    show (blsOf (xs.map fun x => P.bl x.isNon)).map _ = _
    rw [any_non xs]; rfl
@[simp] theorem optL_non (o : Option (List Mv)) : (optL o).isNon = o.isNone := by cases o <;> rfl
inductive Tc (σ0 : Env) (ts : List Tie) (rs : List (List Int)) (ms : List Mv) (i : Nat) (acc : List P) : Env → Prop
  | mk : acc = ((ms.reverse.take i).map fun m => ((bk1 ts rs m).getD []).map mvP).flatten → acc.length ≤ 6 * i → Tc σ0 ts rs ms i acc σ0
theorem taken_back {k : Nat} {ts : List Tie} {rs : List (List Int)} {ms : List Mv} {y : P} (hy : YOk k ts rs) (hm : ∀ m ∈ ms, MIn ts rs m) (hl : ms.length ≤ 1000) (hr : RowM y ms) {X : XF} {Q : D → List D → Prop} (q : Q (.p (optT (back ts rs ms))) [.p (yardI k ts rs), .p y]) : WF s_taken_back [.p (yardI k ts rs), .p y] X Q := by
  have hsz := szl
  refine wf_fn rfl (by simp) ?_
  simp [b_taken_back, hr.seq]
  refine ws_for (Tb (.p (yardI k ts rs)) (.p y) ts rs ms) (.mk (by simp) (by simp)) ?_ ?_
  · rintro i x σ hi ⟨ho5, rfl⟩
    rename_i o3 o4 o5
    rw [enum_get] at hi
    obtain ⟨x, hx, rfl⟩ := Option.map_eq_some_iff.mp hi
    rw [List.getElem?_map] at hx
    obtain ⟨m, hmi, rfl⟩ := Option.map_eq_some_iff.mp hx
    have hil := (List.getElem?_eq_some_iff.mp hmi).1
    have hin := hm m (List.mem_of_getElem? hmi)
    have htk : ms.take (i + 1) = ms.take i ++ [m] := by rw [List.take_succ, hmi]; rfl
    simp
    refine as_move hy hin ?_
    simp
    have hlen : ((ms.take i).map fun m => optL (bk1 ts rs m)).length < 16777216 := by simp; omega
    cases m with
    | tn j =>
      have hj : j < rs.length := hin
      have hr := hy.ring _ (List.getElem_mem hj)
      have hn6 := hy.n6
      have e1 : ((rs[j].length : Int) - 1).toNat = rs[j].length - 1 := by omega
      have hbk : bk1 ts rs (.tn j) = some (List.replicate (rs[j].length - 1) (.tn j)) := by simp [bk1, hj]
      simp [mvP, at_ringP hj, e1]
      refine ⟨by omega, by omega, by omega, .mk (by simp) ?_⟩
      simp [htk, hbk, optL, mvP]
    | sl a b =>
      simp [mvP]
      refine ⟨by omega, ?_⟩
      refine pIn_tup (n := 1) (m := 1) (x := tieP (b, a)) rfl (ties_plain ts) (fun h => ?_) (fun h => ?_)
      · have hbk : bk1 ts rs (.sl a b) = some [.sl b a] := by simp [bk1, tieP_mem.mp h]
        simp
        refine ⟨by omega, by omega, by omega, .mk (by simp) ?_⟩
        simp [htk, hbk, optL, mvP]
      · have hn : (b, a) ∉ ts := fun hm => h (tieP_mem.mpr hm)
        have hbk : bk1 ts rs (.sl a b) = none := by simp [bk1, hn]
        simp
        refine ⟨by omega, .mk (by simp) ?_⟩
        simp [htk, hbk, optL]
  · rintro σ ⟨ho5, rfl⟩
    rename_i o3 o4 o5
    rw [enum_len, List.length_map, List.take_length]
    have hp5 : pureAt [some (.p (yardI k ts rs)), some (.p y), some (.p (.lst (ms.map fun m => optL (bk1 ts rs m)))), o3, o4, o5, none] 5 = true := by
      cases o5 with
      | none => rfl
      | some d =>
        show (!d.owned) = true
        rw [ho5 d rfl]; rfl
    simp [pureAt, wipeE, backE]
    refine wc_map (fun x => some (.bl x.isNon)) (by simp; omega) ?_ ?_
    · intro x hx
      simp [wipeE]
    · rw [List.filterMap_eq_map']
      have hany : pAny (.lst ((ms.map fun m => optL (bk1 ts rs m)).map fun x => P.bl x.isNon)) = some (.bl (ms.any fun m => (bk1 ts rs m).isNone)) := by
        show (blsOf _).map _ = _
        rw [any_non]
        simp [List.any_map, Function.comp_def]
      rw [hany]
      by_cases hn : (ms.any fun m => (bk1 ts rs m).isNone) = true
      · have hb : back ts rs ms = none := by
          obtain ⟨m, h1, h2⟩ := List.any_eq_true.mp hn
          exact back_none' ⟨m, h1, by simpa using h2⟩
        rw [hb] at q
        simp only [hn]
        simp
        exact q
      · have hs : ∀ m ∈ ms, bk1 ts rs m ≠ none := fun m h1 h2 => hn (List.any_eq_true.mpr ⟨m, h1, by simp [h2]⟩)
        rw [back_some hs] at q
        have hn' : (ms.any fun m => (bk1 ts rs m).isNone) = false := by simpa using hn
        simp only [hn']
        have hflat : ∀ l : List Mv, (∀ m ∈ l, m ∈ ms) → ((l.map fun m => (bk1 ts rs m).getD []).flatten).length ≤ 6 * l.length := by
          intro l
          induction l with
          | nil => simp
          | cons m l ih =>
            intro h
            have h1 := ih fun m hm => h m (by simp [hm])
            have h2 : ((bk1 ts rs m).getD []).length ≤ 6 := by
              cases e : bk1 ts rs m with
              | none => simp
              | some z => exact bk1_len hy (hm m (h m (by simp))) e
            simp at h1 h2 ⊢
            omega
        simp [pRevL]
        refine ⟨hp5, ?_⟩
        refine wc2_inv (Tc [some (.p (yardI k ts rs)), some (.p y), some (.p (.lst (ms.map fun m => optL (bk1 ts rs m)))), o3, o4, none, none] ts rs ms) (.mk (by simp) (by simp)) ?_ ?_
        · rintro i x acc σ hi ⟨hacc, hal⟩
          have hil : i < ms.length := by
            have := (List.getElem?_eq_some_iff.mp hi).1
            simpa using this
          have hx : optL (bk1 ts rs (ms.reverse[i]'(by simpa using hil))) = x := by
            have := (List.getElem?_eq_some_iff.mp hi).2
            simpa using this
          subst hx
          have hmm : (ms.reverse[i]'(by simpa using hil)) ∈ ms := by
            have := List.getElem_mem (l := ms.reverse) (n := i) (by simpa using hil)
            simpa using this
          have htk : ms.reverse.take (i + 1) = ms.reverse.take i ++ [ms.reverse[i]'(by simpa using hil)] := by
            rw [List.take_succ, List.getElem?_eq_getElem (by simpa using hil)]; rfl
          revert hmm htk
          generalize (ms.reverse[i]'(by simpa using hil)) = m
          intro hmm htk
          cases e : bk1 ts rs m with
          | none => exact absurd e (hs m hmm)
          | some z =>
            have hz := bk1_len hy (hm m hmm) e
            simp [optL]
            refine wc_mapA some (by simp; omega) ?_ ?_
            · intro x hx
              simp [wipeE]
            · simp [wipeE]
              refine .mk ?_ ?_
              · rw [htk, hacc]; simp [e]
              · simp; omega
        · rintro acc σ ⟨hacc, hal⟩
          have e1 : (ms.map fun m => optL (bk1 ts rs m)).reverse.length = ms.reverse.length := by simp
          rw [e1, List.take_length] at hacc
          have e2 : acc = (ms.reverse.map fun m => (bk1 ts rs m).getD []).flatten.map mvP := by
            rw [hacc, List.map_flatten, List.map_map]; rfl
          rw [e2]
          exact q
end Sl

set_option Elab.async false
set_option linter.all false
set_option maxRecDepth 100000
set_option maxHeartbeats 4000000
/-! S06w: rows of moves played. -/
namespace Sl
open PV
def fillF : P → Option P
  | .tup [.int i, .int v] => if 0 < v then some (.int i) else none
  | _ => none
theorem fill_list : ∀ (st : List Int) (k : Nat), (enumP k (st.map P.int)).filterMap fillF = ((List.range st.length).filter fun i => decide (0 < st.getD i 0)).map fun i : Nat => P.int ((k + i : Nat) : Int)
  | [], k => rfl
  | x :: st, k => by
    have ih := fill_list st (k + 1)
    show (P.tup [.int (k : Int), .int x] :: enumP (k + 1) (st.map P.int)).filterMap fillF = _
    rw [List.filterMap_cons, ih, List.length_cons, List.range_succ_eq_map, List.filter_cons, List.filter_map, ]
    have e : (fun i : Nat => P.int ((k + 1 + i : Nat) : Int)) = (fun i : Nat => P.int ((k + i : Nat) : Int)) ∘ Nat.succ := by
      funext i
      show P.int _ = P.int _
      congr 2; omega
    by_cases h : 0 < x
    · simp [fillF, h, e, List.map_map, Function.comp_def]
      intros; omega
    · simp [fillF, h, e, List.map_map, Function.comp_def]
      intros; omega
theorem filled {st : List Int} (hl : st.length ≤ 1000) {X : XF} {Q : D → List D → Prop} (q : Q (.p (.tup ((filledI st).map .int))) [.p (.tup (st.map .int))]) : WF s_filled [.p (.tup (st.map .int))] X Q := by
  have hsz := szl
  refine wf_fn rfl (by simp) ?_
  simp [b_filled, pureAt, wipeE, backE]
  refine wc_map fillF (by rw [enum_len]; simp; omega) ?_ ?_
  · intro x hx
    obtain ⟨i, hi⟩ := List.mem_iff_getElem?.mp hx
    rw [enum_get] at hi
    obtain ⟨z, hz, rfl⟩ := Option.map_eq_some_iff.mp hi
    rw [List.getElem?_map] at hz
    obtain ⟨v, hv, rfl⟩ := Option.map_eq_some_iff.mp hz
    simp [wipeE, fillF]
  · have e : (enumP 0 (st.map P.int)).filterMap fillF = (filledI st).map P.int := by
      rw [fill_list]
      unfold filledI
      rw [List.map_map]
      refine List.map_congr_left fun i _ => ?_
      simp
    rw [e]
    exact q
theorem is_stand {k : Nat} {ts : List Tie} {rs : List (List Int)} {st : List Int} (hl : st.length = k) (hk : k ≤ 1000) (h0 : ∀ x ∈ st, 0 ≤ x) {X : XF} {Q : D → List D → Prop} (q : Q (.p (.bl true)) [.p (yardI k ts rs), .p (.tup (st.map .int))]) : WF s_is_stand [.p (yardI k ts rs), .p (.tup (st.map .int))] X Q := by
  have hsz := szl
  refine wf_fn rfl (by simp) ?_
  simp [b_is_stand, isTyB, hl, pureAt, wipeE, backE]
  refine wc_map (fun _ => some (.bl true)) (by simp; omega) ?_ ?_
  · intro x hx
    obtain ⟨i, hi, rfl⟩ := List.mem_map.mp hx
    simp [wipeE]
    refine is_whole ?_
    simp [h0 i hi]
  · simp [all_true']
    exact q
theorem stand_told {k : Nat} {ts : List Tie} {rs : List (List Int)} {st : List Int} (hl : st.length = k) (hk : k ≤ 1000) (h0 : ∀ x ∈ st, 0 ≤ x) {X : XF} {Q : D → List D → Prop} (q : Q (.p (.tup (st.map .int))) [.p (yardI k ts rs), .p (.tup (st.map .int))]) : WF s_stand_told [.p (yardI k ts rs), .p (.tup (st.map .int))] X Q := by
  refine wf_fn rfl (by simp) ?_
  simp [b_stand_told]
  refine is_row (.inr rfl) ?_
  simp
  refine is_stand hl hk h0 ?_
  simp
  exact q
theorem fill_pairs (st : List Int) : ((filledI st).map P.int).filterMap (fun x => match x with | P.int p => some (P.tup [P.int p, P.int (st.getD p.toNat 0)]) | _ => none) = (fillA st).map fun x => P.tup [P.int x.1, P.int x.2] := by
  unfold fillA
  rw [List.filterMap_map, List.map_map]
  exact congrFun (List.filterMap_eq_map' (f := fun p : Int => P.tup [.int p, .int (st.getD p.toNat 0)])) _
theorem played {k : Nat} {ts : List Tie} {rs : List (List Int)} {st : List Int} {ms : List Mv} {y : P} (hy : YOk k ts rs) (hl : st.length = k) (h0 : ∀ x ∈ st, 0 ≤ x) (hr : RowM y ms) (hc : CanA ts rs (filledI st) ms) {X : XF} {Q : D → List D → Prop} (q : Q (.p (.tup ((unfill k (carryA (wA rs ms) (fillA st))).map .int))) [.p (yardI k ts rs), .p (.tup (st.map .int)), .p y]) : WF s_played [.p (yardI k ts rs), .p (.tup (st.map .int)), .p y] X Q := by
  have hsz := szl
  have hn6 := hy.n6
  have hfl : (filledI st).length ≤ k := by
    unfold filledI
    rw [List.length_map, ← hl]
    exact Nat.le_trans (List.length_filter_le _ _) (by simp)
  refine wf_fn rfl (by simp) ?_
  simp [b_played]
  refine stand_told hl (by omega) h0 ?_
  simp
  refine filled (by omega) ?_
  simp [pureAt, wipeE, backE]
  refine wc_map (fun x => match x with | .int p => some (.tup [.int p, .int (st.getD p.toNat 0)]) | _ => none) (by simp; omega) ?_ ?_
  · intro x hx
    obtain ⟨p, hp, rfl⟩ := List.mem_map.mp hx
    obtain ⟨i, h1, rfl, h3⟩ := mem_filledI.mp hp
    simp [at_st (st := st) (a := (i : Int)) (by omega) (by omega), wipeE]
    omega
  · have hd := dictOf_A (fillA_keyed st)
    rw [← fill_pairs] at hd
    simp at hd ⊢
    rw [hd]
    simp
    refine carried_all (A := fillA st) hy (fillA_keyed st) (by unfold fillA; simp; omega) hr (by rw [keys_fillA]; exact hc) fun d => ?_
    simp [pureAt, wipeE, backE]
    refine ⟨by omega, ?_⟩
    refine wc_map (fun x => match x with | .int p => some (.int (look (carryA (wA rs ms) (fillA st)) p)) | _ => none) (by simp [rangeP]; omega) ?_ ?_
    · intro x hx
      simp [range_map] at hx
      obtain ⟨j, hj, rfl⟩ := hx
      simp [get_A, wipeE, look]
      cases (carryA (wA rs ms) (fillA st)).lookup (j : Int) <;> simp
    · have e : (rangeP 0 k).filterMap (fun x => match x with | .int p => some (P.int (look (carryA (wA rs ms) (fillA st)) p)) | _ => none) = (unfill k (carryA (wA rs ms) (fillA st))).map P.int := by
        rw [range_map, List.filterMap_map]
        unfold unfill
        rw [List.map_map]
        exact congrFun (List.filterMap_eq_map' (f := P.int ∘ fun i : Nat => look (carryA (wA rs ms) (fillA st)) (i : Int))) _
      rw [e]
      exact q
end Sl

set_option Elab.async false
set_option linter.all false
set_option maxRecDepth 100000
set_option maxHeartbeats 4000000
/-! K06: the walk, printed by gen.py. -/
namespace K06
open PySem L2 PV Sl
def top (i : Nat) : Stmt := PySem.Challenge.pw_slideyards_k06_whole_moves_taken_back.main.body.getD i (.Pass ⟨0, 0, 0, 0⟩)
theorem hu65 {A : Around} {k : Nat} (hr : Room k A) : A.units + 65 < cLine := by have := hr.un; omega
theorem hu64 {A : Around} {k : Nat} (hr : Room k A) : A.units + 64 < cLine := by have := hr.un; omega
structure Gb (K : PySem.W.Frag) (mg : Str → Option Value) (cl : String → Option Addr) : Prop where
  m_all : mg "all" = none
  m_any : mg "any" = none
  m_bool : mg "bool" = none
  m_dict : mg "dict" = none
  m_enumerate : mg "enumerate" = none
  m_int : mg "int" = none
  m_isinstance : mg "isinstance" = none
  m_len : mg "len" = none
  m_list : mg "list" = none
  m_min : mg "min" = none
  m_range : mg "range" = none
  m_set : mg "set" = none
  m_sorted : mg "sorted" = none
  m_str : mg "str" = none
  m_tuple : mg "tuple" = none
  m_zip : mg "zip" = none
  f_Yard_places : FldOk K cl "Yard" "places"
  f_Yard_rings : FldOk K cl "Yard" "rings"
  f_Yard_ties : FldOk K cl "Yard" "ties"
variable {P : Program} {w : World} {K : PySem.W.Frag} {mg : Str → Option Value} {base : Heap} {cl : String → Option Addr}
/-! ### _law_all_moves -/
abbrev t__law_all_moves : Stmt := top 39
theorem sc__law_all_moves : FnScope ["_law_yard", "_law_a", "_law_b", "_law_k"] ["_law_yard"] (defScope t__law_all_moves) := ⟨rfl, rfl, rfl, by decide +kernel, rfl, by decide +kernel, by decide +kernel⟩
theorem k__law_all_moves {a : Addr} {fd : FuncData} (F : Fun K "_law_all_moves" "_law_all_moves" t__law_all_moves a fd) (B : Gb K mg cl) : FnOk P w K mg base (L2.CX P w) 1 a fd ["_law_yard"] (spOf K cl 1 s__law_all_moves) := fn_sem (k := 0) F sc__law_all_moves rfl rfl fun cdv A outer s H vs E hr =>
    (dss_one (ds_ret (de_bin op_addA prim_add (de_comp (S := ([1] ++ ([2] ++ []))) (vs := [1, 2]) (pe_lc rfl sc__law_all_moves.nd (di_iter (de_sub (hu_of hr) (de_var 0) de_int)) (own := [("_law_a", 1), ("_law_b", 2)]) (by show BlkOk ["_law_yard", "_law_a", "_law_b", "_law_k"] (defScope t__law_all_moves) _ [("_law_a", 1), ("_law_b", 2)]; exact ⟨rfl, by decide +kernel, by decide +kernel, by decide +kernel, by decide +kernel⟩) (fun _ _ _ _ _ => (dg_tup rfl (dgs_cons (dg_name sc__law_all_moves.nd rfl (by first | exact Or.inl rfl | exact Or.inr rfl) (by show (1 : Nat) ∉ ([] : List Nat); decide)) (dgs_cons (dg_name sc__law_all_moves.nd rfl (by first | exact Or.inl rfl | exact Or.inr rfl) (by show (2 : Nat) ∉ ([] : List Nat); decide)) dgs_nil)))) (fun _ _ _ _ _ => dts_nil) (fun _ _ _ _ _ => (de_tup (da_cons de_str (da_cons (de_var 1) (da_cons (de_var 2) da_nil)))))) (by decide) (by show ∀ v ∈ ([1, 2] : List Nat), v ∉ ([] : List Nat); decide)) (de_comp (S := [3]) (vs := [3]) (pe_lc rfl sc__law_all_moves.nd (di_rg1 (pi_range1 (by rfl) B.m_range (da_cons (de_blt call_lenA prim_len (by rfl) B.m_len (by rfl) (da_cons (de_sub (hu_of hr) (de_var 0) de_int) da_nil)) da_nil))) (own := [("_law_k", 3)]) (by show BlkOk ["_law_yard", "_law_a", "_law_b", "_law_k"] (defScope t__law_all_moves) _ [("_law_k", 3)]; exact ⟨rfl, by decide +kernel, by decide +kernel, by decide +kernel, by decide +kernel⟩) (fun _ _ _ _ _ => (dg_name sc__law_all_moves.nd rfl (by first | exact Or.inl rfl | exact Or.inr rfl) (by show (3 : Nat) ∉ ([] : List Nat); decide))) (fun _ _ _ _ _ => dts_nil) (fun _ _ _ _ _ => (de_tup (da_cons de_str (da_cons (de_var 3) da_nil))))) (by decide) (by show ∀ v ∈ ([3] : List Nat), v ∉ ([] : List Nat); decide)))))
/-! ### _law_back -/
abbrev t__law_back : Stmt := top 41
theorem sc__law_back : FnScope ["_law_yard", "_law_moves_here", "_law_found", "_law_move"] ["_law_yard", "_law_moves_here"] (defScope t__law_back) := ⟨rfl, rfl, rfl, by decide +kernel, rfl, by decide +kernel, by decide +kernel⟩
theorem k__law_back {a : Addr} {fd : FuncData} (F : Fun K "_law_back" "_law_back" t__law_back a fd) (B : Gb K mg cl) : FnOk P w K mg base (L2.CX P w) 1 a fd ["_law_yard", "_law_moves_here"] (spOf K cl 2 s__law_back) := fn_sem (k := 0) F sc__law_back rfl rfl fun cdv A outer s H vs E hr =>
    (dss_cons (ds_setF sc__law_back.nd rfl (by first | exact Or.inl rfl | exact Or.inr rfl) (by show (2 : Nat) ∉ ([] : List Nat); decide) (df_lst da_nil))
    (dss_cons (ds_for (passes_of rfl) rfl (di_iter (de_revL (pe_revL (de_var 1)))) (dg_name sc__law_back.nd rfl (by first | exact Or.inl rfl | exact Or.inr rfl) (by show (3 : Nat) ∉ ([] : List Nat); decide)) (dss_one (ds_if (dt_cmp (op_eqD (hu64 hr)) prim_eq (de_sub (hu_of hr) (de_var 3) de_int) de_str) (dss_one (ds_setF sc__law_back.nd rfl (by first | exact Or.inl rfl | exact Or.inr rfl) (by show (2 : Nat) ∉ ([] : List Nat); decide) (df_add (de_var 2) (de_bin op_mulA prim_mul (de_lst (da_cons (de_var 3) da_nil)) (de_bin op_sub prim_I0 (de_blt call_lenA prim_len (by rfl) B.m_len (by rfl) (da_cons (de_sub (hu_of hr) (de_sub (hu_of hr) (de_var 0) de_int) (de_sub (hu_of hr) (de_var 3) de_int)) da_nil)) de_int))))) (dss_one (ds_if (dt_cmp (op_inAll (hu65 hr)) (prim_inAll false) (de_tup (da_cons (de_sub (hu_of hr) (de_var 3) de_int) (da_cons (de_sub (hu_of hr) (de_var 3) de_int) da_nil))) (de_sub (hu_of hr) (de_var 0) de_int)) (dss_one (ds_expr (de_app (pe_bm PySem.F.plainAttrs_list PySem.F.slot_list_append PySem.F.type_list_append mt_append (pv 2) (pa_cons (de_tup (da_cons de_str (da_cons (de_sub (hu_of hr) (de_var 3) de_int) (da_cons (de_sub (hu_of hr) (de_var 3) de_int) da_nil)))) pa_nil))))) (dss_one (ds_ret de_non)))))))
    (dss_one (ds_ret (de_bty call_tuple_of prim_tuple (by rfl) B.m_tuple (by rfl) (da_cons (de_var 2) da_nil))))))
/-! ### _law_draw -/
abbrev t__law_draw : Stmt := top 27
theorem sc__law_draw : FnScope ["_law_pen_here", "_law_many", "_law_cell", "_law_digit", "_law_blend"] ["_law_pen_here", "_law_many"] (defScope t__law_draw) := ⟨rfl, rfl, rfl, by decide +kernel, rfl, by decide +kernel, by decide +kernel⟩
theorem k__law_draw {a : Addr} {fd : FuncData} (F : Fun K "_law_draw" "_law_draw" t__law_draw a fd) (B : Gb K mg cl) : FnOk P w K mg base (L2.CX P w) 1 a fd ["_law_pen_here", "_law_many"] (spOf K cl 2 s__law_draw) := fn_sem (k := 0) F sc__law_draw rfl rfl fun cdv A outer s H vs E hr =>
    (dss_cons (ds_dput (ps_dput (hu_of hr) (pv 0) de_str (de_bin op_addA prim_add (de_sub (hu_of hr) (de_var 0) de_str) de_int) rfl))
    (dss_cons (ds_if (dw_and (dt_cmp (op_eqD (hu64 hr)) prim_eq (de_sub (hu_of hr) (de_var 0) de_str) de_int) (dw_and1 (dt_cmp op_lt prim_cmp (de_sub (hu_of hr) (de_var 0) de_str) (de_blt call_lenA prim_len (by rfl) B.m_len (by rfl) (da_cons (de_sub (hu_of hr) (de_var 0) de_str) da_nil))))).pt (dss_cons (ds_set sc__law_draw.nd rfl (by first | exact Or.inl rfl | exact Or.inr rfl) (by show (2 : Nat) ∉ ([0] : List Nat); decide) (de_sub (hu_of hr) (de_sub (hu_of hr) (de_var 0) de_str) (de_sub (hu_of hr) (de_var 0) de_str)))
    (dss_cons (ds_dput (ps_dput (hu_of hr) (pv 0) de_str (de_bin op_addA prim_add (de_sub (hu_of hr) (de_var 0) de_str) de_int) rfl))
    (dss_one (ds_if (dt_cmp op_ge prim_cmp (de_var 2) (de_bin op_pow prim_I de_int de_int)) (dss_one (ds_dput (ps_dput (hu_of hr) (pv 0) de_str (de_bin op_sub prim_I0 (de_var 2) (de_bin op_pow prim_I de_int de_int)) rfl))) (dss_one (ds_dput (ps_dput (hu_of hr) (pv 0) de_str (de_bin op_mod prim_I (de_bty call_int1 prim_int (by rfl) B.m_int (by rfl) (da_cons (de_bin op_addA prim_add (de_bin op_mulA prim_mul (de_sub (hu_of hr) (de_var 0) de_str) de_int) (de_var 2)) da_nil)) de_int) rfl))))))) dss_nil)
    (dss_cons (ds_if (dt_cmp op_gt prim_cmp (de_sub (hu_of hr) (de_var 0) de_str) de_int) (dss_cons (ds_set sc__law_draw.nd rfl (by first | exact Or.inl rfl | exact Or.inr rfl) (by show (3 : Nat) ∉ ([0] : List Nat); decide) (de_bin op_mod prim_I (de_bty call_int1 prim_int (by rfl) B.m_int (by rfl) (da_cons (de_sub (hu_of hr) (de_var 0) de_str) da_nil)) (de_var 1)))
    (dss_cons (ds_dput (ps_dput (hu_of hr) (pv 0) de_str (de_bin op_fdivW prim_I (de_sub (hu_of hr) (de_var 0) de_str) (de_var 1)) rfl))
    (dss_one (ds_ret (de_var 3))))) dss_nil)
    (dss_cons (ds_set sc__law_draw.nd rfl (by first | exact Or.inl rfl | exact Or.inr rfl) (by show (4 : Nat) ∉ ([0] : List Nat); decide) (de_bin op_addA prim_add (de_bin op_addA prim_add (de_sub (hu_of hr) (de_var 0) de_str) (de_bin op_mulA prim_mul (de_sub (hu_of hr) (de_var 0) de_str) de_int)) de_int))
    (dss_one (ds_ret (de_bin op_mod prim_I (de_bin op_fdivW prim_I (de_bty call_int1 prim_int (by rfl) B.m_int (by rfl) (da_cons (de_bin op_mod prim_I (de_bin op_pow prim_I (de_var 4) de_int) de_int) da_nil)) de_int) (de_var 1))))))))
/-! ### _law_moved -/
abbrev t__law_moved : Stmt := top 34
theorem sc__law_moved : FnScope ["_law_yard", "_law_stand", "_law_move", "_law_found", "_law_ring", "_law_k"] ["_law_yard", "_law_stand", "_law_move"] (defScope t__law_moved) := ⟨rfl, rfl, rfl, by decide +kernel, rfl, by decide +kernel, by decide +kernel⟩
theorem k__law_moved {a : Addr} {fd : FuncData} (F : Fun K "_law_moved" "_law_moved" t__law_moved a fd) (B : Gb K mg cl) : FnOk P w K mg base (L2.CX P w) 1 a fd ["_law_yard", "_law_stand", "_law_move"] (spOf K cl 3 s__law_moved) := fn_sem (k := 0) F sc__law_moved rfl rfl fun cdv A outer s H vs E hr =>
    (dss_cons (ds_setF sc__law_moved.nd rfl (by first | exact Or.inl rfl | exact Or.inr rfl) (by show (3 : Nat) ∉ ([] : List Nat); decide) (df_lift primL_list (pe_callTy call_list_of (by rfl) B.m_list (by rfl) (da_cons (de_var 1) da_nil))))
    (dss_cons (ds_if (dt_cmp (op_eqD (hu64 hr)) prim_eq (de_sub (hu_of hr) (de_var 2) de_int) de_str) (dss_cons (ds_if (dw_or (dt_cmp (op_notInAll (hu65 hr)) (prim_inAll true) (de_tup (da_cons (de_sub (hu_of hr) (de_var 2) de_int) (da_cons (de_sub (hu_of hr) (de_var 2) de_int) da_nil))) (de_sub (hu_of hr) (de_var 0) de_int)) (dw_or (dt_cmp (op_eqD (hu64 hr)) prim_eq (de_sub (hu_of hr) (de_var 1) (de_sub (hu_of hr) (de_var 2) de_int)) de_int) (dw_or1 (dt_cmp (op_neD (hu64 hr)) prim_ne (de_sub (hu_of hr) (de_var 1) (de_sub (hu_of hr) (de_var 2) de_int)) de_int)))).pt (dss_one (ds_ret de_non)) dss_nil)
    (dss_cons (ds_asg (de_tup (da_cons de_int (da_cons (de_sub (hu_of hr) (de_var 1) (de_sub (hu_of hr) (de_var 2) de_int)) da_nil))) (dg_tup rfl (dgs_cons (dg_ix (pg_sub (pv 3) (de_sub (hu_of hr) (de_var 2) de_int) set_list)) (dgs_cons (dg_ix (pg_sub (pv 3) (de_sub (hu_of hr) (de_var 2) de_int) set_list)) dgs_nil))))
    (dss_one (ds_ret (de_bty call_tuple_of prim_tuple (by rfl) B.m_tuple (by rfl) (da_cons (de_var 3) da_nil)))))) dss_nil)
    (dss_cons (ds_set sc__law_moved.nd rfl (by first | exact Or.inl rfl | exact Or.inr rfl) (by show (4 : Nat) ∉ ([] : List Nat); decide) (de_sub (hu_of hr) (de_sub (hu_of hr) (de_var 0) de_int) (de_sub (hu_of hr) (de_var 2) de_int)))
    (dss_cons (ds_for (passes_of rfl) rfl (di_rg1 (pi_range1 (by rfl) B.m_range (da_cons (de_blt call_lenA prim_len (by rfl) B.m_len (by rfl) (da_cons (de_var 4) da_nil)) da_nil))) (dg_name sc__law_moved.nd rfl (by first | exact Or.inl rfl | exact Or.inr rfl) (by show (5 : Nat) ∉ ([] : List Nat); decide)) (dss_one (ds_setIx (ps_asg (de_sub (hu_of hr) (de_var 1) (de_sub (hu_of hr) (de_var 4) (de_var 5))) (pg_sub (pv 3) (de_sub (hu_of hr) (de_var 4) (de_bin op_mod prim_I (de_bty call_int1 prim_int (by rfl) B.m_int (by rfl) (da_cons (de_bin op_addA prim_add (de_var 5) de_int) da_nil)) (de_blt call_lenA prim_len (by rfl) B.m_len (by rfl) (da_cons (de_var 4) da_nil)))) set_list)))))
    (dss_one (ds_ret (de_bty call_tuple_of prim_tuple (by rfl) B.m_tuple (by rfl) (da_cons (de_var 3) da_nil))))))))
/-! ### _law_moves -/
abbrev t__law_moves : Stmt := top 33
theorem sc__law_moves : FnScope ["_law_yard", "_law_stand", "_law_found", "_law_a", "_law_b", "_law_k"] ["_law_yard", "_law_stand"] (defScope t__law_moves) := ⟨rfl, rfl, rfl, by decide +kernel, rfl, by decide +kernel, by decide +kernel⟩
theorem k__law_moves {a : Addr} {fd : FuncData} (F : Fun K "_law_moves" "_law_moves" t__law_moves a fd) (B : Gb K mg cl) : FnOk P w K mg base (L2.CX P w) 1 a fd ["_law_yard", "_law_stand"] (spOf K cl 2 s__law_moves) := fn_sem (k := 0) F sc__law_moves rfl rfl fun cdv A outer s H vs E hr =>
    (dss_cons (ds_setLc (vs := [3, 4]) (ps_setLc rfl sc__law_moves.nd rfl rfl (by rfl) (di_iter (de_sub (hu_of hr) (de_var 0) de_int)) (own := [("_law_a", 3), ("_law_b", 4)]) (by show BlkOk ["_law_yard", "_law_stand", "_law_found", "_law_a", "_law_b", "_law_k"] (defScope t__law_moves) _ [("_law_a", 3), ("_law_b", 4)]; exact ⟨rfl, by decide +kernel, by decide +kernel, by decide +kernel, by decide +kernel⟩) (fun _ _ _ _ _ => (dg_tup rfl (dgs_cons (dg_name sc__law_moves.nd rfl (by first | exact Or.inl rfl | exact Or.inr rfl) (by show (3 : Nat) ∉ ([] : List Nat); decide)) (dgs_cons (dg_name sc__law_moves.nd rfl (by first | exact Or.inl rfl | exact Or.inr rfl) (by show (4 : Nat) ∉ ([] : List Nat); decide)) dgs_nil)))) (fun _ _ _ _ _ => (dts_one (dw_and (dt_cmp op_gt prim_cmp (de_sub (hu_of hr) (de_var 1) (de_var 3)) de_int) (dw_and1 (dt_cmp (op_eqD (hu64 hr)) prim_eq (de_sub (hu_of hr) (de_var 1) (de_var 4)) de_int))).pt)) (fun _ _ _ _ _ => (de_tup (da_cons de_str (da_cons (de_var 3) (da_cons (de_var 4) da_nil)))))) (by show (2 : Nat) ∉ ([] : List Nat); decide) (by decide) (by show ∀ v ∈ ([3, 4] : List Nat), v ∉ ([] : List Nat); decide))
    (dss_one (ds_ret (de_bin op_addA prim_add (de_var 2) (de_comp (S := [5]) (vs := [5]) (pe_lc rfl sc__law_moves.nd (di_rg1 (pi_range1 (by rfl) B.m_range (da_cons (de_blt call_lenA prim_len (by rfl) B.m_len (by rfl) (da_cons (de_sub (hu_of hr) (de_var 0) de_int) da_nil)) da_nil))) (own := [("_law_k", 5)]) (by show BlkOk ["_law_yard", "_law_stand", "_law_found", "_law_a", "_law_b", "_law_k"] (defScope t__law_moves) _ [("_law_k", 5)]; exact ⟨rfl, by decide +kernel, by decide +kernel, by decide +kernel, by decide +kernel⟩) (fun _ _ _ _ _ => (dg_name sc__law_moves.nd rfl (by first | exact Or.inl rfl | exact Or.inr rfl) (by show (5 : Nat) ∉ ([] : List Nat); decide))) (fun _ _ _ _ _ => dts_nil) (fun _ _ _ _ _ => (de_tup (da_cons de_str (da_cons (de_var 5) da_nil))))) (by decide) (by show ∀ v ∈ ([5] : List Nat), v ∉ ([] : List Nat); decide))))))
/-! ### _law_pen -/
abbrev t__law_pen : Stmt := top 26
theorem sc__law_pen : FnScope ["_law_script", "_law_fold", "_law_cell"] ["_law_script"] (defScope t__law_pen) := ⟨rfl, rfl, rfl, by decide +kernel, rfl, by decide +kernel, by decide +kernel⟩
theorem k__law_pen {a : Addr} {fd : FuncData} (F : Fun K "_law_pen" "_law_pen" t__law_pen a fd) (B : Gb K mg cl) : FnOk P w K mg base (L2.CX P w) 1 a fd ["_law_script"] (spOf K cl 1 s__law_pen) := fn_sem (k := 0) F sc__law_pen rfl rfl fun cdv A outer s H vs E hr =>
    (dss_cons (ds_set sc__law_pen.nd rfl (by first | exact Or.inl rfl | exact Or.inr rfl) (by show (1 : Nat) ∉ ([] : List Nat); decide) de_int)
    (dss_cons (ds_for (passes_of rfl) rfl (di_iter (de_var 0)) (dg_name sc__law_pen.nd rfl (by first | exact Or.inl rfl | exact Or.inr rfl) (by show (2 : Nat) ∉ ([] : List Nat); decide)) (dss_one (ds_set sc__law_pen.nd rfl (by first | exact Or.inl rfl | exact Or.inr rfl) (by show (1 : Nat) ∉ ([] : List Nat); decide) (de_bin op_mod prim_I (de_bty call_int1 prim_int (by rfl) B.m_int (by rfl) (da_cons (de_bin op_addA prim_add (de_bin op_mulA prim_mul (de_var 1) de_int) (de_var 2)) da_nil)) de_int))))
    (dss_one (ds_retF (df_disp rfl (pe_disp (pps_cons pe_str (de_lift (primL_N primL_list) (pe_callTy call_list_of (by rfl) B.m_list (by rfl) (da_cons (de_var 0) da_nil))) (pps_cons pe_str de_int (pps_cons pe_str de_int (pps_cons pe_str de_int (pps_cons pe_str (de_var 1) pps_nil))))) rfl rfl (by simp) (by decide)))))))
/-! ### _law_without -/
abbrev t__law_without : Stmt := top 30
theorem sc__law_without : FnScope ["_law_pairs", "_law_gone", "_law_found", "_law_pair"] ["_law_pairs", "_law_gone"] (defScope t__law_without) := ⟨rfl, rfl, rfl, by decide +kernel, rfl, by decide +kernel, by decide +kernel⟩
theorem k__law_without {a : Addr} {fd : FuncData} (F : Fun K "_law_without" "_law_without" t__law_without a fd) (B : Gb K mg cl) : FnOk P w K mg base (L2.CX P w) 1 a fd ["_law_pairs", "_law_gone"] (spOf K cl 2 s__law_without) := fn_sem (k := 0) F sc__law_without rfl rfl fun cdv A outer s H vs E hr =>
    (dss_cons (ds_setF sc__law_without.nd rfl (by first | exact Or.inl rfl | exact Or.inr rfl) (by show (2 : Nat) ∉ ([0] : List Nat); decide) df_dT)
    (dss_cons (ds_for (passes_of rfl) rfl (di_iter (de_var 0)) (dg_name sc__law_without.nd rfl (by first | exact Or.inl rfl | exact Or.inr rfl) (by show (3 : Nat) ∉ ([0] : List Nat); decide)) (dss_one (ds_if (dt_cmp (op_neD (hu64 hr)) prim_ne (de_var 3) (de_var 1)) (dss_one (ds_dput (ps_dput (hu_of hr) (pv 2) (de_var 3) de_bl rfl))) dss_nil)))
    (dss_one (ds_ret (de_var 2)))))
/-! ### filled -/
abbrev t_filled : Stmt := top 17
theorem sc_filled : FnScope ["stand", "place", "thing"] ["stand"] (defScope t_filled) := ⟨rfl, rfl, rfl, by decide +kernel, rfl, by decide +kernel, by decide +kernel⟩
theorem k_filled {a : Addr} {fd : FuncData} (F : Fun K "filled" "filled" t_filled a fd) (B : Gb K mg cl) : FnOk P w K mg base (L2.CX P w) 1 a fd ["stand"] (spOf K cl 1 s_filled) := fn_sem (k := 0) F sc_filled rfl rfl fun cdv A outer s H vs E hr =>
    (dss_one (ds_ret (de_bty call_tuple_of prim_tuple (by rfl) B.m_tuple (by rfl) (da_cons (de_comp (S := ([1] ++ ([2] ++ []))) (vs := [1, 2]) (pe_lc rfl sc_filled.nd (di_enum (pi_enumA (by rfl) B.m_enumerate (da_cons (de_var 0) da_nil))) (own := [("place", 1), ("thing", 2)]) (by show BlkOk ["stand", "place", "thing"] (defScope t_filled) _ [("place", 1), ("thing", 2)]; exact ⟨rfl, by decide +kernel, by decide +kernel, by decide +kernel, by decide +kernel⟩) (fun _ _ _ _ _ => (dg_tup rfl (dgs_cons (dg_name sc_filled.nd rfl (by first | exact Or.inl rfl | exact Or.inr rfl) (by show (1 : Nat) ∉ ([] : List Nat); decide)) (dgs_cons (dg_name sc_filled.nd rfl (by first | exact Or.inl rfl | exact Or.inr rfl) (by show (2 : Nat) ∉ ([] : List Nat); decide)) dgs_nil)))) (fun _ _ _ _ _ => (dts_one (dt_cmp op_gt prim_cmp (de_var 2) de_int))) (fun _ _ _ _ _ => (de_var 1))) (by decide) (by show ∀ v ∈ ([1, 2] : List Nat), v ∉ ([] : List Nat); decide)) da_nil))))
/-! ### is_row -/
abbrev t_is_row : Stmt := top 10
theorem sc_is_row : FnScope ["value"] ["value"] (defScope t_is_row) := ⟨rfl, rfl, rfl, by decide +kernel, rfl, by decide +kernel, by decide +kernel⟩
theorem k_is_row {a : Addr} {fd : FuncData} (F : Fun K "is_row" "is_row" t_is_row a fd) (B : Gb K mg cl) : FnOk P w K mg base (L2.CX P w) 1 a fd ["value"] (spOf K cl 1 s_is_row) := fn_sem (k := 0) F sc_is_row rfl rfl fun cdv A outer s H vs E hr =>
    (dss_one (ds_ret (de_isT2 (by rfl) B.m_isinstance (by rfl) B.m_tuple (by rfl) B.m_list (de_var 0))))
/-! ### is_whole -/
abbrev t_is_whole : Stmt := top 8
theorem sc_is_whole : FnScope ["value"] ["value"] (defScope t_is_whole) := ⟨rfl, rfl, rfl, by decide +kernel, rfl, by decide +kernel, by decide +kernel⟩
theorem k_is_whole {a : Addr} {fd : FuncData} (F : Fun K "is_whole" "is_whole" t_is_whole a fd) (B : Gb K mg cl) : FnOk P w K mg base (L2.CX P w) 1 a fd ["value"] (spOf K cl 1 s_is_whole) := fn_sem (k := 0) F sc_is_whole rfl rfl fun cdv A outer s H vs E hr =>
    (dss_one (ds_ret (de_and (de_isT (by rfl) B.m_isinstance (by rfl) B.m_int (de_var 0)) (de_one (de_not (de_isT (by rfl) B.m_isinstance (by rfl) B.m_bool (de_var 0)))))))
/-! ### turn_of -/
abbrev t_turn_of : Stmt := top 20
theorem sc_turn_of : FnScope ["ring"] ["ring"] (defScope t_turn_of) := ⟨rfl, rfl, rfl, by decide +kernel, rfl, by decide +kernel, by decide +kernel⟩
theorem k_turn_of {a : Addr} {fd : FuncData} (F : Fun K "turn_of" "turn_of" t_turn_of a fd) (B : Gb K mg cl) : FnOk P w K mg base (L2.CX P w) 1 a fd ["ring"] (spOf K cl 1 s_turn_of) := fn_sem (k := 0) F sc_turn_of rfl rfl fun cdv A outer s H vs E hr =>
    (dss_one (ds_ret (de_fz (df_dictZip (X := _) (pe_dictZip rfl (by rfl) B.m_dict (by rfl) B.m_zip (da_cons (de_var 0) (da_cons (de_bin op_addA prim_add (de_slice (de_var 0) (do_some de_int) do_none) (de_slice (de_var 0) do_none (do_some de_int))) da_nil)))))))
/-! ### _law_drawn_ring -/
abbrev t__law_drawn_ring : Stmt := top 31
theorem sc__law_drawn_ring : FnScope ["_law_pen_here", "_law_places", "_law_left", "_law_ring", "_law_lap"] ["_law_pen_here", "_law_places"] (defScope t__law_drawn_ring) := ⟨rfl, rfl, rfl, by decide +kernel, rfl, by decide +kernel, by decide +kernel⟩
theorem k__law_drawn_ring {a : Addr} {fd : FuncData} (F : Fun K "_law_drawn_ring" "_law_drawn_ring" t__law_drawn_ring a fd) (B : Gb K mg cl) (C__law_draw : Callee P w K mg base cl "_law_draw" 1 2 (s__law_draw)) : FnOk P w K mg base (L2.CX P w) 2 a fd ["_law_pen_here", "_law_places"] (spOf K cl 2 s__law_drawn_ring) := fn_sem (k := 1) F sc__law_drawn_ring rfl rfl fun cdv A outer s H vs E hr =>
    (dss_cons (ds_par (ps_par rfl sc__law_drawn_ring.nd rfl rfl (by decide) rfl rfl (pa_cons (df_rgL1 (pe_listRg rfl (by rfl) B.m_list (prg_1 (by rfl) B.m_range (de_var 1)))) (pa_cons (df_lst da_nil) pa_nil)) (by rfl) (by rfl)) (by show (2 : Nat) ∉ ([0] : List Nat); decide) (by show (3 : Nat) ∉ ([0] : List Nat); decide))
    (dss_cons (ds_for (passes_of rfl) rfl (di_rg1 (pi_range1 (by rfl) B.m_range (da_cons (de_bin op_addA prim_add de_int (de_call C__law_draw rfl (hr.mono (by first | decide | exact Nat.le_refl _ | exact Nat.le_add_right _ _ | (simp only [Nat.add_eq]; omega))) (takes_of rfl rfl rfl rfl) (by rfl) (da_cons (de_var 0) (da_cons (de_bin op_sub prim_I0 (de_var 1) de_int) da_nil)))) da_nil))) (dg_name sc__law_drawn_ring.nd rfl (by first | exact Or.inl rfl | exact Or.inr rfl) (by show (4 : Nat) ∉ ([0] : List Nat); decide)) (dss_one (ds_expr (de_app (pe_bm PySem.F.plainAttrs_list PySem.F.slot_list_append PySem.F.type_list_append mt_append (pv 3) (pa_cons (de_pop (pe_bm PySem.F.plainAttrs_list PySem.F.slot_list_pop PySem.F.type_list_pop mt_popAt (pv 2) (pa_cons (de_call C__law_draw rfl (hr.mono (by first | decide | exact Nat.le_refl _ | exact Nat.le_add_right _ _ | (simp only [Nat.add_eq]; omega))) (takes_of rfl rfl rfl rfl) (by rfl) (da_cons (de_var 0) (da_cons (de_blt call_lenA prim_len (by rfl) B.m_len (by rfl) (da_cons (de_var 2) da_nil)) da_nil))) pa_nil))) pa_nil))))))
    (dss_one (ds_ret (de_bty call_tuple_of prim_tuple (by rfl) B.m_tuple (by rfl) (da_cons (de_var 3) da_nil))))))
/-! ### _law_drawn_stand -/
abbrev t__law_drawn_stand : Stmt := top 32
theorem sc__law_drawn_stand : FnScope ["_law_pen_here", "_law_places", "_law_holes", "_law_kinds", "_law_left", "_law_stand", "_law_things", "_law_k", "_law_thing"] ["_law_pen_here", "_law_places", "_law_holes", "_law_kinds"] (defScope t__law_drawn_stand) := ⟨rfl, rfl, rfl, by decide +kernel, rfl, by decide +kernel, by decide +kernel⟩
theorem k__law_drawn_stand {a : Addr} {fd : FuncData} (F : Fun K "_law_drawn_stand" "_law_drawn_stand" t__law_drawn_stand a fd) (B : Gb K mg cl) (C__law_draw : Callee P w K mg base cl "_law_draw" 1 2 (s__law_draw)) : FnOk P w K mg base (L2.CX P w) 2 a fd ["_law_pen_here", "_law_places", "_law_holes", "_law_kinds"] (spOf K cl 4 s__law_drawn_stand) := fn_sem (k := 1) F sc__law_drawn_stand rfl rfl fun cdv A outer s H vs E hr =>
    (dss_cons (ds_par (ps_par rfl sc__law_drawn_stand.nd rfl rfl (by decide) rfl rfl (pa_cons (df_rgL1 (pe_listRg rfl (by rfl) B.m_list (prg_1 (by rfl) B.m_range (de_var 1)))) (pa_cons (df_mul (de_lst (da_cons de_int da_nil)) (de_var 1)) pa_nil)) (by rfl) (by rfl)) (by show (4 : Nat) ∉ ([0] : List Nat); decide) (by show (5 : Nat) ∉ ([0] : List Nat); decide))
    (dss_cons (ds_setF sc__law_drawn_stand.nd rfl (by first | exact Or.inl rfl | exact Or.inr rfl) (by show (6 : Nat) ∉ ([0] : List Nat); decide) (df_lst da_nil))
    (dss_cons (ds_for (passes_of rfl) rfl (di_rg1 (pi_range1 (by rfl) B.m_range (da_cons (de_bin op_sub prim_I0 (de_var 1) (de_var 2)) da_nil))) (dg_name sc__law_drawn_stand.nd rfl (by first | exact Or.inl rfl | exact Or.inr rfl) (by show (7 : Nat) ∉ ([0] : List Nat); decide)) (dss_one (ds_expr (de_app (pe_bm PySem.F.plainAttrs_list PySem.F.slot_list_append PySem.F.type_list_append mt_append (pv 6) (pa_cons (de_if (dt_val (de_var 3)) (de_bin op_addA prim_add de_int (de_call C__law_draw rfl (hr.mono (by first | decide | exact Nat.le_refl _ | exact Nat.le_add_right _ _ | (simp only [Nat.add_eq]; omega))) (takes_of rfl rfl rfl rfl) (by rfl) (da_cons (de_var 0) (da_cons de_int da_nil)))) (de_bin op_addA prim_add (de_var 7) de_int)) pa_nil))))))
    (dss_cons (ds_for (passes_of rfl) rfl (di_iter (de_var 6)) (dg_name sc__law_drawn_stand.nd rfl (by first | exact Or.inl rfl | exact Or.inr rfl) (by show (8 : Nat) ∉ ([0] : List Nat); decide)) (dss_one (ds_setIx (ps_asg (de_var 8) (pg_sub (pv 5) (de_pop (pe_bm PySem.F.plainAttrs_list PySem.F.slot_list_pop PySem.F.type_list_pop mt_popAt (pv 4) (pa_cons (de_call C__law_draw rfl (hr.mono (by first | decide | exact Nat.le_refl _ | exact Nat.le_add_right _ _ | (simp only [Nat.add_eq]; omega))) (takes_of rfl rfl rfl rfl) (by rfl) (da_cons (de_var 0) (da_cons (de_blt call_lenA prim_len (by rfl) B.m_len (by rfl) (da_cons (de_var 4) da_nil)) da_nil))) pa_nil))) set_list)))))
    (dss_one (ds_ret (de_bty call_tuple_of prim_tuple (by rfl) B.m_tuple (by rfl) (da_cons (de_var 5) da_nil))))))))
/-! ### _law_pick -/
abbrev t__law_pick : Stmt := top 28
theorem sc__law_pick : FnScope ["_law_pen_here", "_law_some"] ["_law_pen_here", "_law_some"] (defScope t__law_pick) := ⟨rfl, rfl, rfl, by decide +kernel, rfl, by decide +kernel, by decide +kernel⟩
theorem k__law_pick {a : Addr} {fd : FuncData} (F : Fun K "_law_pick" "_law_pick" t__law_pick a fd) (B : Gb K mg cl) (C__law_draw : Callee P w K mg base cl "_law_draw" 1 2 (s__law_draw)) : FnOk P w K mg base (L2.CX P w) 2 a fd ["_law_pen_here", "_law_some"] (spOf K cl 2 s__law_pick) := fn_sem (k := 1) F sc__law_pick rfl rfl fun cdv A outer s H vs E hr =>
    (dss_one (ds_ret (de_sub (hu_of hr) (de_var 1) (de_call C__law_draw rfl (hr.mono (by first | decide | exact Nat.le_refl _ | exact Nat.le_add_right _ _ | (simp only [Nat.add_eq]; omega))) (takes_of rfl rfl rfl rfl) (by rfl) (da_cons (de_var 0) (da_cons (de_blt call_lenA prim_len (by rfl) B.m_len (by rfl) (da_cons (de_var 1) da_nil)) da_nil))))))
/-! ### _law_shuffled -/
abbrev t__law_shuffled : Stmt := top 35
theorem sc__law_shuffled : FnScope ["_law_pen_here", "_law_some", "_law_left", "_law_found", "_law_lap"] ["_law_pen_here", "_law_some"] (defScope t__law_shuffled) := ⟨rfl, rfl, rfl, by decide +kernel, rfl, by decide +kernel, by decide +kernel⟩
theorem k__law_shuffled {a : Addr} {fd : FuncData} (F : Fun K "_law_shuffled" "_law_shuffled" t__law_shuffled a fd) (B : Gb K mg cl) (C__law_draw : Callee P w K mg base cl "_law_draw" 1 2 (s__law_draw)) : FnOk P w K mg base (L2.CX P w) 2 a fd ["_law_pen_here", "_law_some"] (spOf K cl 2 s__law_shuffled) := fn_sem (k := 1) F sc__law_shuffled rfl rfl fun cdv A outer s H vs E hr =>
    (dss_cons (ds_par (ps_par rfl sc__law_shuffled.nd rfl rfl (by decide) rfl rfl (pa_cons (df_lift primL_list (pe_callTy call_list_of (by rfl) B.m_list (by rfl) (da_cons (de_var 1) da_nil))) (pa_cons (df_lst da_nil) pa_nil)) (by rfl) (by rfl)) (by show (2 : Nat) ∉ ([0] : List Nat); decide) (by show (3 : Nat) ∉ ([0] : List Nat); decide))
    (dss_cons (ds_for (passes_of rfl) rfl (di_rg1 (pi_range1 (by rfl) B.m_range (da_cons (de_blt call_lenA prim_len (by rfl) B.m_len (by rfl) (da_cons (de_var 1) da_nil)) da_nil))) (dg_name sc__law_shuffled.nd rfl (by first | exact Or.inl rfl | exact Or.inr rfl) (by show (4 : Nat) ∉ ([0] : List Nat); decide)) (dss_one (ds_expr (de_app (pe_bm PySem.F.plainAttrs_list PySem.F.slot_list_append PySem.F.type_list_append mt_append (pv 3) (pa_cons (de_pop (pe_bm PySem.F.plainAttrs_list PySem.F.slot_list_pop PySem.F.type_list_pop mt_popAt (pv 2) (pa_cons (de_call C__law_draw rfl (hr.mono (by first | decide | exact Nat.le_refl _ | exact Nat.le_add_right _ _ | (simp only [Nat.add_eq]; omega))) (takes_of rfl rfl rfl rfl) (by rfl) (da_cons (de_var 0) (da_cons (de_blt call_lenA prim_len (by rfl) B.m_len (by rfl) (da_cons (de_var 2) da_nil)) da_nil))) pa_nil))) pa_nil))))))
    (dss_one (ds_ret (de_var 3)))))
/-! ### carried -/
abbrev t_carried : Stmt := top 21
theorem sc_carried : FnScope ["yard", "at", "move", "where", "place"] ["yard", "at", "move"] (defScope t_carried) := ⟨rfl, rfl, rfl, by decide +kernel, rfl, by decide +kernel, by decide +kernel⟩
theorem k_carried {a : Addr} {fd : FuncData} (F : Fun K "carried" "carried" t_carried a fd) (B : Gb K mg cl) (C_turn_of : Callee P w K mg base cl "turn_of" 1 1 (s_turn_of)) : FnOk P w K mg base (L2.CX P w) 2 a fd ["yard", "at", "move"] (spOf K cl 3 s_carried) := fn_sem (k := 1) F sc_carried rfl rfl fun cdv A outer s H vs E hr =>
    (dss_cons (ds_if (dt_cmp (op_eqD (hu64 hr)) prim_eq (de_sub (hu_of hr) (de_var 2) de_int) de_str) (dss_cons (ds_set sc_carried.nd rfl (by first | exact Or.inl rfl | exact Or.inr rfl) (by show (3 : Nat) ∉ ([] : List Nat); decide) (de_call C_turn_of rfl (hr.mono (by first | decide | exact Nat.le_refl _ | exact Nat.le_add_right _ _ | (simp only [Nat.add_eq]; omega))) (takes_of rfl rfl rfl rfl) (by rfl) (da_cons (de_sub (hu_of hr) (de_attr (de_var 0) rfl (fun c hc => by obtain rfl := List.mem_singleton.mp hc; exact B.f_Yard_rings)) (de_sub (hu_of hr) (de_var 2) de_int)) da_nil)))
    (dss_one (ds_ret (de_fz (df_dictOf (X := _) (pe_callTy (call_dictOf rfl) (by rfl) B.m_dict (by rfl) (da_cons (de_comp (S := [4]) (vs := [4]) (pe_lc rfl sc_carried.nd (di_iter (de_var 1)) (own := [("place", 4)]) (by show BlkOk ["yard", "at", "move", "where", "place"] (defScope t_carried) _ [("place", 4)]; exact ⟨rfl, by decide +kernel, by decide +kernel, by decide +kernel, by decide +kernel⟩) (fun _ _ _ _ _ => (dg_name sc_carried.nd rfl (by first | exact Or.inl rfl | exact Or.inr rfl) (by show (4 : Nat) ∉ ([] : List Nat); decide))) (fun _ _ _ _ _ => dts_nil) (fun _ _ _ _ _ => (de_tup (da_cons (de_get2 (pe_dget2 (hu_of hr) (de_var 3) (de_var 4) (de_var 4) ⟨rfl, rfl, rfl, rfl⟩)) (da_cons (de_sub (hu_of hr) (de_var 1) (de_var 4)) da_nil))))) (by decide) (by show ∀ v ∈ ([4] : List Nat), v ∉ ([] : List Nat); decide)) da_nil))))))) dss_nil)
    (dss_cons (ds_if (dw_or (dt_cmp (op_notInAll (hu65 hr)) (prim_inAll true) (de_sub (hu_of hr) (de_var 2) de_int) (de_var 1)) (dw_or1 (dt_cmp (op_inAll (hu65 hr)) (prim_inAll false) (de_sub (hu_of hr) (de_var 2) de_int) (de_var 1)))).pt (dss_one (ds_ret de_non)) dss_nil)
    (dss_one (ds_ret (de_fz (df_dictOf (X := _) (pe_callTy (call_dictOf rfl) (by rfl) B.m_dict (by rfl) (da_cons (de_comp (S := [4]) (vs := [4]) (pe_lc rfl sc_carried.nd (di_iter (de_var 1)) (own := [("place", 4)]) (by show BlkOk ["yard", "at", "move", "where", "place"] (defScope t_carried) _ [("place", 4)]; exact ⟨rfl, by decide +kernel, by decide +kernel, by decide +kernel, by decide +kernel⟩) (fun _ _ _ _ _ => (dg_name sc_carried.nd rfl (by first | exact Or.inl rfl | exact Or.inr rfl) (by show (4 : Nat) ∉ ([] : List Nat); decide))) (fun _ _ _ _ _ => dts_nil) (fun _ _ _ _ _ => (de_tup (da_cons (de_if (dt_cmp (op_eqD (hu64 hr)) prim_eq (de_var 4) (de_sub (hu_of hr) (de_var 2) de_int)) (de_sub (hu_of hr) (de_var 2) de_int) (de_var 4)) (da_cons (de_sub (hu_of hr) (de_var 1) (de_var 4)) da_nil))))) (by decide) (by show ∀ v ∈ ([4] : List Nat), v ∉ ([] : List Nat); decide)) da_nil))))))))
/-! ### is_place -/
abbrev t_is_place : Stmt := top 9
theorem sc_is_place : FnScope ["value", "places"] ["value", "places"] (defScope t_is_place) := ⟨rfl, rfl, rfl, by decide +kernel, rfl, by decide +kernel, by decide +kernel⟩
theorem k_is_place {a : Addr} {fd : FuncData} (F : Fun K "is_place" "is_place" t_is_place a fd) (B : Gb K mg cl) (C_is_whole : Callee P w K mg base cl "is_whole" 1 1 (s_is_whole)) : FnOk P w K mg base (L2.CX P w) 2 a fd ["value", "places"] (spOf K cl 2 s_is_place) := fn_sem (k := 1) F sc_is_place rfl rfl fun cdv A outer s H vs E hr =>
    (dss_one (ds_ret (de_and (de_call C_is_whole rfl (hr.mono (by first | decide | exact Nat.le_refl _ | exact Nat.le_add_right _ _ | (simp only [Nat.add_eq]; omega))) (takes_of rfl rfl rfl rfl) (by rfl) (da_cons (de_var 0) da_nil)) (de_one (de_chain op_le prim_cmp op_lt prim_cmp de_int (de_var 0) (de_var 1))))))
/-! ### is_stand -/
abbrev t_is_stand : Stmt := top 16
theorem sc_is_stand : FnScope ["yard", "value", "thing"] ["yard", "value"] (defScope t_is_stand) := ⟨rfl, rfl, rfl, by decide +kernel, rfl, by decide +kernel, by decide +kernel⟩
theorem k_is_stand {a : Addr} {fd : FuncData} (F : Fun K "is_stand" "is_stand" t_is_stand a fd) (B : Gb K mg cl) (C_is_whole : Callee P w K mg base cl "is_whole" 1 1 (s_is_whole)) : FnOk P w K mg base (L2.CX P w) 2 a fd ["yard", "value"] (spOf K cl 2 s_is_stand) := fn_sem (k := 1) F sc_is_stand rfl rfl fun cdv A outer s H vs E hr =>
    (dss_cons (ds_if (dw_or (dt_not (dt_val (de_isT (by rfl) B.m_isinstance (by rfl) B.m_tuple (de_var 1)))) (dw_or1 (dt_cmp (op_neD (hu64 hr)) prim_ne (de_blt call_lenA prim_len (by rfl) B.m_len (by rfl) (da_cons (de_var 1) da_nil)) (de_attr (de_var 0) rfl (fun c hc => by obtain rfl := List.mem_singleton.mp hc; exact B.f_Yard_places))))).pt (dss_one (ds_ret de_bl)) dss_nil)
    (dss_one (ds_ret (de_blt (cr_all rfl) prim_all (by rfl) B.m_all (by rfl) (da_cons (de_comp (S := [2]) (vs := [2]) (pe_lc rfl sc_is_stand.nd (di_iter (de_var 1)) (own := [("thing", 2)]) (by show BlkOk ["yard", "value", "thing"] (defScope t_is_stand) _ [("thing", 2)]; exact ⟨rfl, by decide +kernel, by decide +kernel, by decide +kernel, by decide +kernel⟩) (fun _ _ _ _ _ => (dg_name sc_is_stand.nd rfl (by first | exact Or.inl rfl | exact Or.inr rfl) (by show (2 : Nat) ∉ ([] : List Nat); decide))) (fun _ _ _ _ _ => dts_nil) (fun _ _ _ _ _ => (de_and (de_call C_is_whole rfl (hr.mono (by first | decide | exact Nat.le_refl _ | exact Nat.le_add_right _ _ | (simp only [Nat.add_eq]; omega))) takes0 (by rfl) (da_cons (de_var 2) da_nil)) (de_one (de_cmp op_ge prim_cmp (de_var 2) de_int))))) (by decide) (by show ∀ v ∈ ([2] : List Nat), v ∉ ([] : List Nat); decide)) da_nil)))))
/-! ### _law_drawn_yard -/
abbrev t__law_drawn_yard : Stmt := top 29
theorem sc__law_drawn_yard : FnScope ["_law_pen_here", "_law_most", "_law_ways", "_law_rings", "_law_places", "_law_pairs", "_law_place", "_law_other", "_law_lap", "_law_one", "_law_gone", "_law_told"] ["_law_pen_here", "_law_most", "_law_ways", "_law_rings"] (defScope t__law_drawn_yard) := ⟨rfl, rfl, rfl, by decide +kernel, rfl, by decide +kernel, by decide +kernel⟩
theorem k__law_drawn_yard {a : Addr} {fd : FuncData} (F : Fun K "_law_drawn_yard" "_law_drawn_yard" t__law_drawn_yard a fd) (B : Gb K mg cl) (C__law_draw : Callee P w K mg base cl "_law_draw" 1 2 (s__law_draw)) (C__law_drawn_ring : Callee P w K mg base cl "_law_drawn_ring" 2 2 (s__law_drawn_ring)) (C__law_pick : Callee P w K mg base cl "_law_pick" 2 2 (s__law_pick)) (C__law_without : Callee P w K mg base cl "_law_without" 1 2 (s__law_without)) : FnOk P w K mg base (L2.CX P w) 3 a fd ["_law_pen_here", "_law_most", "_law_ways", "_law_rings"] (spOf K cl 4 s__law_drawn_yard) := fn_sem (k := 2) F sc__law_drawn_yard rfl rfl fun cdv A outer s H vs E hr =>
    (dss_cons (ds_set sc__law_drawn_yard.nd rfl (by first | exact Or.inl rfl | exact Or.inr rfl) (by show (4 : Nat) ∉ ([0] : List Nat); decide) (de_bin op_addA prim_add de_int (de_call C__law_draw rfl (hr.mono (by first | decide | exact Nat.le_refl _ | exact Nat.le_add_right _ _ | (simp only [Nat.add_eq]; omega))) (takes_of rfl rfl rfl rfl) (by rfl) (da_cons (de_var 0) (da_cons (de_bin op_sub prim_I0 (de_var 1) de_int) da_nil)))))
    (dss_cons (ds_setF sc__law_drawn_yard.nd rfl (by first | exact Or.inl rfl | exact Or.inr rfl) (by show (5 : Nat) ∉ ([0] : List Nat); decide) df_dT)
    (dss_cons (ds_for (passes_of rfl) rfl (di_rg2 (pi_range2 (by rfl) B.m_range (da_cons de_int (da_cons (de_var 4) da_nil)))) (dg_name sc__law_drawn_yard.nd rfl (by first | exact Or.inl rfl | exact Or.inr rfl) (by show (6 : Nat) ∉ ([0] : List Nat); decide)) (dss_cons (ds_set sc__law_drawn_yard.nd rfl (by first | exact Or.inl rfl | exact Or.inr rfl) (by show (7 : Nat) ∉ ([0] : List Nat); decide) (de_call C__law_draw rfl (hr.mono (by first | decide | exact Nat.le_refl _ | exact Nat.le_add_right _ _ | (simp only [Nat.add_eq]; omega))) (takes_of rfl rfl rfl rfl) (by rfl) (da_cons (de_var 0) (da_cons (de_var 6) da_nil))))
    (dss_cons (ds_dput (ps_dput (hu_of hr) (pv 5) (de_tup (da_cons (de_var 7) (da_cons (de_var 6) da_nil))) de_bl rfl))
    (dss_one (ds_dput (ps_dput (hu_of hr) (pv 5) (de_tup (da_cons (de_var 6) (da_cons (de_var 7) da_nil))) de_bl rfl))))))
    (dss_cons (ds_for (passes_of rfl) rfl (di_rg1 (pi_range1 (by rfl) B.m_range (da_cons (de_call C__law_draw rfl (hr.mono (by first | decide | exact Nat.le_refl _ | exact Nat.le_add_right _ _ | (simp only [Nat.add_eq]; omega))) (takes_of rfl rfl rfl rfl) (by rfl) (da_cons (de_var 0) (da_cons de_int da_nil))) da_nil))) (dg_name sc__law_drawn_yard.nd rfl (by first | exact Or.inl rfl | exact Or.inr rfl) (by show (8 : Nat) ∉ ([0] : List Nat); decide)) (dss_cons (ds_par (ps_par rfl sc__law_drawn_yard.nd rfl rfl (by decide) rfl rfl (pa_cons (de_call C__law_draw rfl (hr.mono (by first | decide | exact Nat.le_refl _ | exact Nat.le_add_right _ _ | (simp only [Nat.add_eq]; omega))) (takes_of rfl rfl rfl rfl) (by rfl) (da_cons (de_var 0) (da_cons (de_var 4) da_nil))) (pa_cons (de_call C__law_draw rfl (hr.mono (by first | decide | exact Nat.le_refl _ | exact Nat.le_add_right _ _ | (simp only [Nat.add_eq]; omega))) (takes_of rfl rfl rfl rfl) (by rfl) (da_cons (de_var 0) (da_cons (de_var 4) da_nil))) pa_nil)) (by rfl) (by rfl)) (by show (9 : Nat) ∉ ([0] : List Nat); decide) (by show (7 : Nat) ∉ ([0] : List Nat); decide))
    (dss_one (ds_if (dt_cmp (op_neD (hu64 hr)) prim_ne (de_var 9) (de_var 7)) (dss_cons (ds_dput (ps_dput (hu_of hr) (pv 5) (de_tup (da_cons (de_var 9) (da_cons (de_var 7) da_nil))) de_bl rfl))
    (dss_one (ds_if (dw_or (dt_not (dt_val (de_var 2))) (dw_or1 (dt_cmp (op_eqD (hu64 hr)) prim_eq (de_call C__law_draw rfl (hr.mono (by first | decide | exact Nat.le_refl _ | exact Nat.le_add_right _ _ | (simp only [Nat.add_eq]; omega))) (takes_of rfl rfl rfl rfl) (by rfl) (da_cons (de_var 0) (da_cons de_int da_nil))) de_int))).pt (dss_one (ds_dput (ps_dput (hu_of hr) (pv 5) (de_tup (da_cons (de_var 7) (da_cons (de_var 9) da_nil))) de_bl rfl))) dss_nil))) dss_nil))))
    (dss_cons (ds_if (dw_and (dt_val (de_var 2)) (dw_and1 (dt_cmp (op_eqD (hu64 hr)) prim_eq (de_call C__law_draw rfl (hr.mono (by first | decide | exact Nat.le_refl _ | exact Nat.le_add_right _ _ | (simp only [Nat.add_eq]; omega))) (takes_of rfl rfl rfl rfl) (by rfl) (da_cons (de_var 0) (da_cons de_int da_nil))) de_int))).pt (dss_cons (ds_set sc__law_drawn_yard.nd rfl (by first | exact Or.inl rfl | exact Or.inr rfl) (by show (10 : Nat) ∉ ([0] : List Nat); decide) (de_call C__law_pick rfl (hr.mono (by first | decide | exact Nat.le_refl _ | exact Nat.le_add_right _ _ | (simp only [Nat.add_eq]; omega))) (takes_of rfl rfl rfl rfl) (by rfl) (da_cons (de_var 0) (da_cons (de_lift (primL_N primL_sorted) (pe_callB (call_sortedA rfl) (by rfl) B.m_sorted (by rfl) (da_cons (de_var 5) da_nil))) da_nil))))
    (dss_one (ds_set sc__law_drawn_yard.nd rfl (by first | exact Or.inl rfl | exact Or.inr rfl) (by show (5 : Nat) ∉ ([0] : List Nat); decide) (de_call C__law_without rfl (hr.mono (by first | decide | exact Nat.le_refl _ | exact Nat.le_add_right _ _ | (simp only [Nat.add_eq]; omega))) (takes_of rfl rfl rfl rfl) (by rfl) (da_cons (de_var 5) (da_cons (de_var 10) da_nil)))))) dss_nil)
    (dss_cons (ds_setF sc__law_drawn_yard.nd rfl (by first | exact Or.inl rfl | exact Or.inr rfl) (by show (11 : Nat) ∉ ([0] : List Nat); decide) (df_lst da_nil))
    (dss_cons (ds_if (dw_and (dt_val (de_var 3)) (dw_and1 (dt_cmp op_ge prim_cmp (de_var 4) de_int))).pt (dss_one (ds_for (passes_of rfl) rfl (di_rg1 (pi_range1 (by rfl) B.m_range (da_cons (de_call C__law_draw rfl (hr.mono (by first | decide | exact Nat.le_refl _ | exact Nat.le_add_right _ _ | (simp only [Nat.add_eq]; omega))) (takes_of rfl rfl rfl rfl) (by rfl) (da_cons (de_var 0) (da_cons de_int da_nil))) da_nil))) (dg_name sc__law_drawn_yard.nd rfl (by first | exact Or.inl rfl | exact Or.inr rfl) (by show (8 : Nat) ∉ ([0] : List Nat); decide)) (dss_one (ds_expr (de_app (pe_bm PySem.F.plainAttrs_list PySem.F.slot_list_append PySem.F.type_list_append mt_append (pv 11) (pa_cons (de_call C__law_drawn_ring rfl (hr.mono (by first | decide | exact Nat.le_refl _ | exact Nat.le_add_right _ _ | (simp only [Nat.add_eq]; omega))) (takes_of rfl rfl rfl rfl) (by rfl) (da_cons (de_var 0) (da_cons (de_var 4) da_nil))) pa_nil))))))) dss_nil)
    (dss_one (ds_ret (de_tup (da_cons (de_var 4) (da_cons (de_bty call_tuple_of prim_tuple (by rfl) B.m_tuple (by rfl) (da_cons (de_lift (primL_N primL_sorted) (pe_callB (call_sortedA rfl) (by rfl) B.m_sorted (by rfl) (da_cons (de_var 5) da_nil))) da_nil)) (da_cons (de_bty call_tuple_of prim_tuple (by rfl) B.m_tuple (by rfl) (da_cons (de_var 11) da_nil)) da_nil)))))))))))))
/-! ### _law_some_moves -/
abbrev t__law_some_moves : Stmt := top 40
theorem sc__law_some_moves : FnScope ["_law_pen_here", "_law_yard", "_law_stand", "_law_most", "_law_found", "_law_lap", "_law_some"] ["_law_pen_here", "_law_yard", "_law_stand", "_law_most"] (defScope t__law_some_moves) := ⟨rfl, rfl, rfl, by decide +kernel, rfl, by decide +kernel, by decide +kernel⟩
theorem k__law_some_moves {a : Addr} {fd : FuncData} (F : Fun K "_law_some_moves" "_law_some_moves" t__law_some_moves a fd) (B : Gb K mg cl) (C__law_draw : Callee P w K mg base cl "_law_draw" 1 2 (s__law_draw)) (C__law_moved : Callee P w K mg base cl "_law_moved" 1 3 (s__law_moved)) (C__law_moves : Callee P w K mg base cl "_law_moves" 1 2 (s__law_moves)) (C__law_pick : Callee P w K mg base cl "_law_pick" 2 2 (s__law_pick)) : FnOk P w K mg base (L2.CX P w) 3 a fd ["_law_pen_here", "_law_yard", "_law_stand", "_law_most"] (spOf K cl 4 s__law_some_moves) := fn_sem (k := 2) F sc__law_some_moves rfl rfl fun cdv A outer s H vs E hr =>
    (dss_cons (ds_setF sc__law_some_moves.nd rfl (by first | exact Or.inl rfl | exact Or.inr rfl) (by show (4 : Nat) ∉ ([0] : List Nat); decide) (df_lst da_nil))
    (dss_cons (ds_for (passes_of rfl) rfl (di_rg1 (pi_range1 (by rfl) B.m_range (da_cons (de_call C__law_draw rfl (hr.mono (by first | decide | exact Nat.le_refl _ | exact Nat.le_add_right _ _ | (simp only [Nat.add_eq]; omega))) (takes_of rfl rfl rfl rfl) (by rfl) (da_cons (de_var 0) (da_cons (de_bin op_addA prim_add (de_var 3) de_int) da_nil))) da_nil))) (dg_name sc__law_some_moves.nd rfl (by first | exact Or.inl rfl | exact Or.inr rfl) (by show (5 : Nat) ∉ ([0] : List Nat); decide)) (dss_cons (ds_set sc__law_some_moves.nd rfl (by first | exact Or.inl rfl | exact Or.inr rfl) (by show (6 : Nat) ∉ ([0] : List Nat); decide) (de_call C__law_moves rfl (hr.mono (by first | decide | exact Nat.le_refl _ | exact Nat.le_add_right _ _ | (simp only [Nat.add_eq]; omega))) (takes_of rfl rfl rfl rfl) (by rfl) (da_cons (de_var 1) (da_cons (de_var 2) da_nil))))
    (dss_cons (ds_if (dt_cmp (op_eqD (hu64 hr)) prim_eq (de_var 6) (de_lst da_nil)) (dss_one ds_break) dss_nil)
    (dss_cons (ds_expr (de_app (pe_bm PySem.F.plainAttrs_list PySem.F.slot_list_append PySem.F.type_list_append mt_append (pv 4) (pa_cons (de_call C__law_pick rfl (hr.mono (by first | decide | exact Nat.le_refl _ | exact Nat.le_add_right _ _ | (simp only [Nat.add_eq]; omega))) (takes_of rfl rfl rfl rfl) (by rfl) (da_cons (de_var 0) (da_cons (de_var 6) da_nil))) pa_nil))))
    (dss_one (ds_set sc__law_some_moves.nd rfl (by first | exact Or.inl rfl | exact Or.inr rfl) (by show (2 : Nat) ∉ ([0] : List Nat); decide) (de_call C__law_moved rfl (hr.mono (by first | decide | exact Nat.le_refl _ | exact Nat.le_add_right _ _ | (simp only [Nat.add_eq]; omega))) (takes_of rfl rfl rfl rfl) (by rfl) (da_cons (de_var 1) (da_cons (de_var 2) (da_cons (de_sub (hu_of hr) (de_var 4) (de_un un_neg prim_neg de_int)) da_nil))))))))))
    (dss_one (ds_ret (de_var 4)))))
/-! ### as_tie -/
abbrev t_as_tie : Stmt := top 11
theorem sc_as_tie : FnScope ["value", "places", "place"] ["value", "places"] (defScope t_as_tie) := ⟨rfl, rfl, rfl, by decide +kernel, rfl, by decide +kernel, by decide +kernel⟩
theorem k_as_tie {a : Addr} {fd : FuncData} (F : Fun K "as_tie" "as_tie" t_as_tie a fd) (B : Gb K mg cl) (C_is_place : Callee P w K mg base cl "is_place" 2 2 (s_is_place)) (C_is_row : Callee P w K mg base cl "is_row" 1 1 (s_is_row)) : FnOk P w K mg base (L2.CX P w) 3 a fd ["value", "places"] (spOf K cl 2 s_as_tie) := fn_sem (k := 2) F sc_as_tie rfl rfl fun cdv A outer s H vs E hr =>
    (dss_cons (ds_if (dw_or (dt_not (dt_val (de_call C_is_row rfl (hr.mono (by first | decide | exact Nat.le_refl _ | exact Nat.le_add_right _ _ | (simp only [Nat.add_eq]; omega))) (takes_of rfl rfl rfl rfl) (by rfl) (da_cons (de_var 0) da_nil)))) (dw_or (dt_cmp (op_neD (hu64 hr)) prim_ne (de_blt call_lenA prim_len (by rfl) B.m_len (by rfl) (da_cons (de_var 0) da_nil)) de_int) (dw_or1 (dt_not (dt_val (de_blt (cr_all rfl) prim_all (by rfl) B.m_all (by rfl) (da_cons (de_comp (S := [2]) (vs := [2]) (pe_lc rfl sc_as_tie.nd (di_iter (de_var 0)) (own := [("place", 2)]) (by show BlkOk ["value", "places", "place"] (defScope t_as_tie) _ [("place", 2)]; exact ⟨rfl, by decide +kernel, by decide +kernel, by decide +kernel, by decide +kernel⟩) (fun _ _ _ _ _ => (dg_name sc_as_tie.nd rfl (by first | exact Or.inl rfl | exact Or.inr rfl) (by show (2 : Nat) ∉ ([] : List Nat); decide))) (fun _ _ _ _ _ => dts_nil) (fun _ _ _ _ _ => (de_call C_is_place rfl (hr.mono (by first | decide | exact Nat.le_refl _ | exact Nat.le_add_right _ _ | (simp only [Nat.add_eq]; omega))) takes0 (by rfl) (da_cons (de_var 2) (da_cons (de_var 1) da_nil))))) (by decide) (by show ∀ v ∈ ([2] : List Nat), v ∉ ([] : List Nat); decide)) da_nil))))))).pt (dss_one (ds_ret de_non)) dss_nil)
    (dss_one (ds_ret (de_if (dt_cmp (op_neD (hu64 hr)) prim_ne (de_sub (hu_of hr) (de_var 0) de_int) (de_sub (hu_of hr) (de_var 0) de_int)) (de_bty call_tuple_of prim_tuple (by rfl) B.m_tuple (by rfl) (da_cons (de_var 0) da_nil)) de_non))))
/-! ### is_ring -/
abbrev t_is_ring : Stmt := top 13
theorem sc_is_ring : FnScope ["value", "places", "place"] ["value", "places"] (defScope t_is_ring) := ⟨rfl, rfl, rfl, by decide +kernel, rfl, by decide +kernel, by decide +kernel⟩
theorem k_is_ring {a : Addr} {fd : FuncData} (F : Fun K "is_ring" "is_ring" t_is_ring a fd) (B : Gb K mg cl) (C_is_place : Callee P w K mg base cl "is_place" 2 2 (s_is_place)) (C_is_row : Callee P w K mg base cl "is_row" 1 1 (s_is_row)) : FnOk P w K mg base (L2.CX P w) 3 a fd ["value", "places"] (spOf K cl 2 s_is_ring) := fn_sem (k := 2) F sc_is_ring rfl rfl fun cdv A outer s H vs E hr =>
    (dss_cons (ds_if (dw_or (dt_not (dt_val (de_call C_is_row rfl (hr.mono (by first | decide | exact Nat.le_refl _ | exact Nat.le_add_right _ _ | (simp only [Nat.add_eq]; omega))) (takes_of rfl rfl rfl rfl) (by rfl) (da_cons (de_var 0) da_nil)))) (dw_or (dt_cmp op_lt prim_cmp (de_blt call_lenA prim_len (by rfl) B.m_len (by rfl) (da_cons (de_var 0) da_nil)) de_int) (dw_or1 (dt_not (dt_val (de_blt (cr_all rfl) prim_all (by rfl) B.m_all (by rfl) (da_cons (de_comp (S := [2]) (vs := [2]) (pe_lc rfl sc_is_ring.nd (di_iter (de_var 0)) (own := [("place", 2)]) (by show BlkOk ["value", "places", "place"] (defScope t_is_ring) _ [("place", 2)]; exact ⟨rfl, by decide +kernel, by decide +kernel, by decide +kernel, by decide +kernel⟩) (fun _ _ _ _ _ => (dg_name sc_is_ring.nd rfl (by first | exact Or.inl rfl | exact Or.inr rfl) (by show (2 : Nat) ∉ ([] : List Nat); decide))) (fun _ _ _ _ _ => dts_nil) (fun _ _ _ _ _ => (de_call C_is_place rfl (hr.mono (by first | decide | exact Nat.le_refl _ | exact Nat.le_add_right _ _ | (simp only [Nat.add_eq]; omega))) takes0 (by rfl) (da_cons (de_var 2) (da_cons (de_var 1) da_nil))))) (by decide) (by show ∀ v ∈ ([2] : List Nat), v ∉ ([] : List Nat); decide)) da_nil))))))).pt (dss_one (ds_ret de_bl)) dss_nil)
    (dss_one (ds_ret (de_cmp (op_eqD (hu64 hr)) prim_eq (de_lenSet (pe_lenSetA rfl (by rfl) B.m_len (by rfl) B.m_set (de_var 0))) (de_blt call_lenA prim_len (by rfl) B.m_len (by rfl) (da_cons (de_var 0) da_nil))))))
/-! ### stand_told -/
abbrev t_stand_told : Stmt := top 18
theorem sc_stand_told : FnScope ["yard", "stand", "told"] ["yard", "stand"] (defScope t_stand_told) := ⟨rfl, rfl, rfl, by decide +kernel, rfl, by decide +kernel, by decide +kernel⟩
theorem k_stand_told {a : Addr} {fd : FuncData} (F : Fun K "stand_told" "stand_told" t_stand_told a fd) (B : Gb K mg cl) (C_is_row : Callee P w K mg base cl "is_row" 1 1 (s_is_row)) (C_is_stand : Callee P w K mg base cl "is_stand" 2 2 (s_is_stand)) : FnOk P w K mg base (L2.CX P w) 3 a fd ["yard", "stand"] (spOf K cl 2 s_stand_told) := fn_sem (k := 2) F sc_stand_told rfl rfl fun cdv A outer s H vs E hr =>
    (dss_cons (ds_set sc_stand_told.nd rfl (by first | exact Or.inl rfl | exact Or.inr rfl) (by show (2 : Nat) ∉ ([] : List Nat); decide) (de_if (dt_val (de_call C_is_row rfl (hr.mono (by first | decide | exact Nat.le_refl _ | exact Nat.le_add_right _ _ | (simp only [Nat.add_eq]; omega))) (takes_of rfl rfl rfl rfl) (by rfl) (da_cons (de_var 1) da_nil))) (de_bty call_tuple_of prim_tuple (by rfl) B.m_tuple (by rfl) (da_cons (de_var 1) da_nil)) de_non))
    (dss_cons (ds_if (dt_not (dt_val (de_call C_is_stand rfl (hr.mono (by first | decide | exact Nat.le_refl _ | exact Nat.le_add_right _ _ | (simp only [Nat.add_eq]; omega))) (takes_of rfl rfl rfl rfl) (by rfl) (da_cons (de_var 0) (da_cons (de_var 2) da_nil))))) (dss_one ds_never) dss_nil)
    (dss_one (ds_ret (de_var 2)))))
/-! ### _law_some_yard -/
abbrev t__law_some_yard : Stmt := top 38
theorem sc__law_some_yard : FnScope ["_law_pen_here", "_law_most"] ["_law_pen_here", "_law_most"] (defScope t__law_some_yard) := ⟨rfl, rfl, rfl, by decide +kernel, rfl, by decide +kernel, by decide +kernel⟩
theorem k__law_some_yard {a : Addr} {fd : FuncData} (F : Fun K "_law_some_yard" "_law_some_yard" t__law_some_yard a fd) (B : Gb K mg cl) (C__law_draw : Callee P w K mg base cl "_law_draw" 1 2 (s__law_draw)) (C__law_drawn_yard : Callee P w K mg base cl "_law_drawn_yard" 3 4 (s__law_drawn_yard)) : FnOk P w K mg base (L2.CX P w) 4 a fd ["_law_pen_here", "_law_most"] (spOf K cl 2 s__law_some_yard) := fn_sem (k := 3) F sc__law_some_yard rfl rfl fun cdv A outer s H vs E hr =>
    (dss_cons (ds_if (dt_cmp (op_eqD (hu64 hr)) prim_eq (de_call C__law_draw rfl (hr.mono (by first | decide | exact Nat.le_refl _ | exact Nat.le_add_right _ _ | (simp only [Nat.add_eq]; omega))) (takes_of rfl rfl rfl rfl) (by rfl) (da_cons (de_var 0) (da_cons de_int da_nil))) de_int) (dss_one (ds_ret (de_tup (da_cons de_int (da_cons (de_tup da_nil) (da_cons (de_tup da_nil) da_nil)))))) dss_nil)
    (dss_one (ds_ret (de_call C__law_drawn_yard rfl (hr.mono (by first | decide | exact Nat.le_refl _ | exact Nat.le_add_right _ _ | (simp only [Nat.add_eq]; omega))) (takes_of rfl rfl rfl rfl) (by rfl) (da_cons (de_var 0) (da_cons (de_var 1) (da_cons (de_cmp (op_eqD (hu64 hr)) prim_eq (de_call C__law_draw rfl (hr.mono (by first | decide | exact Nat.le_refl _ | exact Nat.le_add_right _ _ | (simp only [Nat.add_eq]; omega))) (takes_of rfl rfl rfl rfl) (by rfl) (da_cons (de_var 0) (da_cons de_int da_nil))) de_int) (da_cons (de_cmp (op_eqD (hu64 hr)) prim_eq (de_call C__law_draw rfl (hr.mono (by first | decide | exact Nat.le_refl _ | exact Nat.le_add_right _ _ | (simp only [Nat.add_eq]; omega))) (takes_of rfl rfl rfl rfl) (by rfl) (da_cons (de_var 0) (da_cons de_int da_nil))) de_int) da_nil))))))))
/-! ### as_move -/
abbrev t_as_move : Stmt := top 19
theorem sc_as_move : FnScope ["yard", "value"] ["yard", "value"] (defScope t_as_move) := ⟨rfl, rfl, rfl, by decide +kernel, rfl, by decide +kernel, by decide +kernel⟩
theorem k_as_move {a : Addr} {fd : FuncData} (F : Fun K "as_move" "as_move" t_as_move a fd) (B : Gb K mg cl) (C_as_tie : Callee P w K mg base cl "as_tie" 3 2 (s_as_tie)) (C_is_place : Callee P w K mg base cl "is_place" 2 2 (s_is_place)) : FnOk P w K mg base (L2.CX P w) 4 a fd ["yard", "value"] (spOf K cl 2 s_as_move) := fn_sem (k := 3) F sc_as_move rfl rfl fun cdv A outer s H vs E hr =>
    (dss_cons (ds_if (dw_or (dt_not (dt_val (de_isT (by rfl) B.m_isinstance (by rfl) B.m_tuple (de_var 1)))) (dw_or (dt_cmp op_lt prim_cmp (de_blt call_lenA prim_len (by rfl) B.m_len (by rfl) (da_cons (de_var 1) da_nil)) de_int) (dw_or1 (dt_not (dt_val (de_isT (by rfl) B.m_isinstance (by rfl) B.m_str (de_sub (hu_of hr) (de_var 1) de_int))))))).pt (dss_one (ds_ret de_non)) dss_nil)
    (dss_cons (ds_if (dw_and (dt_cmp (op_eqD (hu64 hr)) prim_eq (de_sub (hu_of hr) (de_var 1) de_int) de_str) (dw_and (dt_cmp (op_eqD (hu64 hr)) prim_eq (de_blt call_lenA prim_len (by rfl) B.m_len (by rfl) (da_cons (de_var 1) da_nil)) de_int) (dw_and1 (dt_cmp (op_inAll (hu65 hr)) (prim_inAll false) (de_call C_as_tie rfl (hr.mono (by first | decide | exact Nat.le_refl _ | exact Nat.le_add_right _ _ | (simp only [Nat.add_eq]; omega))) (takes_of rfl rfl rfl rfl) (by rfl) (da_cons (de_slice (de_var 1) (do_some de_int) do_none) (da_cons (de_attr (de_var 0) rfl (fun c hc => by obtain rfl := List.mem_singleton.mp hc; exact B.f_Yard_places)) da_nil))) (de_attr (de_var 0) rfl (fun c hc => by obtain rfl := List.mem_singleton.mp hc; exact B.f_Yard_ties)))))).pt (dss_one (ds_ret (de_var 1))) dss_nil)
    (dss_cons (ds_if (dw_and (dt_cmp (op_eqD (hu64 hr)) prim_eq (de_sub (hu_of hr) (de_var 1) de_int) de_str) (dw_and (dt_cmp (op_eqD (hu64 hr)) prim_eq (de_blt call_lenA prim_len (by rfl) B.m_len (by rfl) (da_cons (de_var 1) da_nil)) de_int) (dw_and1 (dt_val (de_call C_is_place rfl (hr.mono (by first | decide | exact Nat.le_refl _ | exact Nat.le_add_right _ _ | (simp only [Nat.add_eq]; omega))) (takes_of rfl rfl rfl rfl) (by rfl) (da_cons (de_sub (hu_of hr) (de_var 1) de_int) (da_cons (de_blt call_lenA prim_len (by rfl) B.m_len (by rfl) (da_cons (de_attr (de_var 0) rfl (fun c hc => by obtain rfl := List.mem_singleton.mp hc; exact B.f_Yard_rings)) da_nil)) da_nil))))))).pt (dss_one (ds_ret (de_var 1))) dss_nil)
    (dss_one (ds_ret de_non)))))
/-! ### rings_told -/
abbrev t_rings_told : Stmt := top 14
theorem sc_rings_told : FnScope ["rings", "places", "index", "ring"] ["rings", "places"] (defScope t_rings_told) := ⟨rfl, rfl, rfl, by decide +kernel, rfl, by decide +kernel, by decide +kernel⟩
theorem k_rings_told {a : Addr} {fd : FuncData} (F : Fun K "rings_told" "rings_told" t_rings_told a fd) (B : Gb K mg cl) (C_is_ring : Callee P w K mg base cl "is_ring" 3 2 (s_is_ring)) (C_is_row : Callee P w K mg base cl "is_row" 1 1 (s_is_row)) : FnOk P w K mg base (L2.CX P w) 4 a fd ["rings", "places"] (spOf K cl 2 s_rings_told) := fn_sem (k := 3) F sc_rings_told rfl rfl fun cdv A outer s H vs E hr =>
    (dss_cons (ds_if (dt_not (dt_val (de_call C_is_row rfl (hr.mono (by first | decide | exact Nat.le_refl _ | exact Nat.le_add_right _ _ | (simp only [Nat.add_eq]; omega))) (takes_of rfl rfl rfl rfl) (by rfl) (da_cons (de_var 0) da_nil)))) (dss_one ds_never) dss_nil)
    (dss_cons (ds_for (passes_of rfl) rfl (di_enum (pi_enumA (by rfl) B.m_enumerate (da_cons (de_var 0) da_nil))) (dg_tup rfl (dgs_cons (dg_name sc_rings_told.nd rfl (by first | exact Or.inl rfl | exact Or.inr rfl) (by show (2 : Nat) ∉ ([] : List Nat); decide)) (dgs_cons (dg_name sc_rings_told.nd rfl (by first | exact Or.inl rfl | exact Or.inr rfl) (by show (3 : Nat) ∉ ([] : List Nat); decide)) dgs_nil))) (dss_one (ds_if (dt_not (dt_val (de_call C_is_ring rfl (hr.mono (by first | decide | exact Nat.le_refl _ | exact Nat.le_add_right _ _ | (simp only [Nat.add_eq]; omega))) (takes_of rfl rfl rfl rfl) (by rfl) (da_cons (de_var 3) (da_cons (de_var 1) da_nil))))) (dss_one ds_never) dss_nil)))
    (dss_one (ds_ret (de_bty call_tuple_of prim_tuple (by rfl) B.m_tuple (by rfl) (da_cons (de_comp (S := [3]) (vs := [3]) (pe_lc rfl sc_rings_told.nd (di_iter (de_var 0)) (own := [("ring", 3)]) (by show BlkOk ["rings", "places", "index", "ring"] (defScope t_rings_told) _ [("ring", 3)]; exact ⟨rfl, by decide +kernel, by decide +kernel, by decide +kernel, by decide +kernel⟩) (fun _ _ _ _ _ => (dg_name sc_rings_told.nd rfl (by first | exact Or.inl rfl | exact Or.inr rfl) (by show (3 : Nat) ∉ ([] : List Nat); decide))) (fun _ _ _ _ _ => dts_nil) (fun _ _ _ _ _ => (de_bty call_tuple_of prim_tuple (by rfl) B.m_tuple (by rfl) (da_cons (de_var 3) da_nil)))) (by decide) (by show ∀ v ∈ ([3] : List Nat), v ∉ ([] : List Nat); decide)) da_nil))))))
/-! ### ties_told -/
abbrev t_ties_told : Stmt := top 12
theorem sc_ties_told : FnScope ["ties", "places", "found", "tie", "told"] ["ties", "places"] (defScope t_ties_told) := ⟨rfl, rfl, rfl, by decide +kernel, rfl, by decide +kernel, by decide +kernel⟩
theorem k_ties_told {a : Addr} {fd : FuncData} (F : Fun K "ties_told" "ties_told" t_ties_told a fd) (B : Gb K mg cl) (C_as_tie : Callee P w K mg base cl "as_tie" 3 2 (s_as_tie)) (C_is_row : Callee P w K mg base cl "is_row" 1 1 (s_is_row)) : FnOk P w K mg base (L2.CX P w) 4 a fd ["ties", "places"] (spOf K cl 2 s_ties_told) := fn_sem (k := 3) F sc_ties_told rfl rfl fun cdv A outer s H vs E hr =>
    (dss_cons (ds_if (dt_not (dt_val (de_call C_is_row rfl (hr.mono (by first | decide | exact Nat.le_refl _ | exact Nat.le_add_right _ _ | (simp only [Nat.add_eq]; omega))) (takes_of rfl rfl rfl rfl) (by rfl) (da_cons (de_var 0) da_nil)))) (dss_one ds_never) dss_nil)
    (dss_cons (ds_setF sc_ties_told.nd rfl (by first | exact Or.inl rfl | exact Or.inr rfl) (by show (2 : Nat) ∉ ([] : List Nat); decide) df_dT)
    (dss_cons (ds_for (passes_of rfl) rfl (di_iter (de_var 0)) (dg_name sc_ties_told.nd rfl (by first | exact Or.inl rfl | exact Or.inr rfl) (by show (3 : Nat) ∉ ([] : List Nat); decide)) (dss_cons (ds_set sc_ties_told.nd rfl (by first | exact Or.inl rfl | exact Or.inr rfl) (by show (4 : Nat) ∉ ([] : List Nat); decide) (de_call C_as_tie rfl (hr.mono (by first | decide | exact Nat.le_refl _ | exact Nat.le_add_right _ _ | (simp only [Nat.add_eq]; omega))) (takes_of rfl rfl rfl rfl) (by rfl) (da_cons (de_var 3) (da_cons (de_var 1) da_nil))))
    (dss_cons (ds_if (dw_or (dt_cmp op_isN prim_isN (de_var 4) de_non) (dw_or1 (dt_cmp (op_inAll (hu65 hr)) (prim_inAll false) (de_var 4) (de_var 2)))).pt (dss_one ds_never) dss_nil)
    (dss_one (ds_dput (ps_dput (hu_of hr) (pv 2) (de_var 4) de_bl rfl))))))
    (dss_one (ds_ret (de_bty call_tuple_of prim_tuple (by rfl) B.m_tuple (by rfl) (da_cons (de_lift (primL_N primL_sorted) (pe_callB (call_sortedA rfl) (by rfl) B.m_sorted (by rfl) (da_cons (de_var 2) da_nil))) da_nil)))))))
/-! ### Yard.__init__ -/
abbrev t_Yard_init : Stmt := inClass (top 15) 0
theorem sc_Yard_init : FnScope ["self", "places", "ties", "rings"] ["self", "places", "ties", "rings"] (defScope t_Yard_init) := ⟨rfl, rfl, rfl, by decide +kernel, rfl, by decide +kernel, by decide +kernel⟩
theorem k_Yard_init {a : Addr} {fd : FuncData} (F : Fun K "__init__" "Yard.__init__" t_Yard_init a fd) (B : Gb K mg cl) (C_is_whole : Callee P w K mg base cl "is_whole" 1 1 (s_is_whole)) (C_rings_told : Callee P w K mg base cl "rings_told" 4 2 (s_rings_told)) (C_ties_told : Callee P w K mg base cl "ties_told" 4 2 (s_ties_told)) : FnOk P w K mg base (L2.CX P w) 5 a fd ["self", "places", "ties", "rings"] (spOf K cl 4 s_Yard_init) := fn_sem (k := 4) F sc_Yard_init rfl rfl fun cdv A outer s H vs E hr =>
    (dss_cons (ds_if (dw_or (dt_not (dt_val (de_call C_is_whole rfl (hr.mono (by first | decide | exact Nat.le_refl _ | exact Nat.le_add_right _ _ | (simp only [Nat.add_eq]; omega))) (takes_of rfl rfl rfl rfl) (by rfl) (da_cons (de_var 1) da_nil)))) (dw_or1 (dt_cmp op_lt prim_cmp (de_var 1) de_int))).pt (dss_one ds_never) dss_nil)
    (dss_cons (ds_fld (fun c hc => by obtain rfl := List.mem_singleton.mp hc; exact B.f_Yard_places) (ps_fld (pv 0) (de_var 1) rfl))
    (dss_cons (ds_fld (fun c hc => by obtain rfl := List.mem_singleton.mp hc; exact B.f_Yard_ties) (ps_fld (pv 0) (de_call C_ties_told rfl (hr.mono (by first | decide | exact Nat.le_refl _ | exact Nat.le_add_right _ _ | (simp only [Nat.add_eq]; omega))) (takes_of rfl rfl rfl rfl) (by rfl) (da_cons (de_var 2) (da_cons (de_var 1) da_nil))) rfl))
    (dss_one (ds_fld (fun c hc => by obtain rfl := List.mem_singleton.mp hc; exact B.f_Yard_rings) (ps_fld (pv 0) (de_call C_rings_told rfl (hr.mono (by first | decide | exact Nat.le_refl _ | exact Nat.le_add_right _ _ | (simp only [Nat.add_eq]; omega))) (takes_of rfl rfl rfl rfl) (by rfl) (da_cons (de_var 3) (da_cons (de_var 1) da_nil))) rfl))))))
/-! ### _law_listed -/
abbrev t__law_listed : Stmt := top 36
theorem sc__law_listed : FnScope ["_law_pen_here", "_law_some", "_law_found", "_law_one"] ["_law_pen_here", "_law_some"] (defScope t__law_listed) := ⟨rfl, rfl, rfl, by decide +kernel, rfl, by decide +kernel, by decide +kernel⟩
theorem k__law_listed {a : Addr} {fd : FuncData} (F : Fun K "_law_listed" "_law_listed" t__law_listed a fd) (B : Gb K mg cl) (C__law_draw : Callee P w K mg base cl "_law_draw" 1 2 (s__law_draw)) (hm : mg "_law_listed" = some (.ref a)) (kp : PySem.W.keepIn K (.ref a) = true) (hb : Binds K fd ["_law_pen_here", "_law_some"] []) : ∀ n, FnOk P w K mg base (L2.CX P w) (1 + n) a fd ["_law_pen_here", "_law_some"] (spOf K cl 2 (s__law_listed n))
  | 0 => (fn_none F sc__law_listed (k := 0)).mono (by omega)
  | n + 1 => by
    have ih := k__law_listed F B C__law_draw hm kp hb n
    have Cme : Callee P w K mg base cl "_law_listed" (1 + n) 2 (s__law_listed n) := ⟨⟨a, fd, _, ih, hm, kp, hb⟩, fun ds d fin h => by cases n with | zero => cases h | succ n => exact fnOf_fin h, fun ds c ns xs fin h => by cases n with | zero => cases h | succ n => exact fnOf_fin' h⟩
    exact fn_sem F sc__law_listed rfl rfl fun cdv A outer s H vs E hr =>
    (dss_cons (ds_setLc (vs := [3]) (ps_setLc rfl sc__law_listed.nd rfl rfl (by rfl) (di_iter (de_var 1)) (own := [("_law_one", 3)]) (by show BlkOk ["_law_pen_here", "_law_some", "_law_found", "_law_one"] (defScope t__law_listed) _ [("_law_one", 3)]; exact ⟨rfl, by decide +kernel, by decide +kernel, by decide +kernel, by decide +kernel⟩) (fun _ _ _ _ _ => (dg_name sc__law_listed.nd rfl (by first | exact Or.inl rfl | exact Or.inr rfl) (by show (3 : Nat) ∉ ([0] : List Nat); decide))) (fun _ _ _ _ _ => dts_nil) (fun _ _ _ _ _ => (de_if (dt_val (de_isT (by rfl) B.m_isinstance (by rfl) B.m_tuple (de_var 3))) (de_call Cme rfl (hr.mono (by first | decide | exact Nat.le_refl _ | exact Nat.le_add_right _ _ | (simp only [Nat.add_eq]; omega))) takes0 (by rfl) (da_cons (de_var 0) (da_cons (de_var 3) da_nil))) (de_var 3)))) (by show (2 : Nat) ∉ ([0] : List Nat); decide) (by decide) (by show ∀ v ∈ ([3] : List Nat), v ∉ ([0] : List Nat); decide))
    (dss_one (ds_ret (de_if (dt_cmp (op_eqD (hu64 hr)) prim_eq (de_call C__law_draw rfl (hr.mono (by first | decide | exact Nat.le_refl _ | exact Nat.le_add_right _ _ | (simp only [Nat.add_eq]; omega))) (takes_of rfl rfl rfl rfl) (by rfl) (da_cons (de_var 0) (da_cons de_int da_nil))) de_int) (de_var 2) (de_bty call_tuple_of prim_tuple (by rfl) B.m_tuple (by rfl) (da_cons (de_var 2) da_nil))))))
/-! ### carried_all -/
abbrev t_carried_all : Stmt := top 22
theorem sc_carried_all : FnScope ["yard", "at", "moves", "index", "value", "move", "found"] ["yard", "at", "moves"] (defScope t_carried_all) := ⟨rfl, rfl, rfl, by decide +kernel, rfl, by decide +kernel, by decide +kernel⟩
theorem k_carried_all {a : Addr} {fd : FuncData} (F : Fun K "carried_all" "carried_all" t_carried_all a fd) (B : Gb K mg cl) (C_as_move : Callee P w K mg base cl "as_move" 4 2 (s_as_move)) (C_carried : Callee P w K mg base cl "carried" 2 3 (s_carried)) : FnOk P w K mg base (L2.CX P w) 5 a fd ["yard", "at", "moves"] (spOf K cl 3 s_carried_all) := fn_sem (k := 4) F sc_carried_all rfl rfl fun cdv A outer s H vs E hr =>
    (dss_cons (ds_for (passes_of rfl) rfl (di_enum (pi_enumA (by rfl) B.m_enumerate (da_cons (de_var 2) da_nil))) (dg_tup rfl (dgs_cons (dg_name sc_carried_all.nd rfl (by first | exact Or.inl rfl | exact Or.inr rfl) (by show (3 : Nat) ∉ ([] : List Nat); decide)) (dgs_cons (dg_name sc_carried_all.nd rfl (by first | exact Or.inl rfl | exact Or.inr rfl) (by show (4 : Nat) ∉ ([] : List Nat); decide)) dgs_nil))) (dss_cons (ds_set sc_carried_all.nd rfl (by first | exact Or.inl rfl | exact Or.inr rfl) (by show (5 : Nat) ∉ ([] : List Nat); decide) (de_call C_as_move rfl (hr.mono (by first | decide | exact Nat.le_refl _ | exact Nat.le_add_right _ _ | (simp only [Nat.add_eq]; omega))) (takes_of rfl rfl rfl rfl) (by rfl) (da_cons (de_var 0) (da_cons (de_var 4) da_nil))))
    (dss_cons (ds_set sc_carried_all.nd rfl (by first | exact Or.inl rfl | exact Or.inr rfl) (by show (6 : Nat) ∉ ([] : List Nat); decide) (de_if (dt_cmp op_isN prim_isN (de_var 5) de_non) de_non (de_call C_carried rfl (hr.mono (by first | decide | exact Nat.le_refl _ | exact Nat.le_add_right _ _ | (simp only [Nat.add_eq]; omega))) (takes_of rfl rfl rfl rfl) (by rfl) (da_cons (de_var 0) (da_cons (de_var 1) (da_cons (de_var 5) da_nil))))))
    (dss_cons (ds_if (dt_cmp op_isN prim_isN (de_var 6) de_non) (dss_one ds_never) dss_nil)
    (dss_one (ds_set sc_carried_all.nd rfl (by first | exact Or.inl rfl | exact Or.inr rfl) (by show (1 : Nat) ∉ ([] : List Nat); decide) (de_var 6)))))))
    (dss_one (ds_ret (de_var 1))))
/-! ### taken_back -/
abbrev t_taken_back : Stmt := top 24
theorem sc_taken_back : FnScope ["yard", "moves", "found", "index", "value", "move", "some"] ["yard", "moves"] (defScope t_taken_back) := ⟨rfl, rfl, rfl, by decide +kernel, rfl, by decide +kernel, by decide +kernel⟩
theorem k_taken_back {a : Addr} {fd : FuncData} (F : Fun K "taken_back" "taken_back" t_taken_back a fd) (B : Gb K mg cl) (C_as_move : Callee P w K mg base cl "as_move" 4 2 (s_as_move)) : FnOk P w K mg base (L2.CX P w) 5 a fd ["yard", "moves"] (spOf K cl 2 s_taken_back) := fn_sem (k := 4) F sc_taken_back rfl rfl fun cdv A outer s H vs E hr =>
    (dss_cons (ds_setF sc_taken_back.nd rfl (by first | exact Or.inl rfl | exact Or.inr rfl) (by show (2 : Nat) ∉ ([] : List Nat); decide) (df_lst da_nil))
    (dss_cons (ds_for (passes_of rfl) rfl (di_enum (pi_enumA (by rfl) B.m_enumerate (da_cons (de_var 1) da_nil))) (dg_tup rfl (dgs_cons (dg_name sc_taken_back.nd rfl (by first | exact Or.inl rfl | exact Or.inr rfl) (by show (3 : Nat) ∉ ([] : List Nat); decide)) (dgs_cons (dg_name sc_taken_back.nd rfl (by first | exact Or.inl rfl | exact Or.inr rfl) (by show (4 : Nat) ∉ ([] : List Nat); decide)) dgs_nil))) (dss_cons (ds_set sc_taken_back.nd rfl (by first | exact Or.inl rfl | exact Or.inr rfl) (by show (5 : Nat) ∉ ([] : List Nat); decide) (de_call C_as_move rfl (hr.mono (by first | decide | exact Nat.le_refl _ | exact Nat.le_add_right _ _ | (simp only [Nat.add_eq]; omega))) (takes_of rfl rfl rfl rfl) (by rfl) (da_cons (de_var 0) (da_cons (de_var 4) da_nil))))
    (dss_cons (ds_if (dt_cmp op_isN prim_isN (de_var 5) de_non) (dss_one ds_never) dss_nil)
    (dss_one (ds_if (dt_cmp (op_eqD (hu64 hr)) prim_eq (de_sub (hu_of hr) (de_var 5) de_int) de_str) (dss_one (ds_expr (de_app (pe_bm PySem.F.plainAttrs_list PySem.F.slot_list_append PySem.F.type_list_append mt_append (pv 2) (pa_cons (de_bin op_mulA prim_mul (de_lst (da_cons (de_var 5) da_nil)) (de_bin op_sub prim_I0 (de_blt call_lenA prim_len (by rfl) B.m_len (by rfl) (da_cons (de_sub (hu_of hr) (de_attr (de_var 0) rfl (fun c hc => by obtain rfl := List.mem_singleton.mp hc; exact B.f_Yard_rings)) (de_sub (hu_of hr) (de_var 5) de_int)) da_nil)) de_int)) pa_nil))))) (dss_one (ds_expr (de_app (pe_bm PySem.F.plainAttrs_list PySem.F.slot_list_append PySem.F.type_list_append mt_append (pv 2) (pa_cons (de_if (dt_cmp (op_inAll (hu65 hr)) (prim_inAll false) (de_tup (da_cons (de_sub (hu_of hr) (de_var 5) de_int) (da_cons (de_sub (hu_of hr) (de_var 5) de_int) da_nil))) (de_attr (de_var 0) rfl (fun c hc => by obtain rfl := List.mem_singleton.mp hc; exact B.f_Yard_ties))) (de_lst (da_cons (de_tup (da_cons de_str (da_cons (de_sub (hu_of hr) (de_var 5) de_int) (da_cons (de_sub (hu_of hr) (de_var 5) de_int) da_nil)))) da_nil)) de_non) pa_nil))))))))))
    (dss_cons (ds_if (dt_val (de_blt (cr_any rfl) prim_any (by rfl) B.m_any (by rfl) (da_cons (de_comp (S := [6]) (vs := [6]) (pe_lc rfl sc_taken_back.nd (di_iter (de_var 2)) (own := [("some", 6)]) (by show BlkOk ["yard", "moves", "found", "index", "value", "move", "some"] (defScope t_taken_back) _ [("some", 6)]; exact ⟨rfl, by decide +kernel, by decide +kernel, by decide +kernel, by decide +kernel⟩) (fun _ _ _ _ _ => (dg_name sc_taken_back.nd rfl (by first | exact Or.inl rfl | exact Or.inr rfl) (by show (6 : Nat) ∉ ([] : List Nat); decide))) (fun _ _ _ _ _ => dts_nil) (fun _ _ _ _ _ => (de_cmp op_isN prim_isN (de_var 6) de_non))) (by decide) (by show ∀ v ∈ ([6] : List Nat), v ∉ ([] : List Nat); decide)) da_nil))) (dss_one (ds_ret de_non)) dss_nil)
    (dss_one (ds_ret (de_bty call_tuple_of prim_tuple (by rfl) B.m_tuple (by rfl) (da_cons (de_comp2 (S := [6]) (S1 := [5]) (vs := [6, 5]) (vs1 := [5]) (pe_lc2 (vs1 := [5]) rfl sc_taken_back.nd (di_iter (de_revL (pe_revL (de_var 2)))) (own := [("some", 6), ("move", 5)]) (by show BlkOk ["yard", "moves", "found", "index", "value", "move", "some"] (defScope t_taken_back) _ [("some", 6), ("move", 5)]; exact ⟨rfl, by decide +kernel, by decide +kernel, by decide +kernel, by decide +kernel⟩) (by decide) (fun _ _ _ _ _ => (dg_name sc_taken_back.nd rfl (by first | exact Or.inl rfl | exact Or.inr rfl) (by show (6 : Nat) ∉ ([] : List Nat); decide))) (fun _ _ _ _ _ => dts_nil) (fun _ _ _ _ _ => (di_iter (de_var 6))) (fun _ _ _ _ _ => (dg_name sc_taken_back.nd rfl (by first | exact Or.inl rfl | exact Or.inr rfl) (by show (5 : Nat) ∉ ([] : List Nat); decide))) (fun _ _ _ _ _ => dts_nil) (fun _ _ _ _ _ => (de_var 5))) (by decide) (by decide) (by decide) (by show ∀ v ∈ ([6, 5] : List Nat), v ∉ ([] : List Nat); decide)) da_nil)))))))
/-! ### played -/
abbrev t_played : Stmt := top 23
theorem sc_played : FnScope ["yard", "stand", "moves", "told", "at", "place"] ["yard", "stand", "moves"] (defScope t_played) := ⟨rfl, rfl, rfl, by decide +kernel, rfl, by decide +kernel, by decide +kernel⟩
theorem k_played {a : Addr} {fd : FuncData} (F : Fun K "played" "played" t_played a fd) (B : Gb K mg cl) (C_carried_all : Callee P w K mg base cl "carried_all" 5 3 (s_carried_all)) (C_filled : Callee P w K mg base cl "filled" 1 1 (s_filled)) (C_stand_told : Callee P w K mg base cl "stand_told" 3 2 (s_stand_told)) : FnOk P w K mg base (L2.CX P w) 6 a fd ["yard", "stand", "moves"] (spOf K cl 3 s_played) := fn_sem (k := 5) F sc_played rfl rfl fun cdv A outer s H vs E hr =>
    (dss_cons (ds_set sc_played.nd rfl (by first | exact Or.inl rfl | exact Or.inr rfl) (by show (3 : Nat) ∉ ([] : List Nat); decide) (de_call C_stand_told rfl (hr.mono (by first | decide | exact Nat.le_refl _ | exact Nat.le_add_right _ _ | (simp only [Nat.add_eq]; omega))) (takes_of rfl rfl rfl rfl) (by rfl) (da_cons (de_var 0) (da_cons (de_var 1) da_nil))))
    (dss_cons (ds_set sc_played.nd rfl (by first | exact Or.inl rfl | exact Or.inr rfl) (by show (4 : Nat) ∉ ([] : List Nat); decide) (de_call C_carried_all rfl (hr.mono (by first | decide | exact Nat.le_refl _ | exact Nat.le_add_right _ _ | (simp only [Nat.add_eq]; omega))) (takes_of rfl rfl rfl rfl) (by rfl) (da_cons (de_var 0) (da_cons (de_fz (df_dictOf (X := _) (pe_callTy (call_dictOf rfl) (by rfl) B.m_dict (by rfl) (da_cons (de_comp (S := [5]) (vs := [5]) (pe_lc rfl sc_played.nd (di_iter (de_call C_filled rfl (hr.mono (by first | decide | exact Nat.le_refl _ | exact Nat.le_add_right _ _ | (simp only [Nat.add_eq]; omega))) (takes_of rfl rfl rfl rfl) (by rfl) (da_cons (de_var 3) da_nil))) (own := [("place", 5)]) (by show BlkOk ["yard", "stand", "moves", "told", "at", "place"] (defScope t_played) _ [("place", 5)]; exact ⟨rfl, by decide +kernel, by decide +kernel, by decide +kernel, by decide +kernel⟩) (fun _ _ _ _ _ => (dg_name sc_played.nd rfl (by first | exact Or.inl rfl | exact Or.inr rfl) (by show (5 : Nat) ∉ ([] : List Nat); decide))) (fun _ _ _ _ _ => dts_nil) (fun _ _ _ _ _ => (de_tup (da_cons (de_var 5) (da_cons (de_sub (hu_of hr) (de_var 3) (de_var 5)) da_nil))))) (by decide) (by show ∀ v ∈ ([5] : List Nat), v ∉ ([] : List Nat); decide)) da_nil)))) (da_cons (de_var 2) da_nil)))))
    (dss_one (ds_ret (de_bty call_tuple_of prim_tuple (by rfl) B.m_tuple (by rfl) (da_cons (de_comp (S := [5]) (vs := [5]) (pe_lc rfl sc_played.nd (di_rg1 (pi_range1 (by rfl) B.m_range (da_cons (de_attr (de_var 0) rfl (fun c hc => by obtain rfl := List.mem_singleton.mp hc; exact B.f_Yard_places)) da_nil))) (own := [("place", 5)]) (by show BlkOk ["yard", "stand", "moves", "told", "at", "place"] (defScope t_played) _ [("place", 5)]; exact ⟨rfl, by decide +kernel, by decide +kernel, by decide +kernel, by decide +kernel⟩) (fun _ _ _ _ _ => (dg_name sc_played.nd rfl (by first | exact Or.inl rfl | exact Or.inr rfl) (by show (5 : Nat) ∉ ([] : List Nat); decide))) (fun _ _ _ _ _ => dts_nil) (fun _ _ _ _ _ => (de_get2 (pe_dget2 (hu_of hr) (de_var 4) (de_var 5) de_int ⟨rfl, rfl, rfl, rfl⟩)))) (by decide) (by show ∀ v ∈ ([5] : List Nat), v ∉ ([] : List Nat); decide)) da_nil))))))
/-! ### _law_made_yard -/
abbrev t__law_made_yard : Stmt := top 37
theorem sc__law_made_yard : FnScope ["_law_pen_here", "_law_yard"] ["_law_pen_here", "_law_yard"] (defScope t__law_made_yard) := ⟨rfl, rfl, rfl, by decide +kernel, rfl, by decide +kernel, by decide +kernel⟩
theorem k__law_made_yard {a : Addr} {fd : FuncData} (F : Fun K "_law_made_yard" "_law_made_yard" t__law_made_yard a fd) (B : Gb K mg cl) (C_Yard : Maker P w K mg base cl "Yard" "Yard" 5 3 s_Yard_init) (C__law_listed : Callee P w K mg base cl "_law_listed" 5 2 (s__law_listed 4)) (C__law_shuffled : Callee P w K mg base cl "_law_shuffled" 2 2 (s__law_shuffled)) : FnOk P w K mg base (L2.CX P w) 7 a fd ["_law_pen_here", "_law_yard"] (spOf K cl 2 s__law_made_yard) := fn_sem (k := 6) F sc__law_made_yard rfl rfl fun cdv A outer s H vs E hr =>
    (dss_one (ds_ret (de_fz (df_make C_Yard (by show ∀ i ∈ ([0] : List Nat), i < (["_law_pen_here", "_law_yard"] : List Str).length; decide) (hr.mono (by first | decide | exact Nat.le_refl _ | exact Nat.le_add_right _ _ | (simp only [Nat.add_eq]; omega))) (takes_of rfl rfl rfl rfl) (by rfl) (da_cons (de_sub (hu_of hr) (de_var 1) de_int) (da_cons (de_call C__law_listed rfl (hr.mono (by first | decide | exact Nat.le_refl _ | exact Nat.le_add_right _ _ | (simp only [Nat.add_eq]; omega))) (takes_of rfl rfl rfl rfl) (by rfl) (da_cons (de_var 0) (da_cons (de_bty call_tuple_of prim_tuple (by rfl) B.m_tuple (by rfl) (da_cons (de_call C__law_shuffled rfl (hr.mono (by first | decide | exact Nat.le_refl _ | exact Nat.le_add_right _ _ | (simp only [Nat.add_eq]; omega))) (takes_of rfl rfl rfl rfl) (by rfl) (da_cons (de_var 0) (da_cons (de_sub (hu_of hr) (de_var 1) de_int) da_nil))) da_nil)) da_nil))) (da_cons (de_call C__law_listed rfl (hr.mono (by first | decide | exact Nat.le_refl _ | exact Nat.le_add_right _ _ | (simp only [Nat.add_eq]; omega))) (takes_of rfl rfl rfl rfl) (by rfl) (da_cons (de_var 0) (da_cons (de_sub (hu_of hr) (de_var 1) de_int) da_nil))) da_nil)))))))
/-! ### law -/
abbrev t_law : Stmt := top 42
theorem sc_law : FnScope ["_law_script", "_law_pen_here", "_law_lap", "_law_yard", "_law_made", "_law_stand", "_law_moves_here", "_law_told", "_law_due", "_law_some", "_law_row", "_law_turn"] ["_law_script"] (defScope t_law) := ⟨rfl, rfl, rfl, by decide +kernel, rfl, by decide +kernel, by decide +kernel⟩
theorem k_law {a : Addr} {fd : FuncData} (F : Fun K "law" "law" t_law a fd) (B : Gb K mg cl) (C__law_all_moves : Callee P w K mg base cl "_law_all_moves" 1 1 (s__law_all_moves)) (C__law_back : Callee P w K mg base cl "_law_back" 1 2 (s__law_back)) (C__law_draw : Callee P w K mg base cl "_law_draw" 1 2 (s__law_draw)) (C__law_drawn_stand : Callee P w K mg base cl "_law_drawn_stand" 2 4 (s__law_drawn_stand)) (C__law_made_yard : Callee P w K mg base cl "_law_made_yard" 7 2 (s__law_made_yard)) (C__law_pen : Callee P w K mg base cl "_law_pen" 1 1 (s__law_pen)) (C__law_pick : Callee P w K mg base cl "_law_pick" 2 2 (s__law_pick)) (C__law_some_moves : Callee P w K mg base cl "_law_some_moves" 3 4 (s__law_some_moves)) (C__law_some_yard : Callee P w K mg base cl "_law_some_yard" 4 2 (s__law_some_yard)) (C_played : Callee P w K mg base cl "played" 6 3 (s_played)) (C_taken_back : Callee P w K mg base cl "taken_back" 5 2 (s_taken_back)) : FnOk P w K mg base (L2.CX P w) 8 a fd ["_law_script"] (spOf K cl 1 s_law) := fn_sem (k := 7) F sc_law rfl rfl fun cdv A outer s H vs E hr =>
    (dss_cons (ds_setF sc_law.nd rfl (by first | exact Or.inl rfl | exact Or.inr rfl) (by show (1 : Nat) ∉ ([] : List Nat); decide) (de_callF C__law_pen rfl (hr.mono (by first | decide | exact Nat.le_refl _ | exact Nat.le_add_right _ _ | (simp only [Nat.add_eq]; omega))) (takes_of rfl rfl rfl rfl) (by rfl) (da_cons (de_var 0) da_nil)))
    (dss_cons (ds_for (passes_of rfl) rfl (di_rg1 (pi_range1 (by rfl) B.m_range (da_cons de_int da_nil))) (dg_name sc_law.nd rfl (by first | exact Or.inl rfl | exact Or.inr rfl) (by show (2 : Nat) ∉ ([] : List Nat); decide)) (dss_cons (ds_set sc_law.nd rfl (by first | exact Or.inl rfl | exact Or.inr rfl) (by show (3 : Nat) ∉ ([] : List Nat); decide) (de_call C__law_some_yard rfl (hr.mono (by first | decide | exact Nat.le_refl _ | exact Nat.le_add_right _ _ | (simp only [Nat.add_eq]; omega))) (takes_of rfl rfl rfl rfl) (by rfl) (da_cons (de_var 1) (da_cons de_int da_nil))))
    (dss_cons (ds_set sc_law.nd rfl (by first | exact Or.inl rfl | exact Or.inr rfl) (by show (4 : Nat) ∉ ([] : List Nat); decide) (de_call C__law_made_yard rfl (hr.mono (by first | decide | exact Nat.le_refl _ | exact Nat.le_add_right _ _ | (simp only [Nat.add_eq]; omega))) (takes_of rfl rfl rfl rfl) (by rfl) (da_cons (de_var 1) (da_cons (de_var 3) da_nil))))
    (dss_cons (ds_set sc_law.nd rfl (by first | exact Or.inl rfl | exact Or.inr rfl) (by show (5 : Nat) ∉ ([] : List Nat); decide) (de_call C__law_drawn_stand rfl (hr.mono (by first | decide | exact Nat.le_refl _ | exact Nat.le_add_right _ _ | (simp only [Nat.add_eq]; omega))) (takes_of rfl rfl rfl rfl) (by rfl) (da_cons (de_var 1) (da_cons (de_sub (hu_of hr) (de_var 3) de_int) (da_cons (de_blt (cr_min rfl) prim_minL (by rfl) B.m_min (by rfl) (da_cons (de_lst (da_cons (de_call C__law_draw rfl (hr.mono (by first | decide | exact Nat.le_refl _ | exact Nat.le_add_right _ _ | (simp only [Nat.add_eq]; omega))) (takes_of rfl rfl rfl rfl) (by rfl) (da_cons (de_var 1) (da_cons de_int da_nil))) (da_cons (de_sub (hu_of hr) (de_var 3) de_int) da_nil))) da_nil)) (da_cons (de_cmp (op_eqD (hu64 hr)) prim_eq (de_call C__law_draw rfl (hr.mono (by first | decide | exact Nat.le_refl _ | exact Nat.le_add_right _ _ | (simp only [Nat.add_eq]; omega))) (takes_of rfl rfl rfl rfl) (by rfl) (da_cons (de_var 1) (da_cons de_int da_nil))) de_int) da_nil))))))
    (dss_cons (ds_set sc_law.nd rfl (by first | exact Or.inl rfl | exact Or.inr rfl) (by show (6 : Nat) ∉ ([] : List Nat); decide) (de_call C__law_some_moves rfl (hr.mono (by first | decide | exact Nat.le_refl _ | exact Nat.le_add_right _ _ | (simp only [Nat.add_eq]; omega))) (takes_of rfl rfl rfl rfl) (by rfl) (da_cons (de_var 1) (da_cons (de_var 3) (da_cons (de_var 5) (da_cons de_int da_nil))))))
    (dss_cons (ds_par (ps_par rfl sc_law.nd rfl rfl (by decide) rfl rfl (pa_cons (de_call C_taken_back rfl (hr.mono (by first | decide | exact Nat.le_refl _ | exact Nat.le_add_right _ _ | (simp only [Nat.add_eq]; omega))) (takes_of rfl rfl rfl rfl) (by rfl) (da_cons (de_var 4) (da_cons (de_call C__law_pick rfl (hr.mono (by first | decide | exact Nat.le_refl _ | exact Nat.le_add_right _ _ | (simp only [Nat.add_eq]; omega))) (takes_of rfl rfl rfl rfl) (by rfl) (da_cons (de_var 1) (da_cons (de_lst (da_cons (de_var 6) (da_cons (de_bty call_tuple_of prim_tuple (by rfl) B.m_tuple (by rfl) (da_cons (de_var 6) da_nil)) da_nil))) da_nil))) da_nil))) (pa_cons (de_call C__law_back rfl (hr.mono (by first | decide | exact Nat.le_refl _ | exact Nat.le_add_right _ _ | (simp only [Nat.add_eq]; omega))) (takes_of rfl rfl rfl rfl) (by rfl) (da_cons (de_var 3) (da_cons (de_var 6) da_nil))) pa_nil)) (by rfl) (by rfl)) (by show (7 : Nat) ∉ ([] : List Nat); decide) (by show (8 : Nat) ∉ ([] : List Nat); decide))
    (dss_cons (ds_if (dw_or (dt_cmp (op_neD (hu64 hr)) prim_ne (de_var 7) (de_var 8)) (dw_or1 (dt_cmp (op_neD (hu64 hr)) prim_ne (de_call C_taken_back rfl (hr.mono (by first | decide | exact Nat.le_refl _ | exact Nat.le_add_right _ _ | (simp only [Nat.add_eq]; omega))) (takes_of rfl rfl rfl rfl) (by rfl) (da_cons (de_var 4) (da_cons (de_tup da_nil) da_nil))) (de_tup da_nil)))).pt (dss_one (ds_ret de_bl)) dss_nil)
    (dss_cons (ds_if (dw_and (dt_cmp op_notN prim_notN (de_var 8) de_non) (dw_and1 (dt_cmp (op_neD (hu64 hr)) prim_ne (de_call C_played rfl (hr.mono (by first | decide | exact Nat.le_refl _ | exact Nat.le_add_right _ _ | (simp only [Nat.add_eq]; omega))) (takes_of rfl rfl rfl rfl) (by rfl) (da_cons (de_var 4) (da_cons (de_call C_played rfl (hr.mono (by first | decide | exact Nat.le_refl _ | exact Nat.le_add_right _ _ | (simp only [Nat.add_eq]; omega))) (takes_of rfl rfl rfl rfl) (by rfl) (da_cons (de_var 4) (da_cons (de_var 5) (da_cons (de_var 6) da_nil)))) (da_cons (de_var 7) da_nil)))) (de_var 5)))).pt (dss_one (ds_ret de_bl)) dss_nil)
    (dss_cons (ds_set sc_law.nd rfl (by first | exact Or.inl rfl | exact Or.inr rfl) (by show (9 : Nat) ∉ ([] : List Nat); decide) (de_call C__law_all_moves rfl (hr.mono (by first | decide | exact Nat.le_refl _ | exact Nat.le_add_right _ _ | (simp only [Nat.add_eq]; omega))) (takes_of rfl rfl rfl rfl) (by rfl) (da_cons (de_var 3) da_nil)))
    (dss_one (ds_if (dt_cmp (op_neD (hu64 hr)) prim_ne (de_var 9) (de_lst da_nil)) (dss_cons (ds_setLc (vs := [11]) (ps_setLc rfl sc_law.nd rfl rfl (by rfl) (di_rg1 (pi_range1 (by rfl) B.m_range (da_cons (de_bin op_addA prim_add de_int (de_call C__law_draw rfl (hr.mono (by first | decide | exact Nat.le_refl _ | exact Nat.le_add_right _ _ | (simp only [Nat.add_eq]; omega))) (takes_of rfl rfl rfl rfl) (by rfl) (da_cons (de_var 1) (da_cons de_int da_nil)))) da_nil))) (own := [("_law_turn", 11)]) (by show BlkOk ["_law_script", "_law_pen_here", "_law_lap", "_law_yard", "_law_made", "_law_stand", "_law_moves_here", "_law_told", "_law_due", "_law_some", "_law_row", "_law_turn"] (defScope t_law) _ [("_law_turn", 11)]; exact ⟨rfl, by decide +kernel, by decide +kernel, by decide +kernel, by decide +kernel⟩) (fun _ _ _ _ _ => (dg_name sc_law.nd rfl (by first | exact Or.inl rfl | exact Or.inr rfl) (by show (11 : Nat) ∉ ([] : List Nat); decide))) (fun _ _ _ _ _ => dts_nil) (fun _ _ _ _ _ => (de_call C__law_pick rfl (hr.mono (by first | decide | exact Nat.le_refl _ | exact Nat.le_add_right _ _ | (simp only [Nat.add_eq]; omega))) takes0 (by rfl) (da_cons (de_var 1) (da_cons (de_var 9) da_nil))))) (by show (10 : Nat) ∉ ([] : List Nat); decide) (by decide) (by show ∀ v ∈ ([11] : List Nat), v ∉ ([] : List Nat); decide))
    (dss_one (ds_if (dt_cmp (op_neD (hu64 hr)) prim_ne (de_call C_taken_back rfl (hr.mono (by first | decide | exact Nat.le_refl _ | exact Nat.le_add_right _ _ | (simp only [Nat.add_eq]; omega))) (takes_of rfl rfl rfl rfl) (by rfl) (da_cons (de_var 4) (da_cons (de_var 10) da_nil))) (de_call C__law_back rfl (hr.mono (by first | decide | exact Nat.le_refl _ | exact Nat.le_add_right _ _ | (simp only [Nat.add_eq]; omega))) (takes_of rfl rfl rfl rfl) (by rfl) (da_cons (de_var 3) (da_cons (de_var 10) da_nil)))) (dss_one (ds_ret de_bl)) dss_nil))) dss_nil)))))))))))
    (dss_one (ds_ret de_bl))))
end K06

set_option Elab.async false
set_option linter.all false
set_option maxRecDepth 100000
set_option maxHeartbeats 4000000
namespace Sl
open PV
inductive Lw (ns : List Int) (i : Nat) : Env → Prop
  | mk {p : D} {o2 o3 o4 o5 o6 o7 o8 o9 o10 : Option D} : Pen (900000 - 10000 * i) p → Lw ns i [some (.p (.fz (ns.map .int))), some p, o2, o3, o4, o5, o6, o7, o8, o9, o10, none]
inductive Lx (f : D → Env) (N : Nat) (ts : List Tie) (rs : List (List Int)) (i : Nat) (acc : List P) : Env → Prop
  | mk {p : D} {ms : List Mv} : Pen (N - i) p → (∀ m ∈ ms, MIn ts rs m) → ms.length = i → acc = ms.map mvP → Lx f N ts rs i acc (f p)
theorem optT_plain (o : Option (List Mv)) : P.plain 2 (optT o) = true := by
  cases o with
  | none => rfl
  | some b =>
    show plainL 1 (b.map mvP) = true
    exact mvs_plainL b
theorem ints_plain (st : List Int) : P.plain 1 (.tup (st.map .int)) = true := by
  show plainL 0 (st.map .int) = true
  induction st with
  | nil => rfl
  | cons x st ih =>
    show (P.plain 0 (.int x) && plainL 0 (st.map .int)) = true
    rw [ih]; rfl
theorem law_main (ns : List Int) : WF s_law [.p (.fz (ns.map .int))] (fun _ _ _ _ => False) (fun d _ => d = .p (.bl true)) := by
  have hsz := szl
  refine wf_fn rfl (by simp) ?_
  unfold b_law
  refine ws_seqH fun K hK => ?_
  simp
  refine pen fun p hp => ?_
  simp
  refine hK _ ?_
  clear hK K
  refine ws_seqH fun K hK => ?_
  simp
  refine ws_for (Lw ns) (.mk (hp.less (by omega))) ?_ ?_
  · rintro i z σ hi ⟨hp1⟩
    rename_i p1 o2 o3 o4 o5 o6 o7 o8 o9 o10
    have hi4 : i < 4 := by
      have := (List.getElem?_eq_some_iff.mp hi).1
      simpa [rangeP] using this
    have ho := hp1.op
    simp only [wn_gN, List.set_cons_succ, List.set_cons_zero]
    refine ws_seqH fun K2 hK2 => ?_
    simp [ho]
    refine some_yard (n := 900000 - 10000 * i - 500) (hp1.less (by omega)) fun k ts rs p2 hp2 hy => ?_
    simp
    refine hK2 _ ?_
    clear hK2 K2
    have hk1 := hy.n1
    have hk6 := hy.n6
    have ho := hp2.op
    refine ws_seqH fun K2 hK2 => ?_
    simp [ho]
    refine made_yard (n := 900000 - 10000 * i - 1000) hy (hp2.less (by omega)) fun p3 hp3 => ?_
    simp
    refine hK2 _ ?_
    clear hK2 K2
    have ho := hp3.op
    refine ws_seqH fun K2 hK2 => ?_
    simp [ho, yardP]
    refine draw (n := 900000 - 10000 * i - 1001) (m := 4) (hp3.less (by omega)) (by omega) (by omega) fun h p4 hp4 hh0 hh1 => ?_
    have ho := hp4.op
    have hmin : pMinL (.lst [.int h, .int k]) = some (.int ((min h.toNat k : Nat) : Int)) := by
      show ((allI [.int h, .int k]).bind fun ns => ns.min?.map P.int) = _
      have : allI [P.int h, P.int k] = some [h, (k : Int)] := rfl
      rw [this]
      simp [List.min?_cons]
      omega
    simp [ho, hmin]
    refine ⟨by omega, ?_⟩
    refine draw (n := 900000 - 10000 * i - 1002) (m := 2) (hp4.less (by omega)) (by omega) (by omega) fun b p5 hp5 hb0 hb1 => ?_
    have ho := hp5.op
    simp [ho]
    refine drawn_stand (n := 900000 - 10000 * i - 1500) (h := min h.toNat k) (kd := decide (b = 0)) (by omega) (by omega) (hp5.less (by omega)) fun st p6 hp6 hsl hs0 => ?_
    simp
    refine hK2 _ ?_
    clear hK2 K2
    have ho := hp6.op
    refine ws_seqH fun K2 hK2 => ?_
    simp [ho]
    refine some_moves (n := 900000 - 10000 * i - 1600) hy hsl hs0 (hp6.less (by omega)) fun ms p7 d7 hp7 hcan hml => ?_
    simp
    refine hK2 _ ?_
    clear hK2 K2
    have ho := hp7.op
    have hmin := CanA.min hcan
    refine ws_seqH fun K2 hK2 => ?_
    simp [ho]
    refine ⟨by omega, ?_⟩
    refine pick (n := 900000 - 10000 * i - 1601) (hp7.less (by omega)) (by simp) (by simp) fun y p8 hy8 hp8 => ?_
    have hrm : RowM y ms := by simpa [RowM] using hy8
    simp
    refine taken_back hy hmin (by omega) hrm ?_
    simp
    refine law_back hy hmin (by omega) ?_
    simp
    refine hK2 _ ?_
    clear hK2 K2
    have ho := hp8.op
    refine ws_seqH fun K2 hK2 => ?_
    simp
    refine wo_ne (optT_plain _) (optT_plain _) (fun _ => ?_) (fun h => absurd rfl h)
    simp
    refine taken_back (ms := []) hy (by simp) (by simp) (.inr rfl) ?_
    simp
    refine wo_ne (n := 1) (m := 1) (x := optT (back ts rs [])) rfl rfl (fun _ => ?_) (fun h => absurd rfl h)
    simp
    refine hK2 _ ?_
    clear hK2 K2
    refine ws_seqH fun K2 hK2 => ?_
    have next : K2 [some (.p (.fz (ns.map .int))), some p8, some (.p z), some (.p (.tup [.int k, .tup (ts.map tieP), .tup (rs.map ringP)])), some (.p (yardI k ts rs)), some (.p (.tup (st.map .int))), some (.p (.lst (ms.map mvP))), some (.p (optT (back ts rs ms))), some (.p (optT (back ts rs ms))), o9, o10, none] := by
      refine hK2 _ ?_
      clear hK2 K2
      refine ws_seqH fun K2 hK2 => ?_
      simp
      refine all_moves hy ?_
      simp
      refine hK2 _ ?_
      clear hK2 K2
      simp
      have hal : (allM ts rs).length ≤ 200 := by
        have := hy.ties.len
        have := hy.rl
        simp [allM]; omega
      refine wo_ne (mvs_plain _) (n := 2) (m := 2) (y := .lst []) rfl (fun _ => ?_) (fun hne => ?_)
      · simp
        exact .mk (hp8.less (by omega))
      have hne' : allM ts rs ≠ [] := fun h => hne (by rw [h]; rfl)
      have ho := hp8.op
      simp [ho]
      refine draw (n := 900000 - 10000 * i - 1700) (m := 4) (hp8.less (by omega)) (by omega) (by omega) fun x p9 hp9 hx0 hx1 => ?_
      obtain ⟨x, rfl⟩ := Int.eq_ofNat_of_zero_le hx0
      have ex : (1 + (x : Int)).toNat = 1 + x := by omega
      simp [pureAt, wipeE, backE, ex]
      refine ⟨by omega, ?_⟩
      refine wc_inv (Lx (fun p => [some (.p (.fz (ns.map .int))), some p, some (.p z), some (.p (.tup [.int k, .tup (ts.map tieP), .tup (rs.map ringP)])), some (.p (yardI k ts rs)), some (.p (.tup (st.map .int))), some (.p (.lst (ms.map mvP))), some (.p (optT (back ts rs ms))), some (.p (optT (back ts rs ms))), some (.p (.lst ((allM ts rs).map mvP))), o10, none]) (900000 - 10000 * i - 1700) ts rs) (.mk (ms := []) hp9 (by simp) rfl rfl) ?_ ?_
      · rintro j w acc σ hj ⟨hp, hms, hml2, rfl⟩
        rename_i p ms2
        have hjl : j < 1 + x := by
          have := (List.getElem?_eq_some_iff.mp hj).1
          simpa [rangeP] using this
        have ho := hp.op
        simp [ho]
        refine pick (n := 900000 - 10000 * i - 1700 - (j + 1)) (hp.less (by omega)) (by simpa using hne') (by simp; omega) fun y p' hy2 hp' => ?_
        obtain ⟨m, hm, rfl⟩ := List.mem_map.mp hy2
        simp [wipeE]
        refine ⟨by omega, .mk (ms := ms2 ++ [m]) hp' (fun m' hm' => ?_) (by simp [hml2]) (by simp)⟩
        rcases List.mem_append.mp hm' with h | h
        · exact hms m' h
        · simp at h; subst h; exact allM_in m' hm
      · rintro acc σ ⟨hp, hms, hml2, rfl⟩
        rename_i p ms2
        simp [rangeP] at hp hml2
        simp
        refine taken_back hy hms (by omega) (.inl rfl) ?_
        simp
        refine law_back hy hms (by omega) ?_
        simp
        refine wo_ne (optT_plain _) (optT_plain _) (fun _ => ?_) (fun h => absurd rfl h)
        simp
        exact .mk (hp.less (by omega))
    cases eb : back ts rs ms with
    | none =>
      rw [eb] at next
      simp [optT] at next ⊢
      exact next
    | some bs =>
      rw [eb] at next
      have hpb := play_back (n := k) ts rs (fun r h => (hy.ring r h).2.2.1) (fun r h => (hy.ring r h).2.2.2) (fun t h => hy.ties.ok t h) hsl hs0 hcan eb
      simp [optT] at next ⊢
      refine played hy hsl hs0 (.inl rfl) hcan ?_
      simp
      refine played (st := unfill k (carryA (wA rs ms) (fillA st))) hy (by simp [unfill]) (unfill_pos fun x hx => ?_) (.inr rfl) hpb.1 ?_
      · obtain ⟨y, hy2, rfl⟩ := List.mem_map.mp hx
        obtain ⟨i, h1, h2, h3, h4⟩ := mem_fillA.mp hy2
        exact h4
      rw [hpb.2]
      simp
      refine wo_ne (n := 1) (m := 1) (ints_plain st) (ints_plain st) (fun _ => ?_) (fun h => absurd rfl h)
      simp
      exact next
  · rintro σ ⟨hp1⟩
    refine hK _ ?_
    simp
end Sl
namespace K06
open PySem PV Sl
theorem law_true (ns : List Int) (hl : ns.length ≤ 63) : ∃ fin, s_law [.p (.fz (ns.map .int))] = .ok (.p (.bl true)) fin := by
  obtain ⟨d, fin, e, rfl⟩ := (law_main ns).ok
  exact ⟨fin, e⟩
end K06

set_option Elab.async false
set_option linter.all false
set_option maxRecDepth 100000
set_option maxHeartbeats 4000000
/-! K06: the head, printed by gen.py. -/
namespace K06
open PySem L2 PV Sl
theorem all_mk {l : PySem.W.OpenLaw} {w : World} {K : PySem.W.Frag} {h : Heap} {mg : Str → Option Value} {fa : Addr} (X : K.In h) (G : h.Ns mainGlobals mg) (hfa : mg "law" = some (.ref fa))
    {x__law_all_moves : Addr} {od__law_all_moves an__law_all_moves : Option Addr} {sl__law_all_moves : Array (Option Value)} {oc__law_all_moves kV__law_all_moves dc__law_all_moves pm__law_all_moves cd__law_all_moves ct__law_all_moves : Value}
    {x__law_back : Addr} {od__law_back an__law_back : Option Addr} {sl__law_back : Array (Option Value)} {oc__law_back kV__law_back dc__law_back pm__law_back cd__law_back ct__law_back : Value}
    {x__law_draw : Addr} {od__law_draw an__law_draw : Option Addr} {sl__law_draw : Array (Option Value)} {oc__law_draw kV__law_draw dc__law_draw pm__law_draw cd__law_draw ct__law_draw : Value}
    {x__law_moved : Addr} {od__law_moved an__law_moved : Option Addr} {sl__law_moved : Array (Option Value)} {oc__law_moved kV__law_moved dc__law_moved pm__law_moved cd__law_moved ct__law_moved : Value}
    {x__law_moves : Addr} {od__law_moves an__law_moves : Option Addr} {sl__law_moves : Array (Option Value)} {oc__law_moves kV__law_moves dc__law_moves pm__law_moves cd__law_moves ct__law_moves : Value}
    {x__law_pen : Addr} {od__law_pen an__law_pen : Option Addr} {sl__law_pen : Array (Option Value)} {oc__law_pen kV__law_pen dc__law_pen pm__law_pen cd__law_pen ct__law_pen : Value}
    {x__law_without : Addr} {od__law_without an__law_without : Option Addr} {sl__law_without : Array (Option Value)} {oc__law_without kV__law_without dc__law_without pm__law_without cd__law_without ct__law_without : Value}
    {x_filled : Addr} {od_filled an_filled : Option Addr} {sl_filled : Array (Option Value)} {oc_filled kV_filled dc_filled pm_filled cd_filled ct_filled : Value}
    {x_is_row : Addr} {od_is_row an_is_row : Option Addr} {sl_is_row : Array (Option Value)} {oc_is_row kV_is_row dc_is_row pm_is_row cd_is_row ct_is_row : Value}
    {x_is_whole : Addr} {od_is_whole an_is_whole : Option Addr} {sl_is_whole : Array (Option Value)} {oc_is_whole kV_is_whole dc_is_whole pm_is_whole cd_is_whole ct_is_whole : Value}
    {x_turn_of : Addr} {od_turn_of an_turn_of : Option Addr} {sl_turn_of : Array (Option Value)} {oc_turn_of kV_turn_of dc_turn_of pm_turn_of cd_turn_of ct_turn_of : Value}
    {x__law_drawn_ring : Addr} {od__law_drawn_ring an__law_drawn_ring : Option Addr} {sl__law_drawn_ring : Array (Option Value)} {oc__law_drawn_ring kV__law_drawn_ring dc__law_drawn_ring pm__law_drawn_ring cd__law_drawn_ring ct__law_drawn_ring : Value}
    {x__law_drawn_stand : Addr} {od__law_drawn_stand an__law_drawn_stand : Option Addr} {sl__law_drawn_stand : Array (Option Value)} {oc__law_drawn_stand kV__law_drawn_stand dc__law_drawn_stand pm__law_drawn_stand cd__law_drawn_stand ct__law_drawn_stand : Value}
    {x__law_pick : Addr} {od__law_pick an__law_pick : Option Addr} {sl__law_pick : Array (Option Value)} {oc__law_pick kV__law_pick dc__law_pick pm__law_pick cd__law_pick ct__law_pick : Value}
    {x__law_shuffled : Addr} {od__law_shuffled an__law_shuffled : Option Addr} {sl__law_shuffled : Array (Option Value)} {oc__law_shuffled kV__law_shuffled dc__law_shuffled pm__law_shuffled cd__law_shuffled ct__law_shuffled : Value}
    {x_carried : Addr} {od_carried an_carried : Option Addr} {sl_carried : Array (Option Value)} {oc_carried kV_carried dc_carried pm_carried cd_carried ct_carried : Value}
    {x_is_place : Addr} {od_is_place an_is_place : Option Addr} {sl_is_place : Array (Option Value)} {oc_is_place kV_is_place dc_is_place pm_is_place cd_is_place ct_is_place : Value}
    {x_is_stand : Addr} {od_is_stand an_is_stand : Option Addr} {sl_is_stand : Array (Option Value)} {oc_is_stand kV_is_stand dc_is_stand pm_is_stand cd_is_stand ct_is_stand : Value}
    {x__law_drawn_yard : Addr} {od__law_drawn_yard an__law_drawn_yard : Option Addr} {sl__law_drawn_yard : Array (Option Value)} {oc__law_drawn_yard kV__law_drawn_yard dc__law_drawn_yard pm__law_drawn_yard cd__law_drawn_yard ct__law_drawn_yard : Value}
    {x__law_some_moves : Addr} {od__law_some_moves an__law_some_moves : Option Addr} {sl__law_some_moves : Array (Option Value)} {oc__law_some_moves kV__law_some_moves dc__law_some_moves pm__law_some_moves cd__law_some_moves ct__law_some_moves : Value}
    {x_as_tie : Addr} {od_as_tie an_as_tie : Option Addr} {sl_as_tie : Array (Option Value)} {oc_as_tie kV_as_tie dc_as_tie pm_as_tie cd_as_tie ct_as_tie : Value}
    {x_is_ring : Addr} {od_is_ring an_is_ring : Option Addr} {sl_is_ring : Array (Option Value)} {oc_is_ring kV_is_ring dc_is_ring pm_is_ring cd_is_ring ct_is_ring : Value}
    {x_stand_told : Addr} {od_stand_told an_stand_told : Option Addr} {sl_stand_told : Array (Option Value)} {oc_stand_told kV_stand_told dc_stand_told pm_stand_told cd_stand_told ct_stand_told : Value}
    {x__law_some_yard : Addr} {od__law_some_yard an__law_some_yard : Option Addr} {sl__law_some_yard : Array (Option Value)} {oc__law_some_yard kV__law_some_yard dc__law_some_yard pm__law_some_yard cd__law_some_yard ct__law_some_yard : Value}
    {x_as_move : Addr} {od_as_move an_as_move : Option Addr} {sl_as_move : Array (Option Value)} {oc_as_move kV_as_move dc_as_move pm_as_move cd_as_move ct_as_move : Value}
    {x_rings_told : Addr} {od_rings_told an_rings_told : Option Addr} {sl_rings_told : Array (Option Value)} {oc_rings_told kV_rings_told dc_rings_told pm_rings_told cd_rings_told ct_rings_told : Value}
    {x_ties_told : Addr} {od_ties_told an_ties_told : Option Addr} {sl_ties_told : Array (Option Value)} {oc_ties_told kV_ties_told dc_ties_told pm_ties_told cd_ties_told ct_ties_told : Value}
    {x_Yard_init : Addr} {od_Yard_init an_Yard_init : Option Addr} {sl_Yard_init : Array (Option Value)} {oc_Yard_init kV_Yard_init dc_Yard_init pm_Yard_init cd_Yard_init ct_Yard_init : Value}
    {x__law_listed : Addr} {od__law_listed an__law_listed : Option Addr} {sl__law_listed : Array (Option Value)} {oc__law_listed kV__law_listed dc__law_listed pm__law_listed cd__law_listed ct__law_listed : Value}
    {x_carried_all : Addr} {od_carried_all an_carried_all : Option Addr} {sl_carried_all : Array (Option Value)} {oc_carried_all kV_carried_all dc_carried_all pm_carried_all cd_carried_all ct_carried_all : Value}
    {x_taken_back : Addr} {od_taken_back an_taken_back : Option Addr} {sl_taken_back : Array (Option Value)} {oc_taken_back kV_taken_back dc_taken_back pm_taken_back cd_taken_back ct_taken_back : Value}
    {x_played : Addr} {od_played an_played : Option Addr} {sl_played : Array (Option Value)} {oc_played kV_played dc_played pm_played cd_played ct_played : Value}
    {x__law_made_yard : Addr} {od__law_made_yard an__law_made_yard : Option Addr} {sl__law_made_yard : Array (Option Value)} {oc__law_made_yard kV__law_made_yard dc__law_made_yard pm__law_made_yard cd__law_made_yard ct__law_made_yard : Value}
    {x_law : Addr} {od_law an_law : Option Addr} {sl_law : Array (Option Value)} {oc_law kV_law dc_law pm_law cd_law ct_law : Value}
    {C_Yard : Addr}
    (aC_Yard : PySem.W.nsIn K mainGlobals "Yard" = some (some (.ref C_Yard)))
    (pg_Yard : PySem.W.plainGet K C_Yard Str.empty = true)
    (hd_Yard : PySem.W.hasDictIn K C_Yard = true)
    (po_Yard : PySem.W.plainOver K C_Yard = true)
    (sa_Yard : PySem.W.findIn K (.ref C_Yard) "__setattr__" = some (some (.builtin "object.__setattr__")))
    (mk_Yard : PySem.W.makesIn K C_Yard = true)
    (kc_Yard : PySem.W.keepIn K (.ref C_Yard) = true)
    (n_Yard_places : PySem.W.findIn K (.ref C_Yard) "places" = some none)
    (n_Yard_rings : PySem.W.findIn K (.ref C_Yard) "rings" = some none)
    (n_Yard_ties : PySem.W.findIn K (.ref C_Yard) "ties" = some none)
    (z_all : PySem.W.nsIn K mainGlobals "all" = some none)
    (z_any : PySem.W.nsIn K mainGlobals "any" = some none)
    (z_bool : PySem.W.nsIn K mainGlobals "bool" = some none)
    (z_dict : PySem.W.nsIn K mainGlobals "dict" = some none)
    (z_enumerate : PySem.W.nsIn K mainGlobals "enumerate" = some none)
    (z_int : PySem.W.nsIn K mainGlobals "int" = some none)
    (z_isinstance : PySem.W.nsIn K mainGlobals "isinstance" = some none)
    (z_len : PySem.W.nsIn K mainGlobals "len" = some none)
    (z_list : PySem.W.nsIn K mainGlobals "list" = some none)
    (z_min : PySem.W.nsIn K mainGlobals "min" = some none)
    (z_range : PySem.W.nsIn K mainGlobals "range" = some none)
    (z_set : PySem.W.nsIn K mainGlobals "set" = some none)
    (z_sorted : PySem.W.nsIn K mainGlobals "sorted" = some none)
    (z_str : PySem.W.nsIn K mainGlobals "str" = some none)
    (z_tuple : PySem.W.nsIn K mainGlobals "tuple" = some none)
    (z_zip : PySem.W.nsIn K mainGlobals "zip" = some none)
    (a__law_all_moves : PySem.W.nsIn K mainGlobals "_law_all_moves" = some (some (.ref x__law_all_moves)))
    (l__law_all_moves : K.lookup x__law_all_moves = some ⟨oc__law_all_moves, od__law_all_moves, .func (PySem.W.fnOf "_law_all_moves" "_law_all_moves" (defArgs t__law_all_moves) (defBody t__law_all_moves) (defScope t__law_all_moves) .none kV__law_all_moves dc__law_all_moves pm__law_all_moves an__law_all_moves cd__law_all_moves ct__law_all_moves), sl__law_all_moves⟩)
    (c__law_all_moves : PySem.W.codeIn K cd__law_all_moves "_law_all_moves" = true)
    (k__law_all_moves : PySem.W.keepIn K (.ref x__law_all_moves) = true)
    (a__law_back : PySem.W.nsIn K mainGlobals "_law_back" = some (some (.ref x__law_back)))
    (l__law_back : K.lookup x__law_back = some ⟨oc__law_back, od__law_back, .func (PySem.W.fnOf "_law_back" "_law_back" (defArgs t__law_back) (defBody t__law_back) (defScope t__law_back) .none kV__law_back dc__law_back pm__law_back an__law_back cd__law_back ct__law_back), sl__law_back⟩)
    (c__law_back : PySem.W.codeIn K cd__law_back "_law_back" = true)
    (k__law_back : PySem.W.keepIn K (.ref x__law_back) = true)
    (a__law_draw : PySem.W.nsIn K mainGlobals "_law_draw" = some (some (.ref x__law_draw)))
    (l__law_draw : K.lookup x__law_draw = some ⟨oc__law_draw, od__law_draw, .func (PySem.W.fnOf "_law_draw" "_law_draw" (defArgs t__law_draw) (defBody t__law_draw) (defScope t__law_draw) .none kV__law_draw dc__law_draw pm__law_draw an__law_draw cd__law_draw ct__law_draw), sl__law_draw⟩)
    (c__law_draw : PySem.W.codeIn K cd__law_draw "_law_draw" = true)
    (k__law_draw : PySem.W.keepIn K (.ref x__law_draw) = true)
    (a__law_moved : PySem.W.nsIn K mainGlobals "_law_moved" = some (some (.ref x__law_moved)))
    (l__law_moved : K.lookup x__law_moved = some ⟨oc__law_moved, od__law_moved, .func (PySem.W.fnOf "_law_moved" "_law_moved" (defArgs t__law_moved) (defBody t__law_moved) (defScope t__law_moved) .none kV__law_moved dc__law_moved pm__law_moved an__law_moved cd__law_moved ct__law_moved), sl__law_moved⟩)
    (c__law_moved : PySem.W.codeIn K cd__law_moved "_law_moved" = true)
    (k__law_moved : PySem.W.keepIn K (.ref x__law_moved) = true)
    (a__law_moves : PySem.W.nsIn K mainGlobals "_law_moves" = some (some (.ref x__law_moves)))
    (l__law_moves : K.lookup x__law_moves = some ⟨oc__law_moves, od__law_moves, .func (PySem.W.fnOf "_law_moves" "_law_moves" (defArgs t__law_moves) (defBody t__law_moves) (defScope t__law_moves) .none kV__law_moves dc__law_moves pm__law_moves an__law_moves cd__law_moves ct__law_moves), sl__law_moves⟩)
    (c__law_moves : PySem.W.codeIn K cd__law_moves "_law_moves" = true)
    (k__law_moves : PySem.W.keepIn K (.ref x__law_moves) = true)
    (a__law_pen : PySem.W.nsIn K mainGlobals "_law_pen" = some (some (.ref x__law_pen)))
    (l__law_pen : K.lookup x__law_pen = some ⟨oc__law_pen, od__law_pen, .func (PySem.W.fnOf "_law_pen" "_law_pen" (defArgs t__law_pen) (defBody t__law_pen) (defScope t__law_pen) .none kV__law_pen dc__law_pen pm__law_pen an__law_pen cd__law_pen ct__law_pen), sl__law_pen⟩)
    (c__law_pen : PySem.W.codeIn K cd__law_pen "_law_pen" = true)
    (k__law_pen : PySem.W.keepIn K (.ref x__law_pen) = true)
    (a__law_without : PySem.W.nsIn K mainGlobals "_law_without" = some (some (.ref x__law_without)))
    (l__law_without : K.lookup x__law_without = some ⟨oc__law_without, od__law_without, .func (PySem.W.fnOf "_law_without" "_law_without" (defArgs t__law_without) (defBody t__law_without) (defScope t__law_without) .none kV__law_without dc__law_without pm__law_without an__law_without cd__law_without ct__law_without), sl__law_without⟩)
    (c__law_without : PySem.W.codeIn K cd__law_without "_law_without" = true)
    (k__law_without : PySem.W.keepIn K (.ref x__law_without) = true)
    (a_filled : PySem.W.nsIn K mainGlobals "filled" = some (some (.ref x_filled)))
    (l_filled : K.lookup x_filled = some ⟨oc_filled, od_filled, .func (PySem.W.fnOf "filled" "filled" (defArgs t_filled) (defBody t_filled) (defScope t_filled) .none kV_filled dc_filled pm_filled an_filled cd_filled ct_filled), sl_filled⟩)
    (c_filled : PySem.W.codeIn K cd_filled "filled" = true)
    (k_filled : PySem.W.keepIn K (.ref x_filled) = true)
    (a_is_row : PySem.W.nsIn K mainGlobals "is_row" = some (some (.ref x_is_row)))
    (l_is_row : K.lookup x_is_row = some ⟨oc_is_row, od_is_row, .func (PySem.W.fnOf "is_row" "is_row" (defArgs t_is_row) (defBody t_is_row) (defScope t_is_row) .none kV_is_row dc_is_row pm_is_row an_is_row cd_is_row ct_is_row), sl_is_row⟩)
    (c_is_row : PySem.W.codeIn K cd_is_row "is_row" = true)
    (k_is_row : PySem.W.keepIn K (.ref x_is_row) = true)
    (a_is_whole : PySem.W.nsIn K mainGlobals "is_whole" = some (some (.ref x_is_whole)))
    (l_is_whole : K.lookup x_is_whole = some ⟨oc_is_whole, od_is_whole, .func (PySem.W.fnOf "is_whole" "is_whole" (defArgs t_is_whole) (defBody t_is_whole) (defScope t_is_whole) .none kV_is_whole dc_is_whole pm_is_whole an_is_whole cd_is_whole ct_is_whole), sl_is_whole⟩)
    (c_is_whole : PySem.W.codeIn K cd_is_whole "is_whole" = true)
    (k_is_whole : PySem.W.keepIn K (.ref x_is_whole) = true)
    (a_turn_of : PySem.W.nsIn K mainGlobals "turn_of" = some (some (.ref x_turn_of)))
    (l_turn_of : K.lookup x_turn_of = some ⟨oc_turn_of, od_turn_of, .func (PySem.W.fnOf "turn_of" "turn_of" (defArgs t_turn_of) (defBody t_turn_of) (defScope t_turn_of) .none kV_turn_of dc_turn_of pm_turn_of an_turn_of cd_turn_of ct_turn_of), sl_turn_of⟩)
    (c_turn_of : PySem.W.codeIn K cd_turn_of "turn_of" = true)
    (k_turn_of : PySem.W.keepIn K (.ref x_turn_of) = true)
    (a__law_drawn_ring : PySem.W.nsIn K mainGlobals "_law_drawn_ring" = some (some (.ref x__law_drawn_ring)))
    (l__law_drawn_ring : K.lookup x__law_drawn_ring = some ⟨oc__law_drawn_ring, od__law_drawn_ring, .func (PySem.W.fnOf "_law_drawn_ring" "_law_drawn_ring" (defArgs t__law_drawn_ring) (defBody t__law_drawn_ring) (defScope t__law_drawn_ring) .none kV__law_drawn_ring dc__law_drawn_ring pm__law_drawn_ring an__law_drawn_ring cd__law_drawn_ring ct__law_drawn_ring), sl__law_drawn_ring⟩)
    (c__law_drawn_ring : PySem.W.codeIn K cd__law_drawn_ring "_law_drawn_ring" = true)
    (k__law_drawn_ring : PySem.W.keepIn K (.ref x__law_drawn_ring) = true)
    (a__law_drawn_stand : PySem.W.nsIn K mainGlobals "_law_drawn_stand" = some (some (.ref x__law_drawn_stand)))
    (l__law_drawn_stand : K.lookup x__law_drawn_stand = some ⟨oc__law_drawn_stand, od__law_drawn_stand, .func (PySem.W.fnOf "_law_drawn_stand" "_law_drawn_stand" (defArgs t__law_drawn_stand) (defBody t__law_drawn_stand) (defScope t__law_drawn_stand) .none kV__law_drawn_stand dc__law_drawn_stand pm__law_drawn_stand an__law_drawn_stand cd__law_drawn_stand ct__law_drawn_stand), sl__law_drawn_stand⟩)
    (c__law_drawn_stand : PySem.W.codeIn K cd__law_drawn_stand "_law_drawn_stand" = true)
    (k__law_drawn_stand : PySem.W.keepIn K (.ref x__law_drawn_stand) = true)
    (a__law_pick : PySem.W.nsIn K mainGlobals "_law_pick" = some (some (.ref x__law_pick)))
    (l__law_pick : K.lookup x__law_pick = some ⟨oc__law_pick, od__law_pick, .func (PySem.W.fnOf "_law_pick" "_law_pick" (defArgs t__law_pick) (defBody t__law_pick) (defScope t__law_pick) .none kV__law_pick dc__law_pick pm__law_pick an__law_pick cd__law_pick ct__law_pick), sl__law_pick⟩)
    (c__law_pick : PySem.W.codeIn K cd__law_pick "_law_pick" = true)
    (k__law_pick : PySem.W.keepIn K (.ref x__law_pick) = true)
    (a__law_shuffled : PySem.W.nsIn K mainGlobals "_law_shuffled" = some (some (.ref x__law_shuffled)))
    (l__law_shuffled : K.lookup x__law_shuffled = some ⟨oc__law_shuffled, od__law_shuffled, .func (PySem.W.fnOf "_law_shuffled" "_law_shuffled" (defArgs t__law_shuffled) (defBody t__law_shuffled) (defScope t__law_shuffled) .none kV__law_shuffled dc__law_shuffled pm__law_shuffled an__law_shuffled cd__law_shuffled ct__law_shuffled), sl__law_shuffled⟩)
    (c__law_shuffled : PySem.W.codeIn K cd__law_shuffled "_law_shuffled" = true)
    (k__law_shuffled : PySem.W.keepIn K (.ref x__law_shuffled) = true)
    (a_carried : PySem.W.nsIn K mainGlobals "carried" = some (some (.ref x_carried)))
    (l_carried : K.lookup x_carried = some ⟨oc_carried, od_carried, .func (PySem.W.fnOf "carried" "carried" (defArgs t_carried) (defBody t_carried) (defScope t_carried) .none kV_carried dc_carried pm_carried an_carried cd_carried ct_carried), sl_carried⟩)
    (c_carried : PySem.W.codeIn K cd_carried "carried" = true)
    (k_carried : PySem.W.keepIn K (.ref x_carried) = true)
    (a_is_place : PySem.W.nsIn K mainGlobals "is_place" = some (some (.ref x_is_place)))
    (l_is_place : K.lookup x_is_place = some ⟨oc_is_place, od_is_place, .func (PySem.W.fnOf "is_place" "is_place" (defArgs t_is_place) (defBody t_is_place) (defScope t_is_place) .none kV_is_place dc_is_place pm_is_place an_is_place cd_is_place ct_is_place), sl_is_place⟩)
    (c_is_place : PySem.W.codeIn K cd_is_place "is_place" = true)
    (k_is_place : PySem.W.keepIn K (.ref x_is_place) = true)
    (a_is_stand : PySem.W.nsIn K mainGlobals "is_stand" = some (some (.ref x_is_stand)))
    (l_is_stand : K.lookup x_is_stand = some ⟨oc_is_stand, od_is_stand, .func (PySem.W.fnOf "is_stand" "is_stand" (defArgs t_is_stand) (defBody t_is_stand) (defScope t_is_stand) .none kV_is_stand dc_is_stand pm_is_stand an_is_stand cd_is_stand ct_is_stand), sl_is_stand⟩)
    (c_is_stand : PySem.W.codeIn K cd_is_stand "is_stand" = true)
    (k_is_stand : PySem.W.keepIn K (.ref x_is_stand) = true)
    (a__law_drawn_yard : PySem.W.nsIn K mainGlobals "_law_drawn_yard" = some (some (.ref x__law_drawn_yard)))
    (l__law_drawn_yard : K.lookup x__law_drawn_yard = some ⟨oc__law_drawn_yard, od__law_drawn_yard, .func (PySem.W.fnOf "_law_drawn_yard" "_law_drawn_yard" (defArgs t__law_drawn_yard) (defBody t__law_drawn_yard) (defScope t__law_drawn_yard) .none kV__law_drawn_yard dc__law_drawn_yard pm__law_drawn_yard an__law_drawn_yard cd__law_drawn_yard ct__law_drawn_yard), sl__law_drawn_yard⟩)
    (c__law_drawn_yard : PySem.W.codeIn K cd__law_drawn_yard "_law_drawn_yard" = true)
    (k__law_drawn_yard : PySem.W.keepIn K (.ref x__law_drawn_yard) = true)
    (a__law_some_moves : PySem.W.nsIn K mainGlobals "_law_some_moves" = some (some (.ref x__law_some_moves)))
    (l__law_some_moves : K.lookup x__law_some_moves = some ⟨oc__law_some_moves, od__law_some_moves, .func (PySem.W.fnOf "_law_some_moves" "_law_some_moves" (defArgs t__law_some_moves) (defBody t__law_some_moves) (defScope t__law_some_moves) .none kV__law_some_moves dc__law_some_moves pm__law_some_moves an__law_some_moves cd__law_some_moves ct__law_some_moves), sl__law_some_moves⟩)
    (c__law_some_moves : PySem.W.codeIn K cd__law_some_moves "_law_some_moves" = true)
    (k__law_some_moves : PySem.W.keepIn K (.ref x__law_some_moves) = true)
    (a_as_tie : PySem.W.nsIn K mainGlobals "as_tie" = some (some (.ref x_as_tie)))
    (l_as_tie : K.lookup x_as_tie = some ⟨oc_as_tie, od_as_tie, .func (PySem.W.fnOf "as_tie" "as_tie" (defArgs t_as_tie) (defBody t_as_tie) (defScope t_as_tie) .none kV_as_tie dc_as_tie pm_as_tie an_as_tie cd_as_tie ct_as_tie), sl_as_tie⟩)
    (c_as_tie : PySem.W.codeIn K cd_as_tie "as_tie" = true)
    (k_as_tie : PySem.W.keepIn K (.ref x_as_tie) = true)
    (a_is_ring : PySem.W.nsIn K mainGlobals "is_ring" = some (some (.ref x_is_ring)))
    (l_is_ring : K.lookup x_is_ring = some ⟨oc_is_ring, od_is_ring, .func (PySem.W.fnOf "is_ring" "is_ring" (defArgs t_is_ring) (defBody t_is_ring) (defScope t_is_ring) .none kV_is_ring dc_is_ring pm_is_ring an_is_ring cd_is_ring ct_is_ring), sl_is_ring⟩)
    (c_is_ring : PySem.W.codeIn K cd_is_ring "is_ring" = true)
    (k_is_ring : PySem.W.keepIn K (.ref x_is_ring) = true)
    (a_stand_told : PySem.W.nsIn K mainGlobals "stand_told" = some (some (.ref x_stand_told)))
    (l_stand_told : K.lookup x_stand_told = some ⟨oc_stand_told, od_stand_told, .func (PySem.W.fnOf "stand_told" "stand_told" (defArgs t_stand_told) (defBody t_stand_told) (defScope t_stand_told) .none kV_stand_told dc_stand_told pm_stand_told an_stand_told cd_stand_told ct_stand_told), sl_stand_told⟩)
    (c_stand_told : PySem.W.codeIn K cd_stand_told "stand_told" = true)
    (k_stand_told : PySem.W.keepIn K (.ref x_stand_told) = true)
    (a__law_some_yard : PySem.W.nsIn K mainGlobals "_law_some_yard" = some (some (.ref x__law_some_yard)))
    (l__law_some_yard : K.lookup x__law_some_yard = some ⟨oc__law_some_yard, od__law_some_yard, .func (PySem.W.fnOf "_law_some_yard" "_law_some_yard" (defArgs t__law_some_yard) (defBody t__law_some_yard) (defScope t__law_some_yard) .none kV__law_some_yard dc__law_some_yard pm__law_some_yard an__law_some_yard cd__law_some_yard ct__law_some_yard), sl__law_some_yard⟩)
    (c__law_some_yard : PySem.W.codeIn K cd__law_some_yard "_law_some_yard" = true)
    (k__law_some_yard : PySem.W.keepIn K (.ref x__law_some_yard) = true)
    (a_as_move : PySem.W.nsIn K mainGlobals "as_move" = some (some (.ref x_as_move)))
    (l_as_move : K.lookup x_as_move = some ⟨oc_as_move, od_as_move, .func (PySem.W.fnOf "as_move" "as_move" (defArgs t_as_move) (defBody t_as_move) (defScope t_as_move) .none kV_as_move dc_as_move pm_as_move an_as_move cd_as_move ct_as_move), sl_as_move⟩)
    (c_as_move : PySem.W.codeIn K cd_as_move "as_move" = true)
    (k_as_move : PySem.W.keepIn K (.ref x_as_move) = true)
    (a_rings_told : PySem.W.nsIn K mainGlobals "rings_told" = some (some (.ref x_rings_told)))
    (l_rings_told : K.lookup x_rings_told = some ⟨oc_rings_told, od_rings_told, .func (PySem.W.fnOf "rings_told" "rings_told" (defArgs t_rings_told) (defBody t_rings_told) (defScope t_rings_told) .none kV_rings_told dc_rings_told pm_rings_told an_rings_told cd_rings_told ct_rings_told), sl_rings_told⟩)
    (c_rings_told : PySem.W.codeIn K cd_rings_told "rings_told" = true)
    (k_rings_told : PySem.W.keepIn K (.ref x_rings_told) = true)
    (a_ties_told : PySem.W.nsIn K mainGlobals "ties_told" = some (some (.ref x_ties_told)))
    (l_ties_told : K.lookup x_ties_told = some ⟨oc_ties_told, od_ties_told, .func (PySem.W.fnOf "ties_told" "ties_told" (defArgs t_ties_told) (defBody t_ties_told) (defScope t_ties_told) .none kV_ties_told dc_ties_told pm_ties_told an_ties_told cd_ties_told ct_ties_told), sl_ties_told⟩)
    (c_ties_told : PySem.W.codeIn K cd_ties_told "ties_told" = true)
    (k_ties_told : PySem.W.keepIn K (.ref x_ties_told) = true)
    (a_Yard_init : PySem.W.findIn K (.ref C_Yard) "__init__" = some (some (.ref x_Yard_init)))
    (i_Yard_init : PySem.W.isFn K (.ref x_Yard_init) = true)
    (l_Yard_init : K.lookup x_Yard_init = some ⟨oc_Yard_init, od_Yard_init, .func (PySem.W.fnOf "__init__" "Yard.__init__" (defArgs t_Yard_init) (defBody t_Yard_init) (defScope t_Yard_init) .none kV_Yard_init dc_Yard_init pm_Yard_init an_Yard_init cd_Yard_init ct_Yard_init), sl_Yard_init⟩)
    (c_Yard_init : PySem.W.codeIn K cd_Yard_init "Yard.__init__" = true)
    (k_Yard_init : PySem.W.keepIn K (.ref x_Yard_init) = true)
    (a__law_listed : PySem.W.nsIn K mainGlobals "_law_listed" = some (some (.ref x__law_listed)))
    (l__law_listed : K.lookup x__law_listed = some ⟨oc__law_listed, od__law_listed, .func (PySem.W.fnOf "_law_listed" "_law_listed" (defArgs t__law_listed) (defBody t__law_listed) (defScope t__law_listed) .none kV__law_listed dc__law_listed pm__law_listed an__law_listed cd__law_listed ct__law_listed), sl__law_listed⟩)
    (c__law_listed : PySem.W.codeIn K cd__law_listed "_law_listed" = true)
    (k__law_listed : PySem.W.keepIn K (.ref x__law_listed) = true)
    (a_carried_all : PySem.W.nsIn K mainGlobals "carried_all" = some (some (.ref x_carried_all)))
    (l_carried_all : K.lookup x_carried_all = some ⟨oc_carried_all, od_carried_all, .func (PySem.W.fnOf "carried_all" "carried_all" (defArgs t_carried_all) (defBody t_carried_all) (defScope t_carried_all) .none kV_carried_all dc_carried_all pm_carried_all an_carried_all cd_carried_all ct_carried_all), sl_carried_all⟩)
    (c_carried_all : PySem.W.codeIn K cd_carried_all "carried_all" = true)
    (k_carried_all : PySem.W.keepIn K (.ref x_carried_all) = true)
    (a_taken_back : PySem.W.nsIn K mainGlobals "taken_back" = some (some (.ref x_taken_back)))
    (l_taken_back : K.lookup x_taken_back = some ⟨oc_taken_back, od_taken_back, .func (PySem.W.fnOf "taken_back" "taken_back" (defArgs t_taken_back) (defBody t_taken_back) (defScope t_taken_back) .none kV_taken_back dc_taken_back pm_taken_back an_taken_back cd_taken_back ct_taken_back), sl_taken_back⟩)
    (c_taken_back : PySem.W.codeIn K cd_taken_back "taken_back" = true)
    (k_taken_back : PySem.W.keepIn K (.ref x_taken_back) = true)
    (a_played : PySem.W.nsIn K mainGlobals "played" = some (some (.ref x_played)))
    (l_played : K.lookup x_played = some ⟨oc_played, od_played, .func (PySem.W.fnOf "played" "played" (defArgs t_played) (defBody t_played) (defScope t_played) .none kV_played dc_played pm_played an_played cd_played ct_played), sl_played⟩)
    (c_played : PySem.W.codeIn K cd_played "played" = true)
    (k_played : PySem.W.keepIn K (.ref x_played) = true)
    (a__law_made_yard : PySem.W.nsIn K mainGlobals "_law_made_yard" = some (some (.ref x__law_made_yard)))
    (l__law_made_yard : K.lookup x__law_made_yard = some ⟨oc__law_made_yard, od__law_made_yard, .func (PySem.W.fnOf "_law_made_yard" "_law_made_yard" (defArgs t__law_made_yard) (defBody t__law_made_yard) (defScope t__law_made_yard) .none kV__law_made_yard dc__law_made_yard pm__law_made_yard an__law_made_yard cd__law_made_yard ct__law_made_yard), sl__law_made_yard⟩)
    (c__law_made_yard : PySem.W.codeIn K cd__law_made_yard "_law_made_yard" = true)
    (k__law_made_yard : PySem.W.keepIn K (.ref x__law_made_yard) = true)
    (a_law : PySem.W.nsIn K mainGlobals "law" = some (some (.ref x_law)))
    (l_law : K.lookup x_law = some ⟨oc_law, od_law, .func (PySem.W.fnOf "law" "law" (defArgs t_law) (defBody t_law) (defScope t_law) .none kV_law dc_law pm_law an_law cd_law ct_law), sl_law⟩)
    (c_law : PySem.W.codeIn K cd_law "law" = true)
    (k_law : PySem.W.keepIn K (.ref x_law) = true)
    : ∃ fd : FuncData, (∀ (s : Shared) (v : Value), BindsTo s fd ⟨[v], []⟩ [("_law_script", v)]) ∧ ∀ base : Heap, K.In base → base.Ns mainGlobals mg → FnOk l.prog w K mg base (L2.CX l.prog w) 8 fa fd ["_law_script"] (spTrue K) := by
  have e := hfa.symm.trans (PySem.W.mg_of X G a_law)
  cases e
  let cl : String → Option Addr := fun c => if c = "Yard" then some C_Yard else none
  have B : Gb K mg cl := ⟨PySem.W.mg_none_of X G z_all, PySem.W.mg_none_of X G z_any, PySem.W.mg_none_of X G z_bool, PySem.W.mg_none_of X G z_dict, PySem.W.mg_none_of X G z_enumerate, PySem.W.mg_none_of X G z_int, PySem.W.mg_none_of X G z_isinstance, PySem.W.mg_none_of X G z_len, PySem.W.mg_none_of X G z_list, PySem.W.mg_none_of X G z_min, PySem.W.mg_none_of X G z_range, PySem.W.mg_none_of X G z_set, PySem.W.mg_none_of X G z_sorted, PySem.W.mg_none_of X G z_str, PySem.W.mg_none_of X G z_tuple, PySem.W.mg_none_of X G z_zip, ⟨⟨C_Yard, by simp [cl], ⟨pg_Yard, hd_Yard, po_Yard, sa_Yard⟩, n_Yard_places⟩⟩, ⟨⟨C_Yard, by simp [cl], ⟨pg_Yard, hd_Yard, po_Yard, sa_Yard⟩, n_Yard_rings⟩⟩, ⟨⟨C_Yard, by simp [cl], ⟨pg_Yard, hd_Yard, po_Yard, sa_Yard⟩, n_Yard_ties⟩⟩⟩
  have F__law_all_moves := fun_mk (st := t__law_all_moves) l__law_all_moves c__law_all_moves k__law_all_moves
  have b__law_all_moves := F__law_all_moves.binds (ps := ["_law_yard"]) fun _ _ _ _ _ _ us hl => match us, hl with | [_], _ => rfl
  have O__law_all_moves := fun base : Heap => K06.k__law_all_moves (P := l.prog) (w := w) (base := base) F__law_all_moves B
  have C__law_all_moves : ∀ base : Heap, Callee l.prog w K mg base cl "_law_all_moves" 1 1 s__law_all_moves := fun base => callee_of (O__law_all_moves base) (PySem.W.mg_of X G a__law_all_moves) k__law_all_moves b__law_all_moves
  have F__law_back := fun_mk (st := t__law_back) l__law_back c__law_back k__law_back
  have b__law_back := F__law_back.binds (ps := ["_law_yard", "_law_moves_here"]) fun _ _ _ _ _ _ us hl => match us, hl with | [_, _], _ => rfl
  have O__law_back := fun base : Heap => K06.k__law_back (P := l.prog) (w := w) (base := base) F__law_back B
  have C__law_back : ∀ base : Heap, Callee l.prog w K mg base cl "_law_back" 1 2 s__law_back := fun base => callee_of (O__law_back base) (PySem.W.mg_of X G a__law_back) k__law_back b__law_back
  have F__law_draw := fun_mk (st := t__law_draw) l__law_draw c__law_draw k__law_draw
  have b__law_draw := F__law_draw.binds (ps := ["_law_pen_here", "_law_many"]) fun _ _ _ _ _ _ us hl => match us, hl with | [_, _], _ => rfl
  have O__law_draw := fun base : Heap => K06.k__law_draw (P := l.prog) (w := w) (base := base) F__law_draw B
  have C__law_draw : ∀ base : Heap, Callee l.prog w K mg base cl "_law_draw" 1 2 s__law_draw := fun base => callee_of (O__law_draw base) (PySem.W.mg_of X G a__law_draw) k__law_draw b__law_draw
  have F__law_moved := fun_mk (st := t__law_moved) l__law_moved c__law_moved k__law_moved
  have b__law_moved := F__law_moved.binds (ps := ["_law_yard", "_law_stand", "_law_move"]) fun _ _ _ _ _ _ us hl => match us, hl with | [_, _, _], _ => rfl
  have O__law_moved := fun base : Heap => K06.k__law_moved (P := l.prog) (w := w) (base := base) F__law_moved B
  have C__law_moved : ∀ base : Heap, Callee l.prog w K mg base cl "_law_moved" 1 3 s__law_moved := fun base => callee_of (O__law_moved base) (PySem.W.mg_of X G a__law_moved) k__law_moved b__law_moved
  have F__law_moves := fun_mk (st := t__law_moves) l__law_moves c__law_moves k__law_moves
  have b__law_moves := F__law_moves.binds (ps := ["_law_yard", "_law_stand"]) fun _ _ _ _ _ _ us hl => match us, hl with | [_, _], _ => rfl
  have O__law_moves := fun base : Heap => K06.k__law_moves (P := l.prog) (w := w) (base := base) F__law_moves B
  have C__law_moves : ∀ base : Heap, Callee l.prog w K mg base cl "_law_moves" 1 2 s__law_moves := fun base => callee_of (O__law_moves base) (PySem.W.mg_of X G a__law_moves) k__law_moves b__law_moves
  have F__law_pen := fun_mk (st := t__law_pen) l__law_pen c__law_pen k__law_pen
  have b__law_pen := F__law_pen.binds (ps := ["_law_script"]) fun _ _ _ _ _ _ us hl => match us, hl with | [_], _ => rfl
  have O__law_pen := fun base : Heap => K06.k__law_pen (P := l.prog) (w := w) (base := base) F__law_pen B
  have C__law_pen : ∀ base : Heap, Callee l.prog w K mg base cl "_law_pen" 1 1 s__law_pen := fun base => callee_of (O__law_pen base) (PySem.W.mg_of X G a__law_pen) k__law_pen b__law_pen
  have F__law_without := fun_mk (st := t__law_without) l__law_without c__law_without k__law_without
  have b__law_without := F__law_without.binds (ps := ["_law_pairs", "_law_gone"]) fun _ _ _ _ _ _ us hl => match us, hl with | [_, _], _ => rfl
  have O__law_without := fun base : Heap => K06.k__law_without (P := l.prog) (w := w) (base := base) F__law_without B
  have C__law_without : ∀ base : Heap, Callee l.prog w K mg base cl "_law_without" 1 2 s__law_without := fun base => callee_of (O__law_without base) (PySem.W.mg_of X G a__law_without) k__law_without b__law_without
  have F_filled := fun_mk (st := t_filled) l_filled c_filled k_filled
  have b_filled := F_filled.binds (ps := ["stand"]) fun _ _ _ _ _ _ us hl => match us, hl with | [_], _ => rfl
  have O_filled := fun base : Heap => K06.k_filled (P := l.prog) (w := w) (base := base) F_filled B
  have C_filled : ∀ base : Heap, Callee l.prog w K mg base cl "filled" 1 1 s_filled := fun base => callee_of (O_filled base) (PySem.W.mg_of X G a_filled) k_filled b_filled
  have F_is_row := fun_mk (st := t_is_row) l_is_row c_is_row k_is_row
  have b_is_row := F_is_row.binds (ps := ["value"]) fun _ _ _ _ _ _ us hl => match us, hl with | [_], _ => rfl
  have O_is_row := fun base : Heap => K06.k_is_row (P := l.prog) (w := w) (base := base) F_is_row B
  have C_is_row : ∀ base : Heap, Callee l.prog w K mg base cl "is_row" 1 1 s_is_row := fun base => callee_of (O_is_row base) (PySem.W.mg_of X G a_is_row) k_is_row b_is_row
  have F_is_whole := fun_mk (st := t_is_whole) l_is_whole c_is_whole k_is_whole
  have b_is_whole := F_is_whole.binds (ps := ["value"]) fun _ _ _ _ _ _ us hl => match us, hl with | [_], _ => rfl
  have O_is_whole := fun base : Heap => K06.k_is_whole (P := l.prog) (w := w) (base := base) F_is_whole B
  have C_is_whole : ∀ base : Heap, Callee l.prog w K mg base cl "is_whole" 1 1 s_is_whole := fun base => callee_of (O_is_whole base) (PySem.W.mg_of X G a_is_whole) k_is_whole b_is_whole
  have F_turn_of := fun_mk (st := t_turn_of) l_turn_of c_turn_of k_turn_of
  have b_turn_of := F_turn_of.binds (ps := ["ring"]) fun _ _ _ _ _ _ us hl => match us, hl with | [_], _ => rfl
  have O_turn_of := fun base : Heap => K06.k_turn_of (P := l.prog) (w := w) (base := base) F_turn_of B
  have C_turn_of : ∀ base : Heap, Callee l.prog w K mg base cl "turn_of" 1 1 s_turn_of := fun base => callee_of (O_turn_of base) (PySem.W.mg_of X G a_turn_of) k_turn_of b_turn_of
  have F__law_drawn_ring := fun_mk (st := t__law_drawn_ring) l__law_drawn_ring c__law_drawn_ring k__law_drawn_ring
  have b__law_drawn_ring := F__law_drawn_ring.binds (ps := ["_law_pen_here", "_law_places"]) fun _ _ _ _ _ _ us hl => match us, hl with | [_, _], _ => rfl
  have O__law_drawn_ring := fun base : Heap => K06.k__law_drawn_ring (P := l.prog) (w := w) (base := base) F__law_drawn_ring B (C__law_draw base)
  have C__law_drawn_ring : ∀ base : Heap, Callee l.prog w K mg base cl "_law_drawn_ring" 2 2 s__law_drawn_ring := fun base => callee_of (O__law_drawn_ring base) (PySem.W.mg_of X G a__law_drawn_ring) k__law_drawn_ring b__law_drawn_ring
  have F__law_drawn_stand := fun_mk (st := t__law_drawn_stand) l__law_drawn_stand c__law_drawn_stand k__law_drawn_stand
  have b__law_drawn_stand := F__law_drawn_stand.binds (ps := ["_law_pen_here", "_law_places", "_law_holes", "_law_kinds"]) fun _ _ _ _ _ _ us hl => match us, hl with | [_, _, _, _], _ => rfl
  have O__law_drawn_stand := fun base : Heap => K06.k__law_drawn_stand (P := l.prog) (w := w) (base := base) F__law_drawn_stand B (C__law_draw base)
  have C__law_drawn_stand : ∀ base : Heap, Callee l.prog w K mg base cl "_law_drawn_stand" 2 4 s__law_drawn_stand := fun base => callee_of (O__law_drawn_stand base) (PySem.W.mg_of X G a__law_drawn_stand) k__law_drawn_stand b__law_drawn_stand
  have F__law_pick := fun_mk (st := t__law_pick) l__law_pick c__law_pick k__law_pick
  have b__law_pick := F__law_pick.binds (ps := ["_law_pen_here", "_law_some"]) fun _ _ _ _ _ _ us hl => match us, hl with | [_, _], _ => rfl
  have O__law_pick := fun base : Heap => K06.k__law_pick (P := l.prog) (w := w) (base := base) F__law_pick B (C__law_draw base)
  have C__law_pick : ∀ base : Heap, Callee l.prog w K mg base cl "_law_pick" 2 2 s__law_pick := fun base => callee_of (O__law_pick base) (PySem.W.mg_of X G a__law_pick) k__law_pick b__law_pick
  have F__law_shuffled := fun_mk (st := t__law_shuffled) l__law_shuffled c__law_shuffled k__law_shuffled
  have b__law_shuffled := F__law_shuffled.binds (ps := ["_law_pen_here", "_law_some"]) fun _ _ _ _ _ _ us hl => match us, hl with | [_, _], _ => rfl
  have O__law_shuffled := fun base : Heap => K06.k__law_shuffled (P := l.prog) (w := w) (base := base) F__law_shuffled B (C__law_draw base)
  have C__law_shuffled : ∀ base : Heap, Callee l.prog w K mg base cl "_law_shuffled" 2 2 s__law_shuffled := fun base => callee_of (O__law_shuffled base) (PySem.W.mg_of X G a__law_shuffled) k__law_shuffled b__law_shuffled
  have F_carried := fun_mk (st := t_carried) l_carried c_carried k_carried
  have b_carried := F_carried.binds (ps := ["yard", "at", "move"]) fun _ _ _ _ _ _ us hl => match us, hl with | [_, _, _], _ => rfl
  have O_carried := fun base : Heap => K06.k_carried (P := l.prog) (w := w) (base := base) F_carried B (C_turn_of base)
  have C_carried : ∀ base : Heap, Callee l.prog w K mg base cl "carried" 2 3 s_carried := fun base => callee_of (O_carried base) (PySem.W.mg_of X G a_carried) k_carried b_carried
  have F_is_place := fun_mk (st := t_is_place) l_is_place c_is_place k_is_place
  have b_is_place := F_is_place.binds (ps := ["value", "places"]) fun _ _ _ _ _ _ us hl => match us, hl with | [_, _], _ => rfl
  have O_is_place := fun base : Heap => K06.k_is_place (P := l.prog) (w := w) (base := base) F_is_place B (C_is_whole base)
  have C_is_place : ∀ base : Heap, Callee l.prog w K mg base cl "is_place" 2 2 s_is_place := fun base => callee_of (O_is_place base) (PySem.W.mg_of X G a_is_place) k_is_place b_is_place
  have F_is_stand := fun_mk (st := t_is_stand) l_is_stand c_is_stand k_is_stand
  have b_is_stand := F_is_stand.binds (ps := ["yard", "value"]) fun _ _ _ _ _ _ us hl => match us, hl with | [_, _], _ => rfl
  have O_is_stand := fun base : Heap => K06.k_is_stand (P := l.prog) (w := w) (base := base) F_is_stand B (C_is_whole base)
  have C_is_stand : ∀ base : Heap, Callee l.prog w K mg base cl "is_stand" 2 2 s_is_stand := fun base => callee_of (O_is_stand base) (PySem.W.mg_of X G a_is_stand) k_is_stand b_is_stand
  have F__law_drawn_yard := fun_mk (st := t__law_drawn_yard) l__law_drawn_yard c__law_drawn_yard k__law_drawn_yard
  have b__law_drawn_yard := F__law_drawn_yard.binds (ps := ["_law_pen_here", "_law_most", "_law_ways", "_law_rings"]) fun _ _ _ _ _ _ us hl => match us, hl with | [_, _, _, _], _ => rfl
  have O__law_drawn_yard := fun base : Heap => K06.k__law_drawn_yard (P := l.prog) (w := w) (base := base) F__law_drawn_yard B (C__law_draw base) (C__law_drawn_ring base) (C__law_pick base) (C__law_without base)
  have C__law_drawn_yard : ∀ base : Heap, Callee l.prog w K mg base cl "_law_drawn_yard" 3 4 s__law_drawn_yard := fun base => callee_of (O__law_drawn_yard base) (PySem.W.mg_of X G a__law_drawn_yard) k__law_drawn_yard b__law_drawn_yard
  have F__law_some_moves := fun_mk (st := t__law_some_moves) l__law_some_moves c__law_some_moves k__law_some_moves
  have b__law_some_moves := F__law_some_moves.binds (ps := ["_law_pen_here", "_law_yard", "_law_stand", "_law_most"]) fun _ _ _ _ _ _ us hl => match us, hl with | [_, _, _, _], _ => rfl
  have O__law_some_moves := fun base : Heap => K06.k__law_some_moves (P := l.prog) (w := w) (base := base) F__law_some_moves B (C__law_draw base) (C__law_moved base) (C__law_moves base) (C__law_pick base)
  have C__law_some_moves : ∀ base : Heap, Callee l.prog w K mg base cl "_law_some_moves" 3 4 s__law_some_moves := fun base => callee_of (O__law_some_moves base) (PySem.W.mg_of X G a__law_some_moves) k__law_some_moves b__law_some_moves
  have F_as_tie := fun_mk (st := t_as_tie) l_as_tie c_as_tie k_as_tie
  have b_as_tie := F_as_tie.binds (ps := ["value", "places"]) fun _ _ _ _ _ _ us hl => match us, hl with | [_, _], _ => rfl
  have O_as_tie := fun base : Heap => K06.k_as_tie (P := l.prog) (w := w) (base := base) F_as_tie B (C_is_place base) (C_is_row base)
  have C_as_tie : ∀ base : Heap, Callee l.prog w K mg base cl "as_tie" 3 2 s_as_tie := fun base => callee_of (O_as_tie base) (PySem.W.mg_of X G a_as_tie) k_as_tie b_as_tie
  have F_is_ring := fun_mk (st := t_is_ring) l_is_ring c_is_ring k_is_ring
  have b_is_ring := F_is_ring.binds (ps := ["value", "places"]) fun _ _ _ _ _ _ us hl => match us, hl with | [_, _], _ => rfl
  have O_is_ring := fun base : Heap => K06.k_is_ring (P := l.prog) (w := w) (base := base) F_is_ring B (C_is_place base) (C_is_row base)
  have C_is_ring : ∀ base : Heap, Callee l.prog w K mg base cl "is_ring" 3 2 s_is_ring := fun base => callee_of (O_is_ring base) (PySem.W.mg_of X G a_is_ring) k_is_ring b_is_ring
  have F_stand_told := fun_mk (st := t_stand_told) l_stand_told c_stand_told k_stand_told
  have b_stand_told := F_stand_told.binds (ps := ["yard", "stand"]) fun _ _ _ _ _ _ us hl => match us, hl with | [_, _], _ => rfl
  have O_stand_told := fun base : Heap => K06.k_stand_told (P := l.prog) (w := w) (base := base) F_stand_told B (C_is_row base) (C_is_stand base)
  have C_stand_told : ∀ base : Heap, Callee l.prog w K mg base cl "stand_told" 3 2 s_stand_told := fun base => callee_of (O_stand_told base) (PySem.W.mg_of X G a_stand_told) k_stand_told b_stand_told
  have F__law_some_yard := fun_mk (st := t__law_some_yard) l__law_some_yard c__law_some_yard k__law_some_yard
  have b__law_some_yard := F__law_some_yard.binds (ps := ["_law_pen_here", "_law_most"]) fun _ _ _ _ _ _ us hl => match us, hl with | [_, _], _ => rfl
  have O__law_some_yard := fun base : Heap => K06.k__law_some_yard (P := l.prog) (w := w) (base := base) F__law_some_yard B (C__law_draw base) (C__law_drawn_yard base)
  have C__law_some_yard : ∀ base : Heap, Callee l.prog w K mg base cl "_law_some_yard" 4 2 s__law_some_yard := fun base => callee_of (O__law_some_yard base) (PySem.W.mg_of X G a__law_some_yard) k__law_some_yard b__law_some_yard
  have F_as_move := fun_mk (st := t_as_move) l_as_move c_as_move k_as_move
  have b_as_move := F_as_move.binds (ps := ["yard", "value"]) fun _ _ _ _ _ _ us hl => match us, hl with | [_, _], _ => rfl
  have O_as_move := fun base : Heap => K06.k_as_move (P := l.prog) (w := w) (base := base) F_as_move B (C_as_tie base) (C_is_place base)
  have C_as_move : ∀ base : Heap, Callee l.prog w K mg base cl "as_move" 4 2 s_as_move := fun base => callee_of (O_as_move base) (PySem.W.mg_of X G a_as_move) k_as_move b_as_move
  have F_rings_told := fun_mk (st := t_rings_told) l_rings_told c_rings_told k_rings_told
  have b_rings_told := F_rings_told.binds (ps := ["rings", "places"]) fun _ _ _ _ _ _ us hl => match us, hl with | [_, _], _ => rfl
  have O_rings_told := fun base : Heap => K06.k_rings_told (P := l.prog) (w := w) (base := base) F_rings_told B (C_is_ring base) (C_is_row base)
  have C_rings_told : ∀ base : Heap, Callee l.prog w K mg base cl "rings_told" 4 2 s_rings_told := fun base => callee_of (O_rings_told base) (PySem.W.mg_of X G a_rings_told) k_rings_told b_rings_told
  have F_ties_told := fun_mk (st := t_ties_told) l_ties_told c_ties_told k_ties_told
  have b_ties_told := F_ties_told.binds (ps := ["ties", "places"]) fun _ _ _ _ _ _ us hl => match us, hl with | [_, _], _ => rfl
  have O_ties_told := fun base : Heap => K06.k_ties_told (P := l.prog) (w := w) (base := base) F_ties_told B (C_as_tie base) (C_is_row base)
  have C_ties_told : ∀ base : Heap, Callee l.prog w K mg base cl "ties_told" 4 2 s_ties_told := fun base => callee_of (O_ties_told base) (PySem.W.mg_of X G a_ties_told) k_ties_told b_ties_told
  have F_Yard_init := fun_mk (st := t_Yard_init) l_Yard_init c_Yard_init k_Yard_init
  have b_Yard_init := F_Yard_init.binds (ps := ["self", "places", "ties", "rings"]) fun _ _ _ _ _ _ us hl => match us, hl with | [_, _, _, _], _ => rfl
  have O_Yard_init := fun base : Heap => K06.k_Yard_init (P := l.prog) (w := w) (base := base) F_Yard_init B (C_is_whole base) (C_rings_told base) (C_ties_told base)
  have M_Yard : ∀ base : Heap, Maker l.prog w K mg base cl "Yard" "Yard" 5 3 s_Yard_init := fun base => maker_of ⟨mk_Yard, a_Yard_init, i_Yard_init, kc_Yard⟩ (O_Yard_init base) (PySem.W.mg_of X G aC_Yard) (by simp [cl]) b_Yard_init
  have F__law_listed := fun_mk (st := t__law_listed) l__law_listed c__law_listed k__law_listed
  have b__law_listed := F__law_listed.binds (ps := ["_law_pen_here", "_law_some"]) fun _ _ _ _ _ _ us hl => match us, hl with | [_, _], _ => rfl
  have O__law_listed := fun base : Heap => K06.k__law_listed (P := l.prog) (w := w) (base := base) F__law_listed B (C__law_draw base) (PySem.W.mg_of X G a__law_listed) k__law_listed b__law_listed 4
  have C__law_listed : ∀ base : Heap, Callee l.prog w K mg base cl "_law_listed" 5 2 (s__law_listed 4) := fun base => callee_of (O__law_listed base) (PySem.W.mg_of X G a__law_listed) k__law_listed b__law_listed
  have F_carried_all := fun_mk (st := t_carried_all) l_carried_all c_carried_all k_carried_all
  have b_carried_all := F_carried_all.binds (ps := ["yard", "at", "moves"]) fun _ _ _ _ _ _ us hl => match us, hl with | [_, _, _], _ => rfl
  have O_carried_all := fun base : Heap => K06.k_carried_all (P := l.prog) (w := w) (base := base) F_carried_all B (C_as_move base) (C_carried base)
  have C_carried_all : ∀ base : Heap, Callee l.prog w K mg base cl "carried_all" 5 3 s_carried_all := fun base => callee_of (O_carried_all base) (PySem.W.mg_of X G a_carried_all) k_carried_all b_carried_all
  have F_taken_back := fun_mk (st := t_taken_back) l_taken_back c_taken_back k_taken_back
  have b_taken_back := F_taken_back.binds (ps := ["yard", "moves"]) fun _ _ _ _ _ _ us hl => match us, hl with | [_, _], _ => rfl
  have O_taken_back := fun base : Heap => K06.k_taken_back (P := l.prog) (w := w) (base := base) F_taken_back B (C_as_move base)
  have C_taken_back : ∀ base : Heap, Callee l.prog w K mg base cl "taken_back" 5 2 s_taken_back := fun base => callee_of (O_taken_back base) (PySem.W.mg_of X G a_taken_back) k_taken_back b_taken_back
  have F_played := fun_mk (st := t_played) l_played c_played k_played
  have b_played := F_played.binds (ps := ["yard", "stand", "moves"]) fun _ _ _ _ _ _ us hl => match us, hl with | [_, _, _], _ => rfl
  have O_played := fun base : Heap => K06.k_played (P := l.prog) (w := w) (base := base) F_played B (C_carried_all base) (C_filled base) (C_stand_told base)
  have C_played : ∀ base : Heap, Callee l.prog w K mg base cl "played" 6 3 s_played := fun base => callee_of (O_played base) (PySem.W.mg_of X G a_played) k_played b_played
  have F__law_made_yard := fun_mk (st := t__law_made_yard) l__law_made_yard c__law_made_yard k__law_made_yard
  have b__law_made_yard := F__law_made_yard.binds (ps := ["_law_pen_here", "_law_yard"]) fun _ _ _ _ _ _ us hl => match us, hl with | [_, _], _ => rfl
  have O__law_made_yard := fun base : Heap => K06.k__law_made_yard (P := l.prog) (w := w) (base := base) F__law_made_yard B (M_Yard base) (C__law_listed base) (C__law_shuffled base)
  have C__law_made_yard : ∀ base : Heap, Callee l.prog w K mg base cl "_law_made_yard" 7 2 s__law_made_yard := fun base => callee_of (O__law_made_yard base) (PySem.W.mg_of X G a__law_made_yard) k__law_made_yard b__law_made_yard
  have F_law := fun_mk (st := t_law) l_law c_law k_law
  have b_law := F_law.binds (ps := ["_law_script"]) fun _ _ _ _ _ _ us hl => match us, hl with | [_], _ => rfl
  have O_law := fun base : Heap => K06.k_law (P := l.prog) (w := w) (base := base) F_law B (C__law_all_moves base) (C__law_back base) (C__law_draw base) (C__law_drawn_stand base) (C__law_made_yard base) (C__law_pen base) (C__law_pick base) (C__law_some_moves base) (C__law_some_yard base) (C_played base) (C_taken_back base)
  exact ⟨_, fun s v => .of_eq rfl, fun base _ _ => (O_law base).imp (sp_true law_true)⟩
end K06
open PySem PySem.W PyProof.Rows
set_option maxRecDepth 100000 in
set_option maxHeartbeats 0 in
theorem PySem.Challenge.cw_slideyards_k06_whole_moves_taken_back_holds : PySem.Challenge.rw_slideyards_k06_whole_moves_taken_back.Holds := by
  w_on; o_law; k_head; (case hw => w_witness2)
  k_fill
  refine PV.walk63 (l := PySem.Challenge.rw_slideyards_k06_whole_moves_taken_back) (k := 8) (x := "_law_script") rfl rfl ⟨rfl, by decide, by decide⟩ (fun w h Y => PySem.W.kIn_of Y) ?F
  case F =>
    intro w mg fa h KX G hmg
    refine' K06.all_mk KX G hmg ?aC_Yard ?pg_Yard ?hd_Yard ?po_Yard ?sa_Yard ?mk_Yard ?kc_Yard ?n_Yard_places ?n_Yard_rings ?n_Yard_ties ?z_all ?z_any ?z_bool ?z_dict ?z_enumerate ?z_int ?z_isinstance ?z_len ?z_list ?z_min ?z_range ?z_set ?z_sorted ?z_str ?z_tuple ?z_zip ?a__law_all_moves ?l__law_all_moves ?c__law_all_moves ?k__law_all_moves ?a__law_back ?l__law_back ?c__law_back ?k__law_back ?a__law_draw ?l__law_draw ?c__law_draw ?k__law_draw ?a__law_moved ?l__law_moved ?c__law_moved ?k__law_moved ?a__law_moves ?l__law_moves ?c__law_moves ?k__law_moves ?a__law_pen ?l__law_pen ?c__law_pen ?k__law_pen ?a__law_without ?l__law_without ?c__law_without ?k__law_without ?a_filled ?l_filled ?c_filled ?k_filled ?a_is_row ?l_is_row ?c_is_row ?k_is_row ?a_is_whole ?l_is_whole ?c_is_whole ?k_is_whole ?a_turn_of ?l_turn_of ?c_turn_of ?k_turn_of ?a__law_drawn_ring ?l__law_drawn_ring ?c__law_drawn_ring ?k__law_drawn_ring ?a__law_drawn_stand ?l__law_drawn_stand ?c__law_drawn_stand ?k__law_drawn_stand ?a__law_pick ?l__law_pick ?c__law_pick ?k__law_pick ?a__law_shuffled ?l__law_shuffled ?c__law_shuffled ?k__law_shuffled ?a_carried ?l_carried ?c_carried ?k_carried ?a_is_place ?l_is_place ?c_is_place ?k_is_place ?a_is_stand ?l_is_stand ?c_is_stand ?k_is_stand ?a__law_drawn_yard ?l__law_drawn_yard ?c__law_drawn_yard ?k__law_drawn_yard ?a__law_some_moves ?l__law_some_moves ?c__law_some_moves ?k__law_some_moves ?a_as_tie ?l_as_tie ?c_as_tie ?k_as_tie ?a_is_ring ?l_is_ring ?c_is_ring ?k_is_ring ?a_stand_told ?l_stand_told ?c_stand_told ?k_stand_told ?a__law_some_yard ?l__law_some_yard ?c__law_some_yard ?k__law_some_yard ?a_as_move ?l_as_move ?c_as_move ?k_as_move ?a_rings_told ?l_rings_told ?c_rings_told ?k_rings_told ?a_ties_told ?l_ties_told ?c_ties_told ?k_ties_told ?a_Yard_init ?i_Yard_init ?l_Yard_init ?c_Yard_init ?k_Yard_init ?a__law_listed ?l__law_listed ?c__law_listed ?k__law_listed ?a_carried_all ?l_carried_all ?c_carried_all ?k_carried_all ?a_taken_back ?l_taken_back ?c_taken_back ?k_taken_back ?a_played ?l_played ?c_played ?k_played ?a__law_made_yard ?l__law_made_yard ?c__law_made_yard ?k__law_made_yard ?a_law ?l_law ?c_law ?k_law
    (case aC_Yard => k_is)
    (case pg_Yard => k_is)
    (case hd_Yard => k_is)
    (case po_Yard => k_is)
    (case sa_Yard => k_is)
    (case mk_Yard => k_is)
    (case kc_Yard => k_is)
    (case n_Yard_places => k_is)
    (case n_Yard_rings => k_is)
    (case n_Yard_ties => k_is)
    (case z_all => k_is)
    (case z_any => k_is)
    (case z_bool => k_is)
    (case z_dict => k_is)
    (case z_enumerate => k_is)
    (case z_int => k_is)
    (case z_isinstance => k_is)
    (case z_len => k_is)
    (case z_list => k_is)
    (case z_min => k_is)
    (case z_range => k_is)
    (case z_set => k_is)
    (case z_sorted => k_is)
    (case z_str => k_is)
    (case z_tuple => k_is)
    (case z_zip => k_is)
    (case a__law_all_moves => k_is)
    (case l__law_all_moves => k_is)
    (case c__law_all_moves => k_is)
    (case k__law_all_moves => k_is)
    (case a__law_back => k_is)
    (case l__law_back => k_is)
    (case c__law_back => k_is)
    (case k__law_back => k_is)
    (case a__law_draw => k_is)
    (case l__law_draw => k_is)
    (case c__law_draw => k_is)
    (case k__law_draw => k_is)
    (case a__law_moved => k_is)
    (case l__law_moved => k_is)
    (case c__law_moved => k_is)
    (case k__law_moved => k_is)
    (case a__law_moves => k_is)
    (case l__law_moves => k_is)
    (case c__law_moves => k_is)
    (case k__law_moves => k_is)
    (case a__law_pen => k_is)
    (case l__law_pen => k_is)
    (case c__law_pen => k_is)
    (case k__law_pen => k_is)
    (case a__law_without => k_is)
    (case l__law_without => k_is)
    (case c__law_without => k_is)
    (case k__law_without => k_is)
    (case a_filled => k_is)
    (case l_filled => k_is)
    (case c_filled => k_is)
    (case k_filled => k_is)
    (case a_is_row => k_is)
    (case l_is_row => k_is)
    (case c_is_row => k_is)
    (case k_is_row => k_is)
    (case a_is_whole => k_is)
    (case l_is_whole => k_is)
    (case c_is_whole => k_is)
    (case k_is_whole => k_is)
    (case a_turn_of => k_is)
    (case l_turn_of => k_is)
    (case c_turn_of => k_is)
    (case k_turn_of => k_is)
    (case a__law_drawn_ring => k_is)
    (case l__law_drawn_ring => k_is)
    (case c__law_drawn_ring => k_is)
    (case k__law_drawn_ring => k_is)
    (case a__law_drawn_stand => k_is)
    (case l__law_drawn_stand => k_is)
    (case c__law_drawn_stand => k_is)
    (case k__law_drawn_stand => k_is)
    (case a__law_pick => k_is)
    (case l__law_pick => k_is)
    (case c__law_pick => k_is)
    (case k__law_pick => k_is)
    (case a__law_shuffled => k_is)
    (case l__law_shuffled => k_is)
    (case c__law_shuffled => k_is)
    (case k__law_shuffled => k_is)
    (case a_carried => k_is)
    (case l_carried => k_is)
    (case c_carried => k_is)
    (case k_carried => k_is)
    (case a_is_place => k_is)
    (case l_is_place => k_is)
    (case c_is_place => k_is)
    (case k_is_place => k_is)
    (case a_is_stand => k_is)
    (case l_is_stand => k_is)
    (case c_is_stand => k_is)
    (case k_is_stand => k_is)
    (case a__law_drawn_yard => k_is)
    (case l__law_drawn_yard => k_is)
    (case c__law_drawn_yard => k_is)
    (case k__law_drawn_yard => k_is)
    (case a__law_some_moves => k_is)
    (case l__law_some_moves => k_is)
    (case c__law_some_moves => k_is)
    (case k__law_some_moves => k_is)
    (case a_as_tie => k_is)
    (case l_as_tie => k_is)
    (case c_as_tie => k_is)
    (case k_as_tie => k_is)
    (case a_is_ring => k_is)
    (case l_is_ring => k_is)
    (case c_is_ring => k_is)
    (case k_is_ring => k_is)
    (case a_stand_told => k_is)
    (case l_stand_told => k_is)
    (case c_stand_told => k_is)
    (case k_stand_told => k_is)
    (case a__law_some_yard => k_is)
    (case l__law_some_yard => k_is)
    (case c__law_some_yard => k_is)
    (case k__law_some_yard => k_is)
    (case a_as_move => k_is)
    (case l_as_move => k_is)
    (case c_as_move => k_is)
    (case k_as_move => k_is)
    (case a_rings_told => k_is)
    (case l_rings_told => k_is)
    (case c_rings_told => k_is)
    (case k_rings_told => k_is)
    (case a_ties_told => k_is)
    (case l_ties_told => k_is)
    (case c_ties_told => k_is)
    (case k_ties_told => k_is)
    (case a_Yard_init => k_is)
    (case i_Yard_init => k_is)
    (case l_Yard_init => k_is)
    (case c_Yard_init => k_is)
    (case k_Yard_init => k_is)
    (case a__law_listed => k_is)
    (case l__law_listed => k_is)
    (case c__law_listed => k_is)
    (case k__law_listed => k_is)
    (case a_carried_all => k_is)
    (case l_carried_all => k_is)
    (case c_carried_all => k_is)
    (case k_carried_all => k_is)
    (case a_taken_back => k_is)
    (case l_taken_back => k_is)
    (case c_taken_back => k_is)
    (case k_taken_back => k_is)
    (case a_played => k_is)
    (case l_played => k_is)
    (case c_played => k_is)
    (case k_played => k_is)
    (case a__law_made_yard => k_is)
    (case l__law_made_yard => k_is)
    (case c__law_made_yard => k_is)
    (case k__law_made_yard => k_is)
    (case a_law => k_is)
    (case l_law => k_is)
    (case c_law => k_is)
    (case k_law => k_is)

